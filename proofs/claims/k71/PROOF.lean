import PyProof.Rows.All
import Wide.All
import OpenK.AllK
import Wide.FinOn
import HandS.ForMost
import HandS.ForExc
import HandS.Walk
import HandS.Evl
import HandS.IsInst
import HandS.Wide
import HandS.Codes
import HandS.TupAny
import PyProof.Draws
import PyProof.EnumMake
import HandS.Rev
import HandS.RevRange
import PyProof.Rows.StrStep
import HandS.Conv
import HandS.SortInts
import HandS.Style
import PySem.Challenge.RW_tightwood_k71_sums
set_option Elab.async false
set_option linter.all false
set_option maxRecDepth 100000
set_option maxHeartbeats 4000000
/-! G0: mirrors in a small monad R, the state of a body by slots (frozen or owned), the judgements GX (expressions), GT (tests), GA (arguments), GS (blocks) over HandS. -/
namespace G
open PySem L2
abbrev Ex := Evl.Ex

/-! ### mirrors -/
inductive Xn where
  | plain (c : Nat)
  | at (c : Nat) (p : Option Int)
inductive R (α : Type) where
  | bad
  | err (x : Xn)
  | ok (a : α)
def R.bind {α β : Type} (m : R α) (f : α → R β) : R β := match m with
  | .bad => .bad
  | .err x => .err x
  | .ok a => f a
theorem R.bind_ok {α β : Type} (a : α) (f : α → R β) : R.bind (.ok a) f = f a := rfl
theorem R.bind_err {α β : Type} (x : Xn) (f : α → R β) : R.bind (.err x) f = .err x := rfl
theorem R.bind_bad {α β : Type} (f : α → R β) : R.bind .bad f = .bad := rfl
theorem R.bind_nb {α β : Type} {m : R α} {f : α → R β} (h : R.bind m f ≠ .bad) : m ≠ .bad := by
  intro e; rw [e] at h; exact h rfl
/-- the ways out of a block: behind it, break, continue, return -/
inductive Fw (β γ ρ : Type) where
  | nx (b : β)
  | bk (g : γ)
  | ct (g : γ)
  | rt (r : ρ)
def Fw.seq {β β' γ ρ : Type} (f : β' → R (Fw β γ ρ)) : Fw β' γ ρ → R (Fw β γ ρ)
  | .nx b => f b
  | .bk g => .ok (.bk g)
  | .ct g => .ok (.ct g)
  | .rt r => .ok (.rt r)

/-! ### representations -/
structure Cc where
  K : PySem.W.Frag
  cl : Nat → Addr
class Py (α : Type) where
  rep : Cc → α → Hp → V → Prop
  mono : ∀ {κ : Cc} {x : α} {H H' : Hp} {v : V}, Ex H H' → rep κ x H v → rep κ x H' v
class Flat (α : Type) [Py α] : Prop where
  flat : ∀ {κ : Cc} {x : α} {H H' : Hp} {v : V}, Py.rep κ x H v → Py.rep κ x H' v
abbrev Tx := List Nat
def tx (x : Tx) : Str := ⟨x.toArray⟩
instance instInt : Py Int := ⟨fun _ i _ v => v = .int i, fun _ h => h⟩
instance : Flat Int := ⟨fun h => h⟩
instance instBool : Py Bool := ⟨fun _ i _ v => v = .bl i, fun _ h => h⟩
instance : Flat Bool := ⟨fun h => h⟩
/-- a text that can be: not too long, of signs -/
def TxOk (x : Tx) : Prop := x.length ≤ sizeLine ∧ ∀ c ∈ x, c < 1114112
instance instTx : Py Tx := ⟨fun _ x _ v => v = .str (tx x) ∧ TxOk x, fun _ h => h⟩
instance : Flat Tx := ⟨fun h => h⟩
instance instUnit : Py Unit := ⟨fun _ _ _ v => v = .non, fun _ h => h⟩
instance : Flat Unit := ⟨fun h => h⟩
instance instEmpty : Py Empty := ⟨fun _ _ _ _ => False, fun _ h => h⟩
instance instOpt {α : Type} [Py α] : Py (Option α) := ⟨fun κ x H v => match x with | none => v = .non | some y => Py.rep κ y H v, fun {κ x H H' v} e h => by
  cases x with
  | none => exact h
  | some y => exact Py.mono e h⟩
instance {α : Type} [Py α] [Flat α] : Flat (Option α) := ⟨fun {κ x H H' v} h => by
  cases x with
  | none => exact h
  | some y => exact Flat.flat (α := α) h⟩
theorem paired_mono {α : Type} {F G : α → V → Prop} (h : ∀ x v, F x v → G x v) : ∀ {xs : List α} {vs : List V}, Paired F xs vs → Paired G xs vs
  | _, _, .nil => .nil
  | _, _, .cons a b => .cons (h _ _ a) (paired_mono h b)
/-- items one by one -/
abbrev Its {α : Type} [Py α] (κ : Cc) (xs : List α) (H : Hp) (vs : List V) : Prop := Paired (fun x v => Py.rep κ x H v) xs vs
theorem Its.mono {α : Type} [Py α] {κ : Cc} {xs : List α} {H H' : Hp} {vs : List V} (e : Ex H H') (h : Its κ xs H vs) : Its κ xs H' vs := paired_mono (fun _ _ q => Py.mono e q) h
instance instList {α : Type} [Py α] : Py (List α) := ⟨fun κ xs H v => ∃ a vs, v = .ref a ∧ H a = some (.lst vs) ∧ Its κ xs H vs, fun e ⟨a, vs, h1, h2, h3⟩ => ⟨a, vs, h1, e _ _ h2, Its.mono e h3⟩⟩
/-- the law's own script -/
structure Scr where
  l : List Int
instance instScr : Py Scr := ⟨fun κ xs H v => ∃ a, v = .ref a ∧ SqL κ.K H a (xs.l.map V.int), fun e ⟨a, h1, h2⟩ => ⟨a, h1, Evl.ex_l e h2⟩⟩
/-- a tuple of any length, a pair, a triple -/
structure Tp (α : Type) where
  l : List α
  deriving DecidableEq
structure T2 (α β : Type) where
  a : α
  b : β
  deriving DecidableEq
structure T3 (α β γ : Type) where
  a : α
  b : β
  c : γ
  deriving DecidableEq
instance instTp {α : Type} [Py α] : Py (Tp α) := ⟨fun κ xs H v => ∃ a vs, v = .ref a ∧ SqT κ.K H a vs ∧ Its κ xs.l H vs, fun e ⟨a, vs, h1, h2, h3⟩ => ⟨a, vs, h1, Evl.ex_t e h2, Its.mono e h3⟩⟩
instance instT2 {α β : Type} [Py α] [Py β] : Py (T2 α β) := ⟨fun κ x H v => ∃ a v1 v2, v = .ref a ∧ SqT κ.K H a [v1, v2] ∧ Py.rep κ x.a H v1 ∧ Py.rep κ x.b H v2,
  fun e ⟨a, v1, v2, h1, h2, h3, h4⟩ => ⟨a, v1, v2, h1, Evl.ex_t e h2, Py.mono e h3, Py.mono e h4⟩⟩
instance instT3 {α β γ : Type} [Py α] [Py β] [Py γ] : Py (T3 α β γ) := ⟨fun κ x H v => ∃ a v1 v2 v3, v = .ref a ∧ SqT κ.K H a [v1, v2, v3] ∧ Py.rep κ x.a H v1 ∧ Py.rep κ x.b H v2 ∧ Py.rep κ x.c H v3,
  fun e ⟨a, v1, v2, v3, h1, h2, h3, h4, h5⟩ => ⟨a, v1, v2, v3, h1, Evl.ex_t e h2, Py.mono e h3, Py.mono e h4, Py.mono e h5⟩⟩
class PyA (A : Type) where
  reps : Cc → A → Hp → List V → Prop
  mono : ∀ {κ : Cc} {x : A} {H H' : Hp} {v : List V}, Ex H H' → reps κ x H v → reps κ x H' v
  many : Nat
  len : ∀ {κ : Cc} {x : A} {H : Hp} {v : List V}, reps κ x H v → v.length = many
instance instANil : PyA Unit := ⟨fun _ _ _ vs => vs = [], fun _ h => h, 0, fun h => by rw [h]; rfl⟩
instance instACons {α A : Type} [Py α] [PyA A] : PyA (α × A) := ⟨fun κ x H vs => ∃ v r, vs = v :: r ∧ Py.rep κ x.1 H v ∧ PyA.reps κ x.2 H r,
  fun e ⟨v, r, h1, h2, h3⟩ => ⟨v, r, h1, Py.mono e h2, PyA.mono e h3⟩, PyA.many A + 1, fun ⟨v, r, h1, _, h3⟩ => by rw [h1, List.length_cons, PyA.len h3]⟩

/-! ### the state of a body -/
structure RP where
  p : Hp → V → Prop
  mono : ∀ {H H' : Hp} {v : V}, Ex H H' → p H v → p H' v
structure RO where
  p : Addr → Hp → HO → Prop
  mono : ∀ {a : Addr} {H H' : Hp} {o : HO}, Ex H H' → p a H o → p a H' o
/-- a slot holds a frozen value, or an object that is the body's own -/
inductive Ce where
  | fz (r : RP)
  | ow (r : RO)
  | gh (r : RO)
def Ce.isO : Ce → Bool
  | .fz _ => false
  | _ => true
abbrev Env1 := List (Nat × Ce)
def lk : Env1 → Nat → Option Ce
  | [], _ => none
  | (j, c) :: r, i => bif Nat.beq i j then some c else lk r i
structure Fx where
  κ : Cc
  H0 : Hp
  F0 : Hp
  n : Nat
def rp {α : Type} [Py α] (φ : Fx) (x : α) : RP := ⟨fun H v => Py.rep φ.κ x H v, fun e h => Py.mono e h⟩
/-- a list of one's own -/
def ol {α : Type} [Py α] (φ : Fx) (xs : List α) : RO := ⟨fun _ H o => ∃ vs, o = .lst vs ∧ Its φ.κ xs H vs, fun e ⟨vs, h1, h2⟩ => ⟨vs, h1, Its.mono e h2⟩⟩
abbrev vz {α : Type} [Py α] (φ : Fx) (x : α) : Ce := .fz (rp φ x)
abbrev vo {α : Type} [Py α] (φ : Fx) (xs : List α) : Ce := .ow (ol φ xs)
def Ce.holds (φ : Fx) (σ : L2.St) (Hf : Hp) (ad : Nat → Addr) (H : Hp) (i : Nat) : Ce → Prop
  | .fz r => ∃ v, σ[i]? = some (some v) ∧ r.p Hf v
  | .ow r => σ[i]? = some (some (.ref (ad i))) ∧ Hf (ad i) = none ∧ φ.H0 (ad i) = none ∧ ∃ o, H (ad i) = some o ∧ r.p (ad i) Hf o
  | .gh r => Hf (ad i) = none ∧ φ.H0 (ad i) = none ∧ ∃ o, H (ad i) = some o ∧ r.p (ad i) Hf o
theorem Ce.own {φ : Fx} {σ : L2.St} {Hf : Hp} {ad : Nat → Addr} {H : Hp} {i : Nat} {c : Ce} (h : c.holds φ σ Hf ad H i) (o : c.isO = true) : Hf (ad i) = none ∧ φ.H0 (ad i) = none ∧ ∃ u, H (ad i) = some u := by
  cases c with
  | fz r => cases o
  | ow r => obtain ⟨_, h2, h3, u, h4, _⟩ := h; exact ⟨h2, h3, u, h4⟩
  | gh r => obtain ⟨h2, h3, u, h4, _⟩ := h; exact ⟨h2, h3, u, h4⟩
structure At (φ : Fx) (E : Env1) (σ : L2.St) (Hf : Hp) (ad : Nat → Addr) (H : Hp) : Prop where
  e0 : Ex φ.H0 H
  f0 : Ex φ.F0 Hf
  ef : Ex Hf H
  nw : ∀ b, φ.F0 b = none → Hf b ≠ none → φ.H0 b = none
  sl : ∀ i c, lk E i = some c → c.holds φ σ Hf ad H i
  ds : ∀ i j c d, lk E i = some c → lk E j = some d → c.isO = true → d.isO = true → i ≠ j → ad i ≠ ad j
  ln : σ.length = φ.n
section
variable {φ : Fx} {E E' : Env1} {σ : L2.St} {Hf Hf' : Hp} {ad : Nat → Addr} {H H' : Hp} {p : Addr} {o : HO}
/-- an address that is none of the owned -/
def Off (φ : Fx) (E : Env1) (ad : Nat → Addr) (p : Addr) : Prop := φ.H0 p = none ∧ ∀ i c, lk E i = some c → c.isO = true → ad i ≠ p
theorem At.off (A : At φ E σ Hf ad H) (h : H p = none) : Off φ E ad p := by
  refine ⟨Evl.fresh_back A.e0 h, fun i c e w z => ?_⟩
  obtain ⟨_, _, o, ho⟩ := Ce.own (A.sl i _ e) w
  rw [z, h] at ho
  cases ho
theorem holds_up {c : Ce} {i : Nat} (h : c.holds φ σ Hf ad H i) (e : Ex Hf Hf') (hH : ∀ o, H (ad i) = some o → H' (ad i) = some o) (hn : c.isO = true → Hf' (ad i) = none) : c.holds φ σ Hf' ad H' i := by
  cases c with
  | fz r => obtain ⟨v, h1, h2⟩ := h; exact ⟨v, h1, r.mono e h2⟩
  | ow r => obtain ⟨h1, _, h3, o, h4, h5⟩ := h; exact ⟨h1, hn rfl, h3, o, hH o h4, r.mono e h5⟩
  | gh r => obtain ⟨_, h3, o, h4, h5⟩ := h; exact ⟨hn rfl, h3, o, hH o h4, r.mono e h5⟩
/-- the heap grows, nothing is frozen -/
theorem At.up (A : At φ E σ Hf ad H) (e : Ex H H') : At φ E σ Hf ad H' :=
  ⟨A.e0.trans e, A.f0, A.ef.trans e, A.nw, fun i c h => holds_up (A.sl i c h) (Evl.Ex.refl _) (fun o q => e _ o q) (fun w => (Ce.own (A.sl i c h) w).1), A.ds, A.ln⟩
/-- an object off the owned ones is frozen as it stands -/
theorem At.frz (A : At φ E σ Hf ad H) (hf : Hf p = none) (h : H p = some o) (hp : Off φ E ad p) : At φ E σ (upd Hf p o) ad H := by
  refine ⟨A.e0, A.f0.trans (Evl.Ex.new hf), fun a u q => ?_, fun b h1 h2 => ?_, fun i c e => holds_up (A.sl i c e) (Evl.Ex.new hf) (fun _ q => q) (fun w => ?_), A.ds, A.ln⟩
  · by_cases ha : a = p
    · subst ha; rw [upd_same] at q; rw [← q]; exact h
    · rw [upd_ne ha] at q; exact A.ef a u q
  · by_cases hb : b = p
    · subst hb; exact hp.1
    · rw [upd_ne hb] at h2; exact A.nw b h1 h2
  · rw [upd_ne (hp.2 i c e w)]
    exact (Ce.own (A.sl i c e) w).1
/-- a new object, frozen at once -/
theorem At.new (A : At φ E σ Hf ad H) (h : H p = none) : At φ E σ (upd Hf p o) ad (upd H p o) :=
  (A.up (Evl.Ex.new h)).frz (Evl.fresh_back A.ef h) upd_same (A.off h)
theorem upd_ef (A : At φ E σ Hf ad H) (h : H p = none) : Ex Hf (upd Hf p o) := Evl.Ex.new (Evl.fresh_back A.ef h)
/-- a slot is stored: a frozen value -/
theorem lk_cons_ne {i j : Nat} {c : Ce} (h : j ≠ i) : lk ((i, c) :: E) j = lk E j := by
  show (bif Nat.beq j i then some c else lk E j) = _
  have : Nat.beq j i = false := by
    cases q : Nat.beq j i with
    | false => rfl
    | true => exact absurd (Nat.eq_of_beq_eq_true q) h
  rw [this]; rfl
theorem lk_cons_eq {i : Nat} {c : Ce} : lk ((i, c) :: E) i = some c := by
  show (bif Nat.beq i i then some c else lk E i) = _
  have : Nat.beq i i = true := Nat.beq_refl i
  rw [this]; rfl
/-- a slot takes a frozen value -/
theorem At.set {i : Nat} {r : RP} {v : V} (A : At φ E σ Hf ad H) (hi : i < φ.n) (hv : r.p Hf v) : At φ ((i, .fz r) :: E) (σ.set i (some v)) Hf ad H := by
  refine ⟨A.e0, A.f0, A.ef, A.nw, fun j c e => ?_, fun j k c d e1 e2 o1 o2 hne => ?_, by rw [List.length_set]; exact A.ln⟩
  · by_cases hj : j = i
    · subst hj
      rw [lk_cons_eq] at e
      cases e
      exact ⟨v, by rw [List.getElem?_set_self (by rw [A.ln]; exact hi)], hv⟩
    · rw [lk_cons_ne hj] at e
      have h := A.sl j c e
      cases c with
      | fz r => obtain ⟨w, h1, h2⟩ := h; exact ⟨w, by rw [List.getElem?_set_ne (Ne.symm hj)]; exact h1, h2⟩
      | ow r => obtain ⟨h1, h2⟩ := h; exact ⟨by rw [List.getElem?_set_ne (Ne.symm hj)]; exact h1, h2⟩
      | gh r => exact h
  · have hj : j ≠ i := fun z => by subst z; rw [lk_cons_eq] at e1; cases e1; cases o1
    have hk : k ≠ i := fun z => by subst z; rw [lk_cons_eq] at e2; cases e2; cases o2
    rw [lk_cons_ne hj] at e1
    rw [lk_cons_ne hk] at e2
    exact A.ds j k c d e1 e2 o1 o2 hne
def adS (ad : Nat → Addr) (i : Nat) (p : Addr) : Nat → Addr := fun j => if j = i then p else ad j
theorem adS_eq {i : Nat} : adS ad i p i = p := if_pos rfl
theorem adS_ne {i j : Nat} (h : j ≠ i) : adS ad i p j = ad j := if_neg h
/-- a slot takes an object of one's own -/
theorem At.setO {i : Nat} {r : RO} (A : At φ E σ Hf ad H) (hi : i < φ.n) (hf : Hf p = none) (h : H p = some o) (hp : Off φ E ad p) (hr : r.p p Hf o) :
    At φ ((i, .ow r) :: E) (σ.set i (some (.ref p))) Hf (adS ad i p) H := by
  refine ⟨A.e0, A.f0, A.ef, A.nw, fun j c e => ?_, fun j k c d e1 e2 o1 o2 hne => ?_, by rw [List.length_set]; exact A.ln⟩
  · by_cases hj : j = i
    · subst hj
      rw [lk_cons_eq] at e
      cases e
      refine ⟨?_, ?_, ?_, o, ?_, by rw [adS_eq]; exact hr⟩
      · rw [List.getElem?_set_self (by rw [A.ln]; exact hi), adS_eq]
      · rw [adS_eq]; exact hf
      · rw [adS_eq]; exact hp.1
      · rw [adS_eq]; exact h
    · rw [lk_cons_ne hj] at e
      have h := A.sl j c e
      cases c with
      | fz r => obtain ⟨w, h1, h2⟩ := h; exact ⟨w, by rw [List.getElem?_set_ne (Ne.symm hj)]; exact h1, h2⟩
      | ow r =>
        obtain ⟨h1, h2, h3, h4⟩ := h
        show (σ.set i (some (.ref p)))[j]? = some (some (.ref (adS ad i p j))) ∧ Hf (adS ad i p j) = none ∧ φ.H0 (adS ad i p j) = none ∧ ∃ o, H (adS ad i p j) = some o ∧ r.p (adS ad i p j) Hf o
        rw [adS_ne hj]
        exact ⟨by rw [List.getElem?_set_ne (Ne.symm hj)]; exact h1, h2, h3, h4⟩
      | gh r =>
        show Hf (adS ad i p j) = none ∧ φ.H0 (adS ad i p j) = none ∧ ∃ o, H (adS ad i p j) = some o ∧ r.p (adS ad i p j) Hf o
        rw [adS_ne hj]
        exact h
  · by_cases hj : j = i
    · have hk : k ≠ i := fun z => hne (hj.trans z.symm)
      rw [lk_cons_ne hk] at e2
      rw [hj, adS_eq, adS_ne hk]
      exact fun z => hp.2 k d e2 o2 z.symm
    · rw [lk_cons_ne hj] at e1
      by_cases hk : k = i
      · rw [hk, adS_eq, adS_ne hj]
        exact hp.2 j c e1 o1
      · rw [lk_cons_ne hk] at e2
        rw [adS_ne hj, adS_ne hk]
        exact A.ds j k c d e1 e2 o1 o2 hne
/-- a ghost takes an object -/
theorem At.ghost {i : Nat} {r : RO} (A : At φ E σ Hf ad H) (hf : Hf p = none) (h : H p = some o) (hp : Off φ E ad p) (hr : r.p p Hf o) :
    At φ ((i, .gh r) :: E) σ Hf (adS ad i p) H := by
  refine ⟨A.e0, A.f0, A.ef, A.nw, fun j c e => ?_, fun j k c d e1 e2 o1 o2 hne => ?_, A.ln⟩
  · by_cases hj : j = i
    · subst hj
      rw [lk_cons_eq] at e
      cases e
      show Hf (adS ad j p j) = none ∧ φ.H0 (adS ad j p j) = none ∧ ∃ o, H (adS ad j p j) = some o ∧ r.p (adS ad j p j) Hf o
      rw [adS_eq]
      exact ⟨hf, hp.1, o, h, hr⟩
    · rw [lk_cons_ne hj] at e
      have h := A.sl j c e
      cases c with
      | fz r => exact h
      | ow r =>
        obtain ⟨h1, h2, h3, h4⟩ := h
        show σ[j]? = some (some (.ref (adS ad i p j))) ∧ Hf (adS ad i p j) = none ∧ φ.H0 (adS ad i p j) = none ∧ ∃ o, H (adS ad i p j) = some o ∧ r.p (adS ad i p j) Hf o
        rw [adS_ne hj]
        exact ⟨h1, h2, h3, h4⟩
      | gh r =>
        show Hf (adS ad i p j) = none ∧ φ.H0 (adS ad i p j) = none ∧ ∃ o, H (adS ad i p j) = some o ∧ r.p (adS ad i p j) Hf o
        rw [adS_ne hj]
        exact h
  · by_cases hj : j = i
    · have hk : k ≠ i := fun z => hne (hj.trans z.symm)
      rw [lk_cons_ne hk] at e2
      rw [hj, adS_eq, adS_ne hk]
      exact fun z => hp.2 k d e2 o2 z.symm
    · rw [lk_cons_ne hj] at e1
      by_cases hk : k = i
      · rw [hk, adS_eq, adS_ne hj]
        exact hp.2 j c e1 o1
      · rw [lk_cons_ne hk] at e2
        rw [adS_ne hj, adS_ne hk]
        exact A.ds j k c d e1 e2 o1 o2 hne
/-- an object of one's own changes -/
theorem At.wr {i : Nat} {r r' : RO} (A : At φ E σ Hf ad H) (e : lk E i = some (.ow r)) (hr : r'.p (ad i) Hf o) : At φ ((i, .ow r') :: E) σ Hf ad (upd H (ad i) o) := by
  obtain ⟨h1, h2, h3, o1, h4, h5⟩ := A.sl i _ e
  refine ⟨Evl.Ex.mut A.e0 h3, A.f0, Evl.Ex.mut A.ef h2, A.nw, fun j c q => ?_, fun j k c d e1 e2 o1' o2' hne => ?_, A.ln⟩
  · by_cases hj : j = i
    · subst hj
      rw [lk_cons_eq] at q
      cases q
      exact ⟨h1, h2, h3, o, upd_same, hr⟩
    · rw [lk_cons_ne hj] at q
      have g := A.sl j c q
      cases c with
      | fz r => exact g
      | ow r1 =>
        obtain ⟨g1, g2, g3, o2, g4, g5⟩ := g
        exact ⟨g1, g2, g3, o2, by rw [upd_ne (A.ds j i _ _ q e rfl rfl hj)]; exact g4, g5⟩
      | gh r1 =>
        obtain ⟨g2, g3, o2, g4, g5⟩ := g
        exact ⟨g2, g3, o2, by rw [upd_ne (A.ds j i _ _ q e rfl rfl hj)]; exact g4, g5⟩
  · have old : ∀ {j : Nat} {c : Ce}, lk ((i, .ow r') :: E) j = some c → c.isO = true → ∃ d, lk E j = some d ∧ d.isO = true := fun {j c} q w => by
      by_cases hj : j = i
      · subst hj; exact ⟨_, e, rfl⟩
      · rw [lk_cons_ne hj] at q; exact ⟨c, q, w⟩
    obtain ⟨c', e1', w1⟩ := old e1 o1'
    obtain ⟨d', e2', w2⟩ := old e2 o2'
    exact A.ds j k c' d' e1' e2' w1 w2 hne
/-- a ghost changes -/
theorem At.wrG {i : Nat} {r r' : RO} (A : At φ E σ Hf ad H) (e : lk E i = some (.gh r)) (hr : r'.p (ad i) Hf o) : At φ ((i, .gh r') :: E) σ Hf ad (upd H (ad i) o) := by
  obtain ⟨h2, h3, o1, h4, h5⟩ := A.sl i _ e
  refine ⟨Evl.Ex.mut A.e0 h3, A.f0, Evl.Ex.mut A.ef h2, A.nw, fun j c q => ?_, fun j k c d e1 e2 o1' o2' hne => ?_, A.ln⟩
  · by_cases hj : j = i
    · subst hj
      rw [lk_cons_eq] at q
      cases q
      exact ⟨h2, h3, o, upd_same, hr⟩
    · rw [lk_cons_ne hj] at q
      have g := A.sl j c q
      cases c with
      | fz r => exact g
      | ow r1 =>
        obtain ⟨g1, g2, g3, o2, g4, g5⟩ := g
        exact ⟨g1, g2, g3, o2, by rw [upd_ne (A.ds j i _ _ q e rfl rfl hj)]; exact g4, g5⟩
      | gh r1 =>
        obtain ⟨g2, g3, o2, g4, g5⟩ := g
        exact ⟨g2, g3, o2, by rw [upd_ne (A.ds j i _ _ q e rfl rfl hj)]; exact g4, g5⟩
  · have old : ∀ {j : Nat} {c : Ce}, lk ((i, .gh r') :: E) j = some c → c.isO = true → ∃ d, lk E j = some d ∧ d.isO = true := fun {j c} q w => by
      by_cases hj : j = i
      · subst hj; exact ⟨_, e, rfl⟩
      · rw [lk_cons_ne hj] at q; exact ⟨c, q, w⟩
    obtain ⟨c', e1', w1⟩ := old e1 o1'
    obtain ⟨d', e2', w2⟩ := old e2 o2'
    exact A.ds j k c' d' e1' e2' w1 w2 hne
/-- less is known -/
inductive Sub (E : Env1) : Env1 → Prop where
  | nil : Sub E []
  | cons {i : Nat} {c : Ce} {r : Env1} (h : lk E i = some c) (t : Sub E r) : Sub E ((i, c) :: r)
theorem Sub.lk (S : Sub E E') : ∀ {i : Nat} {c : Ce}, G.lk E' i = some c → G.lk E i = some c := by
  induction S with
  | nil => intro i c e; cases e
  | @cons i c r h t ih =>
    intro j d e
    by_cases hj : j = i
    · subst hj; rw [lk_cons_eq] at e; cases e; exact h
    · rw [lk_cons_ne hj] at e; exact ih e
theorem At.subF (A : At φ E σ Hf ad H) (S : ∀ i c, G.lk E' i = some c → G.lk E i = some c) : At φ E' σ Hf ad H :=
  ⟨A.e0, A.f0, A.ef, A.nw, fun i c e => A.sl i c (S i c e), fun i j c d e1 e2 => A.ds i j c d (S i c e1) (S j d e2), A.ln⟩
theorem At.sub (A : At φ E σ Hf ad H) (S : Sub E E') : At φ E' σ Hf ad H := A.subF fun _ _ e => S.lk e
/-- an object of one's own is frozen -/
theorem At.thaw {i : Nat} {r : RO} {q : RP} (A : At φ E σ Hf ad H) (e : lk E i = some (.ow r)) (S : Sub E E') (hE : ∀ c, lk E' i = some c → c.isO = false) (hq : ∀ Hf' v o, v = .ref (ad i) → Hf' (ad i) = some o → r.p (ad i) Hf' o → q.p Hf' v) :
    ∃ Hf', At φ ((i, .fz q) :: E') σ Hf' ad H ∧ Ex Hf Hf' := by
  obtain ⟨h1, h2, h3, o, h4, h5⟩ := A.sl i _ e
  have A' := A.sub S
  have off : Off φ E' ad (ad i) := ⟨h3, fun j c q1 w z => by
    by_cases hj : j = i
    · subst hj; have := hE c q1; rw [w] at this; cases this
    · exact A.ds j i _ _ (S.lk q1) e w rfl hj z⟩
  have B := A'.frz h2 h4 off
  have ee : Ex Hf (upd Hf (ad i) o) := Evl.Ex.new h2
  refine ⟨upd Hf (ad i) o, ⟨B.e0, B.f0, B.ef, B.nw, fun j c q1 => ?_, fun j k c d q1 q2 o1 o2 => ?_, B.ln⟩, ee⟩
  · by_cases hj : j = i
    · subst hj
      rw [lk_cons_eq] at q1
      cases q1
      exact ⟨_, h1, hq _ _ o rfl upd_same (r.mono ee h5)⟩
    · rw [lk_cons_ne hj] at q1; exact B.sl j c q1
  · have hj : j ≠ i := fun z => by subst z; rw [lk_cons_eq] at q1; cases q1; cases o1
    have hk : k ≠ i := fun z => by subst z; rw [lk_cons_eq] at q2; cases q2; cases o2
    rw [lk_cons_ne hj] at q1
    rw [lk_cons_ne hk] at q2
    exact B.ds j k c d q1 q2 o1 o2
end

/-- the slots of the parameters -/
class PyE (A : Type) [PyA A] where
  env : Fx → Nat → A → Env1
  ok : ∀ {φ : Fx} {x : A} {H : Hp} {vs : List V} {o : Nat}, PyA.reps φ.κ x H vs → ∀ i c, lk (env φ o x) i = some c → c.isO = false ∧ o ≤ i ∧ ∃ v, vs[i - o]? = some v ∧ ∀ r, c = .fz r → r.p H v
instance instENil : PyE Unit := ⟨fun _ _ _ => [], fun _ _ _ e => nomatch e⟩
instance instECons {α A : Type} [Py α] [PyA A] [PyE A] : PyE (α × A) := ⟨fun φ o x => (o, vz φ x.1) :: PyE.env φ (o + 1) x.2, fun {φ x H vs o} ⟨v, r, h1, h2, h3⟩ i c e => by
  subst h1
  by_cases hi : i = o
  · subst hi
    rw [lk_cons_eq] at e
    cases e
    exact ⟨rfl, Nat.le_refl _, v, by simp, fun r q => by cases q; exact h2⟩
  · rw [lk_cons_ne hi] at e
    obtain ⟨q1, q2, u, q3, q4⟩ := PyE.ok h3 i c e
    refine ⟨q1, by omega, u, ?_, q4⟩
    have : i - o = (i - (o + 1)) + 1 := by omega
    rw [this, List.getElem?_cons_succ]
    exact q3⟩
theorem At.start {A : Type} [PyA A] [PyE A] {κ : Cc} {x : A} {H Hf : Hp} {vs : List V} {N : List Str} (hl : vs.length ≤ N.length) (ef : Ex Hf H) (h : PyA.reps κ x Hf vs) :
    At ⟨κ, H, Hf, N.length⟩ (PyE.env ⟨κ, H, Hf, N.length⟩ 0 x) (L2.start N vs) Hf (fun _ => 0) H := by
  refine ⟨Evl.Ex.refl _, Evl.Ex.refl _, ef, fun b h1 h2 => absurd h1 h2, fun i c e => ?_, fun i j c d e1 e2 o1 => ?_, ?_⟩
  · obtain ⟨q1, _, v, q3, q4⟩ := PyE.ok (φ := ⟨κ, H, Hf, N.length⟩) h i c e
    cases c with
    | fz r =>
      refine ⟨v, ?_, q4 r rfl⟩
      unfold L2.start
      have hi : i < vs.length := by
        have := (List.getElem?_eq_some_iff.mp q3).1
        omega
      rw [List.getElem?_append_left (by rw [List.length_map]; exact hi), List.getElem?_map]
      rw [Nat.sub_zero] at q3
      rw [q3]
      rfl
    | ow r => cases q1
    | gh r => cases q1
  · have := (PyE.ok (φ := ⟨κ, H, Hf, N.length⟩) h i c e1).1
    rw [o1] at this
    cases this
  · unfold L2.start
    rw [List.length_append, List.length_map, List.length_replicate]
    show _ = N.length
    omega

/-! ### what is run -/
def wpE (X : Cx) (e : Expr) : TE := fun σ H Q => ∀ (pins : List (Addr × Obj)) (s : Shared), Inv X pins σ H s → wpAny (model X.prog X.w) X.A (eval e X.env) (EP X pins σ Q) X.xe s
def wpT (X : Cx) (e : Expr) : TT := fun σ H Q => ∀ (pins : List (Addr × Obj)) (s : Shared), Inv X pins σ H s → wpAny (model X.prog X.w) X.A (isTrue e X.env (eval e X.env)) (TP X pins σ Q) X.xe s
def wpW (X : Cx) (e : Expr) : TT := fun σ H Q => ∀ (whole : Sem Value) (pins : List (Addr × Obj)) (s : Shared), Inv X pins σ H s → wpAny (model X.prog X.w) X.A (isTrue e X.env whole) (TP X pins σ Q) X.xe s
def wpA (X : Cx) (es : List Expr) : TA := fun σ H Q => ∀ (pos : Pos) (pins : List (Addr × Obj)) (s : Shared), Inv X pins σ H s → wpAny (model X.prog X.w) X.A (spliced (backTo pos (starEach es X.env))) (AP X pins σ Q) X.xe s
def wpS (X : Cx) (st : Stmt) : TS := fun D σ H => ∀ (pins : List (Addr × Obj)) (s : Shared), Inv X pins σ H s → wpAny (model X.prog X.w) X.A (exec st X.env) (SP X pins D) X.xe s
def wpSs (X : Cx) (sts : List Stmt) : TS := fun D σ H => ∀ (pins : List (Addr × Obj)) (s : Shared), Inv X pins σ H s → wpAny (model X.prog X.w) X.A (execs sts X.env) (SP X pins D) X.xe s
section
variable {X : Cx} {e : Expr} {es : List Expr} {st : Stmt} {sts : List Stmt}
theorem peS : PE X e (wpE X e) := ⟨fun pins s _ _ _ I h => h pins s I⟩
theorem ptS : PT X e (wpT X e) := ⟨fun pins s _ _ _ I h => h pins s I⟩
theorem pwS : PW X e (wpW X e) := ⟨fun wh pins s _ _ _ I h => h wh pins s I⟩
theorem paS : PA X es (wpA X es) := ⟨fun pos pins s _ _ _ I h => h pos pins s I⟩
theorem psS : PS X st (wpS X st) := ⟨fun pins s _ _ _ I h => h pins s I⟩
theorem pssS : PSs X sts (wpSs X sts) := ⟨fun pins s _ _ _ I h => h pins s I⟩
variable {σ : L2.St} {H : Hp}
theorem wpE_of {t : TE} {Q : VK} (p : PE X e t) (h : t σ H Q) : wpE X e σ H Q := fun pins s I => p.run pins s σ H Q I h
theorem wpT_of {t : TT} {Q : Bool → Hp → Prop} (p : PT X e t) (h : t σ H Q) : wpT X e σ H Q := fun pins s I => p.run pins s σ H Q I h
theorem wpW_of {t : TT} {Q : Bool → Hp → Prop} (p : PW X e t) (h : t σ H Q) : wpW X e σ H Q := fun wh pins s I => p.run wh pins s σ H Q I h
theorem wpA_of {t : TA} {Q : List V → Hp → Prop} (p : PA X es t) (h : t σ H Q) : wpA X es σ H Q := fun pos pins s I => p.run pos pins s σ H Q I h
theorem wpS_of {t : TS} {D : Ends} (p : PS X st t) (h : t D σ H) : wpS X st D σ H := fun pins s I => p.run pins s σ H D I h
theorem wpSs_of {t : TS} {D : Ends} (p : PSs X sts t) (h : t D σ H) : wpSs X sts D σ H := fun pins s I => p.run pins s σ H D I h
end

/-! ### the judgements -/
/-- an exception as the mirror tells it -/
def XR (κ : Cc) : Xn → Value → Option Addr → Hp → Prop
  | .plain c, cls, d, _ => cls = .ref (κ.cl c) ∧ d = none
  | .at c p, cls, d, H => cls = .ref (κ.cl c) ∧ ∃ a, d = some a ∧ H a = some (.xd [("place", match p with | none => .non | some i => .int i)])
/-- the wish about an exception, from the entry on -/
def EW (φ : Fx) (EX : XK) (x : Xn) : Prop := ∀ (cls : Value) (d : Option Addr) (H' : Hp), Ex φ.H0 H' → XR φ.κ x cls d H' → EX cls d H'
structure Lv (X : Cx) (EX : XK) (φ : Fx) (k : Nat) : Prop where
  room : Room k X.A
  ps : Passes (L2.CX X.prog X.w) X EX
  tk : Takes X (fun cls d _ H => EX cls d H)
  calm : X.calm = true
  nd : X.N.Nodup
  kK : φ.κ.K = X.K
  n : φ.n = X.N.length
  own : PassesOwn (model X.prog X.w) X.A X.env X.xe
/-- what a value is like: the mirror's value, the frozen heap, the heap -/
abbrev RR (α : Type) := α → Hp → Hp → V → Prop
def RR.Up {α : Type} (ρ : RR α) : Prop := ∀ x Hf H v Hf' H', Ex Hf Hf' → Ex H H' → ρ x Hf H v → ρ x Hf' H' v
abbrev zr {α : Type} [Py α] (φ : Fx) : RR α := fun x Hf _ v => Py.rep φ.κ x Hf v
theorem zr_up {α : Type} [Py α] {φ : Fx} : RR.Up (zr (α := α) φ) := fun _ _ _ _ _ _ e _ h => Py.mono e h
/-- a list that may be read -/
abbrev lr {α : Type} [Py α] (φ : Fx) : RR (List α) := fun xs Hf H v => ∃ a vs, v = .ref a ∧ SqL φ.κ.K H a vs ∧ Its φ.κ xs Hf vs
theorem lr_up {α : Type} [Py α] {φ : Fx} : RR.Up (lr (α := α) φ) := fun _ _ _ _ _ _ e e' ⟨a, vs, h1, h2, h3⟩ => ⟨a, vs, h1, Evl.ex_l e' h2, Its.mono e h3⟩

/-- a list that stands by itself -/
abbrev lw {α : Type} [Py α] (φ : Fx) : RR (List α) := fun xs Hf H v => ∃ a vs, v = .ref a ∧ H a = some (.lst vs) ∧ Its φ.κ xs Hf vs
theorem lw_up {α : Type} [Py α] {φ : Fx} : RR.Up (lw (α := α) φ) := fun _ _ _ _ _ _ e e' ⟨a, vs, h1, h2, h3⟩ => ⟨a, vs, h1, e' _ _ h2, Its.mono e h3⟩
theorem lw_lr {α : Type} [Py α] {φ : Fx} {xs : List α} {Hf H : Hp} {v : V} : lw φ xs Hf H v → lr φ xs Hf H v := fun ⟨a, vs, h1, h2, h3⟩ => ⟨a, vs, h1, .inl (.inl h2), h3⟩
theorem its_int {κ : Cc} {H : Hp} : ∀ {xs : List Int}, Its κ xs H (xs.map V.int)
  | [] => .nil
  | _ :: _ => .cons rfl its_int
theorem its_ints {κ : Cc} {H : Hp} : ∀ {xs : List Int} {vs : List V}, Its κ xs H vs → vs = xs.map V.int
  | _, _, .nil => rfl
  | _, _, .cons h t => by rw [List.map_cons, its_ints t]; rw [show _ = V.int _ from h]
section
variable (X : Cx) (EX : XK) (φ : Fx)
def GX (e : Expr) (E : Env1) {α : Type} (m : R α) (ρ : RR α) : Prop := ∀ (σ : L2.St) (Hf : Hp) (ad : Nat → Addr) (H : Hp), At φ E σ Hf ad H → m ≠ .bad → ∀ Q : VK,
  (∀ x, m = .ok x → ∀ v Hf' H', At φ E σ Hf' ad H' → Ex Hf Hf' → Ex H H' → ρ x Hf' H' v → Q v H') → (∀ x, m = .err x → EW φ EX x) → wpE X e σ H Q
/-- a new list -/
def GN (e : Expr) (E : Env1) {α : Type} [Py α] (m : R (List α)) : Prop := ∀ (σ : L2.St) (Hf : Hp) (ad : Nat → Addr) (H : Hp), At φ E σ Hf ad H → m ≠ .bad → ∀ Q : VK,
  (∀ x, m = .ok x → ∀ p vs Hf' H', At φ E σ Hf' ad H' → Ex Hf Hf' → Ex H H' → Hf' p = none → Off φ E ad p → H' p = some (.lst vs) → Its φ.κ x Hf' vs → Q (.ref p) H') → (∀ x, m = .err x → EW φ EX x) → wpE X e σ H Q
def GT (e : Expr) (E : Env1) (m : R Bool) : Prop := ∀ (σ : L2.St) (Hf : Hp) (ad : Nat → Addr) (H : Hp), At φ E σ Hf ad H → m ≠ .bad → ∀ Q : Bool → Hp → Prop,
  (∀ x, m = .ok x → ∀ Hf' H', At φ E σ Hf' ad H' → Ex Hf Hf' → Ex H H' → Q x H') → (∀ x, m = .err x → EW φ EX x) → wpT X e σ H Q
def GW (e : Expr) (E : Env1) (m : R Bool) : Prop := ∀ (σ : L2.St) (Hf : Hp) (ad : Nat → Addr) (H : Hp), At φ E σ Hf ad H → m ≠ .bad → ∀ Q : Bool → Hp → Prop,
  (∀ x, m = .ok x → ∀ Hf' H', At φ E σ Hf' ad H' → Ex Hf Hf' → Ex H H' → Q x H') → (∀ x, m = .err x → EW φ EX x) → wpW X e σ H Q
/-- arguments, frozen; arguments that may be the body's own -/
def GA (es : List Expr) (E : Env1) {A : Type} [PyA A] (m : R A) : Prop := ∀ (σ : L2.St) (Hf : Hp) (ad : Nat → Addr) (H : Hp), At φ E σ Hf ad H → m ≠ .bad → ∀ Q : List V → Hp → Prop,
  (∀ x, m = .ok x → ∀ vs Hf' H', At φ E σ Hf' ad H' → Ex Hf Hf' → Ex H H' → PyA.reps φ.κ x Hf' vs → Q vs H') → (∀ x, m = .err x → EW φ EX x) → wpA X es σ H Q
def GO (es : List Expr) (E : Env1) {A : Type} [PyA A] (m : R A) : Prop := ∀ (σ : L2.St) (Hf : Hp) (ad : Nat → Addr) (H : Hp), At φ E σ Hf ad H → m ≠ .bad → ∀ Q : List V → Hp → Prop,
  (∀ x, m = .ok x → ∀ vs Hf' H', At φ E σ Hf' ad H' → Ex Hf Hf' → Ex H H' → PyA.reps φ.κ x H' vs → Q vs H') → (∀ x, m = .err x → EW φ EX x) → wpA X es σ H Q
/-- a block: En the state behind it, Ec at break and continue, Rt what is returned -/
def GS (sts : List Stmt) (E : Env1) {β γ ρ : Type} (m : R (Fw β γ ρ)) (En : β → Env1) (Ec : γ → Env1) (Rt : RR ρ) : Prop := ∀ (σ : L2.St) (Hf : Hp) (ad : Nat → Addr) (H : Hp), At φ E σ Hf ad H → m ≠ .bad → ∀ D : Ends,
  (∀ b, m = .ok (.nx b) → ∀ σ' Hf' ad' H', At φ (En b) σ' Hf' ad' H' → Ex Hf Hf' → D.nx σ' H') →
  (∀ b, m = .ok (.bk b) → ∀ σ' Hf' ad' H', At φ (Ec b) σ' Hf' ad' H' → Ex Hf Hf' → D.bk σ' H') →
  (∀ b, m = .ok (.ct b) → ∀ σ' Hf' ad' H', At φ (Ec b) σ' Hf' ad' H' → Ex Hf Hf' → D.ct σ' H') →
  (∀ b, m = .ok (.rt b) → ∀ v σ' Hf' ad' H', At φ [] σ' Hf' ad' H' → Ex Hf Hf' → Rt b Hf' H' v → D.rt v H') → (∀ x, m = .err x → EW φ EX x) → wpSs X sts D σ H
end
section
variable {X : Cx} {EX : XK} {φ : Fx} {E E' : Env1} {α β γ ρ α' β' : Type} {e a b : Expr} {pos : Pos}
theorem bind_cases {m : R α} {f : α → R β} {P : Prop} (hb : R.bind m f ≠ .bad) (h : m ≠ .bad → (∀ x, m = .ok x → f x ≠ .bad) → P) : P :=
  h (R.bind_nb hb) fun x e z => hb (by rw [e]; exact z)
theorem bind_err {m : R α} {f : α → R β} {P : Xn → Prop} (h : ∀ x, R.bind m f = .err x → P x) : (∀ x, m = .err x → P x) ∧ ∀ y, m = .ok y → ∀ x, f y = .err x → P x :=
  ⟨fun x e => h x (by rw [e]; rfl), fun y e x q => h x (by rw [e]; exact q)⟩
theorem EW.up {x : Xn} {σ : L2.St} {Hf : Hp} {ad : Nat → Addr} {H : Hp} (h : EW φ EX x) (A : At φ E σ Hf ad H) {cls : Value} {d : Option Addr} {H' : Hp} (e : Ex H H') (r : XR φ.κ x cls d H') : EX cls d H' := h cls d H' (A.e0.trans e) r
/-- weaker -/
theorem GX.imp {m : R α} {ρ1 ρ2 : RR α} (h : GX X EX φ e E m ρ1) (i : ∀ x Hf H v, ρ1 x Hf H v → ρ2 x Hf H v) : GX X EX φ e E m ρ2 := fun σ Hf ad H A nb Q q er =>
  h σ Hf ad H A nb Q (fun x ex v Hf' H' A' e1 e2 r => q x ex v Hf' H' A' e1 e2 (i x Hf' H' v r)) er
theorem GX.toL [Py α] {m : R (List α)} (h : GX X EX φ e E m (zr φ)) : GX X EX φ e E m (lr φ) := fun σ Hf ad H A nb Q q er =>
  h σ Hf ad H A nb Q (fun x ex v Hf' H' A' e1 e2 ⟨a, vs, h1, h2, h3⟩ => q x ex v Hf' H' A' e1 e2 ⟨a, vs, h1, .inl (.inl (A'.ef _ _ h2)), h3⟩) er
theorem GX.toW [Py α] {m : R (List α)} (h : GX X EX φ e E m (zr φ)) : GX X EX φ e E m (lw φ) := fun σ Hf ad H A nb Q q er =>
  h σ Hf ad H A nb Q (fun x ex v Hf' H' A' e1 e2 ⟨a, vs, h1, h2, h3⟩ => q x ex v Hf' H' A' e1 e2 ⟨a, vs, h1, A'.ef _ _ h2, h3⟩) er
/-- the script, read as a list -/
theorem GX.scr {m : R Scr} (h : GX X EX φ e E m (zr φ)) : GX X EX φ e E (m.bind fun s => .ok s.l) (lr φ) := fun σ Hf ad H A nb Q q er =>
  h σ Hf ad H A (R.bind_nb nb) Q (fun x ex v Hf' H' A' e1 e2 ⟨a, h1, h2⟩ => q x.l (by rw [ex]; rfl) v Hf' H' A' e1 e2 ⟨a, _, h1, Evl.ex_l A'.ef h2, its_int⟩) (bind_err er).1
/-- a new list, frozen -/
theorem GN.toZ [Py α] {m : R (List α)} (h : GN X EX φ e E m) : GX X EX φ e E m (zr φ) := fun σ Hf ad H A nb Q q er =>
  h σ Hf ad H A nb Q (fun x ex p vs Hf' H' A' e1 e2 hf off hp its => q x ex _ _ _ (A'.frz hf hp off) (e1.trans (Evl.Ex.new hf)) e2 ⟨p, vs, rfl, upd_same, Its.mono (Evl.Ex.new hf) its⟩) er
theorem GN.toL [Py α] {m : R (List α)} (h : GN X EX φ e E m) : GX X EX φ e E m (lr φ) := fun σ Hf ad H A nb Q q er =>
  h σ Hf ad H A nb Q (fun x ex p vs Hf' H' A' e1 e2 hf off hp its => q x ex _ _ _ A' e1 e2 ⟨p, vs, rfl, .inl (.inl hp), its⟩) er
theorem GN.toW [Py α] {m : R (List α)} (h : GN X EX φ e E m) : GX X EX φ e E m (lw φ) := fun σ Hf ad H A nb Q q er =>
  h σ Hf ad H A nb Q (fun x ex p vs Hf' H' A' e1 e2 hf off hp its => q x ex _ _ _ A' e1 e2 ⟨p, vs, rfl, hp, its⟩) er
end
end G

/-! G1: expressions. -/
namespace G
open PySem L2
section
variable {X : Cx} {EX : XK} {φ : Fx} {k : Nat} {E E' : Env1} {α β γ δ : Type} {e a b c : Expr} {pos : Pos} {i : Nat}
/-! ### names, constants -/
theorem g_var [Py α] {x : α} (p : PE X e (tVar i)) (h : lk E i = some (vz φ x) := by rfl) : GX X EX φ e E (.ok x) (zr φ) := fun σ Hf ad H A nb Q q er => by
  obtain ⟨v, h1, h2⟩ := A.sl i _ h
  exact wpE_of p ⟨v, h1, q x rfl v Hf H A (Evl.Ex.refl _) (Evl.Ex.refl _) h2⟩
/-- a list of one's own, to be read -/
theorem g_own [Py α] {x : List α} (p : PE X e (tVar i)) (h : lk E i = some (vo φ x) := by rfl) : GX X EX φ e E (.ok x) (lw φ) := fun σ Hf ad H A nb Q q er => by
  obtain ⟨h1, h2, h3, o, h4, vs, h5, h6⟩ := A.sl i _ h
  subst h5
  exact wpE_of p ⟨_, h1, q x rfl _ Hf H A (Evl.Ex.refl _) (Evl.Ex.refl _) ⟨_, vs, rfl, h4, h6⟩⟩
theorem g_ownR [Py α] {x : List α} (p : PE X e (tVar i)) (h : lk E i = some (vo φ x) := by rfl) : GX X EX φ e E (.ok x) (lr φ) := (g_own p h).imp fun _ _ _ _ => lw_lr
theorem g_con [Py α] {x : α} {v : V} (p : PE X e (tC v)) (h : ∀ H, Py.rep φ.κ x H v) : GX X EX φ e E (.ok x) (zr φ) := fun σ Hf ad H A nb Q q er =>
  wpE_of p (q x rfl v Hf H A (Evl.Ex.refl _) (Evl.Ex.refl _) (h Hf))
theorem g_int {i : Int} {j : Nat} : GX X EX φ (.Constant (.int i) j pos) E (.ok i) (zr φ) := g_con pe_int fun _ => rfl
theorem g_bool {i : Bool} {j : Nat} : GX X EX φ (.Constant (.bool i) j pos) E (.ok i) (zr φ) := g_con pe_bl fun _ => rfl
theorem g_none {j : Nat} [Py α] : GX X EX φ (.Constant .none j pos) E (.ok (none : Option α)) (zr φ) := g_con pe_non fun _ => rfl
theorem txOk_of {l : Tx} (h : (decide (l.length ≤ 1000) && l.all (· < 1114112)) = true) : TxOk l := by
  rw [Bool.and_eq_true] at h
  exact ⟨Nat.le_trans (of_decide_eq_true h.1) (by decide), fun c hc => by simpa using List.all_eq_true.mp h.2 c hc⟩
theorem g_str {x : Str} {j : Nat} (l : Tx) (h : x = tx l := by decide +kernel) (h2 : (decide (l.length ≤ 1000) && l.all (· < 1114112)) = true := by decide +kernel) : GX X EX φ (.Constant (.str x) j pos) E (.ok l) (zr φ) :=
  g_con pe_str fun _ => ⟨by rw [h], txOk_of h2⟩
/-- a number, or none -/
theorem GX.some [Py α] {m : R α} (h : GX X EX φ e E m (zr φ)) : GX X EX φ e E (m.bind fun x => .ok (Option.some x)) (zr φ) := fun σ Hf ad H A nb Q q er =>
  h σ Hf ad H A (R.bind_nb nb) Q (fun x ex v Hf' H' A' e1 e2 r => q (Option.some x) (by rw [ex]; rfl) v Hf' H' A' e1 e2 r) (bind_err er).1

/-! ### operators by values -/
/-- what an operator of two values must do -/
def OG (φ : Fx) (r : R2) (ρ1 : RR α) (ρ2 : RR β) (ρ3 : RR γ) (f : α → β → R γ) : Prop := ∀ (E : Env1) (σ : L2.St) (Hf : Hp) (ad : Nat → Addr) (H : Hp) (x : α) (y : β) (v w : V), At φ E σ Hf ad H → ρ1 x Hf H v → ρ2 y Hf H w → f x y ≠ .bad → ∀ Q : VK,
  (∀ z, f x y = .ok z → ∀ u Hf' H', At φ E σ Hf' ad H' → Ex Hf Hf' → Ex H H' → ρ3 z Hf' H' u → Q u H') → r v w H Q
theorem g_tOp {r : R2} {ρ1 : RR α} {ρ2 : RR β} {ρ3 : RR γ} {ma : R α} {mb : R β} {f : α → β → R γ} (p : PE X e (tOp r (wpE X a) (wpE X b))) (u1 : RR.Up ρ1) (og : OG φ r ρ1 ρ2 ρ3 f) (ne : ∀ x y z, f x y ≠ .err z) (ga : GX X EX φ a E ma ρ1) (gb : GX X EX φ b E mb ρ2) :
    GX X EX φ e E (ma.bind fun x => mb.bind fun y => f x y) ρ3 := fun σ Hf ad H A nb Q q er => by
  have ⟨e1, e2⟩ := bind_err (P := EW φ EX) er
  refine wpE_of p ?_
  refine ga σ Hf ad H A (R.bind_nb nb) _ (fun x ex v Hf1 H1 A1 f1 f2 r1 => ?_) e1
  rw [ex, R.bind_ok] at nb
  refine gb σ Hf1 ad H1 A1 (R.bind_nb nb) _ (fun y ey w Hf2 H2 A2 f3 f4 r2 => ?_) (bind_err (e2 x ex)).1
  rw [ey, R.bind_ok] at nb
  refine og E σ Hf2 ad H2 x y v w A2 (u1 x Hf1 H1 v Hf2 H2 f3 f4 r1) r2 nb Q (fun z ez u Hf' H' A' g1 g2 r3 => q z ?_ u Hf' H' A' (f1.trans (f3.trans g1)) (f2.trans (f4.trans g2)) r3)
  rw [ex, R.bind_ok, ey, R.bind_ok]
  exact ez
theorem g_tOpT {r : R2} {ρ1 : RR α} {ρ2 : RR β} {ma : R α} {mb : R β} {f : α → β → R Bool} (p : PT X e (tTest (tOp r (wpE X a) (wpE X b)))) (u1 : RR.Up ρ1) (og : OG φ r ρ1 ρ2 (zr φ) f) (ne : ∀ x y z, f x y ≠ .err z) (ga : GX X EX φ a E ma ρ1) (gb : GX X EX φ b E mb ρ2) :
    GT X EX φ e E (ma.bind fun x => mb.bind fun y => f x y) := fun σ Hf ad H A nb Q q er => by
  have ⟨e1, e2⟩ := bind_err (P := EW φ EX) er
  refine wpT_of p ?_
  refine ga σ Hf ad H A (R.bind_nb nb) _ (fun x ex v Hf1 H1 A1 f1 f2 r1 => ?_) e1
  rw [ex, R.bind_ok] at nb
  refine gb σ Hf1 ad H1 A1 (R.bind_nb nb) _ (fun y ey w Hf2 H2 A2 f3 f4 r2 => ?_) (bind_err (e2 x ex)).1
  rw [ey, R.bind_ok] at nb
  refine og E σ Hf2 ad H2 x y v w A2 (u1 x Hf1 H1 v Hf2 H2 f3 f4 r1) r2 nb _ (fun z ez u Hf' H' A' g1 g2 r3 => ⟨z, r3, q z ?_ Hf' H' A' (f1.trans (f3.trans g1)) (f2.trans (f4.trans g2))⟩)
  rw [ex, R.bind_ok, ey, R.bind_ok]
  exact ez
/-- ints -/
theorem og_I0 [Py γ] {g : Int → Int → V} {g' : Int → Int → γ} (h : ∀ i j H, Py.rep φ.κ (g' i j) H (g i j)) : OG φ (rI0 g) (zr φ) (zr φ) (zr φ) (fun i j => .ok (g' i j)) := fun E σ Hf ad H x y v w A r1 r2 nb Q q =>
  ⟨x, y, r1, r2, q _ rfl _ Hf H A (Evl.Ex.refl _) (Evl.Ex.refl _) (h _ _ _)⟩
theorem ifR_def : ∃ f : (α : Type) → (c : Prop) → Decidable c → α → R α, ∀ (α : Type) (c : Prop) (d : Decidable c) (x : α), f α c d x = @ite (R α) c d (.ok x) .bad := ⟨fun α c d x => @ite (R α) c d (.ok x) .bad, fun _ _ _ _ => rfl⟩
noncomputable def ifR (c : Prop) [d : Decidable c] (x : α) : R α := Classical.choose ifR_def α c d x
theorem ifR_eq (c : Prop) [Decidable c] (x : α) : ifR c x = if c then .ok x else .bad := Classical.choose_spec ifR_def α c _ x
theorem ifR_nb {c : Prop} [Decidable c] {x : α} (h : ifR c x ≠ .bad) : c ∧ ifR c x = .ok x := by
  rw [ifR_eq] at h ⊢
  split at h
  · rename_i hc; exact ⟨hc, if_pos hc⟩
  · exact absurd rfl h
theorem ifR_ok {c : Prop} [Decidable c] {x : α} (h : c) : ifR c x = .ok x := by rw [ifR_eq]; exact if_pos h
theorem ifR_no {c : Prop} [Decidable c] {x : α} (h : ¬ c) : ifR c x = .bad := by rw [ifR_eq]; exact if_neg h
theorem ifR_ne {c : Prop} [Decidable c] {x : α} (z : Xn) : ifR c x ≠ .err z := by
  rw [ifR_eq]; split <;> exact fun q => nomatch q
theorem og_I [Py γ] {C : Int → Int → Prop} [∀ i j, Decidable (C i j)] {g : Int → Int → V} {g' : Int → Int → γ} (h : ∀ i j H, Py.rep φ.κ (g' i j) H (g i j)) : OG φ (rI C g) (zr φ) (zr φ) (zr φ) (fun i j => ifR (C i j) (g' i j)) := fun E σ Hf ad H x y v w A r1 r2 nb Q q => by
  obtain ⟨hc, he⟩ := ifR_nb nb
  exact ⟨x, y, r1, r2, hc, q _ he _ Hf H A (Evl.Ex.refl _) (Evl.Ex.refl _) (h _ _ _)⟩
instance (i j : Int) : Decidable (CMul i j) := inferInstanceAs (Decidable (_ ∨ _))
instance (i j : Int) : Decidable (CDiv i j) := inferInstanceAs (Decidable (_ ∧ _))
instance (i j : Int) : Decidable (CPow i j) := inferInstanceAs (Decidable (_ ∧ _ ∧ _))
abbrev zi (φ : Fx) : RR Int := zr φ
theorem g_add {ma mb : R Int} (ga : GX X EX φ a E ma (zi φ)) (gb : GX X EX φ b E mb (zi φ)) : GX X EX φ (.BinOp a .Add b pos) E (ma.bind fun x => mb.bind fun y => .ok (x + y)) (zi φ) :=
  g_tOp (pe_op op_add peS peS) zr_up (og_I0 fun _ _ _ => rfl) (fun _ _ _ q => nomatch q) ga gb
theorem g_sub {ma mb : R Int} (ga : GX X EX φ a E ma (zi φ)) (gb : GX X EX φ b E mb (zi φ)) : GX X EX φ (.BinOp a .Sub b pos) E (ma.bind fun x => mb.bind fun y => .ok (x - y)) (zi φ) :=
  g_tOp (pe_op op_sub peS peS) zr_up (og_I0 fun _ _ _ => rfl) (fun _ _ _ q => nomatch q) ga gb
theorem g_mul {ma mb : R Int} (ga : GX X EX φ a E ma (zi φ)) (gb : GX X EX φ b E mb (zi φ)) : GX X EX φ (.BinOp a .Mult b pos) E (ma.bind fun x => mb.bind fun y => ifR (CMul x y) (x * y)) (zi φ) :=
  g_tOp (pe_op op_mul peS peS) zr_up (og_I fun _ _ _ => rfl) (fun _ _ _ => ifR_ne _) ga gb
theorem g_mod {ma mb : R Int} (ga : GX X EX φ a E ma (zi φ)) (gb : GX X EX φ b E mb (zi φ)) : GX X EX φ (.BinOp a .Mod b pos) E (ma.bind fun x => mb.bind fun y => ifR (0 < y) (x % y)) (zi φ) :=
  g_tOp (pe_op op_mod peS peS) zr_up (og_I (C := fun _ j => 0 < j) fun _ _ _ => rfl) (fun _ _ _ => ifR_ne _) ga gb
theorem g_div {ma mb : R Int} (ga : GX X EX φ a E ma (zi φ)) (gb : GX X EX φ b E mb (zi φ)) : GX X EX φ (.BinOp a .FloorDiv b pos) E (ma.bind fun x => mb.bind fun y => ifR (CDiv x y) (x / y)) (zi φ) :=
  g_tOp (pe_op op_fdiv peS peS) zr_up (og_I fun _ _ _ => rfl) (fun _ _ _ => ifR_ne _) ga gb
theorem g_pow {ma mb : R Int} (ga : GX X EX φ a E ma (zi φ)) (gb : GX X EX φ b E mb (zi φ)) : GX X EX φ (.BinOp a .Pow b pos) E (ma.bind fun x => mb.bind fun y => ifR (CPow x y) (x ^ y.toNat)) (zi φ) :=
  g_tOp (pe_op op_pow peS peS) zr_up (og_I fun _ _ _ => rfl) (fun _ _ _ => ifR_ne _) ga gb
theorem g_shl {ma mb : R Int} (ga : GX X EX φ a E ma (zi φ)) (gb : GX X EX φ b E mb (zi φ)) : GX X EX φ (.BinOp a .LShift b pos) E (ma.bind fun x => mb.bind fun y => ifR (CPow x y) (x * 2 ^ y.toNat)) (zi φ) :=
  g_tOp (pe_op op_shl peS peS) zr_up (og_I fun _ _ _ => rfl) (fun _ _ _ => ifR_ne _) ga gb
theorem g_shr {ma mb : R Int} (ga : GX X EX φ a E ma (zi φ)) (gb : GX X EX φ b E mb (zi φ)) : GX X EX φ (.BinOp a .RShift b pos) E (ma.bind fun x => mb.bind fun y => ifR (0 ≤ y) (x / 2 ^ y.toNat)) (zi φ) :=
  g_tOp (pe_op op_shr peS peS) zr_up (og_I (C := fun _ j => 0 ≤ j) fun _ _ _ => rfl) (fun _ _ _ => ifR_ne _) ga gb
theorem g_and {ma mb : R Int} (ga : GX X EX φ a E ma (zi φ)) (gb : GX X EX φ b E mb (zi φ)) : GX X EX φ (.BinOp a .BitAnd b pos) E (ma.bind fun x => mb.bind fun y => .ok (Builtin.bitAnd x y)) (zi φ) :=
  g_tOp (pe_op op_and peS peS) zr_up (og_I0 fun _ _ _ => rfl) (fun _ _ _ q => nomatch q) ga gb
theorem g_or {ma mb : R Int} (ga : GX X EX φ a E ma (zi φ)) (gb : GX X EX φ b E mb (zi φ)) : GX X EX φ (.BinOp a .BitOr b pos) E (ma.bind fun x => mb.bind fun y => .ok (Builtin.bitOr x y)) (zi φ) :=
  g_tOp (pe_op op_or peS peS) zr_up (og_I0 fun _ _ _ => rfl) (fun _ _ _ q => nomatch q) ga gb
/-! ### comparisons of ints -/
theorem ogc_lt : OG φ (rI0 fun i j => .bl (decide (i < j))) (zi φ) (zi φ) (zr φ) (fun i j => .ok (decide (i < j))) := og_I0 fun _ _ _ => rfl
theorem ogc_le : OG φ (rI0 fun i j => .bl (decide (i ≤ j))) (zi φ) (zi φ) (zr φ) (fun i j => .ok (decide (i ≤ j))) := og_I0 fun _ _ _ => rfl
theorem ogc_gt : OG φ (rI0 fun i j => .bl (decide (j < i))) (zi φ) (zi φ) (zr φ) (fun i j => .ok (decide (i > j))) := og_I0 fun _ _ _ => rfl
theorem ogc_ge : OG φ (rI0 fun i j => .bl (decide (j ≤ i))) (zi φ) (zi φ) (zr φ) (fun i j => .ok (decide (i ≥ j))) := og_I0 fun _ _ _ => rfl
section
variable {ma mb : R Int}
theorem g_lt (ga : GX X EX φ a E ma (zi φ)) (gb : GX X EX φ b E mb (zi φ)) : GX X EX φ (.Compare a [.Lt] [b] pos) E (ma.bind fun x => mb.bind fun y => .ok (decide (x < y))) (zr φ) := g_tOp (pe_cmpR op_lt peS peS (nomark _)) zr_up ogc_lt (fun _ _ _ q => nomatch q) ga gb
theorem g_le (ga : GX X EX φ a E ma (zi φ)) (gb : GX X EX φ b E mb (zi φ)) : GX X EX φ (.Compare a [.LtE] [b] pos) E (ma.bind fun x => mb.bind fun y => .ok (decide (x ≤ y))) (zr φ) := g_tOp (pe_cmpR op_le peS peS (nomark _)) zr_up ogc_le (fun _ _ _ q => nomatch q) ga gb
theorem g_gt (ga : GX X EX φ a E ma (zi φ)) (gb : GX X EX φ b E mb (zi φ)) : GX X EX φ (.Compare a [.Gt] [b] pos) E (ma.bind fun x => mb.bind fun y => .ok (decide (x > y))) (zr φ) := g_tOp (pe_cmpR op_gt peS peS (nomark _)) zr_up ogc_gt (fun _ _ _ q => nomatch q) ga gb
theorem g_ge (ga : GX X EX φ a E ma (zi φ)) (gb : GX X EX φ b E mb (zi φ)) : GX X EX φ (.Compare a [.GtE] [b] pos) E (ma.bind fun x => mb.bind fun y => .ok (decide (x ≥ y))) (zr φ) := g_tOp (pe_cmpR op_ge peS peS (nomark _)) zr_up ogc_ge (fun _ _ _ q => nomatch q) ga gb
theorem t_lt (ga : GX X EX φ a E ma (zi φ)) (gb : GX X EX φ b E mb (zi φ)) : GT X EX φ (.Compare a [.Lt] [b] pos) E (ma.bind fun x => mb.bind fun y => .ok (decide (x < y))) := g_tOpT (pt_cmpR op_lt peS peS (nomark _)) zr_up ogc_lt (fun _ _ _ q => nomatch q) ga gb
theorem t_le (ga : GX X EX φ a E ma (zi φ)) (gb : GX X EX φ b E mb (zi φ)) : GT X EX φ (.Compare a [.LtE] [b] pos) E (ma.bind fun x => mb.bind fun y => .ok (decide (x ≤ y))) := g_tOpT (pt_cmpR op_le peS peS (nomark _)) zr_up ogc_le (fun _ _ _ q => nomatch q) ga gb
theorem t_gt (ga : GX X EX φ a E ma (zi φ)) (gb : GX X EX φ b E mb (zi φ)) : GT X EX φ (.Compare a [.Gt] [b] pos) E (ma.bind fun x => mb.bind fun y => .ok (decide (x > y))) := g_tOpT (pt_cmpR op_gt peS peS (nomark _)) zr_up ogc_gt (fun _ _ _ q => nomatch q) ga gb
theorem t_ge (ga : GX X EX φ a E ma (zi φ)) (gb : GX X EX φ b E mb (zi φ)) : GT X EX φ (.Compare a [.GtE] [b] pos) E (ma.bind fun x => mb.bind fun y => .ok (decide (x ≥ y))) := g_tOpT (pt_cmpR op_ge peS peS (nomark _)) zr_up ogc_ge (fun _ _ _ q => nomatch q) ga gb
end
/-! ### == of data -/
/-- how a value is read where the heap stands -/
def RR.Rd [Py α] (φ : Fx) (ρ : RR α) : Prop := ∀ x Hf H v, Ex Hf H → ρ x Hf H v → Py.rep φ.κ x H v
theorem zr_rd [Py α] : RR.Rd φ (zr (α := α) φ) := fun _ _ _ _ e h => Py.mono e h
theorem lw_rd [Py α] : RR.Rd φ (lw (α := α) φ) := fun _ _ _ _ e ⟨a, vs, h1, h2, h3⟩ => ⟨a, vs, h1, h2, Its.mono e h3⟩
end
class PyEq (α : Type) [Py α] [DecidableEq α] where
  d : α → PyData
  n : Nat
  dp : ∀ {κ : Cc} {x : α} {H : Hp} {v : V}, Py.rep κ x H v → Dp κ.K H v (d x)
  can : ∀ {κ : Cc} {x : α} {H : Hp} {v : V}, Py.rep κ x H v → (d x).canLay0 = true
  dep : ∀ x, (d x).depth ≤ n
  eq : ∀ x y, PyData.eqv (d x) (d y) = decide (x = y)
theorem tx_inj {x y : Tx} (h : tx x = tx y) : x = y := by
  have : (tx x).cps.toList = (tx y).cps.toList := by rw [h]
  simpa [tx] using this
instance eqInt : PyEq Int where
  d := .int
  n := 0
  dp := fun h => by cases h; exact .int _
  can := fun _ => by simp only [PyData.canLay0]
  dep := fun x => by simp [PyData.depth]
  eq := fun x y => by simp [PyData.eqv]; rw [Bool.eq_iff_iff]; simp
instance eqBool : PyEq Bool where
  d := .bool
  n := 0
  dp := fun h => by cases h; exact .bl _
  can := fun _ => by simp only [PyData.canLay0]
  dep := fun x => by simp [PyData.depth]
  eq := fun x y => by simp [PyData.eqv]; rw [Bool.eq_iff_iff]; simp
instance eqTx : PyEq Tx where
  d := fun x => .str (tx x)
  n := 0
  dp := fun h => by obtain ⟨h, _⟩ := h; subst h; exact .str _
  can := fun {κ x H v} h => by
    simp only [PyData.canLay0, PyData.strOk, tx, List.all_toArray]
    exact List.all_eq_true.mpr fun c hc => by simpa using h.2.2 c hc
  dep := fun x => by simp [PyData.depth]
  eq := fun x y => by
    simp only [PyData.eqv]
    rw [Bool.eq_iff_iff]
    simp only [beq_iff_eq, decide_eq_true_eq]
    exact ⟨tx_inj, fun h => by rw [h]⟩
class NoN (α : Type) [Py α] [DecidableEq α] [PyEq α] : Prop where
  nn : ∀ x : α, PyEq.d x ≠ PyData.none
theorem eqv_non {d : PyData} (h : d ≠ PyData.none) : PyData.eqv .none d = false ∧ PyData.eqv d .none = false := by
  cases d <;> simp_all [PyData.eqv]
instance : NoN Int := ⟨fun x => by simp [PyEq.d]⟩
instance : NoN Bool := ⟨fun x => by simp [PyEq.d]⟩
instance : NoN Tx := ⟨fun x => by simp [PyEq.d]⟩
instance eqOpt {α : Type} [Py α] [DecidableEq α] [PyEq α] [NoN α] : PyEq (Option α) where
  d := fun x => match x with | none => .none | some y => PyEq.d y
  n := PyEq.n α
  dp := fun {κ x H v} h => by
    cases x with
    | none => cases h; exact .non
    | some y => exact PyEq.dp (α := α) h
  can := fun {κ x H v} h => by
    cases x with
    | none => simp only [PyData.canLay0]
    | some y => exact PyEq.can (α := α) h
  dep := fun x => by
    cases x with
    | none => simp [PyData.depth]
    | some y => exact PyEq.dep y
  eq := fun x y => by
    cases x with
    | none =>
      cases y with
      | none => simp [PyData.eqv]
      | some y =>
        show PyData.eqv .none (PyEq.d y) = _
        rw [(eqv_non (NoN.nn y)).1]
        simp
    | some x =>
      cases y with
      | none =>
        show PyData.eqv (PyEq.d x) .none = _
        rw [(eqv_non (NoN.nn x)).2]
        simp
      | some y =>
        show PyData.eqv (PyEq.d x) (PyEq.d y) = _
        rw [PyEq.eq]
        simp
theorem its_dp {α : Type} [Py α] [DecidableEq α] [PyEq α] {κ : Cc} {H : Hp} : ∀ {xs : List α} {vs : List V}, Its κ xs H vs → DpAll κ.K H vs (xs.map PyEq.d)
  | _, _, .nil => .nil
  | _, _, .cons h t => .cons (PyEq.dp h) (its_dp t)
theorem its_can {α : Type} [Py α] [DecidableEq α] [PyEq α] {κ : Cc} {H : Hp} : ∀ {xs : List α} {vs : List V}, Its κ xs H vs → PyData.canLayAll0 (xs.map PyEq.d) = true
  | _, _, .nil => by simp [PyData.canLayAll0]
  | _, _, .cons h t => by simp only [List.map_cons, PyData.canLayAll0, PyEq.can h, its_can t, Bool.and_self]
theorem all_dep {α : Type} [Py α] [DecidableEq α] [PyEq α] : ∀ xs : List α, PyData.depthAll (xs.map PyEq.d) ≤ PyEq.n α
  | [] => by simp [PyData.depthAll]
  | x :: xs => by
    have h1 := PyEq.dep x
    have h2 := all_dep xs
    simp only [List.map_cons, PyData.depthAll]
    omega
theorem all_eqv {α : Type} [Py α] [DecidableEq α] [PyEq α] : ∀ xs ys : List α, PyData.eqvAll (xs.map PyEq.d) (ys.map PyEq.d) = decide (xs = ys)
  | [], [] => by simp [PyData.eqvAll]
  | [], _ :: _ => by simp [PyData.eqvAll]
  | _ :: _, [] => by simp [PyData.eqvAll]
  | x :: xs, y :: ys => by
    simp only [List.map_cons, PyData.eqvAll, PyEq.eq, all_eqv xs ys]
    rw [Bool.eq_iff_iff]
    simp
instance eqList {α : Type} [Py α] [DecidableEq α] [PyEq α] : PyEq (List α) where
  d := fun xs => .list (xs.map PyEq.d)
  n := PyEq.n α + 1
  dp := fun ⟨a, vs, h1, h2, h3⟩ => by subst h1; exact .lst (SqL.of h2) (its_dp h3)
  can := fun ⟨a, vs, h1, h2, h3⟩ => by simp only [PyData.canLay0]; exact its_can h3
  dep := fun xs => by simp only [PyData.depth]; exact Nat.succ_le_succ (all_dep xs)
  eq := fun xs ys => by simp only [PyData.eqv]; exact all_eqv xs ys
instance eqTp {α : Type} [Py α] [DecidableEq α] [PyEq α] : PyEq (Tp α) where
  d := fun xs => .tuple (xs.l.map PyEq.d)
  n := PyEq.n α + 1
  dp := fun ⟨a, vs, h1, h2, h3⟩ => by subst h1; exact .tup h2 (its_dp h3)
  can := fun ⟨a, vs, h1, h2, h3⟩ => by simp only [PyData.canLay0]; exact its_can h3
  dep := fun xs => by simp only [PyData.depth]; exact Nat.succ_le_succ (all_dep xs.l)
  eq := fun xs ys => by
    simp only [PyData.eqv]
    rw [all_eqv, Bool.eq_iff_iff]
    cases xs; cases ys; simp
instance eqT2 {α β : Type} [Py α] [DecidableEq α] [PyEq α] [Py β] [DecidableEq β] [PyEq β] : PyEq (T2 α β) where
  d := fun x => .tuple [PyEq.d x.a, PyEq.d x.b]
  n := max (PyEq.n α) (PyEq.n β) + 1
  dp := fun ⟨a, v1, v2, h1, h2, h3, h4⟩ => by subst h1; exact .tup h2 (.cons (PyEq.dp h3) (.cons (PyEq.dp h4) .nil))
  can := fun ⟨a, v1, v2, h1, h2, h3, h4⟩ => by simp only [PyData.canLay0, PyData.canLayAll0, PyEq.can h3, PyEq.can h4, Bool.and_self]
  dep := fun x => by
    have h1 := PyEq.dep x.a
    have h2 := PyEq.dep x.b
    simp only [PyData.depth, PyData.depthAll]
    omega
  eq := fun x y => by
    cases x; cases y
    simp only [PyData.eqv, PyData.eqvAll, PyEq.eq, T2.mk.injEq]
    rw [Bool.eq_iff_iff]; simp
instance eqT3 {α β γ : Type} [Py α] [DecidableEq α] [PyEq α] [Py β] [DecidableEq β] [PyEq β] [Py γ] [DecidableEq γ] [PyEq γ] : PyEq (T3 α β γ) where
  d := fun x => .tuple [PyEq.d x.a, PyEq.d x.b, PyEq.d x.c]
  n := max (PyEq.n α) (max (PyEq.n β) (PyEq.n γ)) + 1
  dp := fun ⟨a, v1, v2, v3, h1, h2, h3, h4, h5⟩ => by subst h1; exact .tup h2 (.cons (PyEq.dp h3) (.cons (PyEq.dp h4) (.cons (PyEq.dp h5) .nil)))
  can := fun ⟨a, v1, v2, v3, h1, h2, h3, h4, h5⟩ => by simp only [PyData.canLay0, PyData.canLayAll0, PyEq.can h3, PyEq.can h4, PyEq.can h5, Bool.and_self]
  dep := fun x => by
    have h1 := PyEq.dep x.a
    have h2 := PyEq.dep x.b
    have h3 := PyEq.dep x.c
    simp only [PyData.depth, PyData.depthAll]
    omega
  eq := fun x y => by
    cases x; cases y
    simp only [PyData.eqv, PyData.eqvAll, PyEq.eq, T3.mk.injEq]
    rw [Bool.eq_iff_iff]; simp
instance {α : Type} [Py α] [DecidableEq α] [PyEq α] : NoN (List α) := ⟨fun x => by simp [PyEq.d]⟩
instance {α β : Type} [Py α] [DecidableEq α] [PyEq α] [Py β] [DecidableEq β] [PyEq β] : NoN (T2 α β) := ⟨fun x => by simp [PyEq.d]⟩
section
variable {X : Cx} {EX : XK} {φ : Fx} {k : Nat} {E E' : Env1} {α β γ δ : Type} {e a b c : Expr} {pos : Pos} {i : Nat} [Py α] [DecidableEq α] [PyEq α]
theorem og_eq {ρ1 ρ2 : RR α} (kK : φ.κ.K = X.K) (h1 : RR.Rd φ ρ1) (h2 : RR.Rd φ ρ2) (hn : PyEq.n α ≤ 64) : OG φ (rEqD X.K) ρ1 ρ2 (zr φ) (fun x y => .ok (decide (x = y))) := fun E σ Hf ad H x y v w A r1 r2 nb Q q => by
  have q1 := h1 x Hf H v A.ef r1
  have q2 := h2 y Hf H w A.ef r2
  refine ⟨PyEq.d x, PyEq.d y, kK ▸ PyEq.dp q1, kK ▸ PyEq.dp q2, ?_, ?_, ?_⟩
  · unfold SeqAt.shaped
    rw [PyEq.can q1, Bool.true_and]
    exact decide_eq_true (Nat.le_trans (PyEq.dep x) hn)
  · unfold SeqAt.shaped
    rw [PyEq.can q2, Bool.true_and]
    exact decide_eq_true (Nat.le_trans (PyEq.dep y) hn)
  · rw [PyEq.eq]
    exact q _ rfl _ Hf H A (Evl.Ex.refl _) (Evl.Ex.refl _) rfl
theorem og_ne {ρ1 ρ2 : RR α} (kK : φ.κ.K = X.K) (h1 : RR.Rd φ ρ1) (h2 : RR.Rd φ ρ2) (hn : PyEq.n α ≤ 64) : OG φ (rNeD X.K) ρ1 ρ2 (zr φ) (fun x y => .ok (!decide (x = y))) := fun E σ Hf ad H x y v w A r1 r2 nb Q q => by
  have q1 := h1 x Hf H v A.ef r1
  have q2 := h2 y Hf H w A.ef r2
  refine ⟨PyEq.d x, PyEq.d y, kK ▸ PyEq.dp q1, kK ▸ PyEq.dp q2, ?_, ?_, ?_⟩
  · unfold SeqAt.shaped
    rw [PyEq.can q1, Bool.true_and]
    exact decide_eq_true (Nat.le_trans (PyEq.dep x) hn)
  · unfold SeqAt.shaped
    rw [PyEq.can q2, Bool.true_and]
    exact decide_eq_true (Nat.le_trans (PyEq.dep y) hn)
  · rw [PyEq.eq]
    exact q _ rfl _ Hf H A (Evl.Ex.refl _) (Evl.Ex.refl _) rfl
variable {ma mb : R α} {ρ1 ρ2 : RR α}
theorem g_eq (L : Lv X EX φ k) (u1 : RR.Up ρ1) (h1 : RR.Rd φ ρ1) (h2 : RR.Rd φ ρ2) (ga : GX X EX φ a E ma ρ1) (gb : GX X EX φ b E mb ρ2) (hn : PyEq.n α ≤ 64 := by decide) : GX X EX φ (.Compare a [.Eq] [b] pos) E (ma.bind fun x => mb.bind fun y => .ok (decide (x = y))) (zr φ) :=
  g_tOp (pe_cmpR (op_eqD L.room.units) peS peS (nomark _)) u1 (og_eq L.kK h1 h2 hn) (fun _ _ _ q => nomatch q) ga gb
theorem g_ne (L : Lv X EX φ k) (u1 : RR.Up ρ1) (h1 : RR.Rd φ ρ1) (h2 : RR.Rd φ ρ2) (ga : GX X EX φ a E ma ρ1) (gb : GX X EX φ b E mb ρ2) (hn : PyEq.n α ≤ 64 := by decide) : GX X EX φ (.Compare a [.NotEq] [b] pos) E (ma.bind fun x => mb.bind fun y => .ok (!decide (x = y))) (zr φ) :=
  g_tOp (pe_cmpR (op_neD L.room.units) peS peS (nomark _)) u1 (og_ne L.kK h1 h2 hn) (fun _ _ _ q => nomatch q) ga gb
theorem t_eq (L : Lv X EX φ k) (u1 : RR.Up ρ1) (h1 : RR.Rd φ ρ1) (h2 : RR.Rd φ ρ2) (ga : GX X EX φ a E ma ρ1) (gb : GX X EX φ b E mb ρ2) (hn : PyEq.n α ≤ 64 := by decide) : GT X EX φ (.Compare a [.Eq] [b] pos) E (ma.bind fun x => mb.bind fun y => .ok (decide (x = y))) :=
  g_tOpT (pt_cmpR (op_eqD L.room.units) peS peS (nomark _)) u1 (og_eq L.kK h1 h2 hn) (fun _ _ _ q => nomatch q) ga gb
theorem t_ne (L : Lv X EX φ k) (u1 : RR.Up ρ1) (h1 : RR.Rd φ ρ1) (h2 : RR.Rd φ ρ2) (ga : GX X EX φ a E ma ρ1) (gb : GX X EX φ b E mb ρ2) (hn : PyEq.n α ≤ 64 := by decide) : GT X EX φ (.Compare a [.NotEq] [b] pos) E (ma.bind fun x => mb.bind fun y => .ok (!decide (x = y))) :=
  g_tOpT (pt_cmpR (op_neD L.room.units) peS peS (nomark _)) u1 (og_ne L.kK h1 h2 hn) (fun _ _ _ q => nomatch q) ga gb
end
end G

/-! G2: tests, displays, items, slices, calls of built-ins, texts. -/
namespace G
open PySem L2
section
variable {X : Cx} {EX : XK} {φ : Fx} {k : Nat} {E E' : Env1} {α β γ δ : Type} {e a b c : Expr} {pos : Pos} {i : Nat} {es : List Expr}
abbrev zb (φ : Fx) : RR Bool := zr φ
/-! ### tests -/
theorem t_val {m : R Bool} (g : GX X EX φ e E m (zb φ)) (he : ∀ whole, isTrue e X.env whole = (do let v ← whole; standAt e.pos; holding [v] (truthy v)) := by intro _; rfl) : GT X EX φ e E m := fun σ Hf ad H A nb Q q er =>
  wpT_of (pt_val peS he) (g σ Hf ad H A nb _ (fun x ex v Hf' H' A' e1 e2 r => ⟨x, r, q x ex Hf' H' A' e1 e2⟩) er)
theorem t_not {m : R Bool} (g : GT X EX φ a E m) : GT X EX φ (.UnaryOp .Not a pos) E (m.bind fun c => .ok (!c)) := fun σ Hf ad H A nb Q q er =>
  wpT_of (pt_not ptS) (g σ Hf ad H A (R.bind_nb nb) _ (fun x ex Hf' H' A' e1 e2 => q (!x) (by rw [ex]; rfl) Hf' H' A' e1 e2) (bind_err er).1)
theorem t_w {m : R Bool} (g : GW X EX φ e E m) : GT X EX φ e E m := fun σ Hf ad H A nb Q q er => wpT_of (PW.pt pwS) (g σ Hf ad H A nb Q q er)
theorem w_and1 {m : R Bool} (g : GT X EX φ a E m) : GW X EX φ (.BoolOp .And [a] pos) E m := fun σ Hf ad H A nb Q q er => wpW_of (pw_and1 ptS) (g σ Hf ad H A nb Q q er)
theorem w_or1 {m : R Bool} (g : GT X EX φ a E m) : GW X EX φ (.BoolOp .Or [a] pos) E m := fun σ Hf ad H A nb Q q er => wpW_of (pw_or1 ptS) (g σ Hf ad H A nb Q q er)
def andR (x : R Bool) (y : R Bool) : R Bool := x.bind fun c => if c = true then y else .ok false
def orR (x : R Bool) (y : R Bool) : R Bool := x.bind fun c => if c = true then .ok true else y
theorem w_and {rest : List Expr} {m n : R Bool} (g : GT X EX φ a E m) (h : GW X EX φ (.BoolOp .And (b :: rest) pos) E n) : GW X EX φ (.BoolOp .And (a :: b :: rest) pos) E (andR m n) := fun σ Hf ad H A nb Q q er => by
  have ⟨e1, e2⟩ := bind_err (P := EW φ EX) er
  refine wpW_of (pw_and ptS pwS) (g σ Hf ad H A (R.bind_nb nb) _ (fun x ex Hf1 H1 A1 f1 f2 => ?_) e1)
  have f : andR m n = (if x = true then n else .ok false) := by unfold andR; rw [ex]; rfl
  cases x with
  | true =>
    have f' : andR m n = n := f
    show wpW X _ σ H1 Q
    exact h σ Hf1 ad H1 A1 (f' ▸ nb) Q (fun y ey Hf2 H2 A2 f3 f4 => q y (f'.trans ey) Hf2 H2 A2 (f1.trans f3) (f2.trans f4)) (e2 true ex)
  | false =>
    show Q false H1
    exact q false f Hf1 H1 A1 f1 f2
theorem w_or {rest : List Expr} {m n : R Bool} (g : GT X EX φ a E m) (h : GW X EX φ (.BoolOp .Or (b :: rest) pos) E n) : GW X EX φ (.BoolOp .Or (a :: b :: rest) pos) E (orR m n) := fun σ Hf ad H A nb Q q er => by
  have ⟨e1, e2⟩ := bind_err (P := EW φ EX) er
  refine wpW_of (pw_or ptS pwS) (g σ Hf ad H A (R.bind_nb nb) _ (fun x ex Hf1 H1 A1 f1 f2 => ?_) e1)
  have f : orR m n = (if x = true then .ok true else n) := by unfold orR; rw [ex]; rfl
  cases x with
  | false =>
    have f' : orR m n = n := f
    show wpW X _ σ H1 Q
    exact h σ Hf1 ad H1 A1 (f' ▸ nb) Q (fun y ey Hf2 H2 A2 f3 f4 => q y (f'.trans ey) Hf2 H2 A2 (f1.trans f3) (f2.trans f4)) (e2 false ex)
  | true =>
    show Q true H1
    exact q true f Hf1 H1 A1 f1 f2
/-! as values -/
theorem g_one {op : PySem.BoolOp} {m : R Bool} (g : GX X EX φ a E m (zb φ)) : GX X EX φ (.BoolOp op [a] pos) E m (zb φ) := fun σ Hf ad H A nb Q q er => wpE_of (pe_one peS) (g σ Hf ad H A nb Q q er)
theorem g_and' {rest : List Expr} {m n : R Bool} (g : GX X EX φ a E m (zb φ)) (h : GX X EX φ (.BoolOp .And (b :: rest) pos) E n (zb φ)) : GX X EX φ (.BoolOp .And (a :: b :: rest) pos) E (andR m n) (zb φ) := fun σ Hf ad H A nb Q q er => by
  have ⟨e1, e2⟩ := bind_err (P := EW φ EX) er
  refine wpE_of (pe_and peS peS) (g σ Hf ad H A (R.bind_nb nb) _ (fun x ex v Hf1 H1 A1 f1 f2 r => ⟨x, r, ?_⟩) e1)
  have f : andR m n = (if x = true then n else .ok false) := by unfold andR; rw [ex]; rfl
  cases x with
  | true =>
    have f' : andR m n = n := f
    show wpE X _ σ H1 Q
    exact h σ Hf1 ad H1 A1 (f' ▸ nb) Q (fun y ey v Hf2 H2 A2 f3 f4 r => q y (f'.trans ey) v Hf2 H2 A2 (f1.trans f3) (f2.trans f4) r) (e2 true ex)
  | false =>
    show Q (.bl false) H1
    exact q false f _ Hf1 H1 A1 f1 f2 rfl
theorem g_or' {rest : List Expr} {m n : R Bool} (g : GX X EX φ a E m (zb φ)) (h : GX X EX φ (.BoolOp .Or (b :: rest) pos) E n (zb φ)) : GX X EX φ (.BoolOp .Or (a :: b :: rest) pos) E (orR m n) (zb φ) := fun σ Hf ad H A nb Q q er => by
  have ⟨e1, e2⟩ := bind_err (P := EW φ EX) er
  refine wpE_of (pe_or peS peS) (g σ Hf ad H A (R.bind_nb nb) _ (fun x ex v Hf1 H1 A1 f1 f2 r => ⟨x, r, ?_⟩) e1)
  have f : orR m n = (if x = true then .ok true else n) := by unfold orR; rw [ex]; rfl
  cases x with
  | false =>
    have f' : orR m n = n := f
    show wpE X _ σ H1 Q
    exact h σ Hf1 ad H1 A1 (f' ▸ nb) Q (fun y ey v Hf2 H2 A2 f3 f4 r => q y (f'.trans ey) v Hf2 H2 A2 (f1.trans f3) (f2.trans f4) r) (e2 false ex)
  | true =>
    show Q (.bl true) H1
    exact q true f _ Hf1 H1 A1 f1 f2 rfl
theorem g_not {m : R Bool} (g : GX X EX φ a E m (zb φ)) : GX X EX φ (.UnaryOp .Not a pos) E (m.bind fun c => .ok (!c)) (zb φ) := fun σ Hf ad H A nb Q q er =>
  wpE_of (pe_not peS) (g σ Hf ad H A (R.bind_nb nb) _ (fun x ex v Hf' H' A' e1 e2 r => ⟨x, r, q (!x) (by rw [ex]; rfl) _ Hf' H' A' e1 e2 rfl⟩) (bind_err er).1)
theorem g_neg {m : R Int} (g : GX X EX φ a E m (zi φ)) : GX X EX φ (.UnaryOp .USub a pos) E (m.bind fun c => .ok (-c)) (zi φ) := fun σ Hf ad H A nb Q q er =>
  wpE_of (pe_un un_neg peS) (g σ Hf ad H A (R.bind_nb nb) _ (fun x ex v Hf' H' A' e1 e2 r => ⟨x, r, q (-x) (by rw [ex]; rfl) _ Hf' H' A' e1 e2 rfl⟩) (bind_err er).1)
theorem g_if {ρ : RR α} {mc : R Bool} {m n : R α} (gc : GT X EX φ c E mc) (g : GX X EX φ a E m ρ) (h : GX X EX φ b E n ρ) : GX X EX φ (.IfExp c a b pos) E (mc.bind fun c => if c = true then m else n) ρ := fun σ Hf ad H A nb Q q er => by
  have ⟨e1, e2⟩ := bind_err (P := EW φ EX) er
  refine wpE_of (pe_ifExp ptS peS peS) (gc σ Hf ad H A (R.bind_nb nb) _ (fun x ex Hf1 H1 A1 f1 f2 => ?_) e1)
  rw [ex, R.bind_ok] at nb
  have q' : ∀ x1, (if x = true then m else n) = .ok x1 → ∀ v Hf' H', At φ E σ Hf' ad H' → Ex Hf Hf' → Ex H H' → ρ x1 Hf' H' v → Q v H' := fun x1 e => q x1 (by rw [ex]; exact e)
  cases x with
  | true =>
    show wpE X _ σ H1 Q
    exact g σ Hf1 ad H1 A1 nb Q (fun y ey v Hf2 H2 A2 f3 f4 r => q' y ey v Hf2 H2 A2 (f1.trans f3) (f2.trans f4) r) (e2 true ex)
  | false =>
    show wpE X _ σ H1 Q
    exact h σ Hf1 ad H1 A1 nb Q (fun y ey v Hf2 H2 A2 f3 f4 r => q' y ey v Hf2 H2 A2 (f1.trans f3) (f2.trans f4) r) (e2 false ex)
/-- is None, is not None -/
class NV (α : Type) [Py α] : Prop where
  nv : ∀ {κ : Cc} {x : α} {H : Hp} {v : V}, Py.rep κ x H v → v ≠ .non
instance : NV Int := ⟨fun h => by rw [show _ = V.int _ from h]; exact fun q => nomatch q⟩
instance : NV Bool := ⟨fun h => by rw [show _ = V.bl _ from h]; exact fun q => nomatch q⟩
instance : NV Tx := ⟨fun h => by rw [h.1]; exact fun q => nomatch q⟩
instance {α : Type} [Py α] : NV (List α) := ⟨fun ⟨_, _, h, _⟩ => by rw [h]; exact fun q => nomatch q⟩
instance {α β : Type} [Py α] [Py β] : NV (T2 α β) := ⟨fun ⟨_, _, _, h, _⟩ => by rw [h]; exact fun q => nomatch q⟩
theorem isN_of [Py α] [NV α] {κ : Cc} {x : Option α} {H : Hp} {v : V} (h : Py.rep κ x H v) : decide (v = .non) = x.isNone := by
  cases x with
  | none => rw [show v = .non from h]; rfl
  | some y => exact decide_eq_false (NV.nv (x := y) h)
theorem g_isN [Py α] [NV α] {j : Nat} {p : Pos} {m : R (Option α)} (g : GX X EX φ a E m (zr φ)) : GX X EX φ (.Compare a [.Is] [.Constant .none j p] pos) E (m.bind fun x => .ok x.isNone) (zb φ) := fun σ Hf ad H A nb Q q er =>
  wpE_of (pe_cmp (pc_isN peS) rfl) (g σ Hf ad H A (R.bind_nb nb) _ (fun x ex v Hf' H' A' e1 e2 r => q x.isNone (by rw [ex]; rfl) _ Hf' H' A' e1 e2 (by rw [isN_of r]; rfl)) (bind_err er).1)
theorem g_notN [Py α] [NV α] {j : Nat} {p : Pos} {m : R (Option α)} (g : GX X EX φ a E m (zr φ)) : GX X EX φ (.Compare a [.IsNot] [.Constant .none j p] pos) E (m.bind fun x => .ok x.isSome) (zb φ) := fun σ Hf ad H A nb Q q er =>
  wpE_of (pe_cmp (pc_notN peS) rfl) (g σ Hf ad H A (R.bind_nb nb) _ (fun x ex v Hf' H' A' e1 e2 r => q x.isSome (by rw [ex]; rfl) _ Hf' H' A' e1 e2 (by rw [isN_of r]; cases x <;> rfl)) (bind_err er).1)
theorem t_isN [Py α] [NV α] {j : Nat} {p : Pos} {m : R (Option α)} (g : GX X EX φ a E m (zr φ)) : GT X EX φ (.Compare a [.Is] [.Constant .none j p] pos) E (m.bind fun x => .ok x.isNone) := fun σ Hf ad H A nb Q q er =>
  wpT_of (pt_cmp (pc_isN peS) rfl) (g σ Hf ad H A (R.bind_nb nb) _ (fun x ex v Hf' H' A' e1 e2 r => ⟨x.isNone, by rw [isN_of r], q x.isNone (by rw [ex]; rfl) Hf' H' A' e1 e2⟩) (bind_err er).1)
theorem t_notN [Py α] [NV α] {j : Nat} {p : Pos} {m : R (Option α)} (g : GX X EX φ a E m (zr φ)) : GT X EX φ (.Compare a [.IsNot] [.Constant .none j p] pos) E (m.bind fun x => .ok x.isSome) := fun σ Hf ad H A nb Q q er =>
  wpT_of (pt_cmp (pc_notN peS) rfl) (g σ Hf ad H A (R.bind_nb nb) _ (fun x ex v Hf' H' A' e1 e2 r => ⟨x.isSome, by rw [isN_of r]; cases x <;> rfl, q x.isSome (by rw [ex]; rfl) Hf' H' A' e1 e2⟩) (bind_err er).1)
/-! ### chains of ints -/
theorem g_chain {op op' : CmpOp} {p p' : Int → Int → Bool} {ma mb mc : R Int} (ho : OpR X (compareOp op) (rI0 fun i j => .bl (p i j))) (ho' : OpR X (compareOp op') (rI0 fun i j => .bl (p' i j))) (ga : GX X EX φ a E ma (zi φ)) (gb : GX X EX φ b E mb (zi φ)) (gc : GX X EX φ c E mc (zi φ))
    (hm : lastMarks [op, op'] [b, c] = false := by with_unfolding_all rfl) : GX X EX φ (.Compare a [op, op'] [b, c] pos) E (ma.bind fun x => mb.bind fun y => if p x y = true then mc.bind fun z => .ok (p' y z) else .ok false) (zb φ) := fun σ Hf ad H A nb Q q er => by
  have ⟨e1, e2⟩ := bind_err (P := EW φ EX) er
  refine wpE_of (pe_chain ho ho' peS peS peS hm) (ga σ Hf ad H A (R.bind_nb nb) _ (fun x ex v Hf1 H1 A1 f1 f2 r1 => ?_) e1)
  rw [ex, R.bind_ok] at nb
  refine gb σ Hf1 ad H1 A1 (R.bind_nb nb) _ (fun y ey w Hf2 H2 A2 f3 f4 r2 => ?_) (bind_err (e2 x ex)).1
  rw [ey, R.bind_ok] at nb
  refine ⟨x, y, r1, r2, p x y, rfl, ?_⟩
  have q2 : ∀ z, (if p x y = true then mc.bind fun z => .ok (p' y z) else .ok false) = .ok z → ∀ v Hf' H', At φ E σ Hf' ad H' → Ex Hf Hf' → Ex H H' → zb φ z Hf' H' v → Q v H' := fun z ez => q z (by rw [ex, R.bind_ok, ey, R.bind_ok]; exact ez)
  have er2 := (bind_err (e2 x ex)).2 y ey
  cases hc : p x y with
  | true =>
    rw [hc] at nb q2 er2
    show wpE X c σ H2 _
    refine gc σ Hf2 ad H2 A2 (R.bind_nb nb) _ (fun z ez u Hf3 H3 A3 f5 f6 r3 => ?_) (bind_err er2).1
    exact ⟨y, z, r2, r3, q2 (p' y z) (by rw [if_pos rfl, ez]; rfl) _ Hf3 H3 A3 (f1.trans (f3.trans f5)) (f2.trans (f4.trans f6)) rfl⟩
  | false =>
    rw [hc] at q2
    show Q (.bl false) H2
    exact q2 false rfl _ Hf2 H2 A2 (f1.trans f3) (f2.trans f4) rfl
theorem t_chain {op op' : CmpOp} {p p' : Int → Int → Bool} {ma mb mc : R Int} (ho : OpR X (compareOp op) (rI0 fun i j => .bl (p i j))) (ho' : OpR X (compareOp op') (rI0 fun i j => .bl (p' i j))) (ga : GX X EX φ a E ma (zi φ)) (gb : GX X EX φ b E mb (zi φ)) (gc : GX X EX φ c E mc (zi φ))
    (hm : lastMarks [op, op'] [b, c] = false := by with_unfolding_all rfl) : GT X EX φ (.Compare a [op, op'] [b, c] pos) E (ma.bind fun x => mb.bind fun y => if p x y = true then mc.bind fun z => .ok (p' y z) else .ok false) := fun σ Hf ad H A nb Q q er => by
  have ⟨e1, e2⟩ := bind_err (P := EW φ EX) er
  refine wpT_of (pt_chain ho ho' peS peS peS hm) (ga σ Hf ad H A (R.bind_nb nb) _ (fun x ex v Hf1 H1 A1 f1 f2 r1 => ?_) e1)
  rw [ex, R.bind_ok] at nb
  refine gb σ Hf1 ad H1 A1 (R.bind_nb nb) _ (fun y ey w Hf2 H2 A2 f3 f4 r2 => ?_) (bind_err (e2 x ex)).1
  rw [ey, R.bind_ok] at nb
  refine ⟨x, y, r1, r2, p x y, rfl, ?_⟩
  have q2 : ∀ z, (if p x y = true then mc.bind fun z => .ok (p' y z) else .ok false) = .ok z → ∀ Hf' H', At φ E σ Hf' ad H' → Ex Hf Hf' → Ex H H' → Q z H' := fun z ez => q z (by rw [ex, R.bind_ok, ey, R.bind_ok]; exact ez)
  have er2 := (bind_err (e2 x ex)).2 y ey
  cases hc : p x y with
  | true =>
    rw [hc] at nb q2 er2
    show wpE X c σ H2 _
    refine gc σ Hf2 ad H2 A2 (R.bind_nb nb) _ (fun z ez u Hf3 H3 A3 f5 f6 r3 => ?_) (bind_err er2).1
    exact ⟨y, z, r2, r3, _, rfl, q2 (p' y z) (by rw [if_pos rfl, ez]; rfl) Hf3 H3 A3 (f1.trans (f3.trans f5)) (f2.trans (f4.trans f6))⟩
  | false =>
    rw [hc] at q2
    show ∃ k, V.bl false = .bl k ∧ Q k H2
    exact ⟨false, rfl, q2 false rfl Hf2 H2 A2 (f1.trans f3) (f2.trans f4)⟩
end
end G

/-! G3: displays, items, slices, built-ins. -/
namespace G
open PySem L2
section
variable {X : Cx} {EX : XK} {φ : Fx} {k : Nat} {E E' : Env1} {α β γ δ : Type} {e a b c : Expr} {pos : Pos} {i : Nat} {es : List Expr}
/-! ### arguments, items -/
def GI (X : Cx) (EX : XK) (φ : Fx) (es : List Expr) (E : Env1) [Py α] (m : R (List α)) : Prop := ∀ (σ : L2.St) (Hf : Hp) (ad : Nat → Addr) (H : Hp), At φ E σ Hf ad H → m ≠ .bad → ∀ Q : List V → Hp → Prop,
  (∀ x, m = .ok x → ∀ vs Hf' H', At φ E σ Hf' ad H' → Ex Hf Hf' → Ex H H' → Its φ.κ x Hf' vs → x.length = es.length → Q vs H') → (∀ x, m = .err x → EW φ EX x) → wpA X es σ H Q
theorem i_nil [Py α] : GI X EX φ [] E (.ok ([] : List α)) := fun σ Hf ad H A nb Q q er => wpA_of pa_nil (q [] rfl [] Hf H A (Evl.Ex.refl _) (Evl.Ex.refl _) .nil rfl)
theorem i_cons [Py α] {m : R α} {ms : R (List α)} (g : GX X EX φ e E m (zr φ)) (gs : GI X EX φ es E ms) (hs : starEach (e :: es) X.env = (false, eval e X.env) :: starEach es X.env := by rfl) : GI X EX φ (e :: es) E (m.bind fun x => ms.bind fun xs => .ok (x :: xs)) := fun σ Hf ad H A nb Q q er => by
  have ⟨e1, e2⟩ := bind_err (P := EW φ EX) er
  refine wpA_of (pa_cons peS paS hs) (g σ Hf ad H A (R.bind_nb nb) _ (fun x ex v Hf1 H1 A1 f1 f2 r => ?_) e1)
  rw [ex, R.bind_ok] at nb
  exact gs σ Hf1 ad H1 A1 (R.bind_nb nb) _ (fun xs exs vs Hf2 H2 A2 f3 f4 r2 hl => q (x :: xs) (by rw [ex, R.bind_ok, exs]; rfl) _ Hf2 H2 A2 (f1.trans f3) (f2.trans f4) (.cons (Py.mono f3 r) r2) (by simp [hl])) (bind_err (e2 x ex)).1
theorem a_nil : GA X EX φ [] E (.ok ()) := fun σ Hf ad H A nb Q q er => wpA_of pa_nil (q () rfl [] Hf H A (Evl.Ex.refl _) (Evl.Ex.refl _) rfl)
theorem a_cons {A : Type} [Py α] [PyA A] {m : R α} {ms : R A} (g : GX X EX φ e E m (zr φ)) (gs : GA X EX φ es E ms) (hs : starEach (e :: es) X.env = (false, eval e X.env) :: starEach es X.env := by rfl) : GA X EX φ (e :: es) E (m.bind fun x => ms.bind fun xs => .ok (x, xs)) := fun σ Hf ad H A nb Q q er => by
  have ⟨e1, e2⟩ := bind_err (P := EW φ EX) er
  refine wpA_of (pa_cons peS paS hs) (g σ Hf ad H A (R.bind_nb nb) _ (fun x ex v Hf1 H1 A1 f1 f2 r => ?_) e1)
  rw [ex, R.bind_ok] at nb
  exact gs σ Hf1 ad H1 A1 (R.bind_nb nb) _ (fun xs exs vs Hf2 H2 A2 f3 f4 r2 => q (x, xs) (by rw [ex, R.bind_ok, exs]; rfl) _ Hf2 H2 A2 (f1.trans f3) (f2.trans f4) ⟨v, vs, rfl, Py.mono f3 r, r2⟩) (bind_err (e2 x ex)).1
/-- arguments that are only read at the call -/
theorem o_nil : GO X EX φ [] E (.ok ()) := fun σ Hf ad H A nb Q q er => wpA_of pa_nil (q () rfl [] Hf H A (Evl.Ex.refl _) (Evl.Ex.refl _) rfl)
theorem o_cons {A : Type} [Py α] [PyA A] {ρ : RR α} {m : R α} {ms : R A} (u : RR.Up ρ) (rd : RR.Rd φ ρ) (g : GX X EX φ e E m ρ) (gs : GO X EX φ es E ms) (hs : starEach (e :: es) X.env = (false, eval e X.env) :: starEach es X.env := by rfl) : GO X EX φ (e :: es) E (m.bind fun x => ms.bind fun xs => .ok (x, xs)) := fun σ Hf ad H A nb Q q er => by
  have ⟨e1, e2⟩ := bind_err (P := EW φ EX) er
  refine wpA_of (pa_cons peS paS hs) (g σ Hf ad H A (R.bind_nb nb) _ (fun x ex v Hf1 H1 A1 f1 f2 r => ?_) e1)
  rw [ex, R.bind_ok] at nb
  exact gs σ Hf1 ad H1 A1 (R.bind_nb nb) _ (fun xs exs vs Hf2 H2 A2 f3 f4 r2 => q (x, xs) (by rw [ex, R.bind_ok, exs]; rfl) _ Hf2 H2 A2 (f1.trans f3) (f2.trans f4) ⟨v, vs, rfl, rd x Hf2 H2 v A2.ef (u x _ _ v _ _ f3 f4 r), r2⟩) (bind_err (e2 x ex)).1
theorem g_list [Py α] {m : R (List α)} (g : GI X EX φ es E m) (hl : es.length ≤ 1000 := by decide) : GN X EX φ (.List es pos) E m := fun σ Hf ad H A nb Q q er =>
  wpE_of (pe_lst paS) (g σ Hf ad H A nb _ (fun x ex vs Hf' H' A' e1 e2 its hx => ⟨by rw [← Paired.length its, hx]; exact Nat.le_trans hl (by decide), fun p hp =>
    q x ex p vs Hf' _ (A'.up (Evl.Ex.new hp)) e1 (e2.trans (Evl.Ex.new hp)) (Evl.fresh_back A'.ef hp) (A'.off hp) upd_same its⟩) er)
theorem g_tup [Py α] {j : Nat} {m : R (List α)} (g : GI X EX φ es E m) (hl : es.length ≤ 1000 := by decide) : GX X EX φ (.Tuple es j pos) E (m.bind fun l => .ok (Tp.mk l)) (zr φ) := fun σ Hf ad H A nb Q q er =>
  wpE_of (pe_tup paS) (g σ Hf ad H A (R.bind_nb nb) _ (fun x ex vs Hf' H' A' e1 e2 its hx => ⟨by rw [← Paired.length its, hx]; exact Nat.le_trans hl (by decide), fun p hp =>
    q _ (by rw [ex]; rfl) _ _ _ (A'.new hp) (e1.trans (upd_ef A' hp)) (e2.trans (Evl.Ex.new hp)) ⟨p, vs, rfl, SqT.of upd_same, Its.mono (upd_ef A' hp) its⟩⟩) (bind_err er).1)
theorem g_t2 [Py α] [Py β] {j : Nat} {ma : R α} {mb : R β} (ga : GX X EX φ a E ma (zr φ)) (gb : GX X EX φ b E mb (zr φ))
    (h1 : starEach [a, b] X.env = (false, eval a X.env) :: starEach [b] X.env := by rfl) (h2 : starEach [b] X.env = (false, eval b X.env) :: starEach [] X.env := by rfl) : GX X EX φ (.Tuple [a, b] j pos) E (ma.bind fun x => mb.bind fun y => .ok (T2.mk x y)) (zr φ) := fun σ Hf ad H A nb Q q er => by
  have ⟨e1, e2⟩ := bind_err (P := EW φ EX) er
  refine wpE_of (pe_tup (pa_cons peS (pa_cons peS pa_nil h2) h1)) (ga σ Hf ad H A (R.bind_nb nb) _ (fun x ex v Hf1 H1 A1 f1 f2 r => ?_) e1)
  rw [ex, R.bind_ok] at nb
  refine gb σ Hf1 ad H1 A1 (R.bind_nb nb) _ (fun y ey w Hf2 H2 A2 f3 f4 r2 => ?_) (bind_err (e2 x ex)).1
  refine ⟨by show 2 ≤ sizeLine; decide, fun p hp => q (T2.mk x y) (by rw [ex, R.bind_ok, ey]; rfl) _ _ _ (A2.new hp) (f1.trans (f3.trans (upd_ef A2 hp))) (f2.trans (f4.trans (Evl.Ex.new hp))) ⟨p, v, w, rfl, SqT.of upd_same, Py.mono (f3.trans (upd_ef A2 hp)) r, Py.mono (upd_ef A2 hp) r2⟩⟩
theorem g_t3 [Py α] [Py β] [Py γ] {j : Nat} {ma : R α} {mb : R β} {mc : R γ} (ga : GX X EX φ a E ma (zr φ)) (gb : GX X EX φ b E mb (zr φ)) (gc : GX X EX φ c E mc (zr φ))
    (h1 : starEach [a, b, c] X.env = (false, eval a X.env) :: starEach [b, c] X.env := by rfl) (h2 : starEach [b, c] X.env = (false, eval b X.env) :: starEach [c] X.env := by rfl) (h3 : starEach [c] X.env = (false, eval c X.env) :: starEach [] X.env := by rfl) :
    GX X EX φ (.Tuple [a, b, c] j pos) E (ma.bind fun x => mb.bind fun y => mc.bind fun z => .ok (T3.mk x y z)) (zr φ) := fun σ Hf ad H A nb Q q er => by
  have ⟨e1, e2⟩ := bind_err (P := EW φ EX) er
  refine wpE_of (pe_tup (pa_cons peS (pa_cons peS (pa_cons peS pa_nil h3) h2) h1)) (ga σ Hf ad H A (R.bind_nb nb) _ (fun x ex v Hf1 H1 A1 f1 f2 r => ?_) e1)
  rw [ex, R.bind_ok] at nb
  refine gb σ Hf1 ad H1 A1 (R.bind_nb nb) _ (fun y ey w Hf2 H2 A2 f3 f4 r2 => ?_) (bind_err (e2 x ex)).1
  rw [ey, R.bind_ok] at nb
  refine gc σ Hf2 ad H2 A2 (R.bind_nb nb) _ (fun z ez u Hf3 H3 A3 f5 f6 r3 => ?_) (bind_err ((bind_err (e2 x ex)).2 y ey)).1
  refine ⟨by show 3 ≤ sizeLine; decide, fun p hp => q (T3.mk x y z) (by rw [ex, R.bind_ok, ey, R.bind_ok, ez]; rfl) _ _ _ (A3.new hp) (f1.trans (f3.trans (f5.trans (upd_ef A3 hp)))) (f2.trans (f4.trans (f6.trans (Evl.Ex.new hp))))
    ⟨p, v, w, u, rfl, SqT.of upd_same, Py.mono (f3.trans (f5.trans (upd_ef A3 hp))) r, Py.mono (f5.trans (upd_ef A3 hp)) r2, Py.mono (upd_ef A3 hp) r3⟩⟩
/-! ### items -/
def ixR (xs : List α) (i : Int) : R α := match atI xs i with | some x => .ok x | none => .bad
theorem its_get [Py α] {κ : Cc} {H : Hp} : ∀ {xs : List α} {vs : List V} {j : Nat} {x : α}, Its κ xs H vs → xs[j]? = some x → ∃ v, vs[j]? = some v ∧ Py.rep κ x H v
  | _, _, _, _, .nil, h => by simp at h
  | _, _, 0, _, .cons h _, e => ⟨_, rfl, by simp at e; subst e; exact h⟩
  | _, _, j + 1, _, .cons _ t, e => by
    obtain ⟨v, h1, h2⟩ := its_get (j := j) t (by simpa using e)
    exact ⟨v, by simpa using h1, h2⟩
theorem its_at [Py α] {κ : Cc} {H : Hp} {xs : List α} {vs : List V} {i : Int} {x : α} (h : Its κ xs H vs) (e : atI xs i = some x) : ∃ v, atI vs i = some v ∧ Py.rep κ x H v := by
  unfold atI at e ⊢
  rw [← Paired.length h]
  cases q : ixN xs.length i with
  | none => rw [q] at e; cases e
  | some j => rw [q] at e; exact its_get h e
theorem ixR_some {xs : List α} {i : Int} {x : α} (h : atI xs i = some x) : ixR xs i = .ok x := by unfold ixR; rw [h]
theorem ixR_nb {xs : List α} {i : Int} (h : ixR xs i ≠ .bad) : ∃ x, atI xs i = some x := by
  cases e : atI xs i with
  | none => exact absurd (by unfold ixR; rw [e]) h
  | some x => exact ⟨x, rfl⟩
theorem ixR_ne {xs : List α} {i : Int} (z : Xn) : ixR xs i ≠ .err z := by unfold ixR; split <;> exact fun q => nomatch q
theorem og_ix [Py α] (kK : φ.κ.K = X.K) : OG φ (rIxL X.K) (lr φ) (zi φ) (zr φ) (fun (xs : List α) i => ixR xs i) := fun E σ Hf ad H xs i v w A ⟨p, vs, h1, h2, h3⟩ r2 nb Q q => by
  obtain ⟨x, e⟩ := ixR_nb nb
  obtain ⟨u, hu, ru⟩ := its_at h3 e
  exact ⟨p, vs, i, u, h1, r2, kK ▸ h2, hu, q x (ixR_some e) u Hf H A (Evl.Ex.refl _) (Evl.Ex.refl _) ru⟩
theorem g_ix [Py α] {ma : R (List α)} {mb : R Int} (L : Lv X EX φ k) (ga : GX X EX φ a E ma (lr φ)) (gb : GX X EX φ b E mb (zi φ)) (hs : PlainIx b := by intro _ _; rfl) : GX X EX φ (.Subscript a b pos) E (ma.bind fun xs => mb.bind fun i => ixR xs i) (zr φ) :=
  g_tOp (pe_ix ix_list peS peS hs) lr_up (og_ix L.kK) (fun _ _ _ => ixR_ne _) ga gb
def ixT (z : Tx) (i : Int) : R Tx := match atI z i with | some c => .ok [c] | none => .bad
theorem ixT_some {z : Tx} {i : Int} {c : Nat} (h : atI z i = some c) : ixT z i = .ok [c] := by unfold ixT; rw [h]
theorem ixT_nb {z : Tx} {i : Int} (h : ixT z i ≠ .bad) : ∃ c, atI z i = some c := by
  cases e : atI z i with
  | none => exact absurd (by unfold ixT; rw [e]) h
  | some x => exact ⟨x, rfl⟩
theorem ixT_ne {z : Tx} {i : Int} (x : Xn) : ixT z i ≠ .err x := by unfold ixT; split <;> exact fun q => nomatch q
theorem mem_at {xs : List α} {i : Int} {x : α} (h : atI xs i = some x) : x ∈ xs := by
  unfold atI at h
  cases q : ixN xs.length i with
  | none => rw [q] at h; cases h
  | some j => rw [q] at h; exact List.mem_of_getElem? h
theorem tx_len (z : Tx) : (tx z).length = z.length := by simp [tx, Str.length]
theorem tx_list (z : Tx) : (tx z).cps.toList = z := rfl
theorem og_ixT : OG φ rIxS (zr φ) (zi φ) (zr φ) (fun (z : Tx) i => ixT z i) := fun E σ Hf ad H z i v w A ⟨r1, r2⟩ r3 nb Q q => by
  obtain ⟨c, e⟩ := ixT_nb nb
  refine ⟨tx z, i, c, r1, r3, by rw [tx_len]; exact r2.1, e, q [c] (ixT_some e) _ Hf H A (Evl.Ex.refl _) (Evl.Ex.refl _) ⟨rfl, by show 1 ≤ sizeLine; decide, fun d hd => ?_⟩⟩
  rw [List.mem_singleton.mp hd]
  exact r2.2 c (mem_at e)
theorem g_ixT {ma : R Tx} {mb : R Int} (ga : GX X EX φ a E ma (zr φ)) (gb : GX X EX φ b E mb (zi φ)) (hs : PlainIx b := by intro _ _; rfl) : GX X EX φ (.Subscript a b pos) E (ma.bind fun xs => mb.bind fun i => ixT xs i) (zr φ) :=
  g_tOp (pe_ix ix_str peS peS hs) zr_up og_ixT (fun _ _ _ => ixT_ne _) ga gb
theorem og_ixP [Py α] (kK : φ.κ.K = X.K) : OG φ (rIxT X.K) (zr φ) (zi φ) (zr φ) (fun (xs : Tp α) i => ixR xs.l i) := fun E σ Hf ad H xs i v w A ⟨p, vs, h1, h2, h3⟩ r2 nb Q q => by
  obtain ⟨x, e⟩ := ixR_nb nb
  obtain ⟨u, hu, ru⟩ := its_at h3 e
  exact ⟨p, vs, i, u, h1, r2, kK ▸ Evl.ex_t A.ef h2, hu, q x (ixR_some e) u Hf H A (Evl.Ex.refl _) (Evl.Ex.refl _) ru⟩
theorem g_ixP [Py α] {ma : R (Tp α)} {mb : R Int} (L : Lv X EX φ k) (ga : GX X EX φ a E ma (zr φ)) (gb : GX X EX φ b E mb (zi φ)) (hs : PlainIx b := by intro _ _; rfl) : GX X EX φ (.Subscript a b pos) E (ma.bind fun xs => mb.bind fun i => ixR xs.l i) (zr φ) :=
  g_tOp (pe_ix ix_tup peS peS hs) zr_up (og_ixP L.kK) (fun _ _ _ => ixR_ne _) ga gb
/-- t[0], t[1], t[2] of a pair, a triple -/
theorem g_fst [Py α] [Py β] {j : Nat} {p : Pos} {m : R (T2 α β)} (L : Lv X EX φ k) (g : GX X EX φ a E m (zr φ)) (hs : PlainIx (.Constant (.int 0) j p) := by intro _ _; rfl) : GX X EX φ (.Subscript a (.Constant (.int 0) j p) pos) E (m.bind fun t => .ok t.a) (zr φ) := fun σ Hf ad H A nb Q q er =>
  wpE_of (pe_ix ix_tup peS pe_int hs) (g σ Hf ad H A (R.bind_nb nb) _ (fun x ex v Hf' H' A' e1 e2 ⟨t, v1, v2, h1, h2, h3, h4⟩ => ⟨t, [v1, v2], 0, v1, h1, rfl, L.kK ▸ Evl.ex_t A'.ef h2, rfl, q x.a (by rw [ex]; rfl) v1 Hf' H' A' e1 e2 h3⟩) (bind_err er).1)
theorem g_snd [Py α] [Py β] {j : Nat} {p : Pos} {m : R (T2 α β)} (L : Lv X EX φ k) (g : GX X EX φ a E m (zr φ)) (hs : PlainIx (.Constant (.int 1) j p) := by intro _ _; rfl) : GX X EX φ (.Subscript a (.Constant (.int 1) j p) pos) E (m.bind fun t => .ok t.b) (zr φ) := fun σ Hf ad H A nb Q q er =>
  wpE_of (pe_ix ix_tup peS pe_int hs) (g σ Hf ad H A (R.bind_nb nb) _ (fun x ex v Hf' H' A' e1 e2 ⟨t, v1, v2, h1, h2, h3, h4⟩ => ⟨t, [v1, v2], 1, v2, h1, rfl, L.kK ▸ Evl.ex_t A'.ef h2, rfl, q x.b (by rw [ex]; rfl) v2 Hf' H' A' e1 e2 h4⟩) (bind_err er).1)
/-! ### slices -/
def cutL (xs : List α) (lo hi : Option Int) : List α := (xs.drop (HT.sIx xs.length 0 lo)).take (HT.sIx xs.length xs.length hi - HT.sIx xs.length 0 lo)
theorem its_drop [Py α] {κ : Cc} {H : Hp} : ∀ {xs : List α} {vs : List V} (n : Nat), Its κ xs H vs → Its κ (xs.drop n) H (vs.drop n)
  | _, _, 0, h => h
  | _, _, _ + 1, .nil => .nil
  | _, _, n + 1, .cons _ t => its_drop n t
theorem its_take [Py α] {κ : Cc} {H : Hp} : ∀ {xs : List α} {vs : List V} (n : Nat), Its κ xs H vs → Its κ (xs.take n) H (vs.take n)
  | _, _, 0, _ => .nil
  | _, _, _ + 1, .nil => .nil
  | _, _, n + 1, .cons h t => .cons h (its_take n t)
theorem its_cut [Py α] {κ : Cc} {H : Hp} {xs : List α} {vs : List V} {lo hi : Option Int} (h : Its κ xs H vs) : Its κ (cutL xs lo hi) H (cutV vs lo hi) := by
  unfold cutL cutV
  rw [← Paired.length h]
  exact its_take _ (its_drop _ h)
/-- a part of a slice -/
def GP (X : Cx) (EX : XK) (φ : Fx) (e : Option Expr) (E : Env1) (m : R (Option Int)) : Prop := ∃ t : TO, PO X e t ∧ ∀ (σ : L2.St) (Hf : Hp) (ad : Nat → Addr) (H : Hp), At φ E σ Hf ad H → m ≠ .bad → ∀ Q : Option Int → Hp → Prop,
  (∀ x, m = .ok x → ∀ Hf' H', At φ E σ Hf' ad H' → Ex Hf Hf' → Ex H H' → Q x H') → (∀ x, m = .err x → EW φ EX x) → t σ H Q
theorem p_none : GP X EX φ none E (.ok none) := ⟨_, po_none, fun σ Hf ad H A nb Q q er => q none rfl Hf H A (Evl.Ex.refl _) (Evl.Ex.refl _)⟩
theorem p_some {m : R Int} (g : GX X EX φ e E m (zi φ)) : GP X EX φ (some e) E (m.bind fun i => .ok (some i)) := ⟨_, po_some peS, fun σ Hf ad H A nb Q q er =>
  g σ Hf ad H A (R.bind_nb nb) _ (fun x ex v Hf' H' A' e1 e2 r => ⟨x, r, q (some x) (by rw [ex]; rfl) Hf' H' A' e1 e2⟩) (bind_err er).1⟩
theorem g_sl [Py α] {lo hi : Option Expr} {p2 : Pos} {ma : R (List α)} {ml mh : R (Option Int)} (L : Lv X EX φ k) (ga : GX X EX φ a E ma (lr φ)) (gl : GP X EX φ lo E ml) (gh : GP X EX φ hi E mh) : GN X EX φ (.Subscript a (.Slice lo hi none p2) pos) E (ma.bind fun xs => ml.bind fun l => mh.bind fun h => .ok (cutL xs l h)) := by
  obtain ⟨tl, pl, hl⟩ := gl
  obtain ⟨th, ph, hh⟩ := gh
  intro σ Hf ad H A nb Q q er
  have ⟨e1, e2⟩ := bind_err (P := EW φ EX) er
  refine wpE_of (pe_slice sl_list peS pl ph) (ga σ Hf ad H A (R.bind_nb nb) _ (fun x ex v Hf1 H1 A1 f1 f2 r1 => ?_) e1)
  rw [ex, R.bind_ok] at nb
  refine hl σ Hf1 ad H1 A1 (R.bind_nb nb) _ (fun y ey Hf2 H2 A2 f3 f4 => ?_) (bind_err (e2 x ex)).1
  rw [ey, R.bind_ok] at nb
  refine hh σ Hf2 ad H2 A2 (R.bind_nb nb) _ (fun z ez Hf3 H3 A3 f5 f6 => ?_) (bind_err ((bind_err (e2 x ex)).2 y ey)).1
  obtain ⟨p, vs, h1, h2, h3⟩ := r1
  refine ⟨p, vs, h1, L.kK ▸ Evl.ex_l (f4.trans f6) h2, fun n hn => q _ (by rw [ex, R.bind_ok, ey, R.bind_ok, ez]; rfl) n _ Hf3 _ (A3.up (Evl.Ex.new hn)) (f1.trans (f3.trans f5)) (f2.trans (f4.trans (f6.trans (Evl.Ex.new hn)))) (Evl.fresh_back A3.ef hn) (A3.off hn) upd_same (its_cut (Its.mono (f3.trans f5) h3))⟩
theorem cutS_tx (z : Tx) (lo hi : Option Int) : cutS (tx z) lo hi = tx (cutL z lo hi) := by
  unfold cutS cutL
  rw [tx_len]
  rfl
theorem cutL_ok {z : Tx} (lo hi : Option Int) (h : TxOk z) : TxOk (cutL z lo hi) := by
  refine ⟨Nat.le_trans ?_ h.1, fun c hc => h.2 c ?_⟩
  · unfold cutL; rw [List.length_take, List.length_drop]; omega
  · exact List.mem_of_mem_drop (List.mem_of_mem_take hc)
theorem g_slT {lo hi : Option Expr} {p2 : Pos} {ma : R Tx} {ml mh : R (Option Int)} (ga : GX X EX φ a E ma (zr φ)) (gl : GP X EX φ lo E ml) (gh : GP X EX φ hi E mh) : GX X EX φ (.Subscript a (.Slice lo hi none p2) pos) E (ma.bind fun xs => ml.bind fun l => mh.bind fun h => .ok (cutL xs l h)) (zr φ) := by
  obtain ⟨tl, pl, hl⟩ := gl
  obtain ⟨th, ph, hh⟩ := gh
  intro σ Hf ad H A nb Q q er
  have ⟨e1, e2⟩ := bind_err (P := EW φ EX) er
  refine wpE_of (pe_slice sl_str peS pl ph) (ga σ Hf ad H A (R.bind_nb nb) _ (fun x ex v Hf1 H1 A1 f1 f2 r1 => ?_) e1)
  rw [ex, R.bind_ok] at nb
  refine hl σ Hf1 ad H1 A1 (R.bind_nb nb) _ (fun y ey Hf2 H2 A2 f3 f4 => ?_) (bind_err (e2 x ex)).1
  rw [ey, R.bind_ok] at nb
  refine hh σ Hf2 ad H2 A2 (R.bind_nb nb) _ (fun z ez Hf3 H3 A3 f5 f6 => ?_) (bind_err ((bind_err (e2 x ex)).2 y ey)).1
  refine ⟨tx x, r1.1, by rw [tx_len]; exact r1.2.1, ?_⟩
  rw [cutS_tx]
  exact q _ (by rw [ex, R.bind_ok, ey, R.bind_ok, ez]; rfl) _ Hf3 H3 A3 (f1.trans (f3.trans f5)) (f2.trans (f4.trans f6)) ⟨rfl, cutL_ok _ _ r1.2⟩
/-! ### +, * of lists and texts -/
theorem its_app [Py α] {κ : Cc} {H : Hp} : ∀ {xs ys : List α} {vs ws : List V}, Its κ xs H vs → Its κ ys H ws → Its κ (xs ++ ys) H (vs ++ ws)
  | _, _, _, _, .nil, h => h
  | _, _, _, _, .cons h t, s => .cons h (its_app t s)
theorem its_rep [Py α] {κ : Cc} {H : Hp} {xs : List α} {vs : List V} (h : Its κ xs H vs) : ∀ n : Nat, Its κ (List.replicate n xs).flatten H (List.replicate n vs).flatten
  | 0 => .nil
  | n + 1 => by
    rw [List.replicate_succ, List.flatten_cons, List.replicate_succ, List.flatten_cons]
    exact its_app h (its_rep h n)
theorem g_cat [Py α] {ma mb : R (List α)} (ga : GX X EX φ a E ma (lw φ)) (gb : GX X EX φ b E mb (lw φ)) : GN X EX φ (.BinOp a .Add b pos) E (ma.bind fun x => mb.bind fun y => ifR (x.length + y.length ≤ sizeLine) (x ++ y)) := fun σ Hf ad H A nb Q q er => by
  have ⟨e1, e2⟩ := bind_err (P := EW φ EX) er
  refine wpE_of (pe_op op_cat peS peS) (ga σ Hf ad H A (R.bind_nb nb) _ (fun x ex v Hf1 H1 A1 f1 f2 r1 => ?_) e1)
  rw [ex, R.bind_ok] at nb
  refine gb σ Hf1 ad H1 A1 (R.bind_nb nb) _ (fun y ey w Hf2 H2 A2 f3 f4 r2 => ?_) (bind_err (e2 x ex)).1
  rw [ey, R.bind_ok] at nb
  obtain ⟨hc, he⟩ := ifR_nb nb
  obtain ⟨p, vs, h1, h2, h3⟩ := r1
  obtain ⟨p', vs', h1', h2', h3'⟩ := r2
  refine ⟨p, p', vs, vs', h1, h1', f4 _ _ h2, h2', by rw [← Paired.length h3, ← Paired.length h3']; exact hc, fun n hn => q _ (by rw [ex, R.bind_ok, ey, R.bind_ok]; exact he) n _ Hf2 _ (A2.up (Evl.Ex.new hn)) (f1.trans f3) (f2.trans (f4.trans (Evl.Ex.new hn))) (Evl.fresh_back A2.ef hn) (A2.off hn) upd_same (its_app (Its.mono f3 h3) h3')⟩
theorem g_rep [Py α] {ma : R (List α)} {mb : R Int} (ga : GX X EX φ a E ma (lw φ)) (gb : GX X EX φ b E mb (zi φ)) : GN X EX φ (.BinOp a .Mult b pos) E (ma.bind fun x => mb.bind fun y => ifR (-(2 ^ 63) ≤ y ∧ y < 2 ^ 63 ∧ x.length * y.toNat ≤ sizeLine) (List.replicate y.toNat x).flatten) := fun σ Hf ad H A nb Q q er => by
  have ⟨e1, e2⟩ := bind_err (P := EW φ EX) er
  refine wpE_of (pe_op op_rep peS peS) (ga σ Hf ad H A (R.bind_nb nb) _ (fun x ex v Hf1 H1 A1 f1 f2 r1 => ?_) e1)
  rw [ex, R.bind_ok] at nb
  refine gb σ Hf1 ad H1 A1 (R.bind_nb nb) _ (fun y ey w Hf2 H2 A2 f3 f4 r2 => ?_) (bind_err (e2 x ex)).1
  rw [ey, R.bind_ok] at nb
  obtain ⟨⟨hc1, hc2, hc3⟩, he⟩ := ifR_nb nb
  obtain ⟨p, vs, h1, h2, h3⟩ := r1
  refine ⟨p, y, vs, h1, r2, f4 _ _ h2, hc1, hc2, by rw [← Paired.length h3]; exact hc3, fun n hn => q _ (by rw [ex, R.bind_ok, ey, R.bind_ok]; exact he) n _ Hf2 _ (A2.up (Evl.Ex.new hn)) (f1.trans f3) (f2.trans (f4.trans (Evl.Ex.new hn))) (Evl.fresh_back A2.ef hn) (A2.off hn) upd_same (its_rep (Its.mono f3 h3) _)⟩
theorem tx_app (x y : Tx) : tx x ++ tx y = tx (x ++ y) := by
  apply TL.ext_tl
  rw [TL.tl_append]
  rfl
theorem og_addS : OG φ (fun x y H Q => ∃ i j, x = .str i ∧ y = .str j ∧ i.length + j.length ≤ sizeLine ∧ Q (.str (i ++ j)) H) (zr φ) (zr φ) (zr φ) (fun (x y : Tx) => ifR (x.length + y.length ≤ sizeLine) (x ++ y)) := fun E σ Hf ad H x y v w A r1 r2 nb Q q => by
  obtain ⟨hc, he⟩ := ifR_nb nb
  refine ⟨tx x, tx y, r1.1, r2.1, by rw [tx_len, tx_len]; exact hc, ?_⟩
  rw [tx_app]
  refine q _ he _ Hf H A (Evl.Ex.refl _) (Evl.Ex.refl _) ⟨rfl, by rw [List.length_append]; exact hc, fun c hc => ?_⟩
  rcases List.mem_append.mp hc with h | h
  · exact r1.2.2 c h
  · exact r2.2.2 c h
theorem g_addS {ma mb : R Tx} (ga : GX X EX φ a E ma (zr φ)) (gb : GX X EX φ b E mb (zr φ)) : GX X EX φ (.BinOp a .Add b pos) E (ma.bind fun x => mb.bind fun y => ifR (x.length + y.length ≤ sizeLine) (x ++ y)) (zr φ) :=
  g_tOp (pe_op op_add_str peS peS) zr_up og_addS (fun _ _ _ => ifR_ne _) ga gb
end
end G

/-! G4: calls, statements, loops, defs. -/
namespace G
open PySem L2
section
variable {X : Cx} {EX : XK} {φ : Fx} {k : Nat} {E E' : Env1} {α β γ δ ρ : Type} {e a b c : Expr} {pos : Pos} {i : Nat} {es : List Expr}
/-! ### calls of built-ins -/
def OU (φ : Fx) (r : List V → Hp → VK → Prop) (ρ1 : RR α) (ρ2 : RR γ) (f : α → R γ) : Prop := ∀ (E : Env1) (σ : L2.St) (Hf : Hp) (ad : Nat → Addr) (H : Hp) (x : α) (v : V), At φ E σ Hf ad H → ρ1 x Hf H v → f x ≠ .bad → ∀ Q : VK,
  (∀ z, f x = .ok z → ∀ u Hf' H', At φ E σ Hf' ad H' → Ex Hf Hf' → Ex H H' → ρ2 z Hf' H' u → Q u H') → r [v] H Q
theorem g_b1 {r : List V → Hp → VK → Prop} {ρ1 : RR α} {ρ2 : RR γ} {m : R α} {f : α → R γ} (p : PE X e (tCB r (tCons (wpE X a) tNil))) (og : OU φ r ρ1 ρ2 f) (ne : ∀ x z, f x ≠ .err z) (g : GX X EX φ a E m ρ1) : GX X EX φ e E (m.bind f) ρ2 := fun σ Hf ad H A nb Q q er => by
  refine wpE_of p (g σ Hf ad H A (R.bind_nb nb) _ (fun x ex v Hf1 H1 A1 f1 f2 r => ?_) (bind_err er).1)
  rw [ex, R.bind_ok] at nb
  exact og E σ Hf1 ad H1 x v A1 r nb Q fun z ez u Hf' H' A' g1 g2 r3 => q z (by rw [ex, R.bind_ok]; exact ez) u Hf' H' A' (f1.trans g1) (f2.trans g2) r3
/-- the call of a built-in function, of a built-in class, with one argument -/
theorem pcb {x : Str} {p : Pos} {id : String} {r : List V → Hp → VK → Prop} (hc : CallR X (.builtin id) r) (hm : X.mg x = none) (hg : Gl X x := by rfl) (hv : bootBuiltins x = some (.builtin id) := by decide +kernel) (hn : x ≠ "__name__" := by decide) (hdb : (x == ("__debug__" : Str)) = false := by decide)
    (h1 : starEach [a] X.env = (false, eval a X.env) :: starEach [] X.env := by rfl) (hpl : (backTo pos (starEach [] X.env)).any (·.1) = false := by rfl) : PE X (.Call (.Name x p) [a] [] pos) (tCB r (tCons (wpE X a) tNil)) := pe_callB hc hg hm hv (pa_cons peS pa_nil h1) hn hdb h1 hpl
theorem pct {x : Str} {p : Pos} {T : String} {r : List V → Hp → VK → Prop} (hc : CallR X (.type T) r) (hm : X.mg x = none) (hg : Gl X x := by rfl) (hv : bootBuiltins x = some (.type T) := by decide +kernel) (hn : x ≠ "__name__" := by decide) (hdb : (x == ("__debug__" : Str)) = false := by decide)
    (h1 : starEach [a] X.env = (false, eval a X.env) :: starEach [] X.env := by rfl) (hpl : (backTo pos (starEach [] X.env)).any (·.1) = false := by rfl) : PE X (.Call (.Name x p) [a] [] pos) (tCB r (tCons (wpE X a) tNil)) := pe_callTy hc hg hm hv (pa_cons peS pa_nil h1) hn hdb h1 hpl
theorem pcb2 {x : Str} {p : Pos} {id : String} {r : List V → Hp → VK → Prop} (hc : CallR X (.builtin id) r) (hm : X.mg x = none) (hg : Gl X x := by rfl) (hv : bootBuiltins x = some (.builtin id) := by decide +kernel) (hn : x ≠ "__name__" := by decide) (hdb : (x == ("__debug__" : Str)) = false := by decide)
    (h1 : starEach [a, b] X.env = (false, eval a X.env) :: starEach [b] X.env := by rfl) (h2 : starEach [b] X.env = (false, eval b X.env) :: starEach [] X.env := by rfl) (hpl : (backTo pos (starEach [b] X.env)).any (·.1) = false := by rfl) : PE X (.Call (.Name x p) [a, b] [] pos) (tCB r (tCons (wpE X a) (tCons (wpE X b) tNil))) := pe_callB hc hg hm hv (pa_cons peS (pa_cons peS pa_nil h2) h1) hn hdb h1 hpl
theorem g_b2 {r : List V → Hp → VK → Prop} {ρ1 : RR α} {ρ2 : RR β} {ρ3 : RR γ} {ma : R α} {mb : R β} {f : α → β → R γ} (p : PE X e (tCB r (tCons (wpE X a) (tCons (wpE X b) tNil)))) (u1 : RR.Up ρ1) (og : OG φ (fun x y H Q => r [x, y] H Q) ρ1 ρ2 ρ3 f) (ne : ∀ x y z, f x y ≠ .err z)
    (ga : GX X EX φ a E ma ρ1) (gb : GX X EX φ b E mb ρ2) : GX X EX φ e E (ma.bind fun x => mb.bind fun y => f x y) ρ3 := fun σ Hf ad H A nb Q q er => by
  have ⟨e1, e2⟩ := bind_err (P := EW φ EX) er
  refine wpE_of p ?_
  refine ga σ Hf ad H A (R.bind_nb nb) _ (fun x ex v Hf1 H1 A1 f1 f2 r1 => ?_) e1
  rw [ex, R.bind_ok] at nb
  refine gb σ Hf1 ad H1 A1 (R.bind_nb nb) _ (fun y ey w Hf2 H2 A2 f3 f4 r2 => ?_) (bind_err (e2 x ex)).1
  rw [ey, R.bind_ok] at nb
  refine og E σ Hf2 ad H2 x y v w A2 (u1 x Hf1 H1 v Hf2 H2 f3 f4 r1) r2 nb Q (fun z ez u Hf' H' A' g1 g2 r3 => q z ?_ u Hf' H' A' (f1.trans (f3.trans g1)) (f2.trans (f4.trans g2)) r3)
  rw [ex, R.bind_ok, ey, R.bind_ok]
  exact ez
theorem ou_0 [Py γ] {r : List V → Hp → VK → Prop} {ρ1 : RR α} {f : α → γ} (h : ∀ x Hf H v, Ex Hf H → ρ1 x Hf H v → ∀ Q : VK, (∀ u, Py.rep φ.κ (f x) Hf u → Q u H) → r [v] H Q) : OU φ r ρ1 (zr φ) (fun x => .ok (f x)) := fun E σ Hf ad H x v A r1 nb Q q =>
  h x Hf H v A.ef r1 Q fun u hu => q _ rfl u Hf H A (Evl.Ex.refl _) (Evl.Ex.refl _) hu
theorem g_len [Py α] {m : R (List α)} (L : Lv X EX φ k) (P : PE X e (tCB (fun xs H Q => ∃ p ys, xs = [.ref p] ∧ (SqL X.K H p ys ∨ SqT X.K H p ys) ∧ Q (.int ys.length) H) (tCons (wpE X a) tNil))) (g : GX X EX φ a E m (lr φ)) : GX X EX φ e E (m.bind fun xs => .ok (xs.length : Int)) (zi φ) :=
  g_b1 P (ou_0 fun x Hf H v ef ⟨p, vs, h1, h2, h3⟩ Q q => ⟨p, vs, by rw [h1], .inl (L.kK ▸ h2), q _ (by rw [← Paired.length h3]; rfl)⟩) (fun _ _ q => nomatch q) g
theorem g_lenT {m : R Tx} (P : PE X e (tCB (fun xs H Q => ∃ z, xs = [.str z] ∧ z.length ≤ sizeLine ∧ Q (.int z.length) H) (tCons (wpE X a) tNil))) (g : GX X EX φ a E m (zr φ)) : GX X EX φ e E (m.bind fun xs => .ok (xs.length : Int)) (zi φ) :=
  g_b1 P (ou_0 fun x Hf H v ef ⟨h1, h2⟩ Q q => ⟨tx x, by rw [h1], by rw [tx_len]; exact h2.1, q _ (by rw [tx_len]; rfl)⟩) (fun _ _ q => nomatch q) g
theorem g_lenP [Py α] {m : R (Tp α)} (L : Lv X EX φ k) (P : PE X e (tCB (fun xs H Q => ∃ p ys, xs = [.ref p] ∧ (SqL X.K H p ys ∨ SqT X.K H p ys) ∧ Q (.int ys.length) H) (tCons (wpE X a) tNil))) (g : GX X EX φ a E m (zr φ)) : GX X EX φ e E (m.bind fun xs => .ok (xs.l.length : Int)) (zi φ) :=
  g_b1 P (ou_0 fun x Hf H v ef ⟨p, vs, h1, h2, h3⟩ Q q => ⟨p, vs, by rw [h1], .inr (L.kK ▸ Evl.ex_t ef h2), q _ (by rw [← Paired.length h3]; rfl)⟩) (fun _ _ q => nomatch q) g
theorem g_abs {m : R Int} (P : PE X e (tCB (fun xs H Q => ∃ i, xs = [.int i] ∧ Q (.int (if i < 0 then -i else i)) H) (tCons (wpE X a) tNil))) (g : GX X EX φ a E m (zi φ)) : GX X EX φ e E (m.bind fun x => .ok (if x < 0 then -x else x)) (zi φ) :=
  g_b1 P (ou_0 fun x Hf H v ef h Q q => ⟨x, by rw [show v = V.int x from h], q _ rfl⟩) (fun _ _ q => nomatch q) g
theorem g_intB {m : R Bool} (P : PE X e (tCB (fun xs H Q => (∃ i, xs = [.int i] ∧ Q (.int i) H) ∨ ∃ k, xs = [.bl k] ∧ Q (.int (if k then 1 else 0)) H) (tCons (wpE X a) tNil))) (g : GX X EX φ a E m (zb φ)) : GX X EX φ e E (m.bind fun x => .ok (if x = true then 1 else 0)) (zi φ) :=
  g_b1 P (ou_0 fun x Hf H v ef h Q q => .inr ⟨x, by rw [show v = V.bl x from h], q _ rfl⟩) (fun _ _ q => nomatch q) g
theorem g_sum {m : R (List Int)} (L : Lv X EX φ k) (P : PE X e (tCB (rSum X.K) (tCons (wpE X a) tNil))) (g : GX X EX φ a E m (lr φ)) : GX X EX φ e E (m.bind fun xs => .ok xs.sum) (zi φ) :=
  g_b1 P (ou_0 fun x Hf H v ef ⟨p, vs, h1, h2, h3⟩ Q q => ⟨p, x, by rw [h1], by rw [← its_ints h3]; exact L.kK ▸ h2, q _ rfl⟩) (fun _ _ q => nomatch q) g
def optR (o : Option α) : R α := match o with | some x => .ok x | none => .bad
theorem optR_ne {o : Option α} (z : Xn) : optR o ≠ .err z := by unfold optR; split <;> exact fun q => nomatch q
theorem optR_nb {o : Option α} (h : optR o ≠ .bad) : ∃ x, o = some x := by
  cases o with
  | none => exact absurd rfl h
  | some x => exact ⟨x, rfl⟩
theorem g_min {m : R (List Int)} (L : Lv X EX φ k) (P : PE X e (tCB (rMin X.K) (tCons (wpE X a) tNil))) (g : GX X EX φ a E m (lr φ)) : GX X EX φ e E (m.bind fun xs => optR xs.min?) (zi φ) :=
  g_b1 P (fun E σ Hf ad H x v A ⟨p, vs, h1, h2, h3⟩ nb Q q => by
    obtain ⟨y, ey⟩ := optR_nb nb
    refine ⟨p, x, by rw [h1], by rw [← its_ints h3]; exact L.kK ▸ h2, ?_, fun m hm hle => ?_⟩
    · cases x with
      | nil => cases ey
      | cons => exact Nat.succ_pos _
    · have : x.min? = some m := List.min?_eq_some_iff.mpr ⟨hm, hle⟩
      exact q m (by rw [this]; rfl) _ Hf H A (Evl.Ex.refl _) (Evl.Ex.refl _) rfl) (fun _ _ => optR_ne _) g
theorem g_max {m : R (List Int)} (L : Lv X EX φ k) (P : PE X e (tCB (rMax X.K) (tCons (wpE X a) tNil))) (g : GX X EX φ a E m (lr φ)) : GX X EX φ e E (m.bind fun xs => optR xs.max?) (zi φ) :=
  g_b1 P (fun E σ Hf ad H x v A ⟨p, vs, h1, h2, h3⟩ nb Q q => by
    obtain ⟨y, ey⟩ := optR_nb nb
    refine ⟨p, x, by rw [h1], by rw [← its_ints h3]; exact L.kK ▸ h2, ?_, fun m hm hle => ?_⟩
    · cases x with
      | nil => cases ey
      | cons => exact Nat.succ_pos _
    · have : x.max? = some m := List.max?_eq_some_iff.mpr ⟨hm, hle⟩
      exact q m (by rw [this]; rfl) _ Hf H A (Evl.Ex.refl _) (Evl.Ex.refl _) rfl) (fun _ _ => optR_ne _) g
theorem g_min2 {ma mb : R Int} (P : PE X e (tCB (fun xs H Q => ∃ i j, xs = [.int i, .int j] ∧ Q (.int (if j < i then j else i)) H) (tCons (wpE X a) (tCons (wpE X b) tNil)))) (ga : GX X EX φ a E ma (zi φ)) (gb : GX X EX φ b E mb (zi φ)) : GX X EX φ e E (ma.bind fun x => mb.bind fun y => .ok (min x y)) (zi φ) :=
  g_b2 P zr_up (fun E σ Hf ad H x y v w A r1 r2 nb Q q => ⟨x, y, by rw [show v = V.int x from r1, show w = V.int y from r2], q (min x y) rfl _ Hf H A (Evl.Ex.refl _) (Evl.Ex.refl _) (by
    show V.int _ = V.int _
    congr 1
    split <;> omega)⟩) (fun _ _ _ q => nomatch q) ga gb
theorem g_max2 {ma mb : R Int} (P : PE X e (tCB (fun xs H Q => ∃ i j, xs = [.int i, .int j] ∧ Q (.int (if j > i then j else i)) H) (tCons (wpE X a) (tCons (wpE X b) tNil)))) (ga : GX X EX φ a E ma (zi φ)) (gb : GX X EX φ b E mb (zi φ)) : GX X EX φ e E (ma.bind fun x => mb.bind fun y => .ok (max x y)) (zi φ) :=
  g_b2 P zr_up (fun E σ Hf ad H x y v w A r1 r2 nb Q q => ⟨x, y, by rw [show v = V.int x from r1, show w = V.int y from r2], q (max x y) rfl _ Hf H A (Evl.Ex.refl _) (Evl.Ex.refl _) (by
    show V.int _ = V.int _
    congr 1
    split <;> omega)⟩) (fun _ _ _ q => nomatch q) ga gb
theorem its_bools {κ : Cc} {H : Hp} : ∀ {xs : List Bool} {vs : List V}, Its κ xs H vs → vs = xs.map V.bl
  | _, _, .nil => rfl
  | _, _, .cons h t => by rw [List.map_cons, its_bools t]; rw [show _ = V.bl _ from h]
theorem g_all {m : R (List Bool)} (L : Lv X EX φ k) (P : PE X e (tCB (rAll X.K) (tCons (wpE X a) tNil))) (g : GX X EX φ a E m (lr φ)) : GX X EX φ e E (m.bind fun xs => .ok (xs.all id)) (zb φ) :=
  g_b1 P (ou_0 fun x Hf H v ef ⟨p, vs, h1, h2, h3⟩ Q q => ⟨p, x, by rw [h1], by rw [← its_bools h3]; exact L.kK ▸ h2, q _ rfl⟩) (fun _ _ q => nomatch q) g
/-! ### calls of the text's own defs -/
def spF {A : Type} [PyA A] [Py ρ] (κ : Cc) (m : A → R ρ) : Sp := fun vs H Q W => ∃ (x : A) (Hf : Hp), Ex Hf H ∧ PyA.reps κ x Hf vs ∧ m x ≠ .bad ∧
  (∀ r, m x = .ok r → ∀ v Hf' H', Ex Hf Hf' → Ex Hf' H' → Ex H H' → (∀ b, Hf b = none → Hf' b ≠ none → H b = none) → Py.rep κ r Hf' v → Q v H') ∧
  (∀ z, m x = .err z → ∀ cls d H', Ex H H' → XR κ z cls d H' → W cls d H')
/-- the same, what comes back is a new list -/
def spN {A : Type} [PyA A] [Py ρ] (κ : Cc) (m : A → R (List ρ)) : Sp := fun vs H Q W => ∃ (x : A) (Hf : Hp), Ex Hf H ∧ PyA.reps κ x Hf vs ∧ m x ≠ .bad ∧
  (∀ r, m x = .ok r → ∀ p ws Hf' H', Ex Hf Hf' → Ex Hf' H' → Ex H H' → (∀ b, Hf b = none → Hf' b ≠ none → H b = none) → Hf' p = none → H p = none → H' p = some (.lst ws) → Its κ r Hf' ws → Q (.ref p) H') ∧
  (∀ z, m x = .err z → ∀ cls d H', Ex H H' → XR κ z cls d H' → W cls d H')
structure Cal (P : Program) (w : World) (K : PySem.W.Frag) (mg : Str → Option Value) (base : Heap) (k : Nat) (x : Str) (sp : Sp) : Prop where
  ex : ∃ (f : Addr) (fd : FuncData) (ps : List Str), FnOk P w K mg base (L2.CX P w) k f fd ps sp ∧ mg x = some (.ref f) ∧ PySem.W.keepIn K (.ref f) = true ∧ Binds K fd ps []
theorem At.call {σ : L2.St} {Hf Hf' : Hp} {ad : Nat → Addr} {H H' : Hp} (A : At φ E σ Hf ad H) (e1 : Ex Hf Hf') (e2 : Ex Hf' H') (e3 : Ex H H') (hn : ∀ b, Hf b = none → Hf' b ≠ none → H b = none) : At φ E σ Hf' ad H' := by
  refine ⟨A.e0.trans e3, A.f0.trans e1, e2, fun b h1 h2 => ?_, fun i c h => holds_up (A.sl i c h) e1 (fun o q => e3 _ o q) (fun w => ?_), A.ds, A.ln⟩
  · cases q : Hf b with
    | none => exact Evl.fresh_back A.e0 (hn b q h2)
    | some o => exact A.nw b h1 (by rw [q]; exact fun z => nomatch z)
  · obtain ⟨h2, _, o, h4⟩ := Ce.own (A.sl i _ h) w
    cases q : Hf' (ad i) with
    | none => rfl
    | some u =>
      have := hn _ h2 (by rw [q]; exact fun z => nomatch z)
      rw [h4] at this
      cases this
section
variable {A : Type} [PyA A] [Py ρ] {x : Str} {p : Pos} {j : Nat} {ma : R A}
theorem g_call {m : A → R ρ} (L : Lv X EX φ k) (C : Cal X.prog X.w X.K X.mg X.base j x (spF φ.κ m)) (hj : j ≤ k) (ga : GA X EX φ (e :: es) E ma) (hg : Gl X x := by rfl) (hdb : (x == ("__debug__" : Str)) = false := by decide)
    (he : starEach (e :: es) X.env = (false, eval e X.env) :: starEach es X.env := by rfl) (hpl : (backTo pos (starEach es X.env)).any (·.1) = false := by rfl) : GX X EX φ (.Call (.Name x p) (e :: es) [] pos) E (ma.bind m) (zr φ) := fun σ Hf ad H A nb Q q er => by
  obtain ⟨f, fd, ps, F, hm, hk, hb⟩ := C.ex
  have ⟨e1, e2⟩ := bind_err (P := EW φ EX) er
  refine wpE_of (pe_call F (L.room.mono hj) hg hm hk hb .nil L.ps paS hdb he hpl) (ga σ Hf ad H A (R.bind_nb nb) _ (fun y ey vs Hf1 H1 A1 f1 f2 rs => ?_) e1)
  rw [ey, R.bind_ok] at nb
  refine ⟨y, Hf1, A1.ef, by rw [List.append_nil]; exact rs, nb, fun r hr v Hf' H' g1 g2 g3 hn rr => q r (by rw [ey, R.bind_ok]; exact hr) v Hf' H' (A1.call g1 g2 g3 hn) (f1.trans g1) (f2.trans g3) rr, fun z hz cls d H' g3 xr => ?_⟩
  exact (e2 y ey z hz).up A (f2.trans g3) xr
theorem g_callO [Flat ρ] {m : A → R ρ} (L : Lv X EX φ k) (C : Cal X.prog X.w X.K X.mg X.base j x (spF φ.κ m)) (hj : j ≤ k) (ga : GO X EX φ (e :: es) E ma) (hg : Gl X x := by rfl) (hdb : (x == ("__debug__" : Str)) = false := by decide)
    (he : starEach (e :: es) X.env = (false, eval e X.env) :: starEach es X.env := by rfl) (hpl : (backTo pos (starEach es X.env)).any (·.1) = false := by rfl) : GX X EX φ (.Call (.Name x p) (e :: es) [] pos) E (ma.bind m) (zr φ) := fun σ Hf ad H A nb Q q er => by
  obtain ⟨f, fd, ps, F, hm, hk, hb⟩ := C.ex
  have ⟨e1, e2⟩ := bind_err (P := EW φ EX) er
  refine wpE_of (pe_call F (L.room.mono hj) hg hm hk hb .nil L.ps paS hdb he hpl) (ga σ Hf ad H A (R.bind_nb nb) _ (fun y ey vs Hf1 H1 A1 f1 f2 rs => ?_) e1)
  rw [ey, R.bind_ok] at nb
  refine ⟨y, H1, Evl.Ex.refl _, by rw [List.append_nil]; exact rs, nb, fun r hr v Hf' H' g1 g2 g3 hn rr => q r (by rw [ey, R.bind_ok]; exact hr) v Hf1 H' (A1.up g3) f1 (f2.trans g3) (Flat.flat rr), fun z hz cls d H' g3 xr => ?_⟩
  exact (e2 y ey z hz).up A (f2.trans g3) xr
theorem g_callN {m : A → R (List ρ)} (L : Lv X EX φ k) (C : Cal X.prog X.w X.K X.mg X.base j x (spN φ.κ m)) (hj : j ≤ k) (ga : GA X EX φ (e :: es) E ma) (hg : Gl X x := by rfl) (hdb : (x == ("__debug__" : Str)) = false := by decide)
    (he : starEach (e :: es) X.env = (false, eval e X.env) :: starEach es X.env := by rfl) (hpl : (backTo pos (starEach es X.env)).any (·.1) = false := by rfl) : GN X EX φ (.Call (.Name x p) (e :: es) [] pos) E (ma.bind m) := fun σ Hf ad H A nb Q q er => by
  obtain ⟨f, fd, ps, F, hm, hk, hb⟩ := C.ex
  have ⟨e1, e2⟩ := bind_err (P := EW φ EX) er
  refine wpE_of (pe_call F (L.room.mono hj) hg hm hk hb .nil L.ps paS hdb he hpl) (ga σ Hf ad H A (R.bind_nb nb) _ (fun y ey vs Hf1 H1 A1 f1 f2 rs => ?_) e1)
  rw [ey, R.bind_ok] at nb
  refine ⟨y, Hf1, A1.ef, by rw [List.append_nil]; exact rs, nb, fun r hr p ws Hf' H' g1 g2 g3 hn h1 h2 h3 rr => q r (by rw [ey, R.bind_ok]; exact hr) p ws Hf' H' (A1.call g1 g2 g3 hn) (f1.trans g1) (f2.trans g3) h1 (A1.off h2) h3 rr, fun z hz cls d H' g3 xr => ?_⟩
  exact (e2 y ey z hz).up A (f2.trans g3) xr
end
/-! ### statements -/
variable {st : Stmt} {sts rest : List Stmt} {En : β → Env1} {Ec : γ → Env1} {Rt : RR ρ}
theorem s_nil {x : β} (S : Sub E (En x)) : GS X EX φ [] E (.ok (.nx x : Fw β γ ρ)) En Ec Rt := fun σ Hf ad H A nb D n1 n2 n3 n4 er =>
  wpSs_of pss_nil (n1 x rfl σ Hf ad H (A.sub S) (Evl.Ex.refl _))
theorem s_cont {x : γ} (S : Sub E (Ec x)) : GS X EX φ (.Continue pos :: rest) E (.ok (.ct x : Fw β γ ρ)) En Ec Rt := fun σ Hf ad H A nb D n1 n2 n3 n4 er =>
  wpSs_of (pss_cons ps_continue pssS) (n3 x rfl σ Hf ad H (A.sub S) (Evl.Ex.refl _))
theorem s_brk {x : γ} (S : Sub E (Ec x)) : GS X EX φ (.Break pos :: rest) E (.ok (.bk x : Fw β γ ρ)) En Ec Rt := fun σ Hf ad H A nb D n1 n2 n3 n4 er =>
  wpSs_of (pss_cons ps_break pssS) (n2 x rfl σ Hf ad H (A.sub S) (Evl.Ex.refl _))
theorem s_pass {m : R (Fw β γ ρ)} (r : GS X EX φ rest E m En Ec Rt) : GS X EX φ (.Pass pos :: rest) E m En Ec Rt := fun σ Hf ad H A nb D n1 n2 n3 n4 er =>
  wpSs_of (pss_cons ps_pass pssS) (r σ Hf ad H A nb D n1 n2 n3 n4 er)
theorem s_doc {x : Str} {j : Nat} {p : Pos} {m : R (Fw β γ ρ)} (r : GS X EX φ rest E m En Ec Rt) : GS X EX φ (.Expr (.Constant (.str x) j p) pos :: rest) E m En Ec Rt := fun σ Hf ad H A nb D n1 n2 n3 n4 er =>
  wpSs_of (pss_cons ps_doc pssS) (r σ Hf ad H A nb D n1 n2 n3 n4 er)
theorem s_set [Py α] {x : Str} {p : Pos} {m : R α} {f : α → R (Fw β γ ρ)} (L : Lv X EX φ k) (i : Nat) (hi : X.N[i]? = some x) (hx : Loc X.env.scope x) (g : GX X EX φ e E m (zr φ)) (r : ∀ y, GS X EX φ rest ((i, vz φ y) :: E) (f y) En Ec Rt) (hs : swapsWith e (some (.Name x p)) pos.line X.env = pure false := by rfl)
    (hf : X.fn x = true ∨ X.env.scope.names.lookup x = some .local := by exact .inl rfl) : GS X EX φ (.Assign [.Name x p] e pos :: rest) E (m.bind f) En Ec Rt := fun σ Hf ad H A nb D n1 n2 n3 n4 er => by
  have ⟨e1, e2⟩ := bind_err (P := EW φ EX) er
  refine wpSs_of (pss_cons (ps_set L.nd hi hx peS hs hf) pssS) (g σ Hf ad H A (R.bind_nb nb) _ (fun y ey v Hf1 H1 A1 f1 f2 r1 => ?_) e1)
  have hn : i < φ.n := by rw [L.n]; exact (List.getElem?_eq_some_iff.mp hi).1
  rw [ey, R.bind_ok] at nb
  refine r y _ Hf1 ad H1 (A1.set hn r1) nb D (fun b eb σ' Hf' ad' H' A' e' => n1 b (by rw [ey]; exact eb) σ' Hf' ad' H' A' (f1.trans e')) (fun b eb σ' Hf' ad' H' A' e' => n2 b (by rw [ey]; exact eb) σ' Hf' ad' H' A' (f1.trans e'))
    (fun b eb σ' Hf' ad' H' A' e' => n3 b (by rw [ey]; exact eb) σ' Hf' ad' H' A' (f1.trans e')) (fun b eb v σ' Hf' ad' H' A' e' => n4 b (by rw [ey]; exact eb) v σ' Hf' ad' H' A' (f1.trans e')) (e2 y ey)
/-- a new list, one's own -/
theorem s_setN [Py α] {x : Str} {p : Pos} {m : R (List α)} {f : List α → R (Fw β γ ρ)} (L : Lv X EX φ k) (i : Nat) (hi : X.N[i]? = some x) (hx : Loc X.env.scope x) (g : GN X EX φ e E m) (r : ∀ y, GS X EX φ rest ((i, vo φ y) :: E) (f y) En Ec Rt) (hs : swapsWith e (some (.Name x p)) pos.line X.env = pure false := by rfl)
    (hf : X.fn x = true ∨ X.env.scope.names.lookup x = some .local := by exact .inl rfl) : GS X EX φ (.Assign [.Name x p] e pos :: rest) E (m.bind f) En Ec Rt := fun σ Hf ad H A nb D n1 n2 n3 n4 er => by
  have ⟨e1, e2⟩ := bind_err (P := EW φ EX) er
  refine wpSs_of (pss_cons (ps_set L.nd hi hx peS hs hf) pssS) (g σ Hf ad H A (R.bind_nb nb) _ (fun y ey p vs Hf1 H1 A1 f1 f2 h1 h2 h3 h4 => ?_) e1)
  have hn : i < φ.n := by rw [L.n]; exact (List.getElem?_eq_some_iff.mp hi).1
  rw [ey, R.bind_ok] at nb
  refine r y _ Hf1 _ H1 (A1.setO hn h1 h3 h2 ⟨vs, rfl, h4⟩) nb D (fun b eb σ' Hf' ad' H' A' e' => n1 b (by rw [ey]; exact eb) σ' Hf' ad' H' A' (f1.trans e')) (fun b eb σ' Hf' ad' H' A' e' => n2 b (by rw [ey]; exact eb) σ' Hf' ad' H' A' (f1.trans e'))
    (fun b eb σ' Hf' ad' H' A' e' => n3 b (by rw [ey]; exact eb) σ' Hf' ad' H' A' (f1.trans e')) (fun b eb v σ' Hf' ad' H' A' e' => n4 b (by rw [ey]; exact eb) v σ' Hf' ad' H' A' (f1.trans e')) (e2 y ey)
/-- x += e, ints -/
theorem s_augI {x : Str} {p : Pos} {op : Operator} {f : Int → Int → Int} {m : R Int} {z : Int} {q : Int → R (Fw β γ ρ)} (L : Lv X EX φ k) (ho : PIp X op (ipI f)) (i : Nat) (hi : X.N[i]? = some x) (hx : Loc X.env.scope x) (hz : lk E i = some (vz φ z)) (g : GX X EX φ e E m (zi φ)) (r : ∀ y, GS X EX φ rest ((i, vz φ y) :: E) (q y) En Ec Rt)
    (hf : X.fn x = true ∨ X.env.scope.names.lookup x = some .local := by exact .inl rfl) : GS X EX φ (.AugAssign (.Name x p) op e pos :: rest) E (m.bind fun y => q (f z y)) En Ec Rt := fun σ Hf ad H A nb D n1 n2 n3 n4 er => by
  have ⟨e1, e2⟩ := bind_err (P := EW φ EX) er
  obtain ⟨v, h1, h2⟩ := A.sl i _ hz
  refine wpSs_of (pss_cons (ps_aug L.nd hi hx peS ho hf) pssS) ⟨v, h1, g σ Hf ad H A (R.bind_nb nb) _ (fun y ey w Hf1 H1 A1 f1 f2 r1 => ⟨z, y, h2, r1, ?_⟩) e1⟩
  have hn : i < φ.n := by rw [L.n]; exact (List.getElem?_eq_some_iff.mp hi).1
  rw [ey, R.bind_ok] at nb
  refine r (f z y) _ Hf1 ad H1 (A1.set hn rfl) nb D (fun b eb σ' Hf' ad' H' A' e' => n1 b (by rw [ey]; exact eb) σ' Hf' ad' H' A' (f1.trans e')) (fun b eb σ' Hf' ad' H' A' e' => n2 b (by rw [ey]; exact eb) σ' Hf' ad' H' A' (f1.trans e'))
    (fun b eb σ' Hf' ad' H' A' e' => n3 b (by rw [ey]; exact eb) σ' Hf' ad' H' A' (f1.trans e')) (fun b eb v σ' Hf' ad' H' A' e' => n4 b (by rw [ey]; exact eb) v σ' Hf' ad' H' A' (f1.trans e')) (e2 y ey)
/-- xs.append(e), xs one's own -/
theorem s_app [Py α] {x nm : Str} {p p1 p2 : Pos} {xs : List α} {m : R α} {f : List α → R (Fw β γ ρ)} (i : Nat) (hv : PE X (.Name x p) (tVar i)) (hz : lk E i = some (vo φ xs)) (g : GX X EX φ e E m (zr φ)) (r : ∀ ys, GS X EX φ rest ((i, vo φ ys) :: E) (f ys) En Ec Rt)
    (hp : PE X (.Call (.Attribute (.Name x p) nm p1) [e] [] p2) (tBM X.K "list" rAppend (wpE X (.Name x p)) (tCons (wpE X e) tNil))) (hs : swapsWith (.Call (.Attribute (.Name x p) nm p1) [e] [] p2) none pos.line X.env = pure false := by rfl) :
    GS X EX φ (.Expr (.Call (.Attribute (.Name x p) nm p1) [e] [] p2) pos :: rest) E (m.bind fun y => (ifR (xs.length < sizeLine) (xs ++ [y])).bind f) En Ec Rt := fun σ Hf ad H A nb D n1 n2 n3 n4 er => by
  have ⟨e1, e2⟩ := bind_err (P := EW φ EX) er
  obtain ⟨h1, h2, h3, o, h4, vs, h5, h6⟩ := A.sl i _ hz
  subst h5
  refine wpSs_of (pss_cons (ps_expr hp hs) pssS) (wpE_of hv ⟨_, h1, .inl ⟨rfl, _, .inl (.inl h4)⟩, ?_⟩)
  refine g σ Hf ad H A (R.bind_nb nb) _ (fun y ey w Hf1 H1 A1 f1 f2 r1 => ?_) e1
  rw [ey, R.bind_ok] at nb
  obtain ⟨hc, he⟩ := ifR_nb (R.bind_nb nb)
  have e2' := (bind_err (e2 y ey)).2 _ he
  rw [he, R.bind_ok] at nb
  refine ⟨_, vs, w, rfl, rfl, f2 _ _ h4, by rw [← Paired.length h6]; exact hc, ?_⟩
  have A2 := A1.wr (o := .lst (vs ++ [w])) (r' := ol φ (xs ++ [y])) hz ⟨_, rfl, its_app (Its.mono f1 h6) (.cons r1 .nil)⟩
  refine r (xs ++ [y]) _ Hf1 ad _ A2 nb D (fun b eb σ' Hf' ad' H' A' e' => n1 b (by rw [ey, R.bind_ok, he]; exact eb) σ' Hf' ad' H' A' (f1.trans e')) (fun b eb σ' Hf' ad' H' A' e' => n2 b (by rw [ey, R.bind_ok, he]; exact eb) σ' Hf' ad' H' A' (f1.trans e'))
    (fun b eb σ' Hf' ad' H' A' e' => n3 b (by rw [ey, R.bind_ok, he]; exact eb) σ' Hf' ad' H' A' (f1.trans e')) (fun b eb v σ' Hf' ad' H' A' e' => n4 b (by rw [ey, R.bind_ok, he]; exact eb) v σ' Hf' ad' H' A' (f1.trans e')) e2'
/-- a block that never comes to its end: its ways out, elsewhere -/
def Fw.lift : Fw Empty γ ρ → Fw β γ ρ
  | .nx b => nomatch b
  | .bk g => .bk g
  | .ct g => .ct g
  | .rt r => .rt r
def noE : Empty → Env1 := fun z => nomatch z
/-- if c: a way out; then the rest -/
theorem s_ifT {ss : List Stmt} {mc : R Bool} {m1 : R (Fw Empty γ ρ)} {m2 : R (Fw β γ ρ)} (gc : GT X EX φ c E mc) (g : GS X EX φ ss E m1 noE Ec Rt) (r : GS X EX φ rest E m2 En Ec Rt) :
    GS X EX φ (.If c ss [] pos :: rest) E (mc.bind fun c => if c = true then m1.bind (fun w => .ok w.lift) else m2) En Ec Rt := fun σ Hf ad H A nb D n1 n2 n3 n4 er => by
  have ⟨e1, e2⟩ := bind_err (P := EW φ EX) er
  refine wpSs_of (pss_cons (ps_if ptS pssS pss_nil) pssS) (gc σ Hf ad H A (R.bind_nb nb) _ (fun x ex Hf1 H1 A1 f1 f2 => ?_) e1)
  rw [ex, R.bind_ok] at nb
  have q1 : ∀ z, (if x = true then m1.bind (fun w => .ok w.lift) else m2) = z → (mc.bind fun c => if c = true then m1.bind (fun w => .ok w.lift) else m2) = z := fun z ez => by rw [ex]; exact ez
  cases x with
  | true =>
    show wpSs X ss _ σ H1
    refine g σ Hf1 ad H1 A1 (R.bind_nb nb) _ (fun z => nomatch z) (fun b eb σ' Hf' ad' H' A' e' => n2 b (q1 _ (by rw [if_pos rfl, eb]; rfl)) σ' Hf' ad' H' A' (f1.trans e'))
      (fun b eb σ' Hf' ad' H' A' e' => n3 b (q1 _ (by rw [if_pos rfl, eb]; rfl)) σ' Hf' ad' H' A' (f1.trans e')) (fun b eb v σ' Hf' ad' H' A' e' => n4 b (q1 _ (by rw [if_pos rfl, eb]; rfl)) v σ' Hf' ad' H' A' (f1.trans e')) (bind_err (e2 true ex)).1
  | false =>
    show tNext { D with nx := wpSs X rest D } σ H1
    refine r σ Hf1 ad H1 A1 nb D (fun b eb σ' Hf' ad' H' A' e' => n1 b (q1 _ eb) σ' Hf' ad' H' A' (f1.trans e')) (fun b eb σ' Hf' ad' H' A' e' => n2 b (q1 _ eb) σ' Hf' ad' H' A' (f1.trans e'))
      (fun b eb σ' Hf' ad' H' A' e' => n3 b (q1 _ eb) σ' Hf' ad' H' A' (f1.trans e')) (fun b eb v σ' Hf' ad' H' A' e' => n4 b (q1 _ eb) v σ' Hf' ad' H' A' (f1.trans e')) (e2 false ex)
/-- one statement -/
def GQ (X : Cx) (EX : XK) (φ : Fx) (st : Stmt) (E : Env1) (m : R (Fw β γ ρ)) (En : β → Env1) (Ec : γ → Env1) (Rt : RR ρ) : Prop := ∀ (σ : L2.St) (Hf : Hp) (ad : Nat → Addr) (H : Hp), At φ E σ Hf ad H → m ≠ .bad → ∀ D : Ends,
  (∀ b, m = .ok (.nx b) → ∀ σ' Hf' ad' H', At φ (En b) σ' Hf' ad' H' → Ex Hf Hf' → D.nx σ' H') →
  (∀ b, m = .ok (.bk b) → ∀ σ' Hf' ad' H', At φ (Ec b) σ' Hf' ad' H' → Ex Hf Hf' → D.bk σ' H') →
  (∀ b, m = .ok (.ct b) → ∀ σ' Hf' ad' H', At φ (Ec b) σ' Hf' ad' H' → Ex Hf Hf' → D.ct σ' H') →
  (∀ b, m = .ok (.rt b) → ∀ v σ' Hf' ad' H', At φ [] σ' Hf' ad' H' → Ex Hf Hf' → Rt b Hf' H' v → D.rt v H') → (∀ x, m = .err x → EW φ EX x) → wpS X st D σ H
theorem s_one {m : R (Fw β γ ρ)} (g : GQ X EX φ st E m En Ec Rt) : GS X EX φ [st] E m En Ec Rt := fun σ Hf ad H A nb D n1 n2 n3 n4 er => wpSs_of (pss_one psS) (g σ Hf ad H A nb D n1 n2 n3 n4 er)
/-- two blocks -/
theorem q_if {ss tt : List Stmt} {mc : R Bool} {m1 m2 : R (Fw β γ ρ)} (gc : GT X EX φ c E mc) (g : GS X EX φ ss E m1 En Ec Rt) (r : GS X EX φ tt E m2 En Ec Rt) :
    GQ X EX φ (.If c ss tt pos) E (mc.bind fun c => if c = true then m1 else m2) En Ec Rt := fun σ Hf ad H A nb D n1 n2 n3 n4 er => by
  have ⟨e1, e2⟩ := bind_err (P := EW φ EX) er
  refine wpS_of (ps_if ptS pssS pssS) (gc σ Hf ad H A (R.bind_nb nb) _ (fun x ex Hf1 H1 A1 f1 f2 => ?_) e1)
  rw [ex, R.bind_ok] at nb
  have q1 : ∀ z, (if x = true then m1 else m2) = z → (mc.bind fun c => if c = true then m1 else m2) = z := fun z ez => by rw [ex]; exact ez
  cases x with
  | true =>
    show wpSs X ss _ σ H1
    refine g σ Hf1 ad H1 A1 nb D (fun b eb σ' Hf' ad' H' A' e' => n1 b (q1 _ eb) σ' Hf' ad' H' A' (f1.trans e')) (fun b eb σ' Hf' ad' H' A' e' => n2 b (q1 _ eb) σ' Hf' ad' H' A' (f1.trans e'))
      (fun b eb σ' Hf' ad' H' A' e' => n3 b (q1 _ eb) σ' Hf' ad' H' A' (f1.trans e')) (fun b eb v σ' Hf' ad' H' A' e' => n4 b (q1 _ eb) v σ' Hf' ad' H' A' (f1.trans e')) (e2 true ex)
  | false =>
    show wpSs X tt _ σ H1
    refine r σ Hf1 ad H1 A1 nb D (fun b eb σ' Hf' ad' H' A' e' => n1 b (q1 _ eb) σ' Hf' ad' H' A' (f1.trans e')) (fun b eb σ' Hf' ad' H' A' e' => n2 b (q1 _ eb) σ' Hf' ad' H' A' (f1.trans e'))
      (fun b eb σ' Hf' ad' H' A' e' => n3 b (q1 _ eb) σ' Hf' ad' H' A' (f1.trans e')) (fun b eb v σ' Hf' ad' H' A' e' => n4 b (q1 _ eb) v σ' Hf' ad' H' A' (f1.trans e')) (e2 false ex)
/-- one statement, then the rest from what it leaves -/
theorem s_seq {β' : Type} {En1 : β' → Env1} {m1 : R (Fw β' γ ρ)} {f : β' → R (Fw β γ ρ)} (g : GQ X EX φ st E m1 En1 Ec Rt) (r : ∀ x, GS X EX φ rest (En1 x) (f x) En Ec Rt) : GS X EX φ (st :: rest) E (m1.bind (Fw.seq f)) En Ec Rt := fun σ Hf ad H A nb D n1 n2 n3 n4 er => by
  have ⟨e1, e2⟩ := bind_err (P := EW φ EX) er
  refine wpSs_of (pss_cons psS pssS) (g σ Hf ad H A (R.bind_nb nb) { D with nx := wpSs X rest D } (fun b eb σ' Hf' ad' H' A' e' => ?_) (fun b eb σ' Hf' ad' H' A' e' => n2 b (by rw [eb]; rfl) σ' Hf' ad' H' A' e')
    (fun b eb σ' Hf' ad' H' A' e' => n3 b (by rw [eb]; rfl) σ' Hf' ad' H' A' e') (fun b eb v σ' Hf' ad' H' A' e' => n4 b (by rw [eb]; rfl) v σ' Hf' ad' H' A' e') e1)
  rw [eb, R.bind_ok] at nb
  refine r b σ' Hf' ad' H' A' nb D (fun b1 eb1 σ1 Hf1 ad1 H1 A1 f1 => n1 b1 (by rw [eb]; exact eb1) σ1 Hf1 ad1 H1 A1 (e'.trans f1)) (fun b1 eb1 σ1 Hf1 ad1 H1 A1 f1 => n2 b1 (by rw [eb]; exact eb1) σ1 Hf1 ad1 H1 A1 (e'.trans f1))
    (fun b1 eb1 σ1 Hf1 ad1 H1 A1 f1 => n3 b1 (by rw [eb]; exact eb1) σ1 Hf1 ad1 H1 A1 (e'.trans f1)) (fun b1 eb1 v σ1 Hf1 ad1 H1 A1 f1 => n4 b1 (by rw [eb]; exact eb1) v σ1 Hf1 ad1 H1 A1 (e'.trans f1)) (e2 _ eb)
end
end G

/-! G5: loops, comprehensions, what is returned, defs. -/
namespace G
open PySem L2
section
variable {X : Cx} {EX : XK} {φ : Fx} {k : Nat} {E E' : Env1} {α β γ δ ρ : Type} {e a b c tg iter : Expr} {pos : Pos} {i : Nat} {es : List Expr} {st : Stmt} {sts rest body : List Stmt} {En : β → Env1} {Ec : γ → Env1} {Rt : RR ρ}
/-! ### what is walked -/
def Runs (φ : Fx) (J : It) (g : TG) (Hf0 : Hp) (xs : List α) (bE : α → Env1) : Prop :=
  (∀ E σ Hf ad H, At φ E σ Hf ad H → Ex Hf0 Hf → J.stop xs.length H) ∧
  ∀ (i : Nat) x, xs[i]? = some x → ∀ E σ Hf ad H, At φ E σ Hf ad H → Ex Hf0 Hf → J.go i H ∧ ∀ v H1, J.yld i H v H1 → ∀ Q : L2.St → Hp → Prop,
    (∀ σ2 Hf2 H2, At φ (bE x ++ E) σ2 Hf2 ad H2 → Ex Hf Hf2 → Ex H H2 → (∀ vs : List Nat, (∀ p ∈ bE x, p.1 ∈ vs) → wipe σ2 vs = wipe σ vs) → Q σ2 H2) → g v σ H1 Q
def GF (X : Cx) (EX : XK) (φ : Fx) (wi : TI) (g : TG) (E : Env1) (m : R (List α)) (bE : α → Env1) : Prop := ∀ (σ : L2.St) (Hf : Hp) (ad : Nat → Addr) (H : Hp), At φ E σ Hf ad H → m ≠ .bad → ∀ Q : It → Hp → Prop,
  (∀ xs, m = .ok xs → ∀ J Hf' H', At φ E σ Hf' ad H' → Ex Hf Hf' → Ex H H' → Runs φ J g Hf' xs bE → Q J H') → (∀ x, m = .err x → EW φ EX x) → wi σ H Q
theorem wipe_get {σ : L2.St} : ∀ {vs : List Nat} {i : Nat}, (wipe σ vs)[i]? = if i ∈ vs then σ[i]?.map (fun _ => none) else σ[i]?
  | [], i => by simp [wipe]
  | v :: vs, i => by
    unfold wipe
    by_cases hv : v = i
    · subst hv
      rw [List.getElem?_set, if_pos rfl, if_pos List.mem_cons_self, wipe_length]
      by_cases hl : v < σ.length
      · simp [hl]
      · simp [hl]
    · rw [List.getElem?_set_ne hv, wipe_get]
      have hm : (i ∈ v :: vs) ↔ (i ∈ vs) := by simp [Ne.symm hv]
      by_cases hi : i ∈ vs
      · rw [if_pos hi, if_pos (hm.mpr hi)]
      · rw [if_neg hi, if_neg fun q => hi (hm.mp q)]
theorem wipe_set {σ : L2.St} {vs : List Nat} {j : Nat} {o : Option V} (h : j ∈ vs) : wipe (σ.set j o) vs = wipe σ vs := by
  apply List.ext_getElem?
  intro i
  rw [wipe_get, wipe_get]
  by_cases hi : i = j
  · subst hi
    rw [if_pos h, if_pos h, List.getElem?_set]
    simp
    split <;> simp [*]
  · rw [List.getElem?_set_ne (Ne.symm hi)]
theorem wipe_wipe {σ : L2.St} {vs : List Nat} : wipe (wipe σ vs) vs = wipe σ vs := by
  apply List.ext_getElem?
  intro i
  rw [wipe_get, wipe_get]
  split
  · simp
    cases σ[i]? <;> rfl
  · rfl
theorem wipe_name {σ : L2.St} {j : Nat} {v : V} {c : Ce} : ∀ vs : List Nat, (∀ p ∈ ([(j, c)] : Env1), p.1 ∈ vs) → wipe (σ.set j (some v)) vs = wipe σ vs := fun vs h => wipe_set (h (j, c) List.mem_cons_self)
theorem runs_list [Py α] {K : PySem.W.Frag} {p : Addr} {vs : List V} {xs : List α} {j : Nat} {Hf0 : Hp} (hj : j < φ.n) (h : Hf0 p = some (.lst vs)) (its : Its φ.κ xs Hf0 vs) : Runs φ (Itl K p) (gName j) Hf0 xs (fun x => [(j, vz φ x)]) := by
  refine ⟨fun E σ Hf ad H A e => ⟨vs, .inl (.inl (A.ef _ _ (e _ _ h))), by rw [Paired.length its]; exact Nat.le_refl _⟩, fun i x hx E σ Hf ad H A e => ?_⟩
  obtain ⟨v, hv, rv⟩ := its_get its hx
  have hl := A.ef _ _ (e _ _ h)
  refine ⟨⟨vs, v, .inl (.inl hl), hv⟩, fun u H1 ⟨e1, y⟩ Q q => ?_⟩
  subst e1
  have := y vs (.inl (.inl hl))
  rw [hv] at this
  cases this
  exact q _ Hf _ (A.set hj (Py.mono e rv)) (Evl.Ex.refl _) (Evl.Ex.refl _) wipe_name
theorem gf_list [Py α] {m : R (List α)} {j : Nat} {K : PySem.W.Frag} (hj : j < φ.n) (g : GX X EX φ a E m (zr φ)) : GF X EX φ (iList K (wpE X a)) (gName j) E m (fun x => [(j, vz φ x)]) := fun σ Hf ad H A nb Q q er =>
  g σ Hf ad H A nb _ (fun x ex v Hf' H' A' e1 e2 ⟨p, vs, h1, h2, h3⟩ => ⟨p, h1, ⟨vs, .inl (.inl (A'.ef _ _ h2))⟩, q x ex _ Hf' H' A' e1 e2 (runs_list hj h2 h3)⟩) er
/-- range -/
def rangeL (lo hi : Int) : List Int := (List.range (hi - lo).toNat).map fun (i : Nat) => lo + (i : Int)
theorem rangeL_len (lo hi : Int) : (rangeL lo hi).length = (hi - lo).toNat := by simp [rangeL]
theorem rangeL_get {lo hi : Int} {i : Nat} {x : Int} (h : (rangeL lo hi)[i]? = some x) : i < (hi - lo).toNat ∧ x = lo + (i : Int) := by
  unfold rangeL at h
  rw [List.getElem?_map, Option.map_eq_some_iff] at h
  obtain ⟨y, h1, h2⟩ := h
  obtain ⟨h3, h4⟩ := List.getElem?_eq_some_iff.mp h1
  rw [List.getElem_range] at h4
  rw [List.length_range] at h3
  subst h4
  exact ⟨h3, h2.symm⟩
theorem runs_range {lo hi : Int} {j : Nat} {Hf0 : Hp} {n : Nat} (hn : n = (hi - lo).toNat) (hj : j < φ.n) : Runs φ (Itr lo n) (gName j) Hf0 (rangeL lo hi) (fun x => [(j, vz φ x)]) := by
  subst hn
  refine ⟨fun E σ Hf ad H A e => by rw [rangeL_len]; exact Nat.le_refl _, fun i x hx E σ Hf ad H A e => ?_⟩
  obtain ⟨h1, h2⟩ := rangeL_get hx
  refine ⟨h1, fun u H1 ⟨e1, y⟩ Q q => ?_⟩
  subst e1 y h2
  exact q _ Hf _ (A.set hj rfl) (Evl.Ex.refl _) (Evl.Ex.refl _) wipe_name
def Big (i : Int) : Prop := -(2 ^ 62) ≤ i ∧ i < 2 ^ 62
instance (i : Int) : Decidable (Big i) := inferInstanceAs (Decidable (_ ∧ _))
theorem gf_r1 {m : R Int} {j : Nat} (hj : j < φ.n) (g : GX X EX φ a E m (zi φ)) : GF X EX φ (iRng1 (tCons (wpE X a) tNil)) (gName j) E (m.bind fun n => ifR (Big n) (rangeL 0 n)) (fun x => [(j, vz φ x)]) := fun σ Hf ad H A nb Q q er => by
  refine g σ Hf ad H A (R.bind_nb nb) _ (fun x ex v Hf' H' A' e1 e2 r => ?_) (bind_err er).1
  rw [ex, R.bind_ok] at nb
  obtain ⟨hc, he⟩ := ifR_nb nb
  exact ⟨x, by rw [show v = V.int x from r], hc.1, hc.2, q _ (by rw [ex, R.bind_ok]; exact he) _ Hf' H' A' e1 e2 (runs_range (by omega) hj)⟩
theorem gf_r2 {ma mb : R Int} {j : Nat} (hj : j < φ.n) (ga : GX X EX φ a E ma (zi φ)) (gb : GX X EX φ b E mb (zi φ)) : GF X EX φ (iRng2 (tCons (wpE X a) (tCons (wpE X b) tNil))) (gName j) E (ma.bind fun lo => mb.bind fun n => ifR (Big lo ∧ Big n) (rangeL lo n)) (fun x => [(j, vz φ x)]) := fun σ Hf ad H A nb Q q er => by
  have ⟨e1, e2⟩ := bind_err (P := EW φ EX) er
  refine ga σ Hf ad H A (R.bind_nb nb) _ (fun x ex v Hf1 H1 A1 f1 f2 r1 => ?_) e1
  rw [ex, R.bind_ok] at nb
  refine gb σ Hf1 ad H1 A1 (R.bind_nb nb) _ (fun y ey w Hf2 H2 A2 f3 f4 r2 => ?_) (bind_err (e2 x ex)).1
  rw [ey, R.bind_ok] at nb
  obtain ⟨hc, he⟩ := ifR_nb nb
  exact ⟨x, y, by rw [show v = V.int x from r1, show w = V.int y from r2], ⟨hc.1.1, hc.1.2, hc.2.1, hc.2.2⟩, q _ (by rw [ex, R.bind_ok, ey, R.bind_ok]; exact he) _ Hf2 H2 A2 (f1.trans f3) (f2.trans f4) (runs_range rfl hj)⟩
/-- a text, sign by sign -/
def signs (z : Tx) : List Tx := z.map fun c => [c]
theorem sign_ok {z : Tx} (h : TxOk z) {c : Nat} (hc : c ∈ z) : TxOk [c] := ⟨by show 1 ≤ sizeLine; decide, fun d hd => by rw [List.mem_singleton.mp hd]; exact h.2 c hc⟩
theorem gf_str {m : R Tx} {j : Nat} (hj : j < φ.n) (g : GX X EX φ a E m (zr φ)) : GF X EX φ (iStr (wpE X a)) (gName j) E (m.bind fun z => .ok (signs z)) (fun x => [(j, vz φ x)]) := fun σ Hf ad H A nb Q q er =>
  g σ Hf ad H A (R.bind_nb nb) _ (fun z ez v Hf' H' A' e1 e2 ⟨h1, h2⟩ => ⟨tx z, h1, q (signs z) (by rw [ez]; rfl) _ Hf' H' A' e1 e2 (by
    refine ⟨fun E σ Hf ad H A e => ?_, fun i x hx E σ Hf ad H A e => ?_⟩
    · show (tx z).cps.size ≤ (signs z).length
      simp [signs, tx]
    · unfold signs at hx
      rw [List.getElem?_map, Option.map_eq_some_iff] at hx
      obtain ⟨c, hc1, hc2⟩ := hx
      have hi : i < (tx z).cps.size := by
        have := (List.getElem?_eq_some_iff.mp hc1).1
        simp [tx]
        exact this
      refine ⟨hi, fun u H1 ⟨e3, d, hd, hu⟩ Q q => ?_⟩
      have hd' : z[i]? = some d := by
        rw [← hd]
        simp [tx]
      rw [hc1] at hd'
      cases hd'
      subst e3 hu hc2
      exact q _ Hf _ (A.set hj ⟨rfl, sign_ok h2 (List.mem_of_getElem? hc1)⟩) (Evl.Ex.refl _) (Evl.Ex.refl _) wipe_name)⟩) (bind_err er).1
/-! ### for -/
def loopR (f : β → α → R (Fw β β ρ)) : β → List α → R (Fw β γ ρ)
  | b, [] => .ok (.nx b)
  | b, x :: xs => (f b x).bind fun w => match w with
    | .nx b' => loopR f b' xs
    | .ct b' => loopR f b' xs
    | .bk b' => .ok (.nx b')
    | .rt r => .ok (.rt r)
theorem q_for {wi : TI} {g : TG} {m : R (List α)} {bE : α → Env1} {f : β → α → R (Fw β β ρ)} {Eh : β → Env1} (L : Lv X EX φ k) (b0 : β) (pi : PI X tg iter wi) (pg : PG X tg g) (src : GF X EX φ wi g E m bE) (S : Sub E (Eh b0)) (bd : ∀ b x, GS X EX φ body (bE x ++ Eh b) (f b x) Eh Eh Rt)
    (hs : ∀ x, foldedSetIterable iter X.env x = pure x := by intro _; rfl) : GQ X EX φ (.For tg iter body [] pos) E (m.bind fun xs => loopR f b0 xs) Eh Ec Rt := fun σ Hf ad H A nb D n1 n2 n3 n4 er => by
  have ⟨e1, e2⟩ := bind_err (P := EW φ EX) er
  refine wpS_of (ps_for L.own L.calm pi pg pssS hs) (src σ Hf ad H A (R.bind_nb nb) _ (fun xs exs J Hf0 H0 A0 f1 f2 rn => ?_) e1)
  rw [exs, R.bind_ok] at nb
  have q1 : ∀ z : R (Fw β γ ρ), loopR f b0 xs = z → (m.bind fun xs => loopR f b0 xs) = z := fun z ez => by rw [exs]; exact ez
  refine ⟨fun i n σ H => n = xs.length - i ∧ i ≤ xs.length ∧ ∃ b Hf ad, At φ (Eh b) σ Hf ad H ∧ Ex Hf0 Hf ∧ (loopR f b (xs.drop i) : R (Fw β γ ρ)) = loopR f b0 xs, ⟨_, rfl, Nat.zero_le _, b0, Hf0, ad, A0.sub S, Evl.Ex.refl _, rfl⟩, ?_⟩
  rintro i n σ1 H1 ⟨rfl, hi, b1, Hf1, ad1, A1, g1, em⟩
  by_cases hlt : i < xs.length
  · have hx : xs[i]? = some xs[i] := by simp [hlt]
    have hd : xs.drop i = xs[i] :: xs.drop (i + 1) := List.drop_eq_getElem_cons hlt
    obtain ⟨go, yl⟩ := rn.2 i _ hx _ _ _ _ _ A1 g1
    refine .inr ⟨go, fun σ H => ∃ n, n < xs.length - i ∧ (n = xs.length - (i + 1) ∧ i + 1 ≤ xs.length ∧ ∃ b Hf ad, At φ (Eh b) σ Hf ad H ∧ Ex Hf0 Hf ∧ (loopR f b (xs.drop (i + 1)) : R (Fw β γ ρ)) = loopR f b0 xs), fun σ' H' h => h, fun v H2 y => yl v H2 y _ fun σ2 Hf2 H3 A2 g2 g3 _ => ?_⟩
    have em' : (loopR f b0 xs : R (Fw β γ ρ)) = (f b1 xs[i]).bind fun w => match w with
      | .nx b' => loopR f b' (xs.drop (i + 1))
      | .ct b' => loopR f b' (xs.drop (i + 1))
      | .bk b' => .ok (.nx b')
      | .rt r => .ok (.rt r) := by rw [← em, hd]; rfl
    have nb' := nb
    rw [em'] at nb'
    have nx : ∀ b2, (f b1 xs[i] = .ok (.nx b2) ∨ f b1 xs[i] = .ok (.ct b2)) → ∀ σ' Hf' ad' H', At φ (Eh b2) σ' Hf' ad' H' → Ex Hf2 Hf' → ∃ n, n < xs.length - i ∧ (n = xs.length - (i + 1) ∧ i + 1 ≤ xs.length ∧ ∃ b Hf ad, At φ (Eh b) σ' Hf ad H' ∧ Ex Hf0 Hf ∧ (loopR f b (xs.drop (i + 1)) : R (Fw β γ ρ)) = loopR f b0 xs) :=
      fun b2 eb σ' Hf' ad' H' A' g4 => ⟨_, by omega, rfl, hlt, b2, Hf', ad', A', g1.trans (g2.trans g4), by
        rw [em']
        rcases eb with eb | eb
        · rw [eb]; rfl
        · rw [eb]; rfl⟩
    have er' := bind_err (P := EW φ EX) (e2 xs exs |> fun h x ex => h x (em'.trans ex))
    exact bd b1 xs[i] σ2 Hf2 ad1 H3 A2 (R.bind_nb nb') _ (fun b2 eb => nx b2 (.inl eb)) (fun b2 eb σ' Hf' ad' H' A' g4 => n1 b2 (q1 _ (by rw [em', eb]; rfl)) σ' Hf' ad' H' A' (f1.trans (g1.trans (g2.trans g4)))) (fun b2 eb => nx b2 (.inr eb))
      (fun r eb v σ' Hf' ad' H' A' g4 => n4 r (q1 _ (by rw [em', eb]; rfl)) v σ' Hf' ad' H' A' (f1.trans (g1.trans (g2.trans g4)))) er'.1
  · have e : i = xs.length := by omega
    subst e
    refine .inl ⟨rn.1 _ _ _ _ _ A1 g1, n1 b1 (q1 _ ?_) σ1 Hf1 ad1 H1 A1 (f1.trans g1)⟩
    rw [← em, List.drop_length]
    rfl
/-! ### while -/
def whileR (mc : β → R Bool) (f : β → R (Fw β β ρ)) : Nat → β → R (Fw β γ ρ)
  | 0, _ => .bad
  | n + 1, b => (mc b).bind fun c => if c = true then (f b).bind fun w => match w with
    | .nx b' => whileR mc f n b'
    | .ct b' => whileR mc f n b'
    | .bk b' => .ok (.nx b')
    | .rt r => .ok (.rt r)
    else .ok (.nx b)
theorem q_while {mc : β → R Bool} {f : β → R (Fw β β ρ)} {Eh : β → Env1} (L : Lv X EX φ k) (b0 : β) (n : Nat) (S : Sub E (Eh b0)) (gc : ∀ b, GT X EX φ c (Eh b) (mc b)) (bd : ∀ b, GS X EX φ body (Eh b) (f b) Eh Eh Rt) :
    GQ X EX φ (.While c body [] pos) E (whileR mc f n b0) Eh Ec Rt := fun σ Hf ad H A nb D n1 n2 n3 n4 er => by
  refine wpS_of (ps_while L.own ptS pssS) ?_
  refine ⟨fun n' σ H => ∃ b Hf1 ad, At φ (Eh b) σ Hf1 ad H ∧ Ex Hf Hf1 ∧ (whileR mc f n' b : R (Fw β γ ρ)) = whileR mc f n b0, ⟨n, b0, Hf, ad, A.sub S, Evl.Ex.refl _, rfl⟩, ?_⟩
  rintro n' σ1 H1 ⟨b1, Hf1, ad1, A1, g1, em⟩
  cases n' with
  | zero => exact absurd em.symm nb
  | succ n' =>
    have em' : (whileR mc f n b0 : R (Fw β γ ρ)) = (mc b1).bind fun c => if c = true then (f b1).bind fun w => match w with
      | .nx b' => whileR mc f n' b'
      | .ct b' => whileR mc f n' b'
      | .bk b' => .ok (.nx b')
      | .rt r => .ok (.rt r)
      else .ok (.nx b1) := by rw [← em]; rfl
    have nb1 := nb
    rw [em'] at nb1
    have er1 := bind_err (P := EW φ EX) (fun x ex => er x (em'.trans ex))
    refine gc b1 σ1 Hf1 ad1 H1 A1 (R.bind_nb nb1) _ (fun x ex Hf2 H2 A2 g2 g3 => ?_) er1.1
    rw [ex, R.bind_ok] at nb1 em'
    cases x with
    | false =>
      show D.nx σ1 H2
      exact n1 b1 em' σ1 Hf2 ad1 H2 A2 (g1.trans g2)
    | true =>
      rw [if_pos rfl]
      rw [if_pos rfl] at nb1 em'
      refine ⟨fun σ H => ∃ m', m' < n' + 1 ∧ ∃ b Hf1 ad, At φ (Eh b) σ Hf1 ad H ∧ Ex Hf Hf1 ∧ (whileR mc f m' b : R (Fw β γ ρ)) = whileR mc f n b0, fun σ' H' h => h, ?_⟩
      have nx : ∀ b2, (f b1 = .ok (.nx b2) ∨ f b1 = .ok (.ct b2)) → ∀ σ' Hf' ad' H', At φ (Eh b2) σ' Hf' ad' H' → Ex Hf2 Hf' → ∃ m', m' < n' + 1 ∧ ∃ b Hf1 ad, At φ (Eh b) σ' Hf1 ad H' ∧ Ex Hf Hf1 ∧ (whileR mc f m' b : R (Fw β γ ρ)) = whileR mc f n b0 :=
        fun b2 eb σ' Hf' ad' H' A' g4 => ⟨n', Nat.lt_succ_self _, b2, Hf', ad', A', g1.trans (g2.trans g4), by
          rw [em']
          rcases eb with eb | eb
          · rw [eb]; rfl
          · rw [eb]; rfl⟩
      exact bd b1 σ1 Hf2 ad1 H2 A2 (R.bind_nb nb1) _ (fun b2 eb => nx b2 (.inl eb)) (fun b2 eb σ' Hf' ad' H' A' g4 => n1 b2 (by rw [em', eb]; rfl) σ' Hf' ad' H' A' (g1.trans (g2.trans g4))) (fun b2 eb => nx b2 (.inr eb))
        (fun r eb v σ' Hf' ad' H' A' g4 => n4 r (by rw [em', eb]; rfl) v σ' Hf' ad' H' A' (g1.trans (g2.trans g4))) (fun x ez => er1.2 true ex x (by rw [if_pos rfl, ez]; rfl))
/-! ### return -/
theorem s_ret {ρ0 : RR ρ} {m : R ρ} (g : GX X EX φ e E m ρ0) (hr : ∀ x Hf H v, ρ0 x Hf H v → Rt x Hf H v) : GS X EX φ (.Return (some e) pos :: rest) E (m.bind fun x => .ok (.rt x : Fw β γ ρ)) En Ec Rt := fun σ Hf ad H A nb D n1 n2 n3 n4 er =>
  wpSs_of (pss_cons (ps_ret peS) pssS) (g σ Hf ad H A (R.bind_nb nb) _ (fun x ex v Hf1 H1 A1 f1 f2 r => n4 x (by rw [ex]; rfl) v σ Hf1 ad H1 (A1.sub .nil) f1 (hr x Hf1 H1 v r)) (bind_err er).1)
theorem s_retU {Rt : RR Unit} (hr : ∀ Hf H, Rt () Hf H .non) : GS X EX φ (.Return none pos :: rest) E (.ok (.rt () : Fw β γ Unit)) En Ec Rt := fun σ Hf ad H A nb D n1 n2 n3 n4 er =>
  wpSs_of (pss_cons ps_retN pssS) (n4 () rfl .non σ Hf ad H (A.sub .nil) (Evl.Ex.refl _) (hr Hf H))
/-- a new list, to be returned -/
abbrev nr {α : Type} [Py α] (φ : Fx) : RR (List α) := fun xs Hf H v => ∃ p vs, v = .ref p ∧ Hf p = none ∧ φ.H0 p = none ∧ H p = some (.lst vs) ∧ Its φ.κ xs Hf vs
theorem s_retN [Py α] {m : R (List α)} (g : GN X EX φ e E m) : GS X EX φ (.Return (some e) pos :: rest) E (m.bind fun x => .ok (.rt x : Fw β γ (List α))) En Ec (nr φ) := fun σ Hf ad H A nb D n1 n2 n3 n4 er =>
  wpSs_of (pss_cons (ps_ret peS) pssS) (g σ Hf ad H A (R.bind_nb nb) _ (fun x ex p vs Hf1 H1 A1 f1 f2 h1 h2 h3 h4 => n4 x (by rw [ex]; rfl) _ σ Hf1 ad H1 (A1.sub .nil) f1 ⟨p, vs, rfl, h1, h2.1, h3, h4⟩) (bind_err er).1)
theorem s_retO [Py α] {xs : List α} (p : PE X e (tVar i)) (h : lk E i = some (vo φ xs) := by rfl) : GS X EX φ (.Return (some e) pos :: rest) E (.ok (.rt xs : Fw β γ (List α))) En Ec (nr φ) := fun σ Hf ad H A nb D n1 n2 n3 n4 er => by
  obtain ⟨h1, h2, h3, o, h4, vs, h5, h6⟩ := A.sl i _ h
  subst h5
  exact wpSs_of (pss_cons (ps_ret p) pssS) ⟨_, h1, n4 xs rfl _ σ Hf ad H (A.sub .nil) (Evl.Ex.refl _) ⟨_, vs, rfl, h2, h3, h4, h6⟩⟩
/-! ### a list of one's own is frozen -/
theorem s_frz [Py α] {xs : List α} {m : R (Fw β γ ρ)} (i : Nat) (h : lk E i = some (vo φ xs)) (S : Sub E E') (hE : lk E' i = none) (r : GS X EX φ sts ((i, vz φ xs) :: E') m En Ec Rt) : GS X EX φ sts E m En Ec Rt := fun σ Hf ad H A nb D n1 n2 n3 n4 er => by
  obtain ⟨Hf', A', e⟩ := A.thaw (q := rp φ xs) h S (fun c z => by rw [hE] at z; cases z) (fun Hf' v o hv ho ⟨vs, hl, its⟩ => ⟨_, vs, hv, by rw [ho, hl], its⟩)
  exact r σ Hf' ad H A' nb D (fun b eb σ' Hf1 ad' H' A1 e1 => n1 b eb σ' Hf1 ad' H' A1 (e.trans e1)) (fun b eb σ' Hf1 ad' H' A1 e1 => n2 b eb σ' Hf1 ad' H' A1 (e.trans e1)) (fun b eb σ' Hf1 ad' H' A1 e1 => n3 b eb σ' Hf1 ad' H' A1 (e.trans e1)) (fun b eb v σ' Hf1 ad' H' A1 e1 => n4 b eb v σ' Hf1 ad' H' A1 (e.trans e1)) er
end
end G

/-! G6: comprehensions, defs, the law's end. -/
namespace G
open PySem L2
def strict {α : Type} (m : R α) : R α := match m with
  | .bad => .bad
  | .err _ => .bad
  | .ok a => .ok a
theorem strict_ok {α : Type} (a : α) : strict (.ok a) = .ok a := rfl
theorem strict_nb {α : Type} {m : R α} (h : strict m ≠ .bad) : ∃ a, m = .ok a := by
  cases m with
  | bad => exact absurd rfl h
  | err x => exact absurd rfl h
  | ok a => exact ⟨a, rfl⟩
def compR {α β : Type} (t : α → R Bool) (f : α → R β) : List α → R (List β)
  | [] => .ok []
  | x :: xs => (strict (t x)).bind fun c => if c = true then (strict (f x)).bind fun y => (compR t f xs).bind fun ys => .ok (y :: ys) else compR t f xs
section
variable {X : Cx} {EX : XK} {φ : Fx} {k : Nat} {E E' : Env1} {α β γ δ ρ : Type} {e a b c tg iter elt : Expr} {pos : Pos} {i : Nat} {ifs : List Expr} {scope : Scope} {own : List (Str × Nat)}
theorem Lv.blk (L : Lv X EX φ k) {s : Shared} {H : Hp} {C : Addr} {cl : List (Str × Addr)} {fp : List Addr} : Lv (X.blk s H scope (compEnvC scope cl C X.env) fp) E0 φ k where
  room := L.room
  ps := passL
  tk := takes0
  calm := L.calm
  nd := L.nd
  kK := L.kK
  n := L.n
  own := PassesOwn.never
theorem At.wipe {σ : L2.St} {Hf : Hp} {ad : Nat → Addr} {H : Hp} {vs : List Nat} (A : At φ E σ Hf ad H) (h : ∀ i ∈ vs, lk E i = none) : At φ E (wipe σ vs) Hf ad H := by
  have hs : ∀ {i : Nat} {c : Ce}, lk E i = some c → (L2.wipe σ vs)[i]? = σ[i]? := fun {i c} e => by
    rw [wipe_get, if_neg]
    intro hm
    rw [h i hm] at e
    cases e
  refine ⟨A.e0, A.f0, A.ef, A.nw, fun i c e => ?_, A.ds, by rw [wipe_length]; exact A.ln⟩
  have q := A.sl i c e
  cases c with
  | fz r => obtain ⟨v, h1, h2⟩ := q; exact ⟨v, by rw [hs e]; exact h1, h2⟩
  | ow r => obtain ⟨h1, h2⟩ := q; exact ⟨by rw [hs e]; exact h1, h2⟩
  | gh r => exact q
theorem At.unwipe {σ σ2 : L2.St} {Hf : Hp} {ad : Nat → Addr} {H : Hp} {vs : List Nat} (A : At φ E σ2 Hf ad H) (h : ∀ i ∈ vs, lk E i = none) (hw : L2.wipe σ2 vs = L2.wipe σ vs) : At φ E σ Hf ad H := by
  have hs : ∀ {i : Nat} {c : Ce}, lk E i = some c → σ[i]? = σ2[i]? := fun {i c} e => by
    have hm : i ∉ vs := fun hm => by rw [h i hm] at e; cases e
    have q := congrArg (fun l => l[i]?) hw
    simp only [wipe_get, if_neg hm] at q
    exact q.symm
  refine ⟨A.e0, A.f0, A.ef, A.nw, fun i c e => ?_, A.ds, ?_⟩
  · have q := A.sl i c e
    cases c with
    | fz r => obtain ⟨v, h1, h2⟩ := q; exact ⟨v, by rw [hs e]; exact h1, h2⟩
    | ow r => obtain ⟨h1, h2⟩ := q; exact ⟨by rw [hs e]; exact h1, h2⟩
    | gh r => exact q
  · have q := congrArg List.length hw
    rw [wipe_length, wipe_length] at q
    rw [← q]
    exact A.ln
theorem At.unghost {σ : L2.St} {Hf : Hp} {ad : Nat → Addr} {H : Hp} {gi : Nat} {r : RO} {D : Addr} (A : At φ ((gi, .gh r) :: E) σ Hf (adS ad gi D) H) (h : lk E gi = none) : At φ E σ Hf ad H := by
  have ne : ∀ {i : Nat} {c : Ce}, lk E i = some c → i ≠ gi := fun {i c} e z => by rw [z, h] at e; cases e
  refine ⟨A.e0, A.f0, A.ef, A.nw, fun i c e => ?_, fun i j c d e1 e2 o1 o2 hne => ?_, A.ln⟩
  · have q := A.sl i c (by rw [lk_cons_ne (ne e)]; exact e)
    have ha : adS ad gi D i = ad i := adS_ne (ne e)
    cases c with
    | fz r => exact q
    | ow r =>
      obtain ⟨h1, h2, h3, o, h4, h5⟩ := q
      rw [ha] at h1 h2 h3 h4 h5
      exact ⟨h1, h2, h3, o, h4, h5⟩
    | gh r =>
      obtain ⟨h2, h3, o, h4, h5⟩ := q
      rw [ha] at h2 h3 h4 h5
      exact ⟨h2, h3, o, h4, h5⟩
  · have := A.ds i j c d (by rw [lk_cons_ne (ne e1)]; exact e1) (by rw [lk_cons_ne (ne e2)]; exact e2) o1 o2 hne
    rw [adS_ne (ne e1), adS_ne (ne e2)] at this
    exact this
theorem EW_E0 {m : R α} (h : ∀ z, m ≠ .err z) : ∀ x, m = .err x → EW φ E0 x := fun x e => absurd e (h x)
/-- the ifs of a comprehension -/
def wpTs (X : Cx) (ifs : List Expr) : TT := fun σ H Q => ∀ (pins : List (Addr × Obj)) (s : Shared), Inv X pins σ H s →
  wpAny (model X.prog X.w) X.A (forIn ifs true fun c r => if r = true then do let ok ← isTrue c X.env (eval c X.env); pure (ForInStep.yield ok) else pure (ForInStep.yield r)) (TP X pins σ Q) X.xe s
theorem wpTs_of {ifs : List Expr} {t : TT} {σ : L2.St} {H : Hp} {Q : Bool → Hp → Prop} (p : PTs X ifs t) (h : t σ H Q) : wpTs X ifs σ H Q := fun pins s I => p.run pins s σ H Q I h
def GTs (X : Cx) (φ : Fx) (ifs : List Expr) (E : Env1) (m : R Bool) : Prop := ∀ (σ : L2.St) (Hf : Hp) (ad : Nat → Addr) (H : Hp), At φ E σ Hf ad H → ∀ x, m = .ok x → ∀ Q : Bool → Hp → Prop,
  (∀ Hf' H', At φ E σ Hf' ad H' → Ex Hf Hf' → Ex H H' → Q x H') → wpTs X ifs σ H Q
theorem ifs_nil : GTs X φ [] E (.ok true) := fun σ Hf ad H A x ex Q q => by
  cases ex
  exact wpTs_of pts_nil (q Hf H A (Evl.Ex.refl _) (Evl.Ex.refl _))
theorem ifs_one {m : R Bool} (g : GT X E0 φ c E m) : GTs X φ [c] E m := fun σ Hf ad H A x ex Q q =>
  wpTs_of (pts_one ptS) (g σ Hf ad H A (by rw [ex]; exact fun z => nomatch z) Q (fun y ey Hf' H' A' e1 e2 => by rw [ex] at ey; cases ey; exact q Hf' H' A' e1 e2) (EW_E0 (by rw [ex]; exact fun z q => nomatch q)))
/-- what a list comprehension does -/
abbrev lcT (X : Cx) (scope : Scope) (ifs : List Expr) : TT := fun σ H Q => ∀ (s : Shared) (Hc : Hp) (C : Addr) (cl : List (Str × Addr)) (fp : List Addr), wpTs (X.blk s Hc scope (compEnvC scope cl C X.env) fp) ifs σ H Q
abbrev lcE (X : Cx) (scope : Scope) (elt : Expr) : TE := fun σ H Q => ∀ (s : Shared) (Hc : Hp) (C : Addr) (cl : List (Str × Addr)) (fp : List Addr), wpE (X.blk s Hc scope (compEnvC scope cl C X.env) fp) elt σ H Q
theorem g_lcR [Py β] {wi : TI} {g : TG} {m : R (List α)} {bE : α → Env1} {t : α → R Bool} {f : α → R β} (L : Lv X EX φ k) (gi : Nat) (own : List (Str × Nat)) (hgi : lk E gi = none)
    (src : GF X EX φ wi g E m bE) (hv : ∀ i ∈ own.map (·.2), lk E i = none ∧ Nat.beq i gi = false) (hb : ∀ x, ∀ p ∈ bE x, p.1 ∈ own.map (·.2))
    (ht : ∀ (s : Shared) (H : Hp) (C : Addr) (cl : List (Str × Addr)) (fp : List Addr) x r, Lv (X.blk s H scope (compEnvC scope cl C X.env) fp) E0 φ k → GTs (X.blk s H scope (compEnvC scope cl C X.env) fp) φ ifs (bE x ++ (gi, .gh r) :: E) (t x))
    (he : ∀ (s : Shared) (H : Hp) (C : Addr) (cl : List (Str × Addr)) (fp : List Addr) x r, Lv (X.blk s H scope (compEnvC scope cl C X.env) fp) E0 φ k → GX (X.blk s H scope (compEnvC scope cl C X.env) fp) E0 φ elt (bE x ++ (gi, .gh r) :: E) (f x) (zr φ)) :
    ∀ (σ : L2.St) (Hf : Hp) (ad : Nat → Addr) (H : Hp), At φ E σ Hf ad H → (m.bind fun xs => (ifR (xs.length ≤ sizeLine) xs).bind fun xs => compR t f xs) ≠ .bad → ∀ Q : VK,
  (∀ x, (m.bind fun xs => (ifR (xs.length ≤ sizeLine) xs).bind fun xs => compR t f xs) = .ok x → ∀ p vs Hf' H', At φ E σ Hf' ad H' → Ex Hf Hf' → Ex H H' → Hf' p = none → Off φ E ad p → H' p = some (.lst vs) → Its φ.κ x Hf' vs → Q (.ref p) H') → (∀ x, (m.bind fun xs => (ifR (xs.length ≤ sizeLine) xs).bind fun xs => compR t f xs) = .err x → EW φ EX x) → tLc wi g (lcT X scope ifs) (lcE X scope elt) (own.map (·.2)) σ H Q := fun σ Hf ad H A nb Q q er => by
  have ⟨e1, e2⟩ := bind_err (P := EW φ EX) er
  refine (src σ Hf ad H A (R.bind_nb nb) _ (fun xs exs J Hf0 H0 A0 f1 f2 rn D hD => ?_) e1)
  rw [exs, R.bind_ok] at nb
  obtain ⟨hc, hce⟩ := ifR_nb (R.bind_nb nb)
  rw [hce, R.bind_ok] at nb
  have q1 : ∀ z : R (List β), compR t f xs = z → (m.bind fun xs => (ifR (xs.length ≤ sizeLine) xs).bind fun xs => compR t f xs) = z := fun z ez => by rw [exs, R.bind_ok, hce]; exact ez
  have h10 : ∀ {r : RO}, ∀ i ∈ own.map (·.2), lk ((gi, .gh r) :: E) i = none := fun {r} i hi => by
    have hne : i ≠ gi := fun z => by have := (hv i hi).2; rw [z, Nat.beq_refl] at this; cases this
    rw [lk_cons_ne hne]
    exact (hv i hi).1
  have A0' : At φ ((gi, .gh (ol φ ([] : List β))) :: E) σ Hf0 (adS ad gi D) (upd H0 D (.lst [])) :=
    (A0.up (Evl.Ex.new hD)).ghost (Evl.fresh_back A0.ef hD) upd_same (A0.off hD) ⟨[], rfl, .nil⟩
  refine ⟨fun i n H => n = xs.length - i ∧ i ≤ xs.length ∧ ∃ (done : List β) (Hf1 : Hp), At φ ((gi, .gh (ol φ done)) :: E) σ Hf1 (adS ad gi D) H ∧ Ex Hf0 Hf1 ∧ Ex H0 H ∧ done.length ≤ i ∧ ((compR t f (xs.drop i)).bind fun ys => .ok (done ++ ys)) = compR t f xs, ⟨_, rfl, Nat.zero_le _, [], Hf0, A0', Evl.Ex.refl _, Evl.Ex.new hD, Nat.le_refl _, ?_⟩, ?_⟩
  · show (compR t f xs).bind (fun ys => .ok ys) = _
    cases compR t f xs <;> rfl
  rintro i n H1 ⟨rfl, hi, done, Hf1, A1, g1, g0, hl, em⟩
  by_cases hlt : i < xs.length
  · have hx : xs[i]? = some xs[i] := by simp [hlt]
    have hd : xs.drop i = xs[i] :: xs.drop (i + 1) := List.drop_eq_getElem_cons hlt
    have Aw := A1.wipe (vs := own.map (·.2)) h10
    obtain ⟨go, yl⟩ := rn.2 i _ hx _ _ _ _ _ Aw g1
    refine .inr ⟨go, fun H => ∃ n, n < xs.length - i ∧ (n = xs.length - (i + 1) ∧ i + 1 ≤ xs.length ∧ ∃ (done : List β) (Hf1 : Hp), At φ ((gi, .gh (ol φ done)) :: E) σ Hf1 (adS ad gi D) H ∧ Ex Hf0 Hf1 ∧ Ex H0 H ∧ done.length ≤ i + 1 ∧ ((compR t f (xs.drop (i + 1))).bind fun ys => .ok (done ++ ys)) = compR t f xs), fun H' h => h, fun v H2 y => yl v H2 y _ fun σ2 Hf2 H3 A2 g2 g3 hw => ?_⟩
    have hw' : wipe σ2 (own.map (·.2)) = wipe σ (own.map (·.2)) := by rw [hw _ (hb _), wipe_wipe]
    refine ⟨hw', fun s Hc C cl fp => ?_⟩
    have em' := em
    rw [hd, compR] at em'
    have nb' := nb
    rw [← em'] at nb'
    obtain ⟨b, eb⟩ := strict_nb (R.bind_nb (R.bind_nb nb'))
    rw [eb, strict_ok, R.bind_ok] at em' nb'
    refine ht s Hc C cl fp xs[i] _ L.blk σ2 Hf2 _ H3 A2 b eb _ fun Hf3 H4 A3 g4 g5 => ?_
    have back : ∀ {r : RO} {Hf : Hp} {H : Hp}, At φ (bE xs[i] ++ (gi, .gh r) :: E) σ2 Hf (adS ad gi D) H → At φ ((gi, .gh r) :: E) σ Hf (adS ad gi D) H := fun {r Hf H} B => by
      have sub : ∀ (l : Env1), (∀ p ∈ l, p.1 ∈ own.map (·.2)) → ∀ i c, lk ((gi, .gh r) :: E) i = some c → lk (l ++ (gi, .gh r) :: E) i = some c := by
        intro l
        induction l with
        | nil => intro _ i c h; exact h
        | cons p l ih =>
          intro hp i c h
          have hne : i ≠ p.1 := fun z => by
            have := h10 (r := r) p.1 (hp p List.mem_cons_self)
            rw [← z, h] at this
            cases this
          show lk ((p.1, p.2) :: (l ++ (gi, .gh r) :: E)) i = _
          rw [lk_cons_ne hne]
          exact ih (fun q hq => hp q (List.mem_cons_of_mem _ hq)) i c h
      exact (B.subF (sub _ (hb _))).unwipe h10 hw'
    cases b with
    | false =>
      show ∃ n, _
      refine ⟨_, ?_, rfl, hlt, done, Hf3, back A3, g1.trans (g2.trans g4), g0.trans (g3.trans g5), Nat.le_succ_of_le hl, em'⟩
      omega
    | true =>
      rw [if_pos rfl] at em' nb'
      obtain ⟨y, ey⟩ := strict_nb (R.bind_nb (R.bind_nb nb'))
      rw [ey, strict_ok, R.bind_ok] at em'
      show ∀ (s : Shared) (Hc : Hp) (C : Addr) (cl : List (Str × Addr)) (fp : List Addr), wpE (X.blk s Hc scope (compEnvC scope cl C X.env) fp) elt σ2 H4 _
      intro s Hc C cl fp
      refine he s Hc C cl fp xs[i] _ L.blk σ2 Hf3 _ H4 A3 (by rw [ey]; exact fun z => nomatch z) _ (fun y' ey' u Hf4 H5 A4 g6 g7 ru => ?_) (EW_E0 (by rw [ey]; exact fun z q => nomatch q))
      rw [ey] at ey'
      cases ey'
      have A5 := back A4
      obtain ⟨h2, h3, o, h4, acc, h5, h6⟩ := A5.sl gi _ lk_cons_eq
      subst h5
      rw [adS_eq] at h2 h3 h4
      have hla : acc.length = done.length := (Paired.length h6).symm
      refine ⟨acc, h4, by omega, ?_⟩
      have A6 := A5.wrG (o := .lst (acc ++ [u])) (r' := ol φ (done ++ [y])) lk_cons_eq ⟨_, rfl, its_app h6 (.cons ru .nil)⟩
      rw [adS_eq] at A6
      have hD0 : H0 D = none := hD
      refine ⟨_, by omega, rfl, hlt, done ++ [y], Hf4, A6.subF (fun j c e => ?_), g1.trans (g2.trans (g4.trans g6)), Evl.Ex.mut (g0.trans (g3.trans (g5.trans g7))) hD0, by rw [List.length_append]; simp; omega, ?_⟩
      · by_cases hj : j = gi
        · subst hj; rw [lk_cons_eq] at e ⊢; exact e
        · rw [lk_cons_ne hj] at e ⊢; rw [lk_cons_ne hj]; exact e
      · rw [← em']
        cases compR t f (xs.drop (i + 1)) with
        | bad => rfl
        | err z => rfl
        | ok ys => simp [R.bind]
  · have e : i = xs.length := by omega
    subst e
    obtain ⟨h2, h3, o, h4, acc, h5, h6⟩ := A1.sl gi _ lk_cons_eq
    subst h5
    rw [adS_eq] at h2 h3 h4
    rw [List.drop_length] at em
    have em2 : compR t f xs = .ok done := by rw [← em]; simp [compR, R.bind]
    exact .inl ⟨rn.1 _ _ _ _ _ A1 g1, q done (q1 _ em2) D acc Hf1 H1 (A1.unghost hgi) (f1.trans g1) (f2.trans g0) h2 (A0.off hD) h4 h6⟩
/-- [elt for tg in iter if ..] -/
theorem g_lc [Py β] {wi : TI} {g : TG} {m : R (List α)} {bE : α → Env1} {t : α → R Bool} {f : α → R β} (L : Lv X EX φ k) (gi : Nat) (own : List (Str × Nat)) (hgi : lk E gi = none) (pi : PI X tg iter wi) (ok : BlkOk X.N X.env.scope scope own)
    (hg : ∀ (s : Shared) (H : Hp) (C : Addr) (cl : List (Str × Addr)) (fp : List Addr), PG (X.blk s H scope (compEnvC scope cl C X.env) fp) tg g) (src : GF X EX φ wi g E m bE) (hv : ∀ i ∈ own.map (·.2), lk E i = none ∧ Nat.beq i gi = false) (hb : ∀ x, ∀ p ∈ bE x, p.1 ∈ own.map (·.2))
    (ht : ∀ (s : Shared) (H : Hp) (C : Addr) (cl : List (Str × Addr)) (fp : List Addr) x r, Lv (X.blk s H scope (compEnvC scope cl C X.env) fp) E0 φ k → GTs (X.blk s H scope (compEnvC scope cl C X.env) fp) φ ifs (bE x ++ (gi, .gh r) :: E) (t x))
    (he : ∀ (s : Shared) (H : Hp) (C : Addr) (cl : List (Str × Addr)) (fp : List Addr) x r, Lv (X.blk s H scope (compEnvC scope cl C X.env) fp) E0 φ k → GX (X.blk s H scope (compEnvC scope cl C X.env) fp) E0 φ elt (bE x ++ (gi, .gh r) :: E) (f x) (zr φ))
    (hs : ∀ x, foldedSetIterable iter X.env x = pure x := by intro _; rfl) : GN X EX φ (.ListComp elt [⟨tg, iter, ifs, 0⟩] scope pos) E (m.bind fun xs => (ifR (xs.length ≤ sizeLine) xs).bind fun xs => compR t f xs) := fun σ Hf ad H A nb Q q er =>
  wpE_of (pe_lc (tt := lcT X scope ifs) (te := lcE X scope elt) L.calm L.nd pi ok hg (fun s Hc C cl fp => ⟨fun pins s' σ H Q I h => h s Hc C cl fp pins s' I⟩) (fun s Hc C cl fp => ⟨fun pins s' σ H Q I h => h s Hc C cl fp pins s' I⟩) hs) (g_lcR L gi own hgi src hv hb ht he σ Hf ad H A nb Q q er)
/-- y = [elt for ..] on one line, a list of one's own -/
theorem s_setLcN [Py β] {τ υ ω : Type} {rest : List Stmt} {En : τ → Env1} {Ec : υ → Env1} {Rt : RR ω} {z : Str} {py spos : Pos} {F : List β → R (Fw τ υ ω)} {wi : TI} {g : TG} {m : R (List α)} {bE : α → Env1} {t : α → R Bool} {f : α → R β} (L : Lv X EX φ k) (gi : Nat) (own : List (Str × Nat)) (hgi : lk E gi = none) (pi : PI X tg iter wi) (ok : BlkOk X.N X.env.scope scope own)
    (hg : ∀ (s : Shared) (H : Hp) (C : Addr) (cl : List (Str × Addr)) (fp : List Addr), PG (X.blk s H scope (compEnvC scope cl C X.env) fp) tg g) (src : GF X EX φ wi g E m bE) (hv : ∀ i ∈ own.map (·.2), lk E i = none ∧ Nat.beq i gi = false) (hb : ∀ x, ∀ p ∈ bE x, p.1 ∈ own.map (·.2))
    (ht : ∀ (s : Shared) (H : Hp) (C : Addr) (cl : List (Str × Addr)) (fp : List Addr) x r, Lv (X.blk s H scope (compEnvC scope cl C X.env) fp) E0 φ k → GTs (X.blk s H scope (compEnvC scope cl C X.env) fp) φ ifs (bE x ++ (gi, .gh r) :: E) (t x))
    (he : ∀ (s : Shared) (H : Hp) (C : Addr) (cl : List (Str × Addr)) (fp : List Addr) x r, Lv (X.blk s H scope (compEnvC scope cl C X.env) fp) E0 φ k → GX (X.blk s H scope (compEnvC scope cl C X.env) fp) E0 φ elt (bE x ++ (gi, .gh r) :: E) (f x) (zr φ))
    (j : Nat) (hj : X.N[j]? = some z) (hyl : X.env.scope.names.lookup z = some .local) (hsw : swapsWith (.ListComp elt [⟨tg, iter, ifs, 0⟩] scope pos) (some (.Name z py)) spos.line X.env = pure true) (r : ∀ y, GS X EX φ rest ((j, vo φ y) :: E) (F y) En Ec Rt)
    (hs : ∀ x, foldedSetIterable iter X.env x = pure x := by intro _; rfl) : GS X EX φ (.Assign [.Name z py] (.ListComp elt [⟨tg, iter, ifs, 0⟩] scope pos) spos :: rest) E ((m.bind fun xs => (ifR (xs.length ≤ sizeLine) xs).bind fun xs => compR t f xs).bind F) En Ec Rt := fun σ Hf ad H A nb D n1 n2 n3 n4 er => by
  have ⟨e1, e2⟩ := bind_err (P := EW φ EX) er
  have hn : j < φ.n := by rw [L.n]; exact (List.getElem?_eq_some_iff.mp hj).1
  refine wpSs_of (pss_cons (ps_setLc (tt := lcT X scope ifs) (te := lcE X scope elt) L.calm L.nd hj hyl hsw pi ok hg (fun s Hc C cl fp => ⟨fun pins s' σ H Q I h => h s Hc C cl fp pins s' I⟩) (fun s Hc C cl fp => ⟨fun pins s' σ H Q I h => h s Hc C cl fp pins s' I⟩) hs) pssS) ?_
  refine g_lcR L gi own hgi src hv hb ht he σ Hf ad H A (R.bind_nb nb) (fun x H1 => wpSs X rest D (σ.set j (some x)) H1) (fun y ey p vs Hf1 H1 A1 f1 f2 h1 h2 h3 h4 => ?_) e1
  rw [ey, R.bind_ok] at nb
  refine r y _ Hf1 _ H1 (A1.setO hn h1 h3 h2 ⟨vs, rfl, h4⟩) nb D (fun b eb σ' Hf' ad' H' A' e' => n1 b (by rw [ey]; exact eb) σ' Hf' ad' H' A' (f1.trans e')) (fun b eb σ' Hf' ad' H' A' e' => n2 b (by rw [ey]; exact eb) σ' Hf' ad' H' A' (f1.trans e'))
    (fun b eb σ' Hf' ad' H' A' e' => n3 b (by rw [ey]; exact eb) σ' Hf' ad' H' A' (f1.trans e')) (fun b eb v σ' Hf' ad' H' A' e' => n4 b (by rw [ey]; exact eb) v σ' Hf' ad' H' A' (f1.trans e')) (e2 y ey)
/-- .. frozen at once -/
theorem s_setLc [Py β] {τ υ ω : Type} {rest : List Stmt} {En : τ → Env1} {Ec : υ → Env1} {Rt : RR ω} {z : Str} {py spos : Pos} {F : List β → R (Fw τ υ ω)} {wi : TI} {g : TG} {m : R (List α)} {bE : α → Env1} {t : α → R Bool} {f : α → R β} (L : Lv X EX φ k) (gi : Nat) (own : List (Str × Nat)) (hgi : lk E gi = none) (pi : PI X tg iter wi) (ok : BlkOk X.N X.env.scope scope own)
    (hg : ∀ (s : Shared) (H : Hp) (C : Addr) (cl : List (Str × Addr)) (fp : List Addr), PG (X.blk s H scope (compEnvC scope cl C X.env) fp) tg g) (src : GF X EX φ wi g E m bE) (hv : ∀ i ∈ own.map (·.2), lk E i = none ∧ Nat.beq i gi = false) (hb : ∀ x, ∀ p ∈ bE x, p.1 ∈ own.map (·.2))
    (ht : ∀ (s : Shared) (H : Hp) (C : Addr) (cl : List (Str × Addr)) (fp : List Addr) x r, Lv (X.blk s H scope (compEnvC scope cl C X.env) fp) E0 φ k → GTs (X.blk s H scope (compEnvC scope cl C X.env) fp) φ ifs (bE x ++ (gi, .gh r) :: E) (t x))
    (he : ∀ (s : Shared) (H : Hp) (C : Addr) (cl : List (Str × Addr)) (fp : List Addr) x r, Lv (X.blk s H scope (compEnvC scope cl C X.env) fp) E0 φ k → GX (X.blk s H scope (compEnvC scope cl C X.env) fp) E0 φ elt (bE x ++ (gi, .gh r) :: E) (f x) (zr φ))
    (j : Nat) (hj : X.N[j]? = some z) (hyl : X.env.scope.names.lookup z = some .local) (hsw : swapsWith (.ListComp elt [⟨tg, iter, ifs, 0⟩] scope pos) (some (.Name z py)) spos.line X.env = pure true) (r : ∀ y, GS X EX φ rest ((j, vz φ y) :: E) (F y) En Ec Rt)
    (hs : ∀ x, foldedSetIterable iter X.env x = pure x := by intro _; rfl) : GS X EX φ (.Assign [.Name z py] (.ListComp elt [⟨tg, iter, ifs, 0⟩] scope pos) spos :: rest) E ((m.bind fun xs => (ifR (xs.length ≤ sizeLine) xs).bind fun xs => compR t f xs).bind F) En Ec Rt := fun σ Hf ad H A nb D n1 n2 n3 n4 er => by
  have ⟨e1, e2⟩ := bind_err (P := EW φ EX) er
  have hn : j < φ.n := by rw [L.n]; exact (List.getElem?_eq_some_iff.mp hj).1
  refine wpSs_of (pss_cons (ps_setLc (tt := lcT X scope ifs) (te := lcE X scope elt) L.calm L.nd hj hyl hsw pi ok hg (fun s Hc C cl fp => ⟨fun pins s' σ H Q I h => h s Hc C cl fp pins s' I⟩) (fun s Hc C cl fp => ⟨fun pins s' σ H Q I h => h s Hc C cl fp pins s' I⟩) hs) pssS) ?_
  refine g_lcR L gi own hgi src hv hb ht he σ Hf ad H A (R.bind_nb nb) (fun x H1 => wpSs X rest D (σ.set j (some x)) H1) (fun y ey p vs Hf1 H1 A1 f1 f2 h1 h2 h3 h4 => ?_) e1
  rw [ey, R.bind_ok] at nb
  have f1' := f1.trans (Evl.Ex.new (o := .lst vs) h1)
  refine r y _ _ ad H1 ((A1.frz h1 h3 h2).set hn ⟨p, vs, rfl, upd_same, Its.mono (Evl.Ex.new h1) h4⟩) nb D (fun b eb σ' Hf' ad' H' A' e' => n1 b (by rw [ey]; exact eb) σ' Hf' ad' H' A' (f1'.trans e')) (fun b eb σ' Hf' ad' H' A' e' => n2 b (by rw [ey]; exact eb) σ' Hf' ad' H' A' (f1'.trans e'))
    (fun b eb σ' Hf' ad' H' A' e' => n3 b (by rw [ey]; exact eb) σ' Hf' ad' H' A' (f1'.trans e')) (fun b eb v σ' Hf' ad' H' A' e' => n4 b (by rw [ey]; exact eb) v σ' Hf' ad' H' A' (f1'.trans e')) (e2 y ey)
end
/-! ### defs -/
def retE {ρ : Type} : Fw Empty Empty ρ → R ρ
  | .nx b => nomatch b
  | .bk b => nomatch b
  | .ct b => nomatch b
  | .rt r => .ok r
def retU : Fw Unit Empty Unit → R Unit
  | .nx _ => .ok ()
  | .bk b => nomatch b
  | .ct b => nomatch b
  | .rt _ => .ok ()
def uE : Unit → Env1 := fun _ => []
section
variable {P : Program} {w : World} {K : PySem.W.Frag} {mg : Str → Option Value} {base : Heap} {A ρ : Type} [PyA A] [PyE A] [Py ρ] {κ : Cc} {x qual : Str} {st : Stmt} {f : Addr} {fd : FuncData} {N ps : List Str} {k : Nat}
abbrev XF (P : Program) (w : World) (K : PySem.W.Frag) (mg : Str → Option Value) (base : Heap) (N : List Str) (qual : Str) (st : Stmt) (f : Addr) (cdv : Value) (A : Around) (outer : List Env) (s : Shared) (H : Hp) (E : XK) : Cx := cxOf (L2.CX P w) P w K mg base N qual (defScope st) f cdv A outer s H E
theorem lv_of (hK : κ.K = K) (S : FnScope N ps (defScope st)) {cdv : Value} {A : Around} {outer : List Env} {s : Shared} {H Hf : Hp} {E : XK} (hr : Room k (A.deeper (PyProof.Rows.envOfC qual (defScope st) s.heap.objs.size f cdv))) :
    Lv (XF P w K mg base N qual st f cdv A outer s H E) E ⟨κ, H, Hf, N.length⟩ k where
  room := hr
  ps := passes_call (takes_of rfl rfl rfl rfl) fun _ _ _ _ h => h
  tk := takes_of rfl rfl rfl rfl
  calm := rfl
  nd := S.nd
  kK := hK
  n := rfl
  own := passes_of rfl
theorem fn_ok (hK : κ.K = K) (F : Fun K x qual st f fd) (S : FnScope N ps (defScope st)) (hl : PyA.many A = ps.length) {mb : A → R (Fw Empty Empty ρ)}
    (bd : ∀ (cdv : Value) (A' : Around) (outer : List Env) (s : Shared) (H Hf : Hp) (E : XK) (a : A), Lv (XF P w K mg base N qual st f cdv A' outer s H E) E ⟨κ, H, Hf, N.length⟩ k →
      GS (XF P w K mg base N qual st f cdv A' outer s H E) E ⟨κ, H, Hf, N.length⟩ (defBody st) (PyE.env ⟨κ, H, Hf, N.length⟩ 0 a) (mb a) noE noE (zr ⟨κ, H, Hf, N.length⟩)) :
    FnOk P w K mg base (L2.CX P w) (k + 1) f fd ps (spF κ fun a => (mb a).bind retE) := by
  have hN : ps.length ≤ N.length := by
    have := congrArg List.length S.pre
    rw [List.length_take] at this
    omega
  refine F.okX S (fun vs H Q E ⟨a, Hf, _, h, _⟩ => by rw [PyA.len h, hl]) fun cdv A' outer s H vs Q E hr ⟨a, Hf, ef, h, nb, q, er⟩ => ?_
  have L := lv_of (P := P) (w := w) (mg := mg) (base := base) (outer := outer) (H := H) (Hf := Hf) (E := E) hK S hr
  refine ⟨_, pssS, bd cdv A' outer s H Hf E a L _ Hf _ H (At.start (by rw [PyA.len h, hl]; exact hN) ef h) (R.bind_nb nb) _ (fun z => nomatch z) (fun z => nomatch z) (fun z => nomatch z) (fun r er v σ' Hf' ad' H' A1 e1 rr => ?_) (fun z ez cls d H' e1 xr => er z (by show (mb a).bind _ = _; rw [ez]; rfl) cls d H' e1 xr)⟩
  exact q r (by show (mb a).bind _ = _; rw [er]; rfl) v Hf' H' e1 A1.ef A1.e0 A1.nw rr
theorem fn_okN (hK : κ.K = K) (F : Fun K x qual st f fd) (S : FnScope N ps (defScope st)) (hl : PyA.many A = ps.length) {mb : A → R (Fw Empty Empty (List ρ))}
    (bd : ∀ (cdv : Value) (A' : Around) (outer : List Env) (s : Shared) (H Hf : Hp) (E : XK) (a : A), Lv (XF P w K mg base N qual st f cdv A' outer s H E) E ⟨κ, H, Hf, N.length⟩ k →
      GS (XF P w K mg base N qual st f cdv A' outer s H E) E ⟨κ, H, Hf, N.length⟩ (defBody st) (PyE.env ⟨κ, H, Hf, N.length⟩ 0 a) (mb a) noE noE (nr ⟨κ, H, Hf, N.length⟩)) :
    FnOk P w K mg base (L2.CX P w) (k + 1) f fd ps (spN κ fun a => (mb a).bind retE) := by
  have hN : ps.length ≤ N.length := by
    have := congrArg List.length S.pre
    rw [List.length_take] at this
    omega
  refine F.okX S (fun vs H Q E ⟨a, Hf, _, h, _⟩ => by rw [PyA.len h, hl]) fun cdv A' outer s H vs Q E hr ⟨a, Hf, ef, h, nb, q, er⟩ => ?_
  have L := lv_of (P := P) (w := w) (mg := mg) (base := base) (outer := outer) (H := H) (Hf := Hf) (E := E) hK S hr
  refine ⟨_, pssS, bd cdv A' outer s H Hf E a L _ Hf _ H (At.start (by rw [PyA.len h, hl]; exact hN) ef h) (R.bind_nb nb) _ (fun z => nomatch z) (fun z => nomatch z) (fun z => nomatch z) (fun r er v σ' Hf' ad' H' A1 e1 rr => ?_) (fun z ez cls d H' e1 xr => er z (by show (mb a).bind _ = _; rw [ez]; rfl) cls d H' e1 xr)⟩
  obtain ⟨p, ws, h1, h2, h3, h4, h5⟩ := rr
  subst h1
  exact q r (by show (mb a).bind _ = _; rw [er]; rfl) p ws Hf' H' e1 A1.ef A1.e0 A1.nw h2 h3 h4 h5
/-- a def whose end is None -/
theorem fn_okU (hK : κ.K = K) (F : Fun K x qual st f fd) (S : FnScope N ps (defScope st)) (hl : PyA.many A = ps.length) {mb : A → R (Fw Unit Empty Unit)}
    (bd : ∀ (cdv : Value) (A' : Around) (outer : List Env) (s : Shared) (H Hf : Hp) (E : XK) (a : A), Lv (XF P w K mg base N qual st f cdv A' outer s H E) E ⟨κ, H, Hf, N.length⟩ k →
      GS (XF P w K mg base N qual st f cdv A' outer s H E) E ⟨κ, H, Hf, N.length⟩ (defBody st) (PyE.env ⟨κ, H, Hf, N.length⟩ 0 a) (mb a) uE noE (zr ⟨κ, H, Hf, N.length⟩)) :
    FnOk P w K mg base (L2.CX P w) (k + 1) f fd ps (spF κ fun a => (mb a).bind retU) := by
  have hN : ps.length ≤ N.length := by
    have := congrArg List.length S.pre
    rw [List.length_take] at this
    omega
  refine F.okX S (fun vs H Q E ⟨a, Hf, _, h, _⟩ => by rw [PyA.len h, hl]) fun cdv A' outer s H vs Q E hr ⟨a, Hf, ef, h, nb, q, er⟩ => ?_
  have L := lv_of (P := P) (w := w) (mg := mg) (base := base) (outer := outer) (H := H) (Hf := Hf) (E := E) hK S hr
  refine ⟨_, pssS, bd cdv A' outer s H Hf E a L _ Hf _ H (At.start (by rw [PyA.len h, hl]; exact hN) ef h) (R.bind_nb nb) _ (fun z ez σ' Hf' ad' H' A1 e1 => ?_) (fun z => nomatch z) (fun z => nomatch z) (fun r er v σ' Hf' ad' H' A1 e1 rr => ?_) (fun z ez cls d H' e1 xr => er z (by show (mb a).bind _ = _; rw [ez]; rfl) cls d H' e1 xr)⟩
  · exact q () (by show (mb a).bind _ = _; rw [ez]; rfl) _ Hf' H' e1 A1.ef A1.e0 A1.nw rfl
  · exact q () (by show (mb a).bind _ = _; rw [er]; rfl) v Hf' H' e1 A1.ef A1.e0 A1.nw rr
/-- what hands out a new list hands out a list -/
theorem spN_F {m : A → R (List ρ)} (F : FnOk P w K mg base (L2.CX P w) k f fd ps (spN κ m)) : FnOk P w K mg base (L2.CX P w) k f fd ps (spF κ m) := F.imp fun vs H Q W ⟨x, Hf, h1, h2, h3, q, er⟩ =>
  ⟨x, Hf, h1, h2, h3, (fun r hr p ws Hf' H' e1 e2 e3 hn h4 h5 h6 h7 => (by
    refine q r hr _ (upd Hf' p (.lst ws)) H' (e1.trans (Evl.Ex.new h4)) (fun a u e => ?_) e3 (fun b hb1 hb2 => ?_) ⟨p, ws, rfl, upd_same, Its.mono (Evl.Ex.new h4) h7⟩
    · by_cases ha : a = p
      · subst ha; rw [upd_same] at e; rw [← e]; exact h6
      · rw [upd_ne ha] at e; exact e2 a u e
    · by_cases ha : b = p
      · subst ha; exact h5
      · rw [upd_ne ha] at hb2; exact hn b hb1 hb2)), er⟩
theorem cal_mk {sp : Sp} (F : Fun K x qual st f fd) (G : FnOk P w K mg base (L2.CX P w) k f fd ps sp) (hm : mg x = some (.ref f)) (b : Binds K fd ps []) : Cal P w K mg base k x sp := ⟨f, fd, ps, G, hm, F.kp, b⟩
theorem Cal.ofN {m : A → R (List ρ)} (C : Cal P w K mg base k x (spN κ m)) : Cal P w K mg base k x (spF κ m) := by
  obtain ⟨f, fd, ps, G, h⟩ := C.ex
  exact ⟨f, fd, ps, spN_F G, h⟩
/-- the law's promise: the script in, True out -/
def spLaw (K : PySem.W.Frag) : Sp := fun vs H Q _ => ∃ (a : Addr) (ns : List Int), vs = [.ref a] ∧ SqL K H a (ns.map V.int) ∧ ns.length ≤ 63 ∧ ∀ H', Q (.bl true) H'
theorem law_ok {m : Scr × Unit → R Bool} (hK : κ.K = K) (G : FnOk P w K mg base (L2.CX P w) k f fd ps (spF κ m)) (h : ∀ ns : List Int, ns.length ≤ 63 → m (⟨ns⟩, ()) = .ok true) : FnOk P w K mg base (L2.CX P w) k f fd ps (spLaw K) := G.imp fun vs H Q W ⟨a, ns, h1, h2, h3, q⟩ =>
  ⟨(⟨ns⟩, ()), H, Evl.Ex.refl _, ⟨_, [], h1, ⟨a, rfl, hK ▸ h2⟩, rfl⟩, (by rw [h ns h3]; exact fun z => nomatch z), (fun r hr v Hf' H' _ _ _ _ rr => (by
    rw [h ns h3] at hr
    cases hr
    rw [show v = V.bl true from rr]
    exact q H')), (fun z hz => (by rw [h ns h3] at hz; cases hz))⟩
theorem walk_law {l : PySem.W.OpenLaw} {q : Program} {loose : List Str} {XP : (Str → Option Value) → Heap → Prop} {YP : World → Heap → Prop} {d : DefRec} {K : Params → PySem.W.Frag} {k : Nat} {x : Str} (hn : l.most = some 63) (hdf : d.params.defaults = []) (hr : Room k callerA)
    (hY : ∀ (w : World) (h : Heap), YP w h → (K w.params).In h)
    (F : ∀ (w : World) (mg : Str → Option Value) (fa : Addr) (h : Heap), (K w.params).In h → h.Ns mainGlobals mg → mg d.name = some (.ref fa) →
      ∃ fd : FuncData, (∀ (s : Shared) (u : Value), BindsTo s fd ⟨[u], []⟩ [(x, u)]) ∧ ∀ base : Heap, (K w.params).In base → base.Ns mainGlobals mg → FnOk l.prog w (K w.params) mg base (L2.CX l.prog w) k fa fd [x] (spLaw (K w.params))) :
    PySem.W.WalkO q loose XP YP l.row.toRowW d [] (fun f vs => PySem.call f vs) :=
  L2.walk_of (n := 63) (k := k) (x := x) (CX := fun w => L2.CX l.prog w) (sp := fun w => spLaw (K w.params)) hn (by decide) hdf hr hY F (fun _ _ a ns hl _ hS => ⟨a, ns, rfl, hS, hl, fun _ => rfl⟩) fun _ _ _ _ _ ⟨_, _, _, _, _, _, _, _, _, _, _, _, z⟩ => z
end
end G

/-! G7: texts, isinstance, in. -/
namespace G
open PySem L2
section
variable {X : Cx} {EX : XK} {φ : Fx} {k : Nat} {E E' : Env1} {α β γ δ ρ : Type} {e a b c : Expr} {pos : Pos} {i : Nat} {es : List Expr}
/-! ### text * int -/
def repT (x : Tx) (n : Int) : Tx := (List.replicate n.toNat x).flatten
theorem foldl_app (l : List (Array Nat)) (acc : Array Nat) : (l.foldl (· ++ ·) acc).toList = acc.toList ++ (l.map Array.toList).flatten := by
  induction l generalizing acc with
  | nil => simp
  | cons x l ih => rw [List.foldl_cons, ih]; simp [List.append_assoc]
theorem mul_tx (x : Tx) (n : Int) : Txt.mul (tx x) n = tx (repT x n) := by
  unfold Txt.mul repT
  split
  · rename_i h
    have : n.toNat = 0 := by omega
    rw [this]; rfl
  · rename_i h
    split
    · rename_i h2
      rw [Bool.or_eq_true] at h2
      rcases h2 with h2 | h2
      · have : n = 1 := by simpa using h2
        subst this
        show tx x = tx (List.replicate 1 x).flatten
        simp
      · have h3 : x.length = 0 := by
          have := tx_len x
          simp at h2
          omega
        have h4 : x = [] := List.eq_nil_of_length_eq_zero h3
        subst h4
        simp
    · apply TL.ext_tl
      show ((List.replicate n.toNat (tx x).cps).foldl (· ++ ·) #[]).toList = (List.replicate n.toNat x).flatten
      rw [foldl_app]
      simp [tx]
theorem repT_len (x : Tx) (n : Int) : (repT x n).length = n.toNat * x.length := by
  unfold repT
  simp
def rMulS : R2 := fun x y H Q => ∃ z n, x = .str z ∧ y = .int n ∧ MulOk z n ∧ Q (.str (Txt.mul z n)) H
theorem op_mulS : OpR X (binaryOp .Mult) rMulS := by
  intro pins s σ H x y v u Q I rx ry h
  obtain ⟨z, n, rfl, rfl, hm, q⟩ := h
  obtain ⟨t, rfl⟩ := rx
  obtain ⟨t', rfl⟩ := ry
  exact SB.mul hm fun t2 k2 => ⟨.str _, H, I.tok _, ⟨_, rfl⟩, q⟩
theorem mulOk_tx {x : Tx} {n : Int} (h1 : -(2 ^ 40) ≤ n) (h2 : n ≤ 2 ^ 25) (h3 : n.toNat * x.length ≤ sizeLine) : MulOk (tx x) n := by
  refine ⟨?_, fun hn hc => ?_, fun hn hc => ?_⟩
  · rw [Bool.or_eq_false_iff, decide_eq_false_iff_not, decide_eq_false_iff_not]; omega
  · have hx : (tx x).length = x.length := tx_len x
    have h4 : (2 ^ 63 - 1) / n ≥ 2 ^ 37 := by
      apply Int.le_ediv_of_mul_le (by omega)
      omega
    have h5 : (x.length : Int) ≤ 2 ^ 24 := by
      have : 1 * x.length ≤ n.toNat * x.length := Nat.mul_le_mul_right _ (by omega)
      have e := sizeLine_eq
      omega
    rw [hx]
    omega
  · unfold Builtin.Str.tooLong
    rw [tx_len, Nat.mul_comm]
    have e := sizeLine_eq
    first
      | exact decide_eq_false (by omega)
      | (simp; omega)
theorem repT_ok {x : Tx} {n : Int} (h : TxOk x) (h3 : n.toNat * x.length ≤ sizeLine) : TxOk (repT x n) := by
  refine ⟨by rw [repT_len]; exact h3, fun c hc => ?_⟩
  unfold repT at hc
  obtain ⟨l, h1, h2⟩ := List.mem_flatten.mp hc
  rw [List.eq_of_mem_replicate h1] at h2
  exact h.2 c h2
theorem g_mulS {ma : R Tx} {mb : R Int} (ga : GX X EX φ a E ma (zr φ)) (gb : GX X EX φ b E mb (zi φ)) : GX X EX φ (.BinOp a .Mult b pos) E (ma.bind fun x => mb.bind fun n => ifR (-(2 ^ 40) ≤ n ∧ n ≤ 2 ^ 25 ∧ n.toNat * x.length ≤ sizeLine) (repT x n)) (zr φ) :=
  g_tOp (pe_op op_mulS peS peS) zr_up (fun E σ Hf ad H x n v w A r1 r2 nb Q q => by
    obtain ⟨⟨h1, h2, h3⟩, he⟩ := ifR_nb nb
    refine ⟨tx x, n, r1.1, r2, mulOk_tx h1 h2 h3, ?_⟩
    rw [mul_tx]
    exact q _ he _ Hf H A (Evl.Ex.refl _) (Evl.Ex.refl _) ⟨rfl, repT_ok r1.2 h3⟩) (fun _ _ _ => ifR_ne _) ga gb
/-! ### sep.join(list) -/
def joinT (sep : Tx) (xs : List Tx) : Tx := TL.joinL sep xs
theorem its_txs {κ : Cc} {H : Hp} : ∀ {xs : List Tx} {vs : List V}, Its κ xs H vs → vs = (xs.map tx).map V.str
  | _, _, .nil => rfl
  | _, _, .cons h t => by rw [List.map_cons, List.map_cons, its_txs t]; rw [h.1]
theorem its_txok {κ : Cc} {H : Hp} : ∀ {xs : List Tx} {vs : List V}, Its κ xs H vs → ∀ x ∈ xs, TxOk x
  | _, _, .nil, x, h => by cases h
  | _, _, .cons h t, x, hx => by
    rcases List.mem_cons.mp hx with e | hx
    · rw [e]; exact h.2
    · exact its_txok t x hx
theorem tl_glued (sep : Str) (xs : List Str) : TL.tl (Txt.join sep xs) = TL.joinL (TL.tl sep) (xs.map TL.tl) := by
  unfold Txt.join
  rw [StrLaws.glued_eq_join]
  exact TL.tl_join sep xs
theorem mem_joinL {sep : Tx} {c : Nat} : ∀ {xs : List Tx}, c ∈ TL.joinL sep xs → c ∈ sep ∨ ∃ x ∈ xs, c ∈ x
  | [], h => by simp [TL.joinL] at h
  | [x], h => .inr ⟨x, List.mem_cons_self, by simpa [TL.joinL] using h⟩
  | x :: y :: r, h => by
    have h' : c ∈ x ++ (sep ++ TL.joinL sep (y :: r)) := by simpa [TL.joinL] using h
    rcases List.mem_append.mp h' with h' | h'
    · exact .inr ⟨x, List.mem_cons_self, h'⟩
    · rcases List.mem_append.mp h' with h' | h'
      · exact .inl h'
      · rcases mem_joinL h' with h' | ⟨z, h1, h2⟩
        · exact .inl h'
        · exact .inr ⟨z, List.mem_cons_of_mem _ h1, h2⟩
theorem joinL_len {sep : Tx} : ∀ {xs : List Tx}, (TL.joinL sep xs).length ≤ (xs.map List.length).sum + xs.length * sep.length
  | [] => by simp [TL.joinL]
  | [x] => by simp [TL.joinL]
  | x :: y :: r => by
    have h := joinL_len (sep := sep) (xs := y :: r)
    simp only [TL.joinL, List.length_append, List.map_cons, List.sum_cons, List.length_cons, Nat.add_mul, Nat.one_mul] at h ⊢
    omega
theorem map_tx_len (xs : List Tx) : (xs.map tx).map (·.length) = xs.map List.length := by
  rw [List.map_map]
  exact List.map_congr_left fun x _ => tx_len x
theorem join_tx (sep : Tx) (xs : List Tx) : Txt.join (tx sep) (xs.map tx) = tx (joinT sep xs) := by
  apply TL.ext_tl
  rw [tl_glued, List.map_map]
  show TL.joinL sep (xs.map (TL.tl ∘ tx)) = TL.joinL sep xs
  congr 1
  exact (List.map_congr_left fun x _ => rfl).trans (List.map_id _)
theorem g_join {ma : R Tx} {mb : R (List Tx)} (L : Lv X EX φ k) (P : PE X e (tM1 (fun x xs H Q => ∃ a p, ∃ ys : List Str, x = .str a ∧ xs = [.ref p] ∧ (SqL X.K H p (ys.map V.str) ∨ SqT X.K H p (ys.map V.str)) ∧ (ys.map (·.length)).sum + ys.length * a.length ≤ 16777216 ∧ Q (.str (Txt.join a ys)) H) (wpE X a) (wpE X b)))
    (ga : GX X EX φ a E ma (zr φ)) (gb : GX X EX φ b E mb (lr φ)) : GX X EX φ e E (ma.bind fun s => mb.bind fun xs => ifR ((xs.map List.length).sum + xs.length * s.length ≤ 16777216) (joinT s xs)) (zr φ) := fun σ Hf ad H A nb Q q er => by
  have ⟨e1, e2⟩ := bind_err (P := EW φ EX) er
  refine wpE_of P (ga σ Hf ad H A (R.bind_nb nb) _ (fun x ex v Hf1 H1 A1 f1 f2 r1 => ⟨⟨_, r1.1⟩, ?_⟩) e1)
  rw [ex, R.bind_ok] at nb
  refine gb σ Hf1 ad H1 A1 (R.bind_nb nb) _ (fun y ey w Hf2 H2 A2 f3 f4 ⟨p, vs, h1, h2, h3⟩ => ?_) (bind_err (e2 x ex)).1
  rw [ey, R.bind_ok] at nb
  obtain ⟨hc, he⟩ := ifR_nb nb
  refine ⟨tx x, p, y.map tx, r1.1, by rw [h1], .inl (by rw [← its_txs h3]; exact L.kK ▸ h2), by rw [map_tx_len, List.length_map, tx_len]; exact hc, ?_⟩
  rw [join_tx]
  refine q _ (by rw [ex, R.bind_ok, ey, R.bind_ok]; exact he) _ Hf2 H2 A2 (f1.trans f3) (f2.trans f4) ⟨rfl, ?_, fun c hcm => ?_⟩
  · exact Nat.le_trans joinL_len (Nat.le_trans hc (by rw [sizeLine_eq]; exact Nat.le_refl _))
  · rcases mem_joinL hcm with h | ⟨z, hz1, hz2⟩
    · exact r1.2.2 c h
    · exact (its_txok h3 z hz1).2 c hz2
/-- str(n) -/
def strI (n : Int) : Tx := (toString n).toList.map Char.toNat
theorem tx_strI (n : Int) : (toString n : Str) = tx (strI n) := by
  apply TL.ext_tl
  rw [show TL.tl ((toString n : String) : Str) = (toString n).toList.map Char.toNat from TL.tl_ofString _]
  rfl
theorem char_ok (c : Char) : c.toNat < 1114112 := by
  have := c.valid
  rcases this with h | h
  · exact Nat.lt_trans h (by decide)
  · exact h.2
theorem g_strI {m : R Int} (P : PE X e (tCB (fun xs H Q => ∃ i, xs = [.int i] ∧ i.natAbs.log2 < 1920 ∧ Q (.str (toString i)) H) (tCons (wpE X a) tNil))) (g : GX X EX φ a E m (zi φ)) : GX X EX φ e E (m.bind fun n => ifR (n.natAbs.log2 < 1920 ∧ (strI n).length ≤ sizeLine) (strI n)) (zr φ) :=
  g_b1 P (fun E σ Hf ad H x v A r1 nb Q q => by
    obtain ⟨⟨h1, h2⟩, he⟩ := ifR_nb nb
    refine ⟨x, by rw [show v = V.int x from r1], h1, q _ he _ Hf H A (Evl.Ex.refl _) (Evl.Ex.refl _) ⟨by rw [← tx_strI], h2, fun c hc => ?_⟩⟩
    obtain ⟨d, _, hd⟩ := List.mem_map.mp hc
    rw [← hd]
    exact char_ok d) (fun _ _ => ifR_ne _) g
/-- int(text) -/
theorem g_intT {m : R Tx} (P : PE X e (tCB (fun xs H Q => ∃ a n, xs = [.str a] ∧ PySem.intText? a = some n ∧ a.length ≤ 640 ∧ Q (.int n) H) (tCons (wpE X a) tNil))) (g : GX X EX φ a E m (zr φ)) : GX X EX φ e E (m.bind fun x => (optR (PySem.intText? (tx x))).bind fun n => ifR (x.length ≤ 640) n) (zi φ) :=
  g_b1 P (fun E σ Hf ad H x v A r1 nb Q q => by
    obtain ⟨n, hn⟩ := optR_nb (R.bind_nb nb)
    rw [hn] at nb
    obtain ⟨h1, he⟩ := ifR_nb nb
    exact ⟨tx x, n, by rw [r1.1], hn, by rw [tx_len]; exact h1, q n (by rw [hn]; exact he) _ Hf H A (Evl.Ex.refl _) (Evl.Ex.refl _) rfl⟩) (fun x z => by
      cases h : PySem.intText? (tx x) with
      | none => exact fun q => nomatch q
      | some n => exact ifR_ne _) g
/-! ### isinstance -/
class TyN (α : Type) [Py α] where
  t : String
  ty : ∀ {κ : Cc} {x : α} {H : Hp} {v : V}, Py.rep κ x H v → TyX κ.K H v (.type t)
instance : TyN Int := ⟨"int", fun h => by rw [show _ = V.int _ from h]; exact .base (.int _)⟩
instance : TyN Bool := ⟨"bool", fun h => by rw [show _ = V.bl _ from h]; exact .base (.bl _)⟩
instance : TyN Tx := ⟨"str", fun h => by rw [h.1]; exact .base (.str _)⟩
instance {α : Type} [Py α] : TyN (List α) := ⟨"list", fun ⟨p, vs, h1, h2, _⟩ => by rw [h1]; exact .base (.lst h2)⟩
theorem ty_tup {K : PySem.W.Frag} {H : Hp} {p : Addr} {vs : List V} (h : SqT K H p vs) : TyX K H (.ref p) (.type "tuple") := by
  rcases h with (h | ⟨o, h⟩) | ⟨o, its, n, h1, h2, _⟩
  · exact .base (.tup h)
  · exact .fTuple h
  · exact .kTuple h1 h2
instance {α : Type} [Py α] : TyN (Tp α) := ⟨"tuple", fun ⟨p, vs, h1, h2, _⟩ => by rw [h1]; exact ty_tup h2⟩
instance {α β : Type} [Py α] [Py β] : TyN (T2 α β) := ⟨"tuple", fun ⟨p, _, _, h1, h2, _⟩ => by rw [h1]; exact ty_tup h2⟩
instance {α β γ : Type} [Py α] [Py β] [Py γ] : TyN (T3 α β γ) := ⟨"tuple", fun ⟨p, _, _, _, h1, h2, _⟩ => by rw [h1]; exact ty_tup h2⟩
theorem g_isi [Py α] [TyN α] {T : String} {r : Bool} {ρ : RR α} {m : R α} (L : Lv X EX φ k) (rd : RR.Rd φ ρ) (h : kitB (TyN.t α) T = some r) (P : PE X e (tCB (rIsi X.K) (tCons (wpE X a) (tCons (wpE X b) tNil)))) (g : GX X EX φ a E m ρ) (hb : PE X b (tC (.ty T))) : GX X EX φ e E (m.bind fun _ => .ok r) (zb φ) := fun σ Hf ad H A nb Q q er =>
  wpE_of P (g σ Hf ad H A (R.bind_nb nb) _ (fun x ex v Hf' H' A' e1 e2 rr => wpE_of hb ⟨v, .ty T, .type (TyN.t α), .type T, r, rfl, .ty T, L.kK ▸ TyN.ty (rd x Hf' H' v A'.ef rr), kit_ty h, q r (by rw [ex]; rfl) _ Hf' H' A' e1 e2 rfl⟩) (bind_err er).1)
/-- of a number or none -/
theorem g_isiO [Py α] [TyN α] {T : String} {r r0 : Bool} {m : R (Option α)} (L : Lv X EX φ k) (h : kitB (TyN.t α) T = some r) (h0 : kitB "NoneType" T = some r0) (P : PE X e (tCB (rIsi X.K) (tCons (wpE X a) (tCons (wpE X b) tNil)))) (g : GX X EX φ a E m (zr φ)) (hb : PE X b (tC (.ty T))) : GX X EX φ e E (m.bind fun x => .ok (if x.isSome = true then r else r0)) (zb φ) := fun σ Hf ad H A nb Q q er =>
  wpE_of P (g σ Hf ad H A (R.bind_nb nb) _ (fun x ex v Hf' H' A' e1 e2 rr => wpE_of hb (by
    cases x with
    | none => exact ⟨v, .ty T, .type "NoneType", .type T, r0, rfl, .ty T, by rw [show v = V.non from rr]; exact .base .non, kit_ty h0, q r0 (by rw [ex]; rfl) _ Hf' H' A' e1 e2 rfl⟩
    | some x => exact ⟨v, .ty T, .type (TyN.t α), .type T, r, rfl, .ty T, L.kK ▸ TyN.ty (Py.mono A'.ef (show Py.rep φ.κ x Hf' v from rr)), kit_ty h, q r (by rw [ex]; rfl) _ Hf' H' A' e1 e2 rfl⟩)) (bind_err er).1)
/-! ### in -/
theorem og_inT {neg : Bool} {r : R2} (hr : ∀ (c : Nat) (z : Str) (H : Hp) (Q : VK), Q (.bl (if neg then !decide (c ∈ z.cps.toList) else decide (c ∈ z.cps.toList))) H → r (.str ⟨#[c]⟩) (.str z) H Q) : OG φ r (zr φ) (zr φ) (zr φ) (fun (x z : Tx) => match x with | [c] => .ok (if neg then !decide (c ∈ z) else decide (c ∈ z)) | _ => .bad) := fun E σ Hf ad H x z v w A r1 r2 nb Q q => by
  match x, r1, nb, q with
  | [c], r1, nb, q =>
    rw [r1.1, r2.1]
    refine hr c (tx z) H Q ?_
    exact q _ rfl _ Hf H A (Evl.Ex.refl _) (Evl.Ex.refl _) rfl
def inT (x z : Tx) : R Bool := match x with
  | [c] => .ok (decide (c ∈ z))
  | _ => .bad
def ninT (x z : Tx) : R Bool := match x with
  | [c] => .ok (!decide (c ∈ z))
  | _ => .bad
theorem inT_ne {x z : Tx} (y : Xn) : inT x z ≠ .err y := by unfold inT; split <;> exact fun q => nomatch q
theorem ninT_ne {x z : Tx} (y : Xn) : ninT x z ≠ .err y := by unfold ninT; split <;> exact fun q => nomatch q
theorem og_in1 : OG φ (fun x y H Q => ∃ (c : Nat) (z : Str), x = .str ⟨#[c]⟩ ∧ y = .str z ∧ Q (.bl (decide (c ∈ z.cps.toList))) H) (zr φ) (zr φ) (zr φ) inT := fun E σ Hf ad H x z v w A r1 r2 nb Q q => by
  match x, r1, nb, q with
  | [c], r1, nb, q => exact ⟨c, tx z, r1.1, r2.1, q _ rfl _ Hf H A (Evl.Ex.refl _) (Evl.Ex.refl _) rfl⟩
  | [], r1, nb, q => exact absurd rfl nb
  | _ :: _ :: _, r1, nb, q => exact absurd rfl nb
theorem og_nin1 : OG φ (fun x y H Q => ∃ (c : Nat) (z : Str), x = .str ⟨#[c]⟩ ∧ y = .str z ∧ Q (.bl (!decide (c ∈ z.cps.toList))) H) (zr φ) (zr φ) (zr φ) ninT := fun E σ Hf ad H x z v w A r1 r2 nb Q q => by
  match x, r1, nb, q with
  | [c], r1, nb, q => exact ⟨c, tx z, r1.1, r2.1, q _ rfl _ Hf H A (Evl.Ex.refl _) (Evl.Ex.refl _) rfl⟩
  | [], r1, nb, q => exact absurd rfl nb
  | _ :: _ :: _, r1, nb, q => exact absurd rfl nb
section
variable {ma mb : R Tx}
theorem g_inT (ga : GX X EX φ a E ma (zr φ)) (gb : GX X EX φ b E mb (zr φ)) (hm : behindInMarks .In b = false := by rfl) : GX X EX φ (.Compare a [.In] [b] pos) E (ma.bind fun x => mb.bind fun y => inT x y) (zb φ) := g_tOp (pe_cmpR op_in_sign peS peS hm) zr_up og_in1 (fun _ _ _ => inT_ne _) ga gb
theorem g_ninT (ga : GX X EX φ a E ma (zr φ)) (gb : GX X EX φ b E mb (zr φ)) (hm : behindInMarks .NotIn b = false := by rfl) : GX X EX φ (.Compare a [.NotIn] [b] pos) E (ma.bind fun x => mb.bind fun y => ninT x y) (zb φ) := g_tOp (pe_cmpR op_notIn_sign peS peS hm) zr_up og_nin1 (fun _ _ _ => ninT_ne _) ga gb
theorem t_inT (ga : GX X EX φ a E ma (zr φ)) (gb : GX X EX φ b E mb (zr φ)) (hm : behindInMarks .In b = false := by rfl) : GT X EX φ (.Compare a [.In] [b] pos) E (ma.bind fun x => mb.bind fun y => inT x y) := g_tOpT (pt_cmpR op_in_sign peS peS hm) zr_up og_in1 (fun _ _ _ => inT_ne _) ga gb
theorem t_ninT (ga : GX X EX φ a E ma (zr φ)) (gb : GX X EX φ b E mb (zr φ)) (hm : behindInMarks .NotIn b = false := by rfl) : GT X EX φ (.Compare a [.NotIn] [b] pos) E (ma.bind fun x => mb.bind fun y => ninT x y) := g_tOpT (pt_cmpR op_notIn_sign peS peS hm) zr_up og_nin1 (fun _ _ _ => ninT_ne _) ga gb
end
/-- in a list of numbers, texts, truths -/
class FlV (α : Type) [Py α] [DecidableEq α] : Prop where
  fl : ∀ {κ : Cc} {x : α} {H : Hp} {v : V}, Py.rep κ x H v → flatV v = true
  eq : ∀ {κ : Cc} {x y : α} {H H' : Hp} {v w : V}, Py.rep κ x H v → Py.rep κ y H' w → eqV v w = decide (x = y)
instance : FlV Int := ⟨fun h => by rw [show _ = V.int _ from h]; rfl, fun h h' => by rw [show _ = V.int _ from h, show _ = V.int _ from h']; simp [eqV]; rw [Bool.eq_iff_iff]; simp⟩
instance : FlV Tx := ⟨fun h => by rw [h.1]; rfl, fun {κ x y H H' v w} h h' => by
  rw [h.1, h'.1]
  simp only [eqV]
  rw [Bool.eq_iff_iff]
  simp only [beq_iff_eq, decide_eq_true_eq]
  exact ⟨tx_inj, fun q => by rw [q]⟩⟩
theorem its_flat [Py α] [DecidableEq α] [FlV α] {κ : Cc} {H : Hp} : ∀ {xs : List α} {vs : List V}, Its κ xs H vs → vs.all flatV = true
  | _, _, .nil => rfl
  | _, _, .cons h t => by rw [List.all_cons, FlV.fl h, its_flat t]; rfl
theorem its_inV [Py α] [DecidableEq α] [FlV α] {κ : Cc} {H H' : Hp} {x : α} {v : V} (h : Py.rep κ x H' v) : ∀ {xs : List α} {vs : List V}, Its κ xs H vs → inV v vs = decide (x ∈ xs)
  | _, _, .nil => by simp [inV]
  | _, _, .cons (a := y) (l₁ := xs) g t => by
    have := its_inV h t
    unfold inV at this ⊢
    rw [List.any_cons, this, FlV.eq g h]
    rw [Bool.eq_iff_iff]
    simp only [Bool.or_eq_true, decide_eq_true_eq, List.mem_cons]
    exact ⟨fun q => q.imp Eq.symm id, fun q => q.imp Eq.symm id⟩
theorem og_inL [Py α] [DecidableEq α] [FlV α] (kK : φ.κ.K = X.K) : OG φ (rIn X.K false) (zr (α := α) φ) (lr φ) (zr φ) (fun x xs => .ok (decide (x ∈ xs))) := fun E σ Hf ad H x xs v w A r1 ⟨p, vs, h1, h2, h3⟩ nb Q q =>
  ⟨p, vs, h1, .inl (kK ▸ h2), FlV.fl r1, its_flat h3, by rw [its_inV r1 h3]; exact q _ rfl _ Hf H A (Evl.Ex.refl _) (Evl.Ex.refl _) rfl⟩
theorem og_ninL [Py α] [DecidableEq α] [FlV α] (kK : φ.κ.K = X.K) : OG φ (rIn X.K true) (zr (α := α) φ) (lr φ) (zr φ) (fun x xs => .ok (!decide (x ∈ xs))) := fun E σ Hf ad H x xs v w A r1 ⟨p, vs, h1, h2, h3⟩ nb Q q =>
  ⟨p, vs, h1, .inl (kK ▸ h2), FlV.fl r1, its_flat h3, by rw [its_inV r1 h3]; exact q _ rfl _ Hf H A (Evl.Ex.refl _) (Evl.Ex.refl _) rfl⟩
section
variable [Py α] [DecidableEq α] [FlV α] {ma : R α} {mb : R (List α)}
theorem g_inL (L : Lv X EX φ k) (ga : GX X EX φ a E ma (zr φ)) (gb : GX X EX φ b E mb (lr φ)) (hm : behindInMarks .In b = false := by rfl) : GX X EX φ (.Compare a [.In] [b] pos) E (ma.bind fun x => mb.bind fun y => .ok (decide (x ∈ y))) (zb φ) := g_tOp (pe_cmpR op_in_seq peS peS hm) zr_up (og_inL L.kK) (fun _ _ _ q => nomatch q) ga gb
theorem t_inL (L : Lv X EX φ k) (ga : GX X EX φ a E ma (zr φ)) (gb : GX X EX φ b E mb (lr φ)) (hm : behindInMarks .In b = false := by rfl) : GT X EX φ (.Compare a [.In] [b] pos) E (ma.bind fun x => mb.bind fun y => .ok (decide (x ∈ y))) := g_tOpT (pt_cmpR op_in_seq peS peS hm) zr_up (og_inL L.kK) (fun _ _ _ q => nomatch q) ga gb
theorem g_ninL (L : Lv X EX φ k) (ga : GX X EX φ a E ma (zr φ)) (gb : GX X EX φ b E mb (lr φ)) (hm : behindInMarks .NotIn b = false := by rfl) : GX X EX φ (.Compare a [.NotIn] [b] pos) E (ma.bind fun x => mb.bind fun y => .ok (!decide (x ∈ y))) (zb φ) := g_tOp (pe_cmpR op_notIn_seq peS peS hm) zr_up (og_ninL L.kK) (fun _ _ _ q => nomatch q) ga gb
theorem t_ninL (L : Lv X EX φ k) (ga : GX X EX φ a E ma (zr φ)) (gb : GX X EX φ b E mb (lr φ)) (hm : behindInMarks .NotIn b = false := by rfl) : GT X EX φ (.Compare a [.NotIn] [b] pos) E (ma.bind fun x => mb.bind fun y => .ok (!decide (x ∈ y))) := g_tOpT (pt_cmpR op_notIn_seq peS peS hm) zr_up (og_ninL L.kK) (fun _ _ _ q => nomatch q) ga gb
end
/-- list(xs), tuple(xs) -/
theorem g_listL [Py α] {m : R (List α)} (L : Lv X EX φ k) (P : PE X e (tCB (fun xs H Q => ∃ p ys, xs = [.ref p] ∧ (SqL X.K H p ys ∨ SqT X.K H p ys) ∧ ∀ l, H l = none → Q (.ref l) (upd H l (.lst ys))) (tCons (wpE X a) tNil))) (g : GX X EX φ a E m (lr φ)) : GN X EX φ e E m := fun σ Hf ad H A nb Q q er =>
  wpE_of P (g σ Hf ad H A nb _ (fun x ex v Hf' H' A' e1 e2 ⟨p, vs, h1, h2, h3⟩ => ⟨p, vs, by rw [h1], .inl (L.kK ▸ h2), fun l hl => q x ex l vs Hf' _ (A'.up (Evl.Ex.new hl)) e1 (e2.trans (Evl.Ex.new hl)) (Evl.fresh_back A'.ef hl) (A'.off hl) upd_same h3⟩) er)
theorem g_tupL [Py α] {m : R (List α)} (L : Lv X EX φ k) (P : PE X e (tCB (fun xs H Q => ∃ p ys, xs = [.ref p] ∧ ((SqL X.K H p ys ∧ ∀ l, H l = none → Q (.ref l) (upd H l (.tup ys))) ∨ (SqT X.K H p ys ∧ Q (.ref p) H))) (tCons (wpE X a) tNil))) (g : GX X EX φ a E m (lr φ)) : GX X EX φ e E (m.bind fun l => .ok (Tp.mk l)) (zr φ) := fun σ Hf ad H A nb Q q er =>
  wpE_of P (g σ Hf ad H A (R.bind_nb nb) _ (fun x ex v Hf' H' A' e1 e2 ⟨p, vs, h1, h2, h3⟩ => ⟨p, vs, by rw [h1], .inl ⟨L.kK ▸ h2, fun l hl => q _ (by rw [ex]; rfl) _ _ _ (A'.new hl) (e1.trans (upd_ef A' hl)) (e2.trans (Evl.Ex.new hl)) ⟨l, vs, rfl, SqT.of upd_same, Its.mono (upd_ef A' hl) h3⟩⟩⟩) (bind_err er).1)
end
end G

/-! G8: the forms that the printer uses. -/
namespace G
open PySem L2
@[irreducible] def fuel : Nat := 2 ^ 62
theorem fuel_ge {n : Nat} (h : n ≤ 2 ^ 62) : n ≤ fuel := by unfold fuel; exact h

section
variable {X : Cx} {EX : XK} {φ : Fx} {k : Nat} {E E' : Env1} {α β γ δ ρ : Type} {e a b c : Expr} {pos : Pos} {i : Nat} {es : List Expr} {st : Stmt} {sts rest body : List Stmt} {En : β → Env1} {Ec : γ → Env1} {Rt : RR ρ}
theorem GX.eq {ρ : RR α} {m m' : R α} (g : GX X EX φ e E m ρ) (h : m = m') : GX X EX φ e E m' ρ := h ▸ g
theorem GN.eq [Py α] {m m' : R (List α)} (g : GN X EX φ e E m) (h : m = m') : GN X EX φ e E m' := h ▸ g
theorem GT.eq {m m' : R Bool} (g : GT X EX φ e E m) (h : m = m') : GT X EX φ e E m' := h ▸ g
theorem GW.eq {m m' : R Bool} (g : GW X EX φ e E m) (h : m = m') : GW X EX φ e E m' := h ▸ g
/-- a number that may be none, where it is one -/
theorem GX.un [Py α] {m : R (Option α)} (g : GX X EX φ e E m (zr φ)) : GX X EX φ e E (m.bind optR) (zr φ) := fun σ Hf ad H A nb Q q er =>
  g σ Hf ad H A (R.bind_nb nb) Q (fun x ex v Hf' H' A' e1 e2 r => by
    rw [ex, R.bind_ok] at nb
    obtain ⟨y, hy⟩ := optR_nb nb
    subst hy
    exact q y (by rw [ex]; rfl) v Hf' H' A' e1 e2 r) (bind_err er).1
/-! literals -/
theorem g_mulR {j : Int} {ma : R Int} (h : -(2 ^ 64) < j ∧ j < 2 ^ 64) (ga : GX X EX φ a E ma (zi φ)) (gb : GX X EX φ b E (.ok j) (zi φ)) : GX X EX φ (.BinOp a .Mult b pos) E (ma.bind fun x => .ok (x * j)) (zi φ) :=
  (g_mul ga gb).eq (by congr 1; funext x; exact ifR_ok (.inr h))
theorem g_mulL {j : Int} {mb : R Int} (h : -(2 ^ 64) < j ∧ j < 2 ^ 64) (ga : GX X EX φ a E (.ok j) (zi φ)) (gb : GX X EX φ b E mb (zi φ)) : GX X EX φ (.BinOp a .Mult b pos) E (mb.bind fun y => .ok (j * y)) (zi φ) :=
  (g_mul ga gb).eq (by rw [R.bind_ok]; congr 1; funext x; exact ifR_ok (.inl h))
theorem g_mulW {ma mb : R Int} (ga : GX X EX φ a E ma (zi φ)) (gb : GX X EX φ b E mb (zi φ)) : GX X EX φ (.BinOp a .Mult b pos) E (ma.bind fun x => mb.bind fun y => ifR (x.natAbs.log2 + y.natAbs.log2 < 1000000) (x * y)) (zi φ) :=
  g_tOp (pe_op op_mulW peS peS) zr_up (og_I (C := fun x y => x.natAbs.log2 + y.natAbs.log2 < 1000000) fun _ _ _ => rfl) (fun _ _ _ => ifR_ne _) ga gb
def MulG (x y : Int) : Prop := CMul x y ∨ x.natAbs.log2 + y.natAbs.log2 < 1000000
instance (x y : Int) : Decidable (MulG x y) := inferInstanceAs (Decidable (_ ∨ _))
theorem op_mulG : OpR X (binaryOp .Mult) (rI MulG fun i j => .int (i * j)) := by
  intro pins s σ H x y v u Q I rx ry h
  obtain ⟨i, j, h1, h2, hc, q⟩ := h
  rcases hc with hc | hc
  · exact op_mul pins s σ H x y v u Q I rx ry ⟨i, j, h1, h2, hc, q⟩
  · exact op_mulW pins s σ H x y v u Q I rx ry ⟨i, j, h1, h2, hc, q⟩
theorem g_mulG {ma mb : R Int} (ga : GX X EX φ a E ma (zi φ)) (gb : GX X EX φ b E mb (zi φ)) : GX X EX φ (.BinOp a .Mult b pos) E (ma.bind fun x => mb.bind fun y => ifR (MulG x y) (x * y)) (zi φ) :=
  g_tOp (pe_op op_mulG peS peS) zr_up (og_I fun _ _ _ => rfl) (fun _ _ _ => ifR_ne _) ga gb
theorem g_divW {ma mb : R Int} (ga : GX X EX φ a E ma (zi φ)) (gb : GX X EX φ b E mb (zi φ)) : GX X EX φ (.BinOp a .FloorDiv b pos) E (ma.bind fun x => mb.bind fun y => ifR (0 < y ∧ y.natAbs.log2 < 9000) (x / y)) (zi φ) :=
  g_tOp (pe_op op_fdivW peS peS) zr_up (og_I (C := fun x y => 0 < y ∧ y.natAbs.log2 < 9000) fun _ _ _ => rfl) (fun _ _ _ => ifR_ne _) ga gb
theorem g_divR {j : Int} {ma : R Int} (h : 0 < j ∧ j.natAbs.log2 < 9000) (ga : GX X EX φ a E ma (zi φ)) (gb : GX X EX φ b E (.ok j) (zi φ)) : GX X EX φ (.BinOp a .FloorDiv b pos) E (ma.bind fun x => .ok (x / j)) (zi φ) :=
  (g_divW ga gb).eq (by congr 1; funext x; exact ifR_ok h)
theorem g_modR {j : Int} {ma : R Int} (h : 0 < j) (ga : GX X EX φ a E ma (zi φ)) (gb : GX X EX φ b E (.ok j) (zi φ)) : GX X EX φ (.BinOp a .Mod b pos) E (ma.bind fun x => .ok (x % j)) (zi φ) :=
  (g_mod ga gb).eq (by congr 1; funext x; exact ifR_ok h)
theorem g_shrR {j : Int} {n : Nat} {ma : R Int} (h : j = n) (ga : GX X EX φ a E ma (zi φ)) (gb : GX X EX φ b E (.ok j) (zi φ)) : GX X EX φ (.BinOp a .RShift b pos) E (ma.bind fun x => .ok (x / 2 ^ n)) (zi φ) :=
  (g_shr ga gb).eq (by congr 1; funext x; subst h; exact ifR_ok (Int.natCast_nonneg n))
theorem g_powC {i j v : Int} (h : CPow i j) (hv : i ^ j.toNat = v) (ga : GX X EX φ a E (.ok i) (zi φ)) (gb : GX X EX φ b E (.ok j) (zi φ)) : GX X EX φ (.BinOp a .Pow b pos) E (.ok v) (zi φ) :=
  (g_pow ga gb).eq (by rw [R.bind_ok, R.bind_ok, ifR_ok h, hv])
theorem g_shlC {i j v : Int} (h : CPow i j) (hv : i * 2 ^ j.toNat = v) (ga : GX X EX φ a E (.ok i) (zi φ)) (gb : GX X EX φ b E (.ok j) (zi φ)) : GX X EX φ (.BinOp a .LShift b pos) E (.ok v) (zi φ) :=
  (g_shl ga gb).eq (by rw [R.bind_ok, R.bind_ok, ifR_ok h, hv])
/-! tests without binds -/
theorem w_orP {rest : List Expr} {p q : Bool} (g : GT X EX φ a E (.ok p)) (h : GW X EX φ (.BoolOp .Or (b :: rest) pos) E (.ok q)) : GW X EX φ (.BoolOp .Or (a :: b :: rest) pos) E (.ok (p || q)) :=
  (w_or g h).eq (by cases p <;> rfl)
theorem w_andP {rest : List Expr} {p q : Bool} (g : GT X EX φ a E (.ok p)) (h : GW X EX φ (.BoolOp .And (b :: rest) pos) E (.ok q)) : GW X EX φ (.BoolOp .And (a :: b :: rest) pos) E (.ok (p && q)) :=
  (w_and g h).eq (by cases p <;> rfl)
theorem g_orP {rest : List Expr} {p q : Bool} (g : GX X EX φ a E (.ok p) (zb φ)) (h : GX X EX φ (.BoolOp .Or (b :: rest) pos) E (.ok q) (zb φ)) : GX X EX φ (.BoolOp .Or (a :: b :: rest) pos) E (.ok (p || q)) (zb φ) :=
  (g_or' g h).eq (by cases p <;> rfl)
theorem g_andP {rest : List Expr} {p q : Bool} (g : GX X EX φ a E (.ok p) (zb φ)) (h : GX X EX φ (.BoolOp .And (b :: rest) pos) E (.ok q) (zb φ)) : GX X EX φ (.BoolOp .And (a :: b :: rest) pos) E (.ok (p && q)) (zb φ) :=
  (g_and' g h).eq (by cases p <;> rfl)
theorem g_ifP {ρ : RR α} {p : Bool} {x y : α} (gc : GT X EX φ c E (.ok p)) (g : GX X EX φ a E (.ok x) ρ) (h : GX X EX φ b E (.ok y) ρ) : GX X EX φ (.IfExp c a b pos) E (.ok (if p = true then x else y)) ρ :=
  (g_if gc g h).eq (by cases p <;> rfl)
theorem g_chainP {op op' : CmpOp} {p p' : Int → Int → Bool} {x y z : Int} (ho : OpR X (compareOp op) (rI0 fun i j => .bl (p i j))) (ho' : OpR X (compareOp op') (rI0 fun i j => .bl (p' i j))) (ga : GX X EX φ a E (.ok x) (zi φ)) (gb : GX X EX φ b E (.ok y) (zi φ)) (gc : GX X EX φ c E (.ok z) (zi φ))
    (hm : lastMarks [op, op'] [b, c] = false := by with_unfolding_all rfl) : GX X EX φ (.Compare a [op, op'] [b, c] pos) E (.ok (p x y && p' y z)) (zb φ) :=
  (g_chain ho ho' ga gb gc hm).eq (by rw [R.bind_ok, R.bind_ok]; cases p x y <;> rfl)
theorem t_chainP {op op' : CmpOp} {p p' : Int → Int → Bool} {x y z : Int} (ho : OpR X (compareOp op) (rI0 fun i j => .bl (p i j))) (ho' : OpR X (compareOp op') (rI0 fun i j => .bl (p' i j))) (ga : GX X EX φ a E (.ok x) (zi φ)) (gb : GX X EX φ b E (.ok y) (zi φ)) (gc : GX X EX φ c E (.ok z) (zi φ))
    (hm : lastMarks [op, op'] [b, c] = false := by with_unfolding_all rfl) : GT X EX φ (.Compare a [op, op'] [b, c] pos) E (.ok (p x y && p' y z)) :=
  (t_chain ho ho' ga gb gc hm).eq (by rw [R.bind_ok, R.bind_ok]; cases p x y <;> rfl)
/-! ways out -/
def NoNx (m : R (Fw β γ ρ)) : Prop := ∀ b, m ≠ .ok (.nx b)
theorem nn_rt {x : ρ} : NoNx (.ok (.rt x) : R (Fw β γ ρ)) := fun _ h => nomatch h
theorem nn_bk {x : γ} : NoNx (.ok (.bk x) : R (Fw β γ ρ)) := fun _ h => nomatch h
theorem nn_ct {x : γ} : NoNx (.ok (.ct x) : R (Fw β γ ρ)) := fun _ h => nomatch h
theorem nn_err {x : Xn} : NoNx (.err x : R (Fw β γ ρ)) := fun _ h => nomatch h
theorem nn_bind {m : R α} {f : α → R (Fw β γ ρ)} (h : ∀ x, NoNx (f x)) : NoNx (m.bind f) := fun b e => by
  cases m with
  | bad => cases e
  | err x => cases e
  | ok x => exact h x b e
theorem nn_if {p : Prop} [Decidable p] {m n : R (Fw β γ ρ)} (h : NoNx m) (h' : NoNx n) : NoNx (if p then m else n) := by
  split
  · exact h
  · exact h'
theorem nn_seq {m : R (Fw α γ ρ)} {f : α → R (Fw β γ ρ)} (h : ∀ x, NoNx (f x)) : NoNx (m.bind (Fw.seq f)) := nn_bind fun w => by
  cases w with
  | nx b => exact h b
  | bk g => exact nn_bk
  | ct g => exact nn_ct
  | rt r => exact nn_rt
theorem s_ifN {ss : List Stmt} {mc : R Bool} {m1 m2 : R (Fw β γ ρ)} (gc : GT X EX φ c E mc) (g : GS X EX φ ss E m1 En Ec Rt) (hn : NoNx m1) (r : GS X EX φ rest E m2 En Ec Rt) :
    GS X EX φ (.If c ss [] pos :: rest) E (mc.bind fun c => if c = true then m1 else m2) En Ec Rt := fun σ Hf ad H A nb D n1 n2 n3 n4 er => by
  have ⟨e1, e2⟩ := bind_err (P := EW φ EX) er
  refine wpSs_of (pss_cons (ps_if ptS pssS pss_nil) pssS) (gc σ Hf ad H A (R.bind_nb nb) _ (fun x ex Hf1 H1 A1 f1 f2 => ?_) e1)
  rw [ex, R.bind_ok] at nb
  have q1 : ∀ z, (if x = true then m1 else m2) = z → (mc.bind fun c => if c = true then m1 else m2) = z := fun z ez => by rw [ex]; exact ez
  cases x with
  | true =>
    show wpSs X ss _ σ H1
    refine g σ Hf1 ad H1 A1 nb _ (fun b eb => absurd eb (hn b)) (fun b eb σ' Hf' ad' H' A' e' => n2 b (q1 _ eb) σ' Hf' ad' H' A' (f1.trans e'))
      (fun b eb σ' Hf' ad' H' A' e' => n3 b (q1 _ eb) σ' Hf' ad' H' A' (f1.trans e')) (fun b eb v σ' Hf' ad' H' A' e' => n4 b (q1 _ eb) v σ' Hf' ad' H' A' (f1.trans e')) (e2 true ex)
  | false =>
    show tNext { D with nx := wpSs X rest D } σ H1
    refine r σ Hf1 ad H1 A1 nb D (fun b eb σ' Hf' ad' H' A' e' => n1 b (q1 _ eb) σ' Hf' ad' H' A' (f1.trans e')) (fun b eb σ' Hf' ad' H' A' e' => n2 b (q1 _ eb) σ' Hf' ad' H' A' (f1.trans e'))
      (fun b eb σ' Hf' ad' H' A' e' => n3 b (q1 _ eb) σ' Hf' ad' H' A' (f1.trans e')) (fun b eb v σ' Hf' ad' H' A' e' => n4 b (q1 _ eb) v σ' Hf' ad' H' A' (f1.trans e')) (e2 false ex)
theorem s_ifNp {ss : List Stmt} {p : Bool} {m1 m2 : R (Fw β γ ρ)} (gc : GT X EX φ c E (.ok p)) (g : GS X EX φ ss E m1 En Ec Rt) (hn : NoNx m1) (r : GS X EX φ rest E m2 En Ec Rt) :
    GS X EX φ (.If c ss [] pos :: rest) E (if p = true then m1 else m2) En Ec Rt := s_ifN gc g hn r
theorem q_ifp {ss tt : List Stmt} {p : Bool} {m1 m2 : R (Fw β γ ρ)} (gc : GT X EX φ c E (.ok p)) (g : GS X EX φ ss E m1 En Ec Rt) (r : GS X EX φ tt E m2 En Ec Rt) :
    GQ X EX φ (.If c ss tt pos) E (if p = true then m1 else m2) En Ec Rt := q_if gc g r
theorem q_forp {tg iter : Expr} {wi : TI} {g : TG} {l : List α} {bE : α → Env1} {f : β → α → R (Fw β β ρ)} {Eh : β → Env1} (L : Lv X EX φ k) (b0 : β) (pi : PI X tg iter wi) (pg : PG X tg g) (src : GF X EX φ wi g E (.ok l) bE) (S : Sub E (Eh b0)) (bd : ∀ b x, GS X EX φ body (bE x ++ Eh b) (f b x) Eh Eh Rt)
    (hs : ∀ x, foldedSetIterable iter X.env x = pure x := by intro _; rfl) : GQ X EX φ (.For tg iter body [] pos) E (loopR f b0 l) Eh Ec Rt := q_for L b0 pi pg src S bd hs
/-! a name of the block's own that hides one of ours -/
theorem GN.unsh [Py α] {m : R (List α)} (S : Sub E E') (h : ∀ i c, lk E i = some c → lk E' i = some c ∨ c.isO = false) (g : GN X EX φ e E' m) : GN X EX φ e E m := fun σ Hf ad H A nb Q q er =>
  g σ Hf ad H (A.sub S) nb Q (fun x ex p vs Hf' H' A' e1 e2 h1 h2 h3 h4 => q x ex p vs Hf' H' ⟨A.e0.trans e2, A.f0.trans e1, A'.ef, A'.nw, fun i c hc => by
    rcases h i c hc with h | h
    · exact A'.sl i c h
    · cases c with
      | fz r => obtain ⟨v, w1, w2⟩ := A.sl i _ hc; exact ⟨v, w1, r.mono e1 w2⟩
      | ow r => exact (nomatch h)
      | gh r => exact (nomatch h), A.ds, A.ln⟩ e1 e2 h1 ⟨h2.1, fun i c hc ho => by
    rcases h i c hc with h | h
    · exact h2.2 i c h ho
    · rw [ho] at h; cases h⟩ h3 h4) er
/-! targets of two and three names -/
abbrev b1 [Py α] (φ : Fx) (j : Nat) : α → Env1 := fun x => [(j, vz φ x)]
abbrev b2 [Py α] [Py β] (φ : Fx) (i j : Nat) : T2 α β → Env1 := fun x => [(j, vz φ x.b), (i, vz φ x.a)]
abbrev b3 [Py α] [Py β] [Py γ] (φ : Fx) (i j l : Nat) : T3 α β γ → Env1 := fun x => [(l, vz φ x.c), (j, vz φ x.b), (i, vz φ x.a)]
abbrev gT2 (K : PySem.W.Frag) (i j : Nat) : TG := gTup K 2 (gCons (gName i) (gCons (gName j) gNil))
abbrev gT3 (K : PySem.W.Frag) (i j l : Nat) : TG := gTup K 3 (gCons (gName i) (gCons (gName j) (gCons (gName l) gNil)))
theorem pg_2 {x y : Str} {px py pt : Pos} {kk i j : Nat} (L : Lv X EX φ k) (hi : X.N[i]? = some x) (hj : X.N[j]? = some y) (hx : Loc X.env.scope x) (hy : Loc X.env.scope y)
    (h1 : (assignEach [.Name x px, .Name y py] X.env).map (·.2) = assign (.Name x px) X.env :: (assignEach [.Name y py] X.env).map (·.2) := by rfl) (h2 : (assignEach [.Name y py] X.env).map (·.2) = assign (.Name y py) X.env :: (assignEach [] X.env).map (·.2) := by rfl)
    (hf1 : X.fn x = true ∨ X.env.scope.names.lookup x = some .local := by first | exact .inl rfl | exact .inr rfl) (hf2 : X.fn y = true ∨ X.env.scope.names.lookup y = some .local := by first | exact .inl rfl | exact .inr rfl)
    (hn : (assignEach [.Name x px, .Name y py] X.env).length = 2 := by rfl) (hst : (assignEach [.Name x px, .Name y py] X.env).findIdx? (·.1) = none := by rfl) : PG X (.Tuple [.Name x px, .Name y py] kk pt) (gT2 X.K i j) :=
  pg_tup L.calm (pgs_cons (pg_name L.nd hi hx hf1) (pgs_cons (pg_name L.nd hj hy hf2) pgs_nil h2) h1) hn hst
theorem pg_3 {x y z : Str} {px py pz pt : Pos} {kk i j l : Nat} (L : Lv X EX φ k) (hi : X.N[i]? = some x) (hj : X.N[j]? = some y) (hl : X.N[l]? = some z) (hx : Loc X.env.scope x) (hy : Loc X.env.scope y) (hz : Loc X.env.scope z)
    (h1 : (assignEach [.Name x px, .Name y py, .Name z pz] X.env).map (·.2) = assign (.Name x px) X.env :: (assignEach [.Name y py, .Name z pz] X.env).map (·.2) := by rfl) (h2 : (assignEach [.Name y py, .Name z pz] X.env).map (·.2) = assign (.Name y py) X.env :: (assignEach [.Name z pz] X.env).map (·.2) := by rfl) (h3 : (assignEach [.Name z pz] X.env).map (·.2) = assign (.Name z pz) X.env :: (assignEach [] X.env).map (·.2) := by rfl)
    (hf1 : X.fn x = true ∨ X.env.scope.names.lookup x = some .local := by first | exact .inl rfl | exact .inr rfl) (hf2 : X.fn y = true ∨ X.env.scope.names.lookup y = some .local := by first | exact .inl rfl | exact .inr rfl) (hf3 : X.fn z = true ∨ X.env.scope.names.lookup z = some .local := by first | exact .inl rfl | exact .inr rfl)
    (hn : (assignEach [.Name x px, .Name y py, .Name z pz] X.env).length = 3 := by rfl) (hst : (assignEach [.Name x px, .Name y py, .Name z pz] X.env).findIdx? (·.1) = none := by rfl) : PG X (.Tuple [.Name x px, .Name y py, .Name z pz] kk pt) (gT3 X.K i j l) :=
  pg_tup L.calm (pgs_cons (pg_name L.nd hi hx hf1) (pgs_cons (pg_name L.nd hj hy hf2) (pgs_cons (pg_name L.nd hl hz hf3) pgs_nil h3) h2) h1) hn hst
theorem wipe_two {σ : L2.St} {i j : Nat} {v w : V} {c d : Ce} : ∀ vs : List Nat, (∀ p ∈ ([(j, d), (i, c)] : Env1), p.1 ∈ vs) → wipe ((σ.set i (some v)).set j (some w)) vs = wipe σ vs := fun vs h => by
  rw [wipe_set (h (j, d) (by simp)), wipe_set (h (i, c) (by simp))]
theorem runs_list2 [Py α] [Py β] {K : PySem.W.Frag} {p : Addr} {vs : List V} {xs : List (T2 α β)} {i j : Nat} {Hf0 : Hp} (kK : φ.κ.K = K) (hi : i < φ.n) (hj : j < φ.n) (h : Hf0 p = some (.lst vs)) (its : Its φ.κ xs Hf0 vs) : Runs φ (Itl K p) (gT2 K i j) Hf0 xs (b2 φ i j) := by
  refine ⟨fun E σ Hf ad H A e => ⟨vs, .inl (.inl (A.ef _ _ (e _ _ h))), by rw [Paired.length its]; exact Nat.le_refl _⟩, fun n x hx E σ Hf ad H A e => ?_⟩
  obtain ⟨v, hv, rv⟩ := its_get its hx
  have hl := A.ef _ _ (e _ _ h)
  refine ⟨⟨vs, v, .inl (.inl hl), hv⟩, fun u H1 ⟨e1, y⟩ Q q => ?_⟩
  subst e1
  have := y vs (.inl (.inl hl))
  rw [hv] at this
  cases this
  obtain ⟨t, v1, v2, h1, h2, h3, h4⟩ := Py.mono e rv
  refine ⟨t, [v1, v2], h1, kK ▸ Evl.ex_t A.ef h2, rfl, v1, [v2], rfl, v2, [], rfl, rfl, ?_⟩
  exact q _ Hf _ ((A.set hi h3).set hj h4) (Evl.Ex.refl _) (Evl.Ex.refl _) wipe_two
theorem gf_list2 [Py α] [Py β] {m : R (List (T2 α β))} {i j : Nat} (L : Lv X EX φ k) (hi : i < φ.n) (hj : j < φ.n) (g : GX X EX φ a E m (zr φ)) : GF X EX φ (iList X.K (wpE X a)) (gT2 X.K i j) E m (b2 φ i j) := fun σ Hf ad H A nb Q q er =>
  g σ Hf ad H A nb _ (fun x ex v Hf' H' A' e1 e2 ⟨p, vs, h1, h2, h3⟩ => ⟨p, h1, ⟨vs, .inl (.inl (A'.ef _ _ h2))⟩, q x ex _ Hf' H' A' e1 e2 (runs_list2 L.kK hi hj h2 h3)⟩) er
theorem wipe_three {σ : L2.St} {i j l : Nat} {v w u : V} {c d e : Ce} : ∀ vs : List Nat, (∀ p ∈ ([(l, e), (j, d), (i, c)] : Env1), p.1 ∈ vs) → wipe (((σ.set i (some v)).set j (some w)).set l (some u)) vs = wipe σ vs := fun vs h => by
  rw [wipe_set (h (l, e) (by simp)), wipe_set (h (j, d) (by simp)), wipe_set (h (i, c) (by simp))]
theorem runs_list3 [Py α] [Py β] [Py γ] {K : PySem.W.Frag} {p : Addr} {vs : List V} {xs : List (T3 α β γ)} {i j l : Nat} {Hf0 : Hp} (kK : φ.κ.K = K) (hi : i < φ.n) (hj : j < φ.n) (hl : l < φ.n) (h : Hf0 p = some (.lst vs)) (its : Its φ.κ xs Hf0 vs) : Runs φ (Itl K p) (gT3 K i j l) Hf0 xs (b3 φ i j l) := by
  refine ⟨fun E σ Hf ad H A e => ⟨vs, .inl (.inl (A.ef _ _ (e _ _ h))), by rw [Paired.length its]; exact Nat.le_refl _⟩, fun n x hx E σ Hf ad H A e => ?_⟩
  obtain ⟨v, hv, rv⟩ := its_get its hx
  have hl' := A.ef _ _ (e _ _ h)
  refine ⟨⟨vs, v, .inl (.inl hl'), hv⟩, fun u H1 ⟨e1, y⟩ Q q => ?_⟩
  subst e1
  have := y vs (.inl (.inl hl'))
  rw [hv] at this
  cases this
  obtain ⟨t, v1, v2, v3, h1, h2, h3, h4, h5⟩ := Py.mono e rv
  refine ⟨t, [v1, v2, v3], h1, kK ▸ Evl.ex_t A.ef h2, rfl, v1, [v2, v3], rfl, v2, [v3], rfl, v3, [], rfl, rfl, ?_⟩
  exact q _ Hf _ (((A.set hi h3).set hj h4).set hl h5) (Evl.Ex.refl _) (Evl.Ex.refl _) wipe_three
theorem gf_list3 [Py α] [Py β] [Py γ] {m : R (List (T3 α β γ))} {i j l : Nat} (L : Lv X EX φ k) (hi : i < φ.n) (hj : j < φ.n) (hl : l < φ.n) (g : GX X EX φ a E m (zr φ)) : GF X EX φ (iList X.K (wpE X a)) (gT3 X.K i j l) E m (b3 φ i j l) := fun σ Hf ad H A nb Q q er =>
  g σ Hf ad H A nb _ (fun x ex v Hf' H' A' e1 e2 ⟨p, vs, h1, h2, h3⟩ => ⟨p, h1, ⟨vs, .inl (.inl (A'.ef _ _ h2))⟩, q x ex _ Hf' H' A' e1 e2 (runs_list3 L.kK hi hj hl h2 h3)⟩) er
/-- enumerate(list) -/
def enumL (xs : List α) : List (T2 Int α) := xs.zipIdx.map fun p => ⟨(p.2 : Int), p.1⟩
theorem enumL_len (xs : List α) : (enumL xs).length = xs.length := by simp [enumL]
theorem enumL_get {xs : List α} {i : Nat} {x : T2 Int α} (h : (enumL xs)[i]? = some x) : ∃ y, xs[i]? = some y ∧ x = ⟨(i : Int), y⟩ := by
  unfold enumL at h
  rw [List.getElem?_map, Option.map_eq_some_iff] at h
  obtain ⟨p, h1, h2⟩ := h
  rw [List.getElem?_zipIdx, Option.map_eq_some_iff] at h1
  obtain ⟨y, h3, h4⟩ := h1
  subst h4 h2
  exact ⟨y, h3, by simp⟩
theorem gf_enum [Py α] {m : R (List α)} {i j : Nat} (L : Lv X EX φ k) (hi : i < φ.n) (hj : j < φ.n) (g : GX X EX φ a E m (zr φ)) : GF X EX φ (iEnum X.K (tCons (wpE X a) tNil)) (gT2 X.K i j) E (m.bind fun xs => .ok (enumL xs)) (b2 φ i j) := fun σ Hf ad H A nb Q q er =>
  g σ Hf ad H A (R.bind_nb nb) _ (fun xs ex v Hf' H' A' e1 e2 ⟨p, vs, h1, h2, h3⟩ => ⟨p, vs, by rw [h1], .inl (.inl (A'.ef _ _ h2)), q _ (by rw [ex]; rfl) _ Hf' H' A' e1 e2 (by
    refine ⟨fun E σ Hf ad H A e => ⟨vs, .inl (.inl (A.ef _ _ (e _ _ h2))), by rw [enumL_len, Paired.length h3]; exact Nat.le_refl _⟩, fun n x hx E σ Hf ad H A e => ?_⟩
    obtain ⟨y, hy, ey⟩ := enumL_get hx
    obtain ⟨w, hw, rw'⟩ := its_get h3 hy
    have hl := A.ef _ _ (e _ _ h2)
    refine ⟨⟨vs, w, .inl (.inl hl), hw⟩, fun u H1 ⟨T, z, e3, hT, e4, hz⟩ Q q => ?_⟩
    have := hz vs (.inl (.inl hl))
    rw [hw] at this
    cases this
    subst e3 e4 ey
    have A1 := A.new (o := .tup [.int (n : Nat), w]) hT
    have ef := upd_ef A (o := .tup [.int (n : Nat), w]) hT
    refine ⟨T, [.int (n : Nat), w], rfl, SqT.of upd_same, rfl, _, _, rfl, _, [], rfl, rfl, ?_⟩
    exact q _ _ _ ((A1.set hi rfl).set hj (Py.mono (e.trans ef) rw')) ef (Evl.Ex.new hT) wipe_two)⟩) (bind_err er).1
end
end G

/-! G9: more statements, more that is walked. -/
namespace G
open PySem L2
section
variable {X : Cx} {EX : XK} {φ : Fx} {k : Nat} {E E' : Env1} {α β γ δ ρ : Type} {e a b c : Expr} {pos : Pos} {i : Nat} {es : List Expr} {st : Stmt} {sts rest body : List Stmt} {En : β → Env1} {Ec : γ → Env1} {Rt : RR ρ}
theorem lt_n (L : Lv X EX φ k) {i : Nat} (h : Nat.blt i X.N.length = true) : i < φ.n := by rw [L.n]; exact Nat.le_of_ble_eq_true h
theorem unsh_ok {E0 : Env1} (S : Sub E E') (h : ∀ i c, lk E i = some c → c.isO = true → lk E' i ≠ none) : ∀ i c, lk E i = some c → lk E' i = some c ∨ c.isO = false := fun i c hc => by
  cases ho : c.isO with
  | false => exact .inr rfl
  | true =>
    cases hl : lk E' i with
    | none => exact absurd hl (h i c hc ho)
    | some d =>
      have := S.lk hl
      rw [hc] at this
      exact .inl (by rw [this])
/-- x += e, x -= e of ints -/
theorem s_aug {x : Str} {p : Pos} {op : Operator} {f : Int → Int → Int} {m : R Int} {z : Int} {q : Int → R (Fw β γ ρ)} (L : Lv X EX φ k) (ho : PIp X op (ipI f)) (i : Nat) (hi : X.N[i]? = some x) (hx : Loc X.env.scope x) (hz : lk E i = some (vz φ z)) (g : GX X EX φ e E m (zi φ)) (r : ∀ y, GS X EX φ rest ((i, vz φ y) :: E) (q y) En Ec Rt)
    (hf : X.fn x = true ∨ X.env.scope.names.lookup x = some .local := by exact .inl rfl) : GS X EX φ (.AugAssign (.Name x p) op e pos :: rest) E ((m.bind fun y => .ok (f z y)).bind q) En Ec Rt := by
  have h := s_augI L ho i hi hx hz g r hf (pos := pos) (p := p)
  have e : (m.bind fun y => q (f z y)) = ((m.bind fun y => .ok (f z y)).bind q) := by cases m <;> rfl
  rw [← e]
  exact h
/-- items of a triple -/
theorem g_31 [Py α] [Py β] [Py γ] {j : Nat} {p : Pos} {m : R (T3 α β γ)} (L : Lv X EX φ k) (g : GX X EX φ a E m (zr φ)) (hs : PlainIx (.Constant (.int 0) j p) := by intro _ _; rfl) : GX X EX φ (.Subscript a (.Constant (.int 0) j p) pos) E (m.bind fun t => .ok t.a) (zr φ) := fun σ Hf ad H A nb Q q er =>
  wpE_of (pe_ix ix_tup peS pe_int hs) (g σ Hf ad H A (R.bind_nb nb) _ (fun x ex v Hf' H' A' e1 e2 ⟨t, v1, v2, v3, h1, h2, h3, h4, h5⟩ => ⟨t, [v1, v2, v3], 0, v1, h1, rfl, L.kK ▸ Evl.ex_t A'.ef h2, rfl, q x.a (by rw [ex]; rfl) v1 Hf' H' A' e1 e2 h3⟩) (bind_err er).1)
theorem g_32 [Py α] [Py β] [Py γ] {j : Nat} {p : Pos} {m : R (T3 α β γ)} (L : Lv X EX φ k) (g : GX X EX φ a E m (zr φ)) (hs : PlainIx (.Constant (.int 1) j p) := by intro _ _; rfl) : GX X EX φ (.Subscript a (.Constant (.int 1) j p) pos) E (m.bind fun t => .ok t.b) (zr φ) := fun σ Hf ad H A nb Q q er =>
  wpE_of (pe_ix ix_tup peS pe_int hs) (g σ Hf ad H A (R.bind_nb nb) _ (fun x ex v Hf' H' A' e1 e2 ⟨t, v1, v2, v3, h1, h2, h3, h4, h5⟩ => ⟨t, [v1, v2, v3], 1, v2, h1, rfl, L.kK ▸ Evl.ex_t A'.ef h2, rfl, q x.b (by rw [ex]; rfl) v2 Hf' H' A' e1 e2 h4⟩) (bind_err er).1)
theorem g_33 [Py α] [Py β] [Py γ] {j : Nat} {p : Pos} {m : R (T3 α β γ)} (L : Lv X EX φ k) (g : GX X EX φ a E m (zr φ)) (hs : PlainIx (.Constant (.int 2) j p) := by intro _ _; rfl) : GX X EX φ (.Subscript a (.Constant (.int 2) j p) pos) E (m.bind fun t => .ok t.c) (zr φ) := fun σ Hf ad H A nb Q q er =>
  wpE_of (pe_ix ix_tup peS pe_int hs) (g σ Hf ad H A (R.bind_nb nb) _ (fun x ex v Hf' H' A' e1 e2 ⟨t, v1, v2, v3, h1, h2, h3, h4, h5⟩ => ⟨t, [v1, v2, v3], 2, v3, h1, rfl, L.kK ▸ Evl.ex_t A'.ef h2, rfl, q x.c (by rw [ex]; rfl) v3 Hf' H' A' e1 e2 h5⟩) (bind_err er).1)
/-- a tuple, walked -/
theorem runs_tup [Py α] {K : PySem.W.Frag} {p : Addr} {vs : List V} {xs : List α} {j : Nat} {Hf0 : Hp} (kK : φ.κ.K = K) (hj : j < φ.n) (h : SqT φ.κ.K Hf0 p vs) (its : Its φ.κ xs Hf0 vs) : Runs φ (Itt K p) (gName j) Hf0 xs (b1 φ j) := by
  subst kK
  refine ⟨fun E σ Hf ad H A e => ⟨vs, Evl.ex_t A.ef (Evl.ex_t e h), by rw [Paired.length its]; exact Nat.le_refl _⟩, fun i x hx E σ Hf ad H A e => ?_⟩
  obtain ⟨v, hv, rv⟩ := its_get its hx
  have hl := Evl.ex_t A.ef (Evl.ex_t e h)
  refine ⟨⟨vs, v, hl, hv⟩, fun u H1 ⟨e1, y⟩ Q q => ?_⟩
  subst e1
  have := y vs hl
  rw [hv] at this
  cases this
  exact q _ Hf _ (A.set hj (Py.mono e rv)) (Evl.Ex.refl _) (Evl.Ex.refl _) wipe_name
theorem gf_tp [Py α] {m : R (Tp α)} {j : Nat} (L : Lv X EX φ k) (hj : j < φ.n) (g : GX X EX φ a E m (zr φ)) : GF X EX φ (iTup X.K (wpE X a)) (gName j) E (m.bind fun x => .ok x.l) (b1 φ j) := fun σ Hf ad H A nb Q q er =>
  g σ Hf ad H A (R.bind_nb nb) _ (fun x ex v Hf' H' A' e1 e2 ⟨p, vs, h1, h2, h3⟩ => ⟨p, h1, ⟨vs, L.kK ▸ Evl.ex_t A'.ef h2⟩, q x.l (by rw [ex]; rfl) _ Hf' H' A' e1 e2 (runs_tup L.kK hj h2 h3)⟩) (bind_err er).1
def t3L (x : T3 α α α) : List α := [x.a, x.b, x.c]
theorem gf_t3 [Py α] {m : R (T3 α α α)} {j : Nat} (L : Lv X EX φ k) (hj : j < φ.n) (g : GX X EX φ a E m (zr φ)) : GF X EX φ (iTup X.K (wpE X a)) (gName j) E (m.bind fun x => .ok (t3L x)) (b1 φ j) := fun σ Hf ad H A nb Q q er =>
  g σ Hf ad H A (R.bind_nb nb) _ (fun x ex v Hf' H' A' e1 e2 ⟨p, v1, v2, v3, h1, h2, h3, h4, h5⟩ => ⟨p, h1, ⟨_, L.kK ▸ Evl.ex_t A'.ef h2⟩, q (t3L x) (by rw [ex]; rfl) _ Hf' H' A' e1 e2 (runs_tup L.kK hj h2 (.cons h3 (.cons h4 (.cons h5 .nil))))⟩) (bind_err er).1
end
end G

/-! G10: objects of the text's own classes. -/
namespace G
open PySem L2
noncomputable section
/-! ### what an object holds -/
abbrev FL := List (Str × RP)
inductive FRel (H : Hp) : FL → List (Str × V) → Prop where
  | nil : FRel H [] []
  | cons {n : Str} {r : RP} {v : V} {l : FL} {fs : List (Str × V)} (h : r.p H v) (t : FRel H l fs) : FRel H ((n, r) :: l) ((n, v) :: fs)
theorem FRel.mono {H H' : Hp} {l : FL} {fs : List (Str × V)} (e : Ex H H') (h : FRel H l fs) : FRel H' l fs := by
  induction h with
  | nil => exact .nil
  | cons h _ ih => exact .cons (RP.mono _ e h) ih
theorem FRel.len {H : Hp} {l : FL} {fs : List (Str × V)} (h : FRel H l fs) : fs.length = l.length := by
  induction h with
  | nil => rfl
  | cons _ _ ih => rw [List.length_cons, ih, List.length_cons]
theorem FRel.names {H : Hp} {l : FL} {fs : List (Str × V)} (h : FRel H l fs) : fs.map (·.1) = l.map (·.1) := by
  induction h with
  | nil => rfl
  | cons _ _ ih => rw [List.map_cons, ih, List.map_cons]
theorem look_none {f : Str} {ns : List Str} (hf : ns.contains f = false) : ∀ {fs : List (Str × V)}, fs.map (·.1) = ns → fs.lookup f = none := by
  intro fs h
  subst h
  induction fs with
  | nil => rfl
  | cons p fs ih =>
    rw [List.map_cons, List.contains_cons, Bool.or_eq_false_iff] at hf
    show List.lookup f ((p.1, p.2) :: fs) = none
    rw [List.lookup, hf.1]
    exact ih hf.2
theorem FRel.at {H : Hp} {l : FL} {fs : List (Str × V)} {f : Str} {r : RP} : ∀ {i : Nat}, FRel H l fs → l[i]? = some (f, r) → ((l.map (·.1)).take i).contains f = false → ∃ v, fs.lookup f = some v ∧ r.p H v
  | i, .nil, h, _ => by simp at h
  | 0, .cons (n := n) (v := v) (fs := fs) q t, h, _ => by
    simp at h
    obtain ⟨h1, h2⟩ := h
    subst h1 h2
    exact ⟨v, by simp [List.lookup], q⟩
  | i + 1, .cons (n := n) (v := v) (fs := fs) q t, h, hf => by
    rw [List.map_cons, List.take_succ_cons, List.contains_cons, Bool.or_eq_false_iff] at hf
    obtain ⟨w, h1, h2⟩ := FRel.at (i := i) t (by simpa using h) hf.2
    exact ⟨w, by rw [List.lookup, hf.1]; exact h1, h2⟩
theorem putF_new {f : Str} {v : V} {ns : List Str} (hf : ns.contains f = false) : ∀ {fs : List (Str × V)}, fs.map (·.1) = ns → putF f v fs = fs ++ [(f, v)] := by
  intro fs h
  subst h
  induction fs with
  | nil => rfl
  | cons p fs ih =>
    rw [List.map_cons, List.contains_cons, Bool.or_eq_false_iff] at hf
    have : ¬ p.1 = f := fun z => by rw [z] at hf; simp at hf
    show (if p.1 = f then (p.1, v) :: fs else (p.1, p.2) :: putF f v fs) = _
    rw [if_neg this, ih hf.2]
    rfl
theorem FRel.new {H : Hp} {l : FL} {fs : List (Str × V)} {f : Str} {r : RP} {v : V} (h : FRel H l fs) (q : r.p H v) : FRel H (l ++ [(f, r)]) (fs ++ [(f, v)]) := by
  induction h with
  | nil => exact .cons q .nil
  | cons h _ ih => exact .cons h ih
/-- an object of the class at C -/
def obP (C : Addr) (l : FL) (H : Hp) (o : HO) : Prop := ∃ dx fs, o = .ins C dx fs ∧ FRel H l fs
theorem obP.mono {C : Addr} {l : FL} {H H' : Hp} {o : HO} (e : Ex H H') : obP C l H o → obP C l H' o := fun ⟨dx, fs, h1, h2⟩ => ⟨dx, fs, h1, h2.mono e⟩
/-- .. that stands at p -/
def obR (p C : Addr) (l : FL) : RO := ⟨fun a H o => a = p ∧ obP C l H o, fun e ⟨h0, h⟩ => ⟨h0, h.mono e⟩⟩
def rpk {α : Type} [Py α] (κ : Cc) (x : α) : RP := ⟨fun H v => Py.rep κ x H v, fun e h => Py.mono e h⟩
class PyC (α : Type) where
  idx : Nat
  fl : Cc → α → FL
  names : List Str
  hn : ∀ κ x, (fl κ x).map (·.1) = names
@[reducible] def pyc {α : Type} [PyC α] : Py α := ⟨fun κ x H v => ∃ a o, v = .ref a ∧ H a = some o ∧ obP (κ.cl (PyC.idx α)) (PyC.fl κ x) H o, fun e ⟨a, o, h1, h2, h3⟩ => ⟨a, o, h1, e _ _ h2, h3.mono e⟩⟩
section
variable {X : Cx} {EX : XK} {φ : Fx} {k : Nat} {E E' : Env1} {α β γ δ ρ : Type} {e a b c o : Expr} {pos : Pos} {i : Nat} {es : List Expr} {st : Stmt} {sts rest body : List Stmt} {En : β → Env1} {Ec : γ → Env1} {Rt : RR ρ} {f : Str}
/-- o.f -/
theorem g_fld [Py α] [PyC α] [Py β] {m : R α} (hp : ∀ κ x H v, Py.rep κ x H v → pyc.rep (α := α) κ x H v) (i : Nat) (pr : α → β) (hf : ∀ κ x, (PyC.fl κ x)[i]? = some (f, rpk κ (pr x))) (hn : ((PyC.names α).take i).contains f = false) (cl : Cls X.K (φ.κ.cl (PyC.idx α))) (na : NoAttr X.K (φ.κ.cl (PyC.idx α)) f) (g : GX X EX φ o E m (zr φ))
    (hb : attributeBase o f X.env (eval o X.env) = eval o X.env := by rfl) : GX X EX φ (.Attribute o f pos) E (m.bind fun x => .ok (pr x)) (zr φ) := fun σ Hf ad H A nb Q q er =>
  wpE_of (pe_fld peS hb) (g σ Hf ad H A (R.bind_nb nb) _ (fun x ex v Hf' H' A' e1 e2 r => by
    obtain ⟨p, ob, h1, h2, dx, fs, h3, h4⟩ := hp _ _ _ _ r
    subst h3
    obtain ⟨w, h5, h6⟩ := h4.at (hf φ.κ x) (by rw [PyC.hn]; exact hn)
    exact ⟨p, _, dx, fs, w, h1, A'.ef _ _ h2, cl, na, h5, q (pr x) (by rw [ex]; rfl) w Hf' H' A' e1 e2 h6⟩) (bind_err er).1)
/-- self.f, where self is being made -/
theorem g_fldO [Py β] {x : Str} {p : Pos} {q C : Addr} {l : FL} {y : β} (j : Nat) (hv : PE X (.Name x p) (tVar i)) (hl : lk E i = some (.ow (obR q C l))) (hf : l[j]? = some (f, rp φ y)) (ns : List Str) (hm : (l.map (·.1)).take j = ns) (hn : ns.contains f = false) (cl : Cls X.K C) (na : NoAttr X.K C f)
    (hb : attributeBase (.Name x p) f X.env (eval (.Name x p) X.env) = eval (.Name x p) X.env := by rfl) : GX X EX φ (.Attribute (.Name x p) f pos) E (.ok y) (zr φ) := fun σ Hf ad H A nb Q qq er => by
  obtain ⟨h1, h2, h3, ob, h4, h0, dx, fs, h5, h6⟩ := A.sl i _ hl
  subst h5
  obtain ⟨w, h7, h8⟩ := h6.at hf (by rw [hm]; exact hn)
  exact wpE_of (pe_fld hv hb) ⟨_, h1, _, _, dx, fs, w, rfl, h4, cl, na, h7, qq y rfl w Hf H A (Evl.Ex.refl _) (Evl.Ex.refl _) h8⟩
/-- self.f = e, a new field -/
theorem s_fld [Py α] {x : Str} {p p' : Pos} {q C : Addr} {l : FL} {m : R α} {F : α → R (Fw β γ ρ)} (i : Nat) (hv : PE X (.Name x p) (tVar i)) (hl : lk E i = some (.ow (obR q C l))) (ns : List Str) (hm : l.map (·.1) = ns) (hn : ns.contains f = false) (hk : ns.length < 999) (cl : Cls X.K C) (na : NoAttr X.K C f) (g : GX X EX φ e E m (zr φ))
    (r : ∀ y, GS X EX φ rest ((i, .ow (obR q C (l ++ [(f, rp φ y)]))) :: E) (F y) En Ec Rt) (hs : swapsWith e (some (.Attribute (.Name x p) f p')) pos.line X.env = pure false := by rfl) : GS X EX φ (.Assign [.Attribute (.Name x p) f p'] e pos :: rest) E (m.bind F) En Ec Rt := fun σ Hf ad H A nb D n1 n2 n3 n4 er => by
  have ⟨e1, e2⟩ := bind_err (P := EW φ EX) er
  refine wpSs_of (pss_cons (ps_fld hv peS hs) pssS) (g σ Hf ad H A (R.bind_nb nb) _ (fun y ey v Hf1 H1 A1 f1 f2 r1 => ?_) e1)
  obtain ⟨h1, h2, h3, ob, h4, h0, dx, fs, h5, h6⟩ := A1.sl i _ hl
  subst h5
  rw [ey, R.bind_ok] at nb
  have hnm := h6.names.trans hm
  have hll : l.length = ns.length := by rw [← hm, List.length_map]
  refine ⟨_, h1, _, _, dx, fs, rfl, h4, cl, na, by rw [h6.len]; omega, ?_⟩
  rw [putF_new hn hnm]
  have A2 := A1.wr (o := .ins C dx (fs ++ [(f, v)])) (r' := obR q C (l ++ [(f, rp φ y)])) hl ⟨h0, dx, _, rfl, h6.new r1⟩
  refine r y _ Hf1 ad _ A2 nb D (fun b eb σ' Hf' ad' H' A' e' => n1 b (by rw [ey]; exact eb) σ' Hf' ad' H' A' (f1.trans e')) (fun b eb σ' Hf' ad' H' A' e' => n2 b (by rw [ey]; exact eb) σ' Hf' ad' H' A' (f1.trans e'))
    (fun b eb σ' Hf' ad' H' A' e' => n3 b (by rw [ey]; exact eb) σ' Hf' ad' H' A' (f1.trans e')) (fun b eb v σ' Hf' ad' H' A' e' => n4 b (by rw [ey]; exact eb) v σ' Hf' ad' H' A' (f1.trans e')) (e2 y ey)
/-! ### methods -/
structure CalM (P : Program) (w : World) (K : PySem.W.Frag) (mg : Str → Option Value) (base : Heap) (k : Nat) (C : Addr) (m : Str) (sp : Sp) : Prop where
  ex : ∃ (f : Addr) (fd : FuncData) (ps : List Str), FnOk P w K mg base (L2.CX P w) k f fd ps sp ∧ Meth K C m f ∧ Binds K fd ps []
section
variable {A : Type} [PyA A] [Py α] [PyC α] {p : Pos} {j : Nat} {ma : R A} {mo : R α} {mt : Str} {apos : Pos}
theorem obj_at (hp : ∀ κ x H v, Py.rep κ x H v → pyc.rep (α := α) κ x H v) {x : α} {H : Hp} {v : V} {κ : Cc} (hn : (PyC.names α).contains mt = false) (r : Py.rep κ x H v) : ∃ p dx fs, v = .ref p ∧ H p = some (.ins (κ.cl (PyC.idx α)) dx fs) ∧ fs.lookup mt = none := by
  obtain ⟨p, ob, h1, h2, dx, fs, h3, h4⟩ := hp _ _ _ _ r
  subst h3
  exact ⟨p, dx, fs, h1, h2, look_none hn (h4.names.trans (PyC.hn _ _))⟩
theorem g_meth [Py ρ] {m : α × A → R ρ} (hp : ∀ κ x H v, Py.rep κ x H v → pyc.rep (α := α) κ x H v) (L : Lv X EX φ k) (cl : Cls X.K (φ.κ.cl (PyC.idx α))) (C : CalM X.prog X.w X.K X.mg X.base j (φ.κ.cl (PyC.idx α)) mt (spF φ.κ m)) (hj : j ≤ k) (hn : (PyC.names α).contains mt = false) (go : GX X EX φ o E mo (zr φ)) (ga : GA X EX φ (e :: es) E ma)
    (P : ∀ (f : Addr) (fd : FuncData) (ps : List Str) (sp : Sp), Cls X.K (φ.κ.cl (PyC.idx α)) → Meth X.K (φ.κ.cl (PyC.idx α)) mt f → FnOk X.prog X.w X.K X.mg X.base (L2.CX X.prog X.w) j f fd ps sp → Room j X.A → Binds X.K fd ps [] → Passes (L2.CX X.prog X.w) X EX → PE X (.Call (.Attribute o mt apos) (e :: es) [] pos) (tMeth (φ.κ.cl (PyC.idx α)) mt sp [] EX (wpE X o) (wpA X (e :: es)))) :
    GX X EX φ (.Call (.Attribute o mt apos) (e :: es) [] pos) E (mo.bind fun x => ma.bind fun y => m (x, y)) (zr φ) := fun σ Hf ad H A nb Q q er => by
  obtain ⟨f, fd, ps, F, hm, hb⟩ := C.ex
  have ⟨e1, e2⟩ := bind_err (P := EW φ EX) er
  refine wpE_of (P f fd ps _ cl hm F (L.room.mono hj) hb L.ps) (go σ Hf ad H A (R.bind_nb nb) _ (fun x ex v Hf0 H0 A0 f1 f2 rs => ?_) e1)
  rw [ex, R.bind_ok] at nb
  obtain ⟨p, dx, fs, h1, h2, h3⟩ := obj_at hp hn rs
  refine ⟨p, dx, fs, h1, A0.ef _ _ h2, h3, ?_⟩
  have ⟨e3, e4⟩ := bind_err (P := EW φ EX) (e2 x ex)
  refine ga σ Hf0 ad H0 A0 (R.bind_nb nb) _ (fun y ey vs Hf1 H1 A1 g1 g2 rs1 => ?_) e3
  rw [ey, R.bind_ok] at nb
  refine ⟨(x, y), Hf1, A1.ef, ⟨v, vs, by rw [List.append_nil], Py.mono g1 rs, rs1⟩, nb, fun r hr v Hf' H' k1 k2 k3 hn rr => q r (by rw [ex, R.bind_ok, ey, R.bind_ok]; exact hr) v Hf' H' (A1.call k1 k2 k3 hn) (f1.trans (g1.trans k1)) (f2.trans (g2.trans k3)) rr, fun z hz cls d H' k3 xr => ?_⟩
  exact (e4 y ey z hz).up A (f2.trans (g2.trans k3)) xr
theorem g_meth0 [Py ρ] {m : α × Unit → R ρ} (hp : ∀ κ x H v, Py.rep κ x H v → pyc.rep (α := α) κ x H v) (L : Lv X EX φ k) (cl : Cls X.K (φ.κ.cl (PyC.idx α))) (C : CalM X.prog X.w X.K X.mg X.base j (φ.κ.cl (PyC.idx α)) mt (spF φ.κ m)) (hj : j ≤ k) (hn : (PyC.names α).contains mt = false) (go : GX X EX φ o E mo (zr φ))
    (P : ∀ (f : Addr) (fd : FuncData) (ps : List Str) (sp : Sp), Cls X.K (φ.κ.cl (PyC.idx α)) → Meth X.K (φ.κ.cl (PyC.idx α)) mt f → FnOk X.prog X.w X.K X.mg X.base (L2.CX X.prog X.w) j f fd ps sp → Room j X.A → Binds X.K fd ps [] → Passes (L2.CX X.prog X.w) X EX → PE X (.Call (.Attribute o mt apos) [] [] pos) (tMeth (φ.κ.cl (PyC.idx α)) mt sp [] EX (wpE X o) tNil)) :
    GX X EX φ (.Call (.Attribute o mt apos) [] [] pos) E (mo.bind fun x => m (x, ())) (zr φ) := fun σ Hf ad H A nb Q q er => by
  obtain ⟨f, fd, ps, F, hm, hb⟩ := C.ex
  have ⟨e1, e2⟩ := bind_err (P := EW φ EX) er
  refine wpE_of (P f fd ps _ cl hm F (L.room.mono hj) hb L.ps) (go σ Hf ad H A (R.bind_nb nb) _ (fun x ex v Hf0 H0 A0 f1 f2 rs => ?_) e1)
  rw [ex, R.bind_ok] at nb
  obtain ⟨p, dx, fs, h1, h2, h3⟩ := obj_at hp hn rs
  refine ⟨p, dx, fs, h1, A0.ef _ _ h2, h3, ?_⟩
  refine ⟨(x, ()), Hf0, A0.ef, ⟨v, [], rfl, rs, rfl⟩, nb, fun r hr v Hf' H' k1 k2 k3 hn rr => q r (by rw [ex, R.bind_ok]; exact hr) v Hf' H' (A0.call k1 k2 k3 hn) (f1.trans k1) (f2.trans k3) rr, fun z hz cls d H' k3 xr => ?_⟩
  exact (e2 x ex z hz).up A (f2.trans k3) xr
end
/-! ### making -/
/-- __init__'s promise -/
def spI {A : Type} [PyA A] (κ : Cc) (C : Addr) (fl : ρ → FL) (m : A → R ρ) : Sp := fun vs H Q W => ∃ (p : Addr) (us : List V) (x : A) (Hf H0 : Hp), vs = .ref p :: us ∧ Ex Hf H0 ∧ Ex H0 H ∧ H0 p = none ∧ (∃ dx, H p = some (.ins C dx [])) ∧ PyA.reps κ x Hf us ∧ m x ≠ .bad ∧
  (∀ r, m x = .ok r → ∀ Hf' H' ob, Ex Hf Hf' → Ex Hf' H' → Ex H0 H' → (∀ b, Hf b = none → Hf' b ≠ none → H0 b = none) → Hf' p = none → H' p = some ob → obP C (fl r) Hf' ob → Q .non H') ∧
  (∀ z, m x = .err z → ∀ cls d H', Ex H0 H' → XR κ z cls d H' → W cls d H')
structure CalI (P : Program) (w : World) (K : PySem.W.Frag) (mg : Str → Option Value) (base : Heap) (k : Nat) (C : Addr) (x : Str) (sp : Sp) : Prop where
  ex : ∃ (f : Addr) (fd : FuncData) (ps : List Str), FnOk P w K mg base (L2.CX P w) k f fd ps sp ∧ Mk K C f ∧ mg x = some (.ref C) ∧ Binds K fd ps []
theorem g_make {A : Type} [PyA A] [Py α] [PyC α] {x : Str} {p : Pos} {j : Nat} {ma : R A} {m : A → R α} (hp : ∀ κ x H v, pyc.rep (α := α) κ x H v → Py.rep κ x H v) (L : Lv X EX φ k) (C : CalI X.prog X.w X.K X.mg X.base j (φ.κ.cl (PyC.idx α)) x (spI φ.κ (φ.κ.cl (PyC.idx α)) (PyC.fl φ.κ) m)) (hj : j + 1 ≤ k) (ga : GA X EX φ (e :: es) E ma) (hg : Gl X x := by rfl) (hdb : (x == ("__debug__" : Str)) = false := by decide)
    (he : starEach (e :: es) X.env = (false, eval e X.env) :: starEach es X.env := by rfl) (hpl : (backTo pos (starEach es X.env)).any (·.1) = false := by rfl) : GX X EX φ (.Call (.Name x p) (e :: es) [] pos) E (ma.bind m) (zr φ) := fun σ Hf ad H A nb Q q er => by
  obtain ⟨f, fd, ps, F, hM, hm, hb⟩ := C.ex
  have ⟨e1, e2⟩ := bind_err (P := EW φ EX) er
  refine wpE_of (pe_make hM F (L.room.mono hj) hg hm hb .nil L.ps paS hdb he hpl) (ga σ Hf ad H A (R.bind_nb nb) _ (fun y ey vs Hf1 H1 A1 f1 f2 rs x dx hx hdx hne => ?_) e1)
  rw [ey, R.bind_ok] at nb
  have ee : Ex H1 (upd (upd H1 dx (.own x)) x (.ins (φ.κ.cl (PyC.idx α)) dx [])) := (Evl.Ex.new hdx).trans (Evl.Ex.new (by rw [upd_ne (Ne.symm hne)]; exact hx))
  refine ⟨x, vs, y, Hf1, H1, by rw [List.append_nil], A1.ef, ee, hx, ⟨dx, upd_same⟩, rs, nb, fun r hr Hf' H' ob g1 g2 g3 hn h1 h2 h3 => ⟨rfl, ?_⟩, fun z hz cls d H' g3 xr => ?_⟩
  · have A2 := A1.call g1 g2 g3 hn
    have off : Off φ E ad x := A1.off hx
    have ef : Ex Hf' (upd Hf' x ob) := Evl.Ex.new h1
    exact q r (by rw [ey, R.bind_ok]; exact hr) _ _ H' (A2.frz h1 h2 off) (f1.trans (g1.trans ef)) (f2.trans g3) (hp _ _ _ _ ⟨x, ob, rfl, upd_same, h3.mono ef⟩)
  · exact (e2 y ey z hz).up A (f2.trans g3) xr
def retI : Fw ρ Empty Empty → R ρ
  | .nx b => .ok b
  | .bk b => nomatch b
  | .ct b => nomatch b
  | .rt b => nomatch b
theorem At.startI {A : Type} [PyA A] [PyE A] {κ : Cc} {x : A} {H H0 Hf : Hp} {us : List V} {N : List Str} {p C dx : Addr} (hl : us.length + 1 ≤ N.length) (ef : Ex Hf H0) (e0 : Ex H0 H) (hp : H0 p = none) (ho : H p = some (.ins C dx [])) (h : PyA.reps κ x Hf us) :
    At ⟨κ, H0, Hf, N.length⟩ ((0, .ow (obR p C [])) :: PyE.env ⟨κ, H0, Hf, N.length⟩ 1 x) (L2.start N (.ref p :: us)) Hf (fun _ => p) H := by
  have fp : Hf p = none := Evl.fresh_back ef hp
  refine ⟨e0, Evl.Ex.refl _, ef.trans e0, fun b h1 h2 => absurd h1 h2, fun i c e => ?_, fun i j c d e1 e2 o1 o2 hne => ?_, ?_⟩
  · by_cases hi : i = 0
    · subst hi
      rw [lk_cons_eq] at e
      cases e
      exact ⟨rfl, fp, hp, _, ho, rfl, dx, [], rfl, .nil⟩
    · rw [lk_cons_ne hi] at e
      obtain ⟨q1, q2, v, q3, q4⟩ := PyE.ok (φ := ⟨κ, H0, Hf, N.length⟩) h i c e
      cases c with
      | fz r =>
        refine ⟨v, ?_, q4 r rfl⟩
        unfold L2.start
        have hi' : i < (V.ref p :: us).length := by
          have := (List.getElem?_eq_some_iff.mp q3).1
          rw [List.length_cons]
          omega
        rw [List.getElem?_append_left (by rw [List.length_map]; exact hi'), List.getElem?_map]
        have : (V.ref p :: us)[i]? = us[i - 1]? := by
          obtain ⟨i', rfl⟩ : ∃ i', i = i' + 1 := ⟨i - 1, by omega⟩
          rw [List.getElem?_cons_succ, Nat.add_sub_cancel]
        rw [this, q3]
        rfl
      | ow r => cases q1
      | gh r => cases q1
  · have : ∀ {i : Nat} {c : Ce}, lk ((0, .ow (obR p C [])) :: PyE.env ⟨κ, H0, Hf, N.length⟩ 1 x) i = some c → c.isO = true → i = 0 := fun {i c} e o => by
      by_cases hi : i = 0
      · exact hi
      · rw [lk_cons_ne hi] at e
        have := (PyE.ok (φ := ⟨κ, H0, Hf, N.length⟩) h i c e).1
        rw [o] at this
        cases this
    exact absurd ((this e1 o1).trans (this e2 o2).symm) hne
  · unfold L2.start
    rw [List.length_append, List.length_map, List.length_replicate, List.length_cons]
    show _ = N.length
    omega
theorem fn_okI {P : Program} {w : World} {K : PySem.W.Frag} {mg : Str → Option Value} {base : Heap} {A : Type} [PyA A] [PyE A] {κ : Cc} {x qual : Str} {st : Stmt} {f C : Addr} {fd : FuncData} {N ps : List Str} {k : Nat} {fl : ρ → FL} (hK : κ.K = K) (F : Fun K x qual st f fd) (S : FnScope N ps (defScope st)) (hl : PyA.many A + 1 = ps.length) {mb : A → R (Fw ρ Empty Empty)}
    (bd : ∀ (cdv : Value) (A' : Around) (outer : List Env) (s : Shared) (H H0 Hf : Hp) (E : XK) (p : Addr) (a : A), Lv (XF P w K mg base N qual st f cdv A' outer s H E) E ⟨κ, H0, Hf, N.length⟩ k →
      GS (XF P w K mg base N qual st f cdv A' outer s H E) E ⟨κ, H0, Hf, N.length⟩ (defBody st) ((0, .ow (obR p C [])) :: PyE.env ⟨κ, H0, Hf, N.length⟩ 1 a) (mb a) (fun r => [(0, .ow (obR p C (fl r)))]) noE (zr ⟨κ, H0, Hf, N.length⟩)) :
    FnOk P w K mg base (L2.CX P w) (k + 1) f fd ps (spI κ C fl fun a => (mb a).bind retI) := by
  have hN : ps.length ≤ N.length := by
    have := congrArg List.length S.pre
    rw [List.length_take] at this
    omega
  refine F.okX S (fun vs H Q E ⟨p, us, a, Hf, H0, h1, _, _, _, _, h, _⟩ => by rw [h1, List.length_cons, PyA.len h, hl]) fun cdv A' outer s H vs Q E hr ⟨p, us, a, Hf, H0, h1, ef, e0, hp, ⟨dx, ho⟩, h, nb, q, er⟩ => ?_
  subst h1
  have L : Lv (XF P w K mg base N qual st f cdv A' outer s H E) E ⟨κ, H0, Hf, N.length⟩ k :=
    ⟨hr, passes_call (takes_of rfl rfl rfl rfl) fun _ _ _ _ h => h, takes_of rfl rfl rfl rfl, rfl, S.nd, hK, rfl, passes_of rfl⟩
  refine ⟨_, pssS, bd cdv A' outer s H H0 Hf E p a L _ Hf _ H (At.startI (by rw [PyA.len h, hl]; exact hN) ef e0 hp ho h) (R.bind_nb nb) _ (fun r er σ' Hf' ad' H' A1 e1 => ?_) (fun z => nomatch z) (fun z => nomatch z) (fun z => nomatch z) (fun z ez cls d H' e1 xr => er z (by show (mb a).bind _ = _; rw [ez]; rfl) cls d H' e1 xr)⟩
  obtain ⟨h1, h2, h3, ob, h4, hpe, h5⟩ := A1.sl 0 _ lk_cons_eq
  rw [hpe] at h2 h3 h4
  exact q r (by show (mb a).bind _ = _; rw [er]; rfl) Hf' H' ob e1 A1.ef A1.e0 A1.nw h2 h4 h5
/-! ### what is refused, where nobody takes it -/
theorem s_bad : GS X EX φ sts E (.bad : R (Fw β γ ρ)) En Ec Rt := fun σ Hf ad H A nb => absurd rfl nb
theorem nn_bad : NoNx (.bad : R (Fw β γ ρ)) := fun _ h => nomatch h
/-- an expression by itself -/
theorem s_exp {m : R α} {ρ0 : RR α} {F : R (Fw β γ ρ)} (g : GX X EX φ e E m ρ0) (r : GS X EX φ rest E F En Ec Rt) (hs : swapsWith e none pos.line X.env = pure false := by rfl) : GS X EX φ (.Expr e pos :: rest) E (m.bind fun _ => F) En Ec Rt := fun σ Hf ad H A nb D n1 n2 n3 n4 er => by
  have ⟨e1, e2⟩ := bind_err (P := EW φ EX) er
  refine wpSs_of (pss_cons (ps_expr peS hs) pssS) (g σ Hf ad H A (R.bind_nb nb) _ (fun y ey v Hf1 H1 A1 f1 f2 r1 => ?_) e1)
  rw [ey, R.bind_ok] at nb
  refine r σ Hf1 ad H1 A1 nb D (fun b eb σ' Hf' ad' H' A' e' => n1 b (by rw [ey]; exact eb) σ' Hf' ad' H' A' (f1.trans e')) (fun b eb σ' Hf' ad' H' A' e' => n2 b (by rw [ey]; exact eb) σ' Hf' ad' H' A' (f1.trans e'))
    (fun b eb σ' Hf' ad' H' A' e' => n3 b (by rw [ey]; exact eb) σ' Hf' ad' H' A' (f1.trans e')) (fun b eb v σ' Hf' ad' H' A' e' => n4 b (by rw [ey]; exact eb) v σ' Hf' ad' H' A' (f1.trans e')) (e2 y ey)
/-- a name of the module -/
theorem g_gint {x : Str} {n : Int} {p : Pos} (h : ∃ u, X.mg x = some u ∧ RelV (.int n) u) (hg : Gl X x := by rfl) (hd : (x == ("__debug__" : Str)) = false := by decide) : GX X EX φ (.Name x p) E (.ok n) (zi φ) := g_con (C8.pe_gc hg h hd) fun _ => rfl
theorem g_gstr {x : Str} {l : Tx} {p : Pos} (h : ∃ u, X.mg x = some u ∧ RelV (.str (tx l)) u) (hl : (decide (l.length ≤ 1000) && l.all (· < 1114112)) = true := by decide +kernel) (hg : Gl X x := by rfl) (hd : (x == ("__debug__" : Str)) = false := by decide) : GX X EX φ (.Name x p) E (.ok l) (zr φ) := g_con (C8.pe_gc hg h hd) fun _ => ⟨rfl, txOk_of hl⟩
/-- t[lo:hi] of a tuple -/
theorem g_slP [Py α] {lo hi : Option Expr} {p2 : Pos} {ma : R (Tp α)} {ml mh : R (Option Int)} (L : Lv X EX φ k) (ga : GX X EX φ a E ma (zr φ)) (gl : GP X EX φ lo E ml) (gh : GP X EX φ hi E mh) : GX X EX φ (.Subscript a (.Slice lo hi none p2) pos) E (ma.bind fun xs => ml.bind fun l => mh.bind fun h => .ok (Tp.mk (cutL xs.l l h))) (zr φ) := by
  obtain ⟨tl, pl, hl⟩ := gl
  obtain ⟨th, ph, hh⟩ := gh
  intro σ Hf ad H A nb Q q er
  have ⟨e1, e2⟩ := bind_err (P := EW φ EX) er
  refine wpE_of (pe_slice sl_tupA peS pl ph) (ga σ Hf ad H A (R.bind_nb nb) _ (fun x ex v Hf1 H1 A1 f1 f2 r1 => ?_) e1)
  rw [ex, R.bind_ok] at nb
  refine hl σ Hf1 ad H1 A1 (R.bind_nb nb) _ (fun y ey Hf2 H2 A2 f3 f4 => ?_) (bind_err (e2 x ex)).1
  rw [ey, R.bind_ok] at nb
  refine hh σ Hf2 ad H2 A2 (R.bind_nb nb) _ (fun z ez Hf3 H3 A3 f5 f6 => ?_) (bind_err ((bind_err (e2 x ex)).2 y ey)).1
  obtain ⟨p, vs, h1, h2, h3⟩ := Py.mono (f3.trans f5) r1
  have qq := q (Tp.mk (cutL x.l y z)) (by rw [ex, R.bind_ok, ey, R.bind_ok, ez]; rfl)
  refine ⟨p, vs, h1, L.kK ▸ Evl.ex_t A3.ef h2, fun hw => qq _ Hf3 H3 A3 (f1.trans (f3.trans f5)) (f2.trans (f4.trans f6)) ?_, fun hw n hn => qq _ _ _ (A3.new hn) (f1.trans (f3.trans (f5.trans (upd_ef A3 hn)))) (f2.trans (f4.trans (f6.trans (Evl.Ex.new hn)))) ⟨n, _, rfl, SqT.of upd_same, Its.mono (upd_ef A3 hn) (its_cut h3)⟩⟩
  have e : cutL x.l y z = x.l := by
    unfold cutL
    rw [Paired.length h3, hw.1, hw.2]
    simp [← Paired.length h3]
  exact ⟨p, vs, rfl, h2, by rw [e]; exact h3⟩
end
end
end G

/-! G11: more that is walked. -/
namespace L2
open PySem PySem.Spec PyProof.Rows
/-- enumerate(text) -/
def Itet (x : Str) : It := ⟨fun i _ => i < x.cps.size, fun i H v H' => ∃ T c, v = .ref T ∧ H T = none ∧ H' = upd H T (.tup [.int (i : Nat), .str ⟨#[c]⟩]) ∧ x.cps[i]? = some c, fun i _ => x.cps.size ≤ i⟩
theorem turn_enumT {P : Program} {w : World} {K : PySem.W.Frag} {elts : List Expr} {kk : Nat} {tpos : Pos} (e it : Addr) (x : Str) (t : Tok) (ty : String)
    (D : ∀ A : Around, A.handled = none → Draws P w A it [it] x.cps.size (fun i v => ∃ c u, x.cps[i]? = some c ∧ v = .str ⟨#[c]⟩ u) (fun i h => h.IsStrIter it ty x t i)) :
    Turn P w K (.Tuple elts kk tpos) (Itet x) [e, it] e (fun i h => (∃ old, IsEnum h e it ((i : Nat) : Int) old) ∧ h.IsStrIter it ty x t i ∧ e ≠ it ∧ i ≤ x.cps.size) where
  mem := by simp
  obj := fun i h st b hb => by
    obtain ⟨⟨old, he⟩, ⟨o, ho, hc, hd⟩, _⟩ := st
    have e' : b = e ∨ b = it := by simpa using hb
    rcases e' with z | z
    · rw [z]; exact ⟨_, he, fun v q => nomatch q⟩
    · rw [z]; exact ⟨o, ho, fun v q => by rw [hd] at q; cases q⟩
  keep := fun i h h' st k => by
    obtain ⟨⟨old, he⟩, ⟨o, ho, r⟩, hne, hi⟩ := st
    exact ⟨⟨old, k e (by simp) _ he⟩, ⟨o, k it (by simp) _ ho, r⟩, hne, hi⟩
  item := by
    intro X hP hw hK hc i pins s σ H E I hf st hg
    subst hP hw hK
    obtain ⟨⟨old, he⟩, hit, hne, hsz⟩ := st
    have hel : e < s.heap.objs.size := Heap.lt_size he
    have hil : it < s.heap.objs.size := by obtain ⟨_, q, _⟩ := hit; exact Heap.lt_size q
    refine wpAny_pyNext_enum_itemD (D _ (I.ok.hd hc)) he hit hg hne (by simpa using hne) fun u h' tk hu ho hit' hT _ hk => ?_
    obtain ⟨c, tu, hx, rfl⟩ := hu
    refine ⟨_, rfl, wpAny_letOwnedTupleGo_enum (s := { s with heap := h', toks := tk + 1 }) ho fun h'' he' sb => ?_⟩
    have hT2 : h''.get? s.heap.objs.size = some { cls := .type "tuple", data := .seq #[.int i tk, .str ⟨#[c]⟩ tu] } := (sb.2 _ (Nat.ne_of_gt hel)).trans hT
    have new : ObjOk X.prog X.w (upd H s.heap.objs.size (.tup [.int (i : Nat), .str ⟨#[c]⟩])) h'' s.heap.objs.size (.tup [.int (i : Nat), .str ⟨#[c]⟩]) :=
      ⟨by show 2 ≤ sizeLine; decide, [.int i tk, .str ⟨#[c]⟩ tu], .cons ⟨_, rfl⟩ (.cons ⟨_, rfl⟩ .nil), ⟨_, hT2, rfl, _, rfl⟩⟩
    have I1 : Inv X pins σ (upd H s.heap.objs.size (.tup [.int (i : Nat), .str ⟨#[c]⟩])) { s with heap := h'', toks := tk + 1 } :=
      I.turnedNew (ch := [e, it]) (fun b ob hb q => (sb.2 b (fun z => hb (by simp [z]))).trans (hk b ob (fun z => hb (by simp [z])) (fun z => hb (by simp [z])) q)) hf (Nat.le_refl _) new
    have hit2 : h''.IsStrIter it ty x t (i + 1) := by
      obtain ⟨o, q, r⟩ := hit'
      exact ⟨o, (sb.2 it (Ne.symm hne)).trans q, r⟩
    refine ⟨.ref s.heap.objs.size, _, I1, rfl, ⟨_, c, rfl, I.hok.fresh (Nat.le_refl _), rfl, hx⟩, ⟨⟨.str ⟨#[c]⟩ tu, ?_⟩, hit2, hne, Nat.succ_le_of_lt hg⟩, fun b hb => ?_⟩
    · have e1 : ((i + 1 : Nat) : Int) = (i : Int) + 1 := by omega
      rw [e1]; exact he'
    · have hb' : b < s.heap.objs.size := by
        have e' : b = e ∨ b = it := by simpa using hb
        rcases e' with z | z
        · rw [z]; exact hel
        · rw [z]; exact hil
      rw [upd_ne (Nat.ne_of_lt hb')]
      exact (hf b hb).1
  done := by
    intro X hP hw hK hc i pins s σ H E I hf st hg
    subst hP hw hK
    obtain ⟨⟨old, he⟩, hit, hne, hsz⟩ := st
    obtain ⟨f0, f1, f2, f3, f4, f5⟩ := hf it (by simp)
    have hge : x.cps.size ≤ i := hg
    have hi : i = x.cps.size := Nat.le_antisymm hsz hge
    subst hi
    exact wpAny_pyNext_enum_endD (D _ (I.ok.hd hc)) he hit fun h' eb => ⟨rfl, I.turned (t' := s.toks) (fun b o hb q => eb b o hb q) f0 f1 f3 f4 f5⟩
  self := fun A i s Q E st h => let ⟨⟨_, he⟩, _⟩ := st; wpAny_pyIter_enum he h
def iEnumT (ta : TE) : TI := fun σ H R => tCons ta tNil σ H fun vs H1 => ∃ x, vs = [.str x] ∧ R (Itet x) H1
theorem pi_enumT {X : Cx} {e : Expr} {ta : TE} {p pos tpos : Pos} {elts : List Expr} {kk : Nat} (hg : Gl X "enumerate") (hm : X.mg "enumerate" = none) (ha : PE X e ta) (h1 : starEach [e] X.env = (false, eval e X.env) :: starEach [] X.env := by rfl) (hs : starEach [e] X.env = [(false, eval e X.env)] := by rfl) :
    PI X (.Tuple elts kk tpos) (.Call (.Name "enumerate" p) [e] [] pos) (iEnumT ta) := by
  refine ⟨fun pins s σ H R I h => ?_⟩
  have hA : PA X [e] (tCons ta tNil) := pa_cons ha pa_nil h1
  refine Call_ (ld_blt I hg hm PyProof.Rows.boot_enumerate (PyProof.Rows.callWith_type1 (thn (hA.run pos pins s σ H _ I h) fun us s1 ⟨vs, H1, I1, r1, q1⟩ => ?_) hs rfl))
  · obtain ⟨x, ex, q⟩ := q1
    subst ex
    cases r1 with
    | cons r rr =>
      cases rr
      obtain ⟨t, rfl⟩ := r
      refine call_enumerate_str fun h' he hit hsz hk => wpAny_pyIter_enum he ?_
      have I2 : Inv X pins σ H1 { s1 with heap := h' } := I1.kept (t' := s1.toks) hk
      have hfp : ∀ b ∈ [s1.heap.objs.size + 1, s1.heap.objs.size], FpOk X pins H1 b := fun b hb => by
        have e' : b = s1.heap.objs.size + 1 ∨ b = s1.heap.objs.size := by simpa using hb
        have hle : s1.heap.objs.size ≤ b := by
          rcases e' with z | z
          · rw [z]; exact Nat.le_add_right _ _
          · rw [z]; exact Nat.le_refl _
        exact I1.fpOk hle (I1.hok.fresh hle)
      cases ha : x.cps.all (· < 128)
      · have hit' : h'.IsStrIter s1.heap.objs.size "str_iterator" x t 0 := by simpa [strIterType, ha] using hit
        exact ⟨s1.heap.objs.size + 1, [s1.heap.objs.size + 1, s1.heap.objs.size], _, _, H1, rfl, I2, turn_enumT (s1.heap.objs.size + 1) s1.heap.objs.size x t "str_iterator" (fun A hh => Draws.strWide hh _ x t), ⟨⟨.none, he⟩, hit', Nat.succ_ne_self _, Nat.zero_le _⟩, hfp, q⟩
      · have hit' : h'.IsStrIter s1.heap.objs.size "str_ascii_iterator" x t 0 := by simpa [strIterType, ha] using hit
        exact ⟨s1.heap.objs.size + 1, [s1.heap.objs.size + 1, s1.heap.objs.size], _, _, H1, rfl, I2, turn_enumT (s1.heap.objs.size + 1) s1.heap.objs.size x t "str_ascii_iterator" (fun A hh => Draws.strAscii hh _ x t), ⟨⟨.none, he⟩, hit', Nat.succ_ne_self _, Nat.zero_le _⟩, hfp, q⟩
end L2
namespace G
open PySem L2
noncomputable section
section
variable {X : Cx} {EX : XK} {φ : Fx} {k : Nat} {E E' : Env1} {α β γ δ ρ : Type} {e a b c : Expr} {pos : Pos} {i : Nat} {es : List Expr}
/-- range with a step -/
def rangeC (lo hi c : Int) : R (List Int) := ifR (c ≠ 0 ∧ c.natAbs < 1073741824 ∧ Builtin.Range.small lo hi c = true) ((List.range (Builtin.Range.rangeSize lo hi c).toNat).map fun i : Nat => lo + (i : Int) * c)
theorem rangeC_ne {lo hi c : Int} (z : Xn) : rangeC lo hi c ≠ .err z := ifR_ne z
theorem runs_itc {lo c : Int} {n j : Nat} {Hf0 : Hp} (hj : j < φ.n) : Runs φ (Itc lo c n) (gName j) Hf0 ((List.range n).map fun i : Nat => lo + (i : Int) * c) (b1 φ j) := by
  refine ⟨fun E σ Hf ad H A e => by show n ≤ _; simp, fun i x hx E σ Hf ad H A e => ?_⟩
  rw [List.getElem?_map, Option.map_eq_some_iff] at hx
  obtain ⟨y, h1, h2⟩ := hx
  obtain ⟨h3, h4⟩ := List.getElem?_eq_some_iff.mp h1
  rw [List.getElem_range] at h4
  rw [List.length_range] at h3
  subst h4
  refine ⟨h3, fun u H1 ⟨e1, y⟩ Q q => ?_⟩
  subst e1 y h2
  exact q _ Hf _ (A.set hj rfl) (Evl.Ex.refl _) (Evl.Ex.refl _) wipe_name
theorem gf_r3 {ma mb mc : R Int} {j : Nat} (hj : j < φ.n) (ga : GX X EX φ a E ma (zi φ)) (gb : GX X EX φ b E mb (zi φ)) (gc : GX X EX φ c E mc (zi φ)) : GF X EX φ (iRng3 (tCons (wpE X a) (tCons (wpE X b) (tCons (wpE X c) tNil)))) (gName j) E (ma.bind fun x => mb.bind fun y => mc.bind fun z => rangeC x y z) (b1 φ j) := fun σ Hf ad H A nb Q q er => by
  have ⟨e1, e2⟩ := bind_err (P := EW φ EX) er
  refine ga σ Hf ad H A (R.bind_nb nb) _ (fun x ex v Hf1 H1 A1 f1 f2 r1 => ?_) e1
  rw [ex, R.bind_ok] at nb
  refine gb σ Hf1 ad H1 A1 (R.bind_nb nb) _ (fun y ey w Hf2 H2 A2 f3 f4 r2 => ?_) (bind_err (e2 x ex)).1
  rw [ey, R.bind_ok] at nb
  refine gc σ Hf2 ad H2 A2 (R.bind_nb nb) _ (fun z ez u Hf3 H3 A3 f5 f6 r3 => ?_) (bind_err ((bind_err (e2 x ex)).2 y ey)).1
  rw [ez, R.bind_ok] at nb
  obtain ⟨⟨h1, h2, h3⟩, he⟩ := ifR_nb nb
  exact ⟨x, y, z, (Builtin.Range.rangeSize x y z).toNat, by rw [show v = V.int x from r1, show w = V.int y from r2, show u = V.int z from r3], ⟨h1, h2, h3, PyProof.Rows.rangeSize_toNat x y z⟩, q _ (by rw [ex, R.bind_ok, ey, R.bind_ok, ez, R.bind_ok]; exact he) _ Hf3 H3 A3 (f1.trans (f3.trans f5)) (f2.trans (f4.trans f6)) (runs_itc hj)⟩
/-- reversed(list) -/
theorem gf_rev [Py α] {m : R (List α)} {j : Nat} (L : Lv X EX φ k) (hj : j < φ.n) (g : GX X EX φ a E m (zr φ)) : GF X EX φ (iRev X.K (tCons (wpE X a) tNil)) (gName j) E (m.bind fun xs => .ok xs.reverse) (b1 φ j) := fun σ Hf ad H A nb Q q er =>
  g σ Hf ad H A (R.bind_nb nb) _ (fun xs ex v Hf' H' A' e1 e2 ⟨p, vs, h1, h2, h3⟩ => ⟨p, vs, by rw [h1], .inl (.inl (A'.ef _ _ h2)), q _ (by rw [ex]; rfl) _ Hf' H' A' e1 e2 (by
    have hlen := Paired.length h3
    refine ⟨fun E σ Hf ad H A e => by show vs.length ≤ _; rw [List.length_reverse, hlen]; exact Nat.le_refl _, fun n x hx E σ Hf ad H A e => ?_⟩
    have hn : n < xs.length := by have := (List.getElem?_eq_some_iff.mp hx).1; rw [List.length_reverse] at this; exact this
    rw [List.getElem?_reverse hn] at hx
    obtain ⟨w, hw, rw'⟩ := its_get h3 hx
    rw [hlen] at hw
    have hl := A.ef _ _ (e _ _ h2)
    refine ⟨⟨by rw [← hlen]; exact hn, vs, w, .inl (.inl hl), hw⟩, fun u H1 ⟨e3, hz⟩ Q q => ?_⟩
    have := hz vs (.inl (.inl hl))
    rw [hw] at this
    cases this
    subst e3
    exact q _ Hf _ (A.set hj (Py.mono e rw')) (Evl.Ex.refl _) (Evl.Ex.refl _) wipe_name)⟩) (bind_err er).1
/-- enumerate(text) -/
theorem gf_enumT {m : R Tx} {i j : Nat} (L : Lv X EX φ k) (hi : i < φ.n) (hj : j < φ.n) (g : GX X EX φ a E m (zr φ)) : GF X EX φ (iEnumT (wpE X a)) (gT2 X.K i j) E (m.bind fun z => .ok (enumL (signs z))) (b2 φ i j) := fun σ Hf ad H A nb Q q er =>
  g σ Hf ad H A (R.bind_nb nb) _ (fun z ez v Hf' H' A' e1 e2 ⟨h1, h2⟩ => ⟨tx z, by rw [h1], q _ (by rw [ez]; rfl) _ Hf' H' A' e1 e2 (by
    refine ⟨fun E σ Hf ad H A e => by show (tx z).cps.size ≤ _; rw [enumL_len]; simp [signs, tx], fun n x hx E σ Hf ad H A e => ?_⟩
    obtain ⟨y, hy, ey⟩ := enumL_get hx
    unfold signs at hy
    rw [List.getElem?_map, Option.map_eq_some_iff] at hy
    obtain ⟨c, hc1, hc2⟩ := hy
    have hn : n < (tx z).cps.size := by
      have := (List.getElem?_eq_some_iff.mp hc1).1
      simp [tx]
      exact this
    refine ⟨hn, fun u H1 ⟨T, d, e3, hT, e4, hd⟩ Q q => ?_⟩
    have hd' : z[n]? = some d := by
      rw [← hd]
      simp [tx]
    rw [hc1] at hd'
    cases hd'
    subst e3 e4 ey hc2
    have A1 := A.new (o := .tup [.int (n : Nat), .str ⟨#[c]⟩]) hT
    have ef := upd_ef A (o := .tup [.int (n : Nat), .str ⟨#[c]⟩]) hT
    refine ⟨T, [.int (n : Nat), .str ⟨#[c]⟩], rfl, SqT.of upd_same, rfl, _, _, rfl, _, [], rfl, rfl, ?_⟩
    exact q _ _ _ ((A1.set hi rfl).set hj (⟨rfl, sign_ok h2 (List.mem_of_getElem? hc1)⟩ : Py.rep φ.κ ([c] : Tx) _ _)) ef (Evl.Ex.new hT) wipe_two)⟩) (bind_err er).1
end
end
end G

/-! G12: tuple targets, in a tuple. -/
namespace G
open PySem L2
noncomputable section
section
variable {X : Cx} {EX : XK} {φ : Fx} {k : Nat} {E E' : Env1} {α β γ δ ρ τ : Type} {e a b c : Expr} {pos : Pos} {i : Nat} {es : List Expr} {st : Stmt} {sts rest body : List Stmt} {En : β → Env1} {Ec : γ → Env1} {Rt : RR ρ}
/-- x, y = e -/
theorem s_asg2 [Py α] [Py τ] {x y : Str} {px py pt : Pos} {kk : Nat} {m : R (T2 α τ)} {f : T2 α τ → R (Fw β γ ρ)} (L : Lv X EX φ k) (i j : Nat) (hi : i < φ.n) (hj : j < φ.n) (pg : PG X (.Tuple [.Name x px, .Name y py] kk pt) (gT2 X.K i j)) (g : GX X EX φ e E m (zr φ)) (r : ∀ y, GS X EX φ rest ((j, vz φ y.b) :: (i, vz φ y.a) :: E) (f y) En Ec Rt)
    (hs : swapsWithSole [.Tuple [.Name x px, .Name y py] kk pt] e pos.line X.env = pure false := by rfl) (hw : swappedStores [.Tuple [.Name x px, .Name y py] kk pt] e X.env = pure none := by rfl)
    (h1 : (assignEach [.Tuple [.Name x px, .Name y py] kk pt] X.env).map (·.2) = [assign (.Tuple [.Name x px, .Name y py] kk pt) X.env] := by rfl) : GS X EX φ (.Assign [.Tuple [.Name x px, .Name y py] kk pt] e pos :: rest) E (m.bind f) En Ec Rt := fun σ Hf ad H A nb D n1 n2 n3 n4 er => by
  have ⟨e1, e2⟩ := bind_err (P := EW φ EX) er
  refine wpSs_of (pss_cons (ps_asg peS pg hs hw h1) pssS) (g σ Hf ad H A (R.bind_nb nb) _ (fun y ey v Hf1 H1 A1 f1 f2 ⟨t, v1, v2, g1, g2, g3, g4⟩ => ?_) e1)
  rw [ey, R.bind_ok] at nb
  refine ⟨t, [v1, v2], g1, L.kK ▸ Evl.ex_t A1.ef g2, rfl, v1, [v2], rfl, v2, [], rfl, rfl, ?_⟩
  refine r y _ Hf1 ad H1 ((A1.set hi g3).set hj g4) nb D (fun b eb σ' Hf' ad' H' A' e' => n1 b (by rw [ey]; exact eb) σ' Hf' ad' H' A' (f1.trans e')) (fun b eb σ' Hf' ad' H' A' e' => n2 b (by rw [ey]; exact eb) σ' Hf' ad' H' A' (f1.trans e'))
    (fun b eb σ' Hf' ad' H' A' e' => n3 b (by rw [ey]; exact eb) σ' Hf' ad' H' A' (f1.trans e')) (fun b eb v σ' Hf' ad' H' A' e' => n4 b (by rw [ey]; exact eb) v σ' Hf' ad' H' A' (f1.trans e')) (e2 y ey)
theorem s_asg3 [Py α] [Py τ] [Py δ] {x y z : Str} {px py pz pt : Pos} {kk : Nat} {m : R (T3 α τ δ)} {f : T3 α τ δ → R (Fw β γ ρ)} (L : Lv X EX φ k) (i j l : Nat) (hi : i < φ.n) (hj : j < φ.n) (hl : l < φ.n) (pg : PG X (.Tuple [.Name x px, .Name y py, .Name z pz] kk pt) (gT3 X.K i j l)) (g : GX X EX φ e E m (zr φ)) (r : ∀ y, GS X EX φ rest ((l, vz φ y.c) :: (j, vz φ y.b) :: (i, vz φ y.a) :: E) (f y) En Ec Rt)
    (hs : swapsWithSole [.Tuple [.Name x px, .Name y py, .Name z pz] kk pt] e pos.line X.env = pure false := by rfl) (hw : swappedStores [.Tuple [.Name x px, .Name y py, .Name z pz] kk pt] e X.env = pure none := by rfl)
    (h1 : (assignEach [.Tuple [.Name x px, .Name y py, .Name z pz] kk pt] X.env).map (·.2) = [assign (.Tuple [.Name x px, .Name y py, .Name z pz] kk pt) X.env] := by rfl) : GS X EX φ (.Assign [.Tuple [.Name x px, .Name y py, .Name z pz] kk pt] e pos :: rest) E (m.bind f) En Ec Rt := fun σ Hf ad H A nb D n1 n2 n3 n4 er => by
  have ⟨e1, e2⟩ := bind_err (P := EW φ EX) er
  refine wpSs_of (pss_cons (ps_asg peS pg hs hw h1) pssS) (g σ Hf ad H A (R.bind_nb nb) _ (fun y ey v Hf1 H1 A1 f1 f2 ⟨t, v1, v2, v3, g1, g2, g3, g4, g5⟩ => ?_) e1)
  rw [ey, R.bind_ok] at nb
  refine ⟨t, [v1, v2, v3], g1, L.kK ▸ Evl.ex_t A1.ef g2, rfl, v1, [v2, v3], rfl, v2, [v3], rfl, v3, [], rfl, rfl, ?_⟩
  refine r y _ Hf1 ad H1 (((A1.set hi g3).set hj g4).set hl g5) nb D (fun b eb σ' Hf' ad' H' A' e' => n1 b (by rw [ey]; exact eb) σ' Hf' ad' H' A' (f1.trans e')) (fun b eb σ' Hf' ad' H' A' e' => n2 b (by rw [ey]; exact eb) σ' Hf' ad' H' A' (f1.trans e'))
    (fun b eb σ' Hf' ad' H' A' e' => n3 b (by rw [ey]; exact eb) σ' Hf' ad' H' A' (f1.trans e')) (fun b eb v σ' Hf' ad' H' A' e' => n4 b (by rw [ey]; exact eb) v σ' Hf' ad' H' A' (f1.trans e')) (e2 y ey)
/-- in a tuple -/
theorem og_inP [Py α] [DecidableEq α] [FlV α] (kK : φ.κ.K = X.K) : OG φ (rIn X.K false) (zr (α := α) φ) (zr φ) (zr φ) (fun x (xs : Tp α) => .ok (decide (x ∈ xs.l))) := fun E σ Hf ad H x xs v w A r1 ⟨p, vs, h1, h2, h3⟩ nb Q q =>
  ⟨p, vs, h1, .inr (kK ▸ Evl.ex_t A.ef h2), FlV.fl r1, its_flat h3, by rw [its_inV r1 h3]; exact q _ rfl _ Hf H A (Evl.Ex.refl _) (Evl.Ex.refl _) rfl⟩
theorem og_ninP [Py α] [DecidableEq α] [FlV α] (kK : φ.κ.K = X.K) : OG φ (rIn X.K true) (zr (α := α) φ) (zr φ) (zr φ) (fun x (xs : Tp α) => .ok (!decide (x ∈ xs.l))) := fun E σ Hf ad H x xs v w A r1 ⟨p, vs, h1, h2, h3⟩ nb Q q =>
  ⟨p, vs, h1, .inr (kK ▸ Evl.ex_t A.ef h2), FlV.fl r1, its_flat h3, by rw [its_inV r1 h3]; exact q _ rfl _ Hf H A (Evl.Ex.refl _) (Evl.Ex.refl _) rfl⟩
section
variable [Py α] [DecidableEq α] [FlV α] {ma : R α} {mb : R (Tp α)}
theorem g_inP (L : Lv X EX φ k) (ga : GX X EX φ a E ma (zr φ)) (gb : GX X EX φ b E mb (zr φ)) (hm : behindInMarks .In b = false := by rfl) : GX X EX φ (.Compare a [.In] [b] pos) E (ma.bind fun x => mb.bind fun y => .ok (decide (x ∈ y.l))) (zb φ) := g_tOp (pe_cmpR op_in_seq peS peS hm) zr_up (og_inP L.kK) (fun _ _ _ q => nomatch q) ga gb
theorem t_inP (L : Lv X EX φ k) (ga : GX X EX φ a E ma (zr φ)) (gb : GX X EX φ b E mb (zr φ)) (hm : behindInMarks .In b = false := by rfl) : GT X EX φ (.Compare a [.In] [b] pos) E (ma.bind fun x => mb.bind fun y => .ok (decide (x ∈ y.l))) := g_tOpT (pt_cmpR op_in_seq peS peS hm) zr_up (og_inP L.kK) (fun _ _ _ q => nomatch q) ga gb
theorem g_ninP (L : Lv X EX φ k) (ga : GX X EX φ a E ma (zr φ)) (gb : GX X EX φ b E mb (zr φ)) (hm : behindInMarks .NotIn b = false := by rfl) : GX X EX φ (.Compare a [.NotIn] [b] pos) E (ma.bind fun x => mb.bind fun y => .ok (!decide (x ∈ y.l))) (zb φ) := g_tOp (pe_cmpR op_notIn_seq peS peS hm) zr_up (og_ninP L.kK) (fun _ _ _ q => nomatch q) ga gb
theorem t_ninP (L : Lv X EX φ k) (ga : GX X EX φ a E ma (zr φ)) (gb : GX X EX φ b E mb (zr φ)) (hm : behindInMarks .NotIn b = false := by rfl) : GT X EX φ (.Compare a [.NotIn] [b] pos) E (ma.bind fun x => mb.bind fun y => .ok (!decide (x ∈ y.l))) := g_tOpT (pt_cmpR op_notIn_seq peS peS hm) zr_up (og_ninP L.kK) (fun _ _ _ q => nomatch q) ga gb
end
end
end
end G

/-! G13: texts turned about, counts, sorted, ranges as lists. -/
namespace L2
open PySem PySem.Spec PyProof.Rows
def revS (x : Str) : Str := Txt.sliceBy x none none (-1, 0)
def tRevS (te : TE) : TE := fun σ H Q => te σ H fun x H1 => ∃ z, x = .str z ∧ z.length ≤ sizeLine ∧ Q (.str (revS z)) H1
theorem sliceBy_tok (x : Str) (k : Int) (a b : Tok) : Txt.sliceBy x none none (k, a) = Txt.sliceBy x none none (k, b) := rfl
theorem pe_revS {X : Cx} {e : Expr} {te : TE} {k : Nat} {p1 p2 p3 pos : Pos} (he : PE X e te) : PE X (.Subscript e (.Slice none none (some (.UnaryOp .USub (.Constant (.int 1) k p1) p2)) p3) pos) (tRevS te) := by
  refine ⟨fun pins s σ H Q I h => ?_⟩
  refine Subscript_ (thn (he.run pins s σ H _ I h) fun v s1 ⟨x, H1, I1, r1, q1⟩ => ?_)
  obtain ⟨z, ex, hz, q⟩ := q1
  subst ex
  obtain ⟨t, rfl⟩ := r1
  have hst : PO X (some (.UnaryOp .USub (.Constant (.int 1) k p1) p2)) (tPart (tUn (rU fun i => .int (-i)) (tC (.int 1)))) := po_some (pe_un un_neg pe_int)
  refine wpAny_Slice (thn (po_none.run pins s1 σ H1 (fun o H2 => o = none ∧ H2 = H1) I1 ⟨rfl, rfl⟩) fun vl s2 ⟨l, H2, I2, pl, el, e2⟩ => ?_)
  subst el e2
  refine thn (po_none.run pins s2 σ H2 (fun o H3 => o = none ∧ H3 = H2) I2 ⟨rfl, rfl⟩) fun vu s3 ⟨u, H3, I3, pu, eu, e3⟩ => ?_
  subst eu e3
  refine thn (hst.run pins s3 σ H3 (fun o H4 => o = some (-1) ∧ H4 = H3) I3 ⟨1, rfl, -1, rfl, rfl, rfl⟩) fun vs s4 ⟨o, H4, I4, ps, eo, e4⟩ => ?_
  subst eo e4
  have I5 : Inv X pins σ H4 { s4 with heap := s4.heap.push { cls := .type "slice", data := .fields #[vl, vu, vs] } } := I4.kept (t' := s4.toks) fun b ob q => Heap.get?_push_of_some _ q
  obtain ⟨l0, rfl, el⟩ := IsPart.raw pl
  obtain ⟨u0, rfl, eu⟩ := IsPart.raw pu
  obtain ⟨st0, rfl, es⟩ := IsPart.raw ps
  cases l0 with
  | some _ => cases el
  | none =>
    cases u0 with
    | some _ => cases eu
    | none =>
      cases st0 with
      | none => cases es
      | some st =>
        obtain ⟨i, tk⟩ := st
        have hi : i = -1 := by simpa using es
        subst hi
        show wpAny (model X.prog X.w) X.A (subscriptTail e (.Slice none none (some (.UnaryOp .USub (.Constant (.int 1) k p1) p2)) p3) (.str z t) (.ref s4.heap.objs.size)) (EP X pins σ Q) X.xe { s4 with heap := s4.heap.push { cls := .type "slice", data := .fields #[.none, .none, .int (-1) tk] } }
        refine tail_any (ops := [.ref s4.heap.objs.size, .str z t]) (typeIs_str _ _ _) F.slot_str_getitem.lookup ?_ (by with_unfolding_all rfl)
        refine wpAny_getItem_str_slice (l := none) (u := none) (st := some (-1, tk)) ⟨_, Heap.get?_push_size _ rfl, rfl, rfl⟩ rfl
          (post_val_or_str ⟨Nat.le_trans (Txt.sliceBy_le z none none (-1, tk) (by show (-1 : Int) ≠ 0; decide)) hz, fun t' c => ⟨.str _, H4, ?_, ⟨_, rfl⟩, q⟩⟩)
        exact I4.kept (t' := c) fun b ob q => Heap.get?_push_of_some _ q
end L2

namespace G
open PySem L2
noncomputable section
section
variable {X : Cx} {EX : XK} {φ : Fx} {k : Nat} {E E' : Env1} {α β γ δ ρ : Type} {e a b c : Expr} {pos : Pos} {i : Nat} {es : List Expr}
/-- text[::-1] -/
def revT (z : Tx) : Tx := (revS (tx z)).cps.toList
theorem revT_tx (z : Tx) : revS (tx z) = tx (revT z) := by
  unfold revT tx
  simp
theorem revT_ok {z : Tx} (h : TxOk z) : TxOk (revT z) := by
  refine ⟨?_, fun c hc => h.2 c ?_⟩
  · have := Txt.sliceBy_le (tx z) none none (-1, 0) (by decide)
    have e : (revT z).length = (revS (tx z)).length := by unfold revT; simp [Str.length]
    rw [e]
    rw [tx_len] at this
    exact Nat.le_trans this h.1
  · unfold revT revS Txt.sliceBy at hc
    split at hc
    · exact hc
    · simp only [List.mem_filterMap] at hc
      obtain ⟨j, _, hj⟩ := hc
      have := Array.mem_of_getElem? hj
      simpa [tx] using this
theorem g_revS {m : R Tx} {kk : Nat} {p1 p2 p3 : Pos} (g : GX X EX φ a E m (zr φ)) : GX X EX φ (.Subscript a (.Slice none none (some (.UnaryOp .USub (.Constant (.int 1) kk p1) p2)) p3) pos) E (m.bind fun z => .ok (revT z)) (zr φ) := fun σ Hf ad H A nb Q q er =>
  wpE_of (pe_revS peS) (g σ Hf ad H A (R.bind_nb nb) _ (fun z ez v Hf' H' A' e1 e2 ⟨h1, h2⟩ => ⟨tx z, h1, by rw [tx_len]; exact h2.1, by rw [revT_tx]; exact q _ (by rw [ez]; rfl) _ Hf' H' A' e1 e2 ⟨rfl, revT_ok h2⟩⟩) (bind_err er).1)
/-- xs[::-1] -/
theorem its_rev [Py α] {κ : Cc} {H : Hp} : ∀ {xs : List α} {vs : List V}, Its κ xs H vs → Its κ xs.reverse H vs.reverse
  | _, _, .nil => .nil
  | _, _, .cons h t => by
    rw [List.reverse_cons, List.reverse_cons]
    exact its_app (its_rev t) (.cons h .nil)
theorem g_revL [Py α] {m : R (List α)} {kk : Nat} {p1 p2 p3 : Pos} (L : Lv X EX φ k) (g : GX X EX φ a E m (lr φ)) : GN X EX φ (.Subscript a (.Slice none none (some (.UnaryOp .USub (.Constant (.int 1) kk p1) p2)) p3) pos) E (m.bind fun z => .ok z.reverse) := fun σ Hf ad H A nb Q q er =>
  wpE_of (pe_revL peS) (g σ Hf ad H A (R.bind_nb nb) _ (fun z ez v Hf' H' A' e1 e2 ⟨p, vs, h1, h2, h3⟩ => ⟨p, vs, h1, L.kK ▸ h2, fun n hn => q _ (by rw [ez]; rfl) n _ Hf' _ (A'.up (Evl.Ex.new hn)) e1 (e2.trans (Evl.Ex.new hn)) (Evl.fresh_back A'.ef hn) (A'.off hn) upd_same (its_rev h3)⟩) (bind_err er).1)
/-- text.count(sign) -/
def cntT (x y : Tx) : Int := Txt.count (tx x) (tx y)
theorem g_count {ma mb : R Tx} {apos : Pos} (ga : GX X EX φ a E ma (zr φ)) (gb : GX X EX φ b E mb (zr φ)) (P : PE X (.Call (.Attribute a "count" apos) [b] [] pos) (tM1 (fun x xs H Q => ∃ a b, x = .str a ∧ xs = [.str b] ∧ Q (.int (Txt.count a b)) H) (wpE X a) (wpE X b))) : GX X EX φ (.Call (.Attribute a "count" apos) [b] [] pos) E (ma.bind fun x => mb.bind fun y => .ok (cntT x y)) (zi φ) := fun σ Hf ad H A nb Q q er => by
  have ⟨e1, e2⟩ := bind_err (P := EW φ EX) er
  refine wpE_of P (ga σ Hf ad H A (R.bind_nb nb) _ (fun x ex v Hf1 H1 A1 f1 f2 r1 => ⟨⟨_, r1.1⟩, ?_⟩) e1)
  rw [ex, R.bind_ok] at nb
  exact gb σ Hf1 ad H1 A1 (R.bind_nb nb) _ (fun y ey w Hf2 H2 A2 f3 f4 r2 => ⟨tx x, tx y, r1.1, by rw [r2.1], q _ (by rw [ex, R.bind_ok, ey]; rfl) _ Hf2 H2 A2 (f1.trans f3) (f2.trans f4) rfl⟩) (bind_err (e2 x ex)).1
/-- sorted(ints) -/
def isort (xs : List Int) : List Int := xs.mergeSort fun a b => decide (a ≤ b)
theorem sorted_unique : ∀ {l m : List Int}, l.Perm m → l.Pairwise (· ≤ ·) → m.Pairwise (· ≤ ·) → l = m
  | [], m, p, _, _ => (List.Perm.nil_eq p)
  | a :: l, [], p, _, _ => by have := p.length_eq; simp at this
  | a :: l, b :: m, p, h1, h2 => by
    have ha : a ∈ b :: m := p.subset List.mem_cons_self
    have hb : b ∈ a :: l := p.symm.subset List.mem_cons_self
    rw [List.pairwise_cons] at h1 h2
    have e : a = b := by
      rcases List.mem_cons.mp ha with q | q
      · exact q
      · rcases List.mem_cons.mp hb with q' | q'
        · exact q'.symm
        · have x := h2.1 a q
          have y := h1.1 b q'
          omega
    subst e
    rw [sorted_unique (List.Perm.cons_inv p) h1.2 h2.2]
theorem isort_perm (xs : List Int) : (isort xs).Perm xs := List.mergeSort_perm _ _
theorem isort_sorted (xs : List Int) : (isort xs).Pairwise (· ≤ ·) := by
  have := List.pairwise_mergeSort (le := fun a b : Int => decide (a ≤ b)) (fun a b c h1 h2 => by simp at *; omega) (fun a b => by simp; omega) xs
  exact this.imp fun h => by simpa using h
theorem its_intsR {κ : Cc} {H : Hp} : ∀ {xs : List Int}, Its κ xs H (xs.map V.int)
  | [] => .nil
  | _ :: _ => .cons rfl its_intsR
theorem g_sorted {m : R (List Int)} (L : Lv X EX φ k) (P : PE X e (tCB (rSortedI X.K) (tCons (wpE X a) tNil))) (g : GX X EX φ a E m (lr φ)) : GN X EX φ e E (m.bind fun xs => .ok (isort xs)) := fun σ Hf ad H A nb Q q er =>
  wpE_of P (g σ Hf ad H A (R.bind_nb nb) _ (fun x ex v Hf' H' A' e1 e2 ⟨p, vs, h1, h2, h3⟩ => ⟨p, x, by rw [h1], by rw [← its_ints h3]; exact L.kK ▸ h2, fun ns' n hp hs hn => by
    have : ns' = isort x := sorted_unique (hp.trans (isort_perm x).symm) hs (isort_sorted x)
    subst this
    exact q _ (by rw [ex]; rfl) n _ Hf' _ (A'.up (Evl.Ex.new hn)) e1 (e2.trans (Evl.Ex.new hn)) (Evl.fresh_back A'.ef hn) (A'.off hn) upd_same its_intsR⟩) (bind_err er).1)
/-- list(range(..)) -/
def RgB (a b : Int) : Prop := -(2 ^ 62) ≤ a ∧ a < 2 ^ 62 ∧ -(2 ^ 62) ≤ b ∧ b < 2 ^ 62 ∧ (b - a).toNat ≤ 2 ^ 24
instance (a b : Int) : Decidable (RgB a b) := inferInstanceAs (Decidable (_ ∧ _))
theorem rgV_its {κ : Cc} {H : Hp} (a b : Int) : Its κ (rangeL a b) H (rgV a b) := by
  have : rgV a b = (rangeL a b).map V.int := by
    unfold rgV rangeL
    rw [List.map_map]
    rfl
  rw [this]
  exact its_intsR
theorem g_lrg1 {m : R Int} {p pr pos' : Pos} (L : Lv X EX φ k) (zl : X.mg "list" = none) (zr' : X.mg "range" = none) (g : GX X EX φ a E m (zi φ)) (h1 : Gl X "list" := by rfl) (h2 : Gl X "range" := by rfl) (na : starEach [a] X.env = (false, eval a X.env) :: starEach [] X.env := by rfl)
    (nb' : starEach [.Call (.Name "range" pr) [a] [] pos'] X.env = (false, eval (.Call (.Name "range" pr) [a] [] pos') X.env) :: starEach [] X.env := by rfl) : GN X EX φ (.Call (.Name "list" p) [.Call (.Name "range" pr) [a] [] pos'] [] pos) E (m.bind fun n => ifR (RgB 0 n) (rangeL 0 n)) := fun σ Hf ad H A nb Q q er =>
  wpE_of (pe_listRg L.calm h1 zl (prg_1 h2 zr' peS na) nb') (g σ Hf ad H A (R.bind_nb nb) _ (fun x ex v Hf' H' A' e1 e2 r => by
    rw [ex, R.bind_ok] at nb
    obtain ⟨hc, he⟩ := ifR_nb nb
    exact ⟨x, r, hc, fun n hn => q _ (by rw [ex, R.bind_ok]; exact he) n _ Hf' _ (A'.up (Evl.Ex.new hn)) e1 (e2.trans (Evl.Ex.new hn)) (Evl.fresh_back A'.ef hn) (A'.off hn) upd_same (rgV_its _ _)⟩) (bind_err er).1)
theorem g_lrg2 {ma mb : R Int} {p pr pos' : Pos} (L : Lv X EX φ k) (zl : X.mg "list" = none) (zr' : X.mg "range" = none) (ga : GX X EX φ a E ma (zi φ)) (gb : GX X EX φ b E mb (zi φ)) (h1 : Gl X "list" := by rfl) (h2 : Gl X "range" := by rfl) (na : starEach [a, b] X.env = (false, eval a X.env) :: starEach [b] X.env := by rfl) (na2 : starEach [b] X.env = (false, eval b X.env) :: starEach [] X.env := by rfl)
    (hp : (backTo pos' (starEach [b] X.env)).any (·.1) = false := by rfl) (nb' : starEach [.Call (.Name "range" pr) [a, b] [] pos'] X.env = (false, eval (.Call (.Name "range" pr) [a, b] [] pos') X.env) :: starEach [] X.env := by rfl) : GN X EX φ (.Call (.Name "list" p) [.Call (.Name "range" pr) [a, b] [] pos'] [] pos) E (ma.bind fun lo => mb.bind fun n => ifR (RgB lo n) (rangeL lo n)) := fun σ Hf ad H A nb Q q er => by
  have ⟨e1, e2⟩ := bind_err (P := EW φ EX) er
  refine wpE_of (pe_listRg L.calm h1 zl (prg_2 h2 zr' peS peS na na2 hp) nb') (ga σ Hf ad H A (R.bind_nb nb) _ (fun x ex v Hf1 H1 A1 f1 f2 r1 => ?_) e1)
  rw [ex, R.bind_ok] at nb
  refine gb σ Hf1 ad H1 A1 (R.bind_nb nb) _ (fun y ey w Hf2 H2 A2 f3 f4 r2 => ?_) (bind_err (e2 x ex)).1
  rw [ey, R.bind_ok] at nb
  obtain ⟨hc, he⟩ := ifR_nb nb
  exact ⟨x, y, r1, r2, hc, fun n hn => q _ (by rw [ex, R.bind_ok, ey, R.bind_ok]; exact he) n _ Hf2 _ (A2.up (Evl.Ex.new hn)) (f1.trans f3) (f2.trans (f4.trans (Evl.Ex.new hn))) (Evl.fresh_back A2.ef hn) (A2.off hn) upd_same (rgV_its _ _)⟩
/-- reversed(range(..)) -/
theorem runs_itcR {a b : Int} {j : Nat} {Hf0 : Hp} (hj : j < φ.n) : Runs φ (Itc (a + (((b - a).toNat : Nat) : Int) - 1) (-1) (b - a).toNat) (gName j) Hf0 (rangeL a b).reverse (b1 φ j) := by
  refine ⟨fun E σ Hf ad H A e => by show _ ≤ _; rw [List.length_reverse, rangeL_len]; exact Nat.le_refl _, fun i x hx E σ Hf ad H A e => ?_⟩
  have hi : i < (rangeL a b).length := by have := (List.getElem?_eq_some_iff.mp hx).1; rw [List.length_reverse] at this; exact this
  rw [List.getElem?_reverse hi] at hx
  obtain ⟨h1, h2⟩ := rangeL_get hx
  rw [rangeL_len] at hi h1 h2
  refine ⟨hi, fun u H1 ⟨e1, y⟩ Q q => ?_⟩
  subst e1 y
  have e3 : a + (((b - a).toNat : Nat) : Int) - 1 + (i : Nat) * (-1) = x := by omega
  rw [e3]
  exact q _ Hf _ (A.set hj rfl) (Evl.Ex.refl _) (Evl.Ex.refl _) wipe_name
theorem gf_rr1 {m : R Int} {j : Nat} (hj : j < φ.n) (g : GX X EX φ a E m (zi φ)) : GF X EX φ (iRevR (tRg1 (wpE X a))) (gName j) E (m.bind fun n => ifR (Big n) (rangeL 0 n).reverse) (b1 φ j) := fun σ Hf ad H A nb Q q er => by
  refine g σ Hf ad H A (R.bind_nb nb) _ (fun x ex v Hf' H' A' e1 e2 r => ?_) (bind_err er).1
  rw [ex, R.bind_ok] at nb
  obtain ⟨hc, he⟩ := ifR_nb nb
  exact ⟨x, r, by decide, by decide, hc.1, hc.2, q _ (by rw [ex, R.bind_ok]; exact he) _ Hf' H' A' e1 e2 (runs_itcR hj)⟩
theorem gf_rr2 {ma mb : R Int} {j : Nat} (hj : j < φ.n) (ga : GX X EX φ a E ma (zi φ)) (gb : GX X EX φ b E mb (zi φ)) : GF X EX φ (iRevR (tRg2 (wpE X a) (wpE X b))) (gName j) E (ma.bind fun lo => mb.bind fun n => ifR (Big lo ∧ Big n) (rangeL lo n).reverse) (b1 φ j) := fun σ Hf ad H A nb Q q er => by
  have ⟨e1, e2⟩ := bind_err (P := EW φ EX) er
  refine ga σ Hf ad H A (R.bind_nb nb) _ (fun x ex v Hf1 H1 A1 f1 f2 r1 => ?_) e1
  rw [ex, R.bind_ok] at nb
  refine gb σ Hf1 ad H1 A1 (R.bind_nb nb) _ (fun y ey w Hf2 H2 A2 f3 f4 r2 => ?_) (bind_err (e2 x ex)).1
  rw [ey, R.bind_ok] at nb
  obtain ⟨hc, he⟩ := ifR_nb nb
  exact ⟨x, y, r1, r2, hc.1.1, hc.1.2, hc.2.1, hc.2.2, q _ (by rw [ex, R.bind_ok, ey, R.bind_ok]; exact he) _ Hf2 H2 A2 (f1.trans f3) (f2.trans f4) (runs_itcR hj)⟩
end
end
end G

/-! M0: the mathematics' tools. -/
namespace G
open PySem L2
section
variable {α β γ δ ρ : Type}
theorem R.assoc (m : R α) (f : α → R β) (g : β → R γ) : (m.bind f).bind g = m.bind fun x => (f x).bind g := by cases m <;> rfl
theorem bind_if {c : Prop} [Decidable c] (a b : R α) (f : α → R β) : R.bind (if c then a else b) f = if c then a.bind f else b.bind f := by split <;> rfl
theorem seq_nx {f : α → R (Fw β γ ρ)} {b : α} : Fw.seq f (.nx b) = f b := rfl
theorem seq_bk {f : α → R (Fw β γ ρ)} {b : γ} : Fw.seq f (.bk b) = .ok (.bk b) := rfl
theorem seq_ct {f : α → R (Fw β γ ρ)} {b : γ} : Fw.seq f (.ct b) = .ok (.ct b) := rfl
theorem seq_rt {f : α → R (Fw β γ ρ)} {b : ρ} : Fw.seq f (.rt b) = .ok (.rt b) := rfl
theorem retE_rt {r : ρ} : retE (.rt r) = .ok r := rfl
theorem orR_t {m : R Bool} : orR (.ok true) m = .ok true := rfl
theorem orR_f {m : R Bool} : orR (.ok false) m = m := rfl
theorem andR_t {m : R Bool} : andR (.ok true) m = m := rfl
theorem andR_f {m : R Bool} : andR (.ok false) m = .ok false := rfl
theorem optR_some {x : α} : optR (some x) = .ok x := rfl
theorem loopR_nil {f : β → α → R (Fw β β ρ)} {b : β} : (loopR f b [] : R (Fw β γ ρ)) = .ok (.nx b) := rfl
theorem loopR_I {f : β → α → R (Fw β β ρ)} (I : Nat → β → Prop) {xs : List α} {b0 : β} (h0 : I 0 b0)
    (hs : ∀ i b x, xs[i]? = some x → I i b → ∃ b', (f b x = .ok (.nx b') ∨ f b x = .ok (.ct b')) ∧ I (i + 1) b') : ∃ b, (loopR f b0 xs : R (Fw β γ ρ)) = .ok (.nx b) ∧ I xs.length b := by
  induction xs generalizing I b0 with
  | nil => exact ⟨b0, rfl, h0⟩
  | cons x xs ih =>
    obtain ⟨b', h1, h2⟩ := hs 0 b0 x rfl h0
    obtain ⟨b, h3, h4⟩ := ih (fun i b => I (i + 1) b) h2 (fun i b y hy hi => hs (i + 1) b y (by simpa using hy) hi)
    refine ⟨b, ?_, h4⟩
    rcases h1 with h1 | h1
    · rw [loopR, h1]; exact h3
    · rw [loopR, h1]; exact h3
/-- each turn goes on: what does not look at the place -/
theorem loopR_A {f : β → α → R (Fw β β ρ)} (I : β → Prop) {xs : List α} {b0 : β} (h0 : I b0)
    (hs : ∀ b x, x ∈ xs → I b → ∃ b', (f b x = .ok (.nx b') ∨ f b x = .ok (.ct b')) ∧ I b') : ∃ b, (loopR f b0 xs : R (Fw β γ ρ)) = .ok (.nx b) ∧ I b := by
  obtain ⟨b, h1, h2⟩ := loopR_I (γ := γ) (f := f) (fun _ b => I b) (xs := xs) h0 (fun i b x hx hi => hs b x (List.mem_of_getElem? hx) hi)
  exact ⟨b, h1, h2⟩
/-- the fold -/
theorem loopR_fold {f : β → α → R (Fw β β ρ)} (g : β → α → β) {xs : List α} {b0 : β} (hs : ∀ b x, x ∈ xs → f b x = .ok (.nx (g b x))) : (loopR f b0 xs : R (Fw β γ ρ)) = .ok (.nx (xs.foldl g b0)) := by
  induction xs generalizing b0 with
  | nil => rfl
  | cons x xs ih =>
    rw [loopR, hs b0 x List.mem_cons_self, List.foldl_cons]
    exact ih fun b y hy => hs b y (List.mem_cons_of_mem _ hy)
theorem loopR_foldI {f : β → α → R (Fw β β ρ)} (g : β → α → β) (I : Nat → β → Prop) {xs : List α} {b0 : β} (h0 : I 0 b0) (hs : ∀ i b x, xs[i]? = some x → I i b → f b x = .ok (.nx (g b x)) ∧ I (i + 1) (g b x)) : (loopR f b0 xs : R (Fw β γ ρ)) = .ok (.nx (xs.foldl g b0)) ∧ I xs.length (xs.foldl g b0) := by
  induction xs generalizing b0 I with
  | nil => exact ⟨rfl, h0⟩
  | cons x xs ih =>
    obtain ⟨h1, h2⟩ := hs 0 b0 x rfl h0
    obtain ⟨h3, h4⟩ := ih (fun i b => I (i + 1) b) h2 (fun i b y hy hi => hs (i + 1) b y (by simpa using hy) hi)
    rw [loopR, h1, List.foldl_cons]
    exact ⟨h3, h4⟩
theorem whileR_I {mc : β → R Bool} {f : β → R (Fw β β ρ)} (I : β → Prop) (μ : β → Nat) (P : β → Prop) {n : Nat} {b0 : β} (h0 : I b0) (hn : μ b0 < n)
    (hs : ∀ b, I b → (mc b = .ok false ∧ P b) ∨ (mc b = .ok true ∧ ∃ b', (f b = .ok (.nx b') ∨ f b = .ok (.ct b')) ∧ I b' ∧ μ b' < μ b)) : ∃ b, (whileR mc f n b0 : R (Fw β γ ρ)) = .ok (.nx b) ∧ P b := by
  induction n generalizing b0 with
  | zero => omega
  | succ n ih =>
    rcases hs b0 h0 with ⟨h1, h2⟩ | ⟨h1, b', h2, h3, h4⟩
    · exact ⟨b0, by rw [whileR, h1]; rfl, h2⟩
    · obtain ⟨b, h5, h6⟩ := ih h3 (by omega)
      refine ⟨b, ?_, h6⟩
      rcases h2 with h2 | h2
      · rw [whileR, h1, R.bind_ok, if_pos rfl, h2]; exact h5
      · rw [whileR, h1, R.bind_ok, if_pos rfl, h2]; exact h5
theorem fuel_eq : fuel = 2 ^ 62 := by unfold fuel; rfl
theorem fuel_gt {n : Nat} (h : n < 2 ^ 62) : n < fuel := by rw [fuel_eq]; exact h
theorem rangeL_nat (k : Nat) : rangeL 0 (k : Int) = (List.range k).map fun i : Nat => (i : Int) := by
  unfold rangeL
  rw [Int.sub_zero, Int.toNat_natCast]
  exact List.map_congr_left fun x _ => by omega
theorem rangeL_len0 (n : Int) : (rangeL 0 n).length = n.toNat := by rw [rangeL_len, Int.sub_zero]
theorem rangeL_get0 {n : Int} {i : Nat} {x : Int} (h : (rangeL 0 n)[i]? = some x) : i < n.toNat ∧ x = (i : Int) := by
  obtain ⟨h1, h2⟩ := rangeL_get h
  exact ⟨by omega, by omega⟩
theorem rangeL_mem {lo hi x : Int} : x ∈ rangeL lo hi ↔ lo ≤ x ∧ x < hi := by
  unfold rangeL
  rw [List.mem_map]
  constructor
  · rintro ⟨a, h1, h2⟩
    rw [List.mem_range] at h1
    omega
  · rintro ⟨h1, h2⟩
    exact ⟨(x - lo).toNat, by rw [List.mem_range]; omega, by omega⟩
theorem big_of {n : Int} (h1 : -(2 ^ 62) ≤ n) (h2 : n < 2 ^ 62) : Big n := ⟨h1, h2⟩
theorem atI_nat {xs : List α} {i : Nat} : atI xs (i : Int) = xs[i]? := by
  unfold atI ixN
  by_cases h : i < xs.length
  · simp [h]
  · rw [List.getElem?_eq_none (by omega)]
    simp [h]
theorem compR_ok {t : α → R Bool} {f : α → R β} {g : α → β} {xs : List α} (h : ∀ x ∈ xs, t x = .ok true ∧ f x = .ok (g x)) : compR t f xs = .ok (xs.map g) := by
  induction xs with
  | nil => rfl
  | cons x xs ih =>
    obtain ⟨h1, h2⟩ := h x List.mem_cons_self
    rw [compR, h1, h2, ih fun y hy => h y (List.mem_cons_of_mem _ hy)]
    rfl
theorem compR_filter {t : α → R Bool} {f : α → R β} {p : α → Bool} {g : α → β} {xs : List α} (h : ∀ x ∈ xs, t x = .ok (p x) ∧ (p x = true → f x = .ok (g x))) : compR t f xs = .ok ((xs.filter p).map g) := by
  induction xs with
  | nil => rfl
  | cons x xs ih =>
    obtain ⟨h1, h2⟩ := h x List.mem_cons_self
    rw [compR, h1, ih fun y hy => h y (List.mem_cons_of_mem _ hy), strict_ok, R.bind_ok]
    cases hp : p x with
    | true => rw [if_pos rfl, h2 hp, List.filter_cons, hp]; rfl
    | false => rw [if_neg Bool.false_ne_true, List.filter_cons, hp]; rfl
theorem ixR_nat {xs : List α} {i : Nat} {x : α} (h : xs[i]? = some x) : ixR xs (i : Int) = .ok x := by unfold ixR; rw [atI_nat, h]
theorem ixT_nat {xs : Tx} {i : Nat} {x : Nat} (h : xs[i]? = some x) : ixT xs (i : Int) = .ok [x] := by unfold ixT; rw [atI_nat, h]
theorem log2_lt {n : Int} {k : Nat} (h0 : 0 < k) (h : n.natAbs < 2 ^ k) : n.natAbs.log2 < k := PySem.Flt.log2_lt_of h0 h
theorem cutL_len_le {xs : List α} {lo hi : Option Int} : (cutL xs lo hi).length ≤ xs.length := by unfold cutL; rw [List.length_take, List.length_drop]; omega
open PyProof.Rows in
theorem rangeC_pos (n c : Nat) (hc : 0 < c) (hc2 : c < 1073741824) (hn : n < 2 ^ 40) : rangeC 0 (n : Int) (c : Int) = .ok ((List.range ((n + c - 1) / c)).map fun i : Nat => (i : Int) * (c : Int)) := by
  have e : Builtin.Range.rangeSize 0 (n : Int) (c : Int) = (((n + c - 1) / c : Nat) : Int) := by
    rw [rangeSize_pos (by omega) (by omega)]
    have : (n : Int) + (c : Int) - 1 = ((n + c - 1 : Nat) : Int) := by omega
    rw [this]
    rfl
  have le : (n + c - 1) / c ≤ n + c := Nat.le_trans (Nat.div_le_self _ _) (by omega)
  generalize (n + c - 1) / c = d at e le
  unfold rangeC
  rw [ifR_ok, e, Int.toNat_natCast]
  · congr 1
    exact List.map_congr_left fun x _ => by omega
  · refine ⟨by omega, by omega, ?_⟩
    unfold Builtin.Range.small
    rw [e, if_pos (show (c : Int) > 0 by omega)]
    have q : ∀ x : Int, -(2 ^ 63) ≤ x → x < 2 ^ 63 → Builtin.Range.rangeFitsLong x = true := fun x h1 h2 => by
      unfold Builtin.Range.rangeFitsLong
      rw [Bool.and_eq_true]
      exact ⟨decide_eq_true h1, decide_eq_true h2⟩
    rw [q 0 (by decide) (by decide), q n (by omega) (by omega), q c (by omega) (by omega), q _ (by omega) (by omega), q (n + (c - 1)) (by omega) (by omega)]
    simp
theorem cutL_nat {α : Type} (xs : List α) (a b : Nat) : cutL xs (some (a : Int)) (some (b : Int)) = (xs.drop a).take (b - a) := by
  unfold cutL
  rw [HT.sIx_nat, HT.sIx_nat]
  apply List.ext_getElem?
  intro i
  rw [List.getElem?_take, List.getElem?_take, List.getElem?_drop, List.getElem?_drop]
  by_cases h : i < b - a
  · rw [if_pos h]
    by_cases h2 : a + i < xs.length
    · rw [if_pos (by omega), Nat.min_eq_left (by omega)]
    · have hb : xs[a + i]? = none := List.getElem?_eq_none (by omega)
      rw [hb]
      split
      · exact List.getElem?_eq_none (by omega)
      · rfl
  · rw [if_neg h, if_neg (by omega)]
theorem ixR_last {α : Type} (xs : List α) (x : α) : ixR (xs ++ [x]) (-(1 : Int)) = .ok x := by
  unfold ixR atI ixN
  rw [if_neg (by decide), if_pos (by simp; omega)]
  have : (-(1 : Int) + ((xs ++ [x]).length : Int)).toNat = xs.length := by rw [List.length_append, List.length_singleton]; omega
  simp only [Option.bind_some, this]
  simp
end
end G

/-! M1: counts in texts, mixed numbers' bounds. -/
namespace G
open PySem L2
theorem subAt_one (z : Tx) (c i : Nat) (hi : i < z.length) : Builtin.Str.subAt (tx z) (tx [c]) i = decide (z[i]? = some c) := by
  unfold Builtin.Str.subAt
  have e : ((tx z).cps.extract i (i + (tx [c]).length)) = (((z.drop i).take 1).toArray) := by
    apply Array.ext'
    simp [tx, Str.length]
    try rw [show i + 1 - i = 1 by omega]
  rw [e]
  have h1 : (z.drop i).take 1 = [z[i]] := by
    rw [List.drop_eq_getElem_cons hi]
    rfl
  rw [h1, List.getElem?_eq_getElem hi]
  show ([z[i]].toArray == [c].toArray) = decide (some z[i] = some c)
  by_cases h : z[i] = c
  · simp [h]
  · simp [h]
open StrLaws in
theorem occ_size (z : Tx) (c : Nat) : ∀ (m a : Nat) (st : Array Nat × Nat), a + m = z.length + 1 → st.fst.size ≤ a → st.snd ≤ a →
    (forIn (List.range' a m) st (occBody (tx z) (tx [c]) z.length (z.length + 1))).run.fst.size = st.fst.size + ((z.drop a).filter fun d => decide (d = c)).length
  | 0, a, st, h, _, _ => by
    have : z.drop a = [] := List.drop_eq_nil_of_le (by omega)
    rw [this]
    simp
  | m + 1, a, st, h, h1, h2 => by
    rw [List.range'_succ, List.forIn_cons]
    unfold occBody
    have hl : (tx [c]).length = 1 := rfl
    by_cases ha : a < z.length
    · have hd : z.drop a = z[a] :: z.drop (a + 1) := List.drop_eq_getElem_cons ha
      rw [subAt_one z c a ha, hl]
      by_cases hc : z[a] = c
      · have c1 : ((st.fst.size < z.length + 1 ∧ st.snd ≤ a) ∧ a + 1 ≤ z.length) ∧ decide (z[a]? = some c) = true := ⟨⟨⟨by omega, h2⟩, by omega⟩, by simp [ha, hc]⟩
        rw [if_pos c1]
        have ih := occ_size z c m (a + 1) (st.fst.push a, a + 1) (by omega) (by simp; omega) (Nat.le_refl _)
        show (forIn (List.range' (a + 1) m) (st.fst.push a, a + 1) (occBody (tx z) (tx [c]) z.length (z.length + 1))).run.fst.size = _
        rw [ih, hd]
        simp [hc]
        omega
      · have c2 : ¬ (((st.fst.size < z.length + 1 ∧ st.snd ≤ a) ∧ a + 1 ≤ z.length) ∧ decide (z[a]? = some c) = true) := fun q => hc (by simpa [ha] using q.2)
        rw [if_neg c2]
        have ih := occ_size z c m (a + 1) (st.fst, st.snd) (by omega) (by simp; omega) (by simp; omega)
        show (forIn (List.range' (a + 1) m) (st.fst, st.snd) (occBody (tx z) (tx [c]) z.length (z.length + 1))).run.fst.size = _
        have e3 : (z.drop a).filter (fun d => decide (d = c)) = (z.drop (a + 1)).filter fun d => decide (d = c) := by rw [hd, List.filter_cons_of_neg (by simpa using hc)]
        rw [ih, e3]
    · have c2 : ¬ (((st.fst.size < z.length + 1 ∧ st.snd ≤ a) ∧ a + (tx [c]).length ≤ z.length) ∧ Builtin.Str.subAt (tx z) (tx [c]) a = true) := fun q => by have := q.1.2; rw [hl] at this; omega
      rw [if_neg c2]
      have ih := occ_size z c m (a + 1) (st.fst, st.snd) (by omega) (by simp; omega) (by simp; omega)
      show (forIn (List.range' (a + 1) m) (st.fst, st.snd) (occBody (tx z) (tx [c]) z.length (z.length + 1))).run.fst.size = _
      rw [ih]
      have e1 : z.drop a = [] := List.drop_eq_nil_of_le (by omega)
      have e2 : z.drop (a + 1) = [] := List.drop_eq_nil_of_le (by omega)
      rw [e1, e2]
theorem cntT_eq (z : Tx) (c : Nat) : cntT z [c] = ((z.filter fun d => decide (d = c)).length : Int) := by
  unfold cntT Txt.count
  rw [StrLaws.occ_eq, Array.length_toList, tx_len, Nat.sub_zero]
  rw [occ_size z c (z.length + 1) 0 (#[], 0) (by omega) (Nat.zero_le _) (Nat.le_refl _)]
  simp
theorem mulG_of {x y : Int} {m n : Nat} (hm : 0 < m) (hn : 0 < n) (hmn : m + n ≤ 1000) (hx : x.natAbs < 2 ^ m) (hy : y.natAbs < 2 ^ n) : MulG x y := .inr (by
  have := log2_lt hm hx
  have := log2_lt hn hy
  omega)
end G

namespace G
open PySem L2
noncomputable section
def top (i : Nat) : Stmt := PySem.Challenge.pw_tightwood_k71_sums.main.body.getD i (.Pass ⟨0, 0, 0, 0⟩)
/-! ### _law_mixed : _law_cell:Int _law_k:Int -> Int -/
abbrev s_law_mixed : Stmt := top 5
abbrev N_law_mixed : List Str := ["_law_cell", "_law_k", "_law_once"]
theorem sc_law_mixed : FnScope N_law_mixed ["_law_cell", "_law_k"] (defScope s_law_mixed) := ⟨rfl, rfl, rfl, by decide +kernel, rfl, by decide +kernel, by decide +kernel⟩
def mb_law_mixed (a : Int × Int × Unit) : R (Fw Empty Empty Int) :=
  (R.bind (R.bind (R.bind (R.bind (ifR (MulG ((2 : Int) * a.2.1) a.2.1) (((2 : Int) * a.2.1) * a.2.1)) fun (t2 : Int) => (R.ok ((48271 : Int) + t2))) fun (t3 : Int) => (ifR (MulG ((a.1 % (2147483647 : Int)) + (19 : Int)) t3) (((a.1 % (2147483647 : Int)) + (19 : Int)) * t3))) fun (t4 : Int) => (R.ok (t4 % (2147483629 : Int)))) fun (once_1 : Int) => (R.bind (R.bind (ifR (MulG (once_1 + ((7 : Int) * a.2.1)) ((69621 : Int) + ((2 : Int) * a.2.1))) ((once_1 + ((7 : Int) * a.2.1)) * ((69621 : Int) + ((2 : Int) * a.2.1)))) fun (t5 : Int) => (R.ok (t5 % (2147483587 : Int)))) fun (t6 : Int) => (R.ok (Fw.rt t6))))
def m_law_mixed (a : Int × Int × Unit) : R Int := (mb_law_mixed a).bind retE
theorem b_law_mixed {P : Program} {w : World} {K : PySem.W.Frag} {mg : Str → Option Value} {base : Heap} {f : Addr} {cdv : Value} {A' : Around} {outer : List Env} {s : Shared} {H : Hp} {E : XK} {φ : Fx}  (a : Int × Int × Unit) (L : Lv (XF P w K mg base N_law_mixed "_law_mixed" s_law_mixed f cdv A' outer s H E) E φ 0) : GS (XF P w K mg base N_law_mixed "_law_mixed" s_law_mixed f cdv A' outer s H E) E φ (defBody s_law_mixed) (PyE.env φ 0 a) (mb_law_mixed a) noE noE (zr φ) := by
  refine s_set (m := (R.bind (R.bind (R.bind (ifR (MulG ((2 : Int) * a.2.1) a.2.1) (((2 : Int) * a.2.1) * a.2.1)) fun (t2 : Int) => (R.ok ((48271 : Int) + t2))) fun (t3 : Int) => (ifR (MulG ((a.1 % (2147483647 : Int)) + (19 : Int)) t3) (((a.1 % (2147483647 : Int)) + (19 : Int)) * t3))) fun (t4 : Int) => (R.ok (t4 % (2147483629 : Int))))) L 2 rfl (by first | exact Or.inl rfl | exact Or.inr rfl) (g_modR (ma := (R.bind (R.bind (ifR (MulG ((2 : Int) * a.2.1) a.2.1) (((2 : Int) * a.2.1) * a.2.1)) fun (t2 : Int) => (R.ok ((48271 : Int) + t2))) fun (t3 : Int) => (ifR (MulG ((a.1 % (2147483647 : Int)) + (19 : Int)) t3) (((a.1 % (2147483647 : Int)) + (19 : Int)) * t3)))) (by decide) (g_mulG (ma := (R.ok ((a.1 % (2147483647 : Int)) + (19 : Int)))) (mb := (R.bind (ifR (MulG ((2 : Int) * a.2.1) a.2.1) (((2 : Int) * a.2.1) * a.2.1)) fun (t2 : Int) => (R.ok ((48271 : Int) + t2)))) (g_add (ma := (R.ok (a.1 % (2147483647 : Int)))) (mb := (R.ok (19 : Int))) (g_modR (ma := (R.ok a.1)) (by decide) (g_var (pv 0)) g_int) g_int) (g_add (ma := (R.ok (48271 : Int))) (mb := (ifR (MulG ((2 : Int) * a.2.1) a.2.1) (((2 : Int) * a.2.1) * a.2.1))) g_int (g_mulG (ma := (R.ok ((2 : Int) * a.2.1))) (mb := (R.ok a.2.1)) (g_mulL (mb := (R.ok a.2.1)) (by decide) g_int (g_var (pv 1))) (g_var (pv 1))))) g_int) fun once_1 => ?_
  exact s_ret (m := (R.bind (ifR (MulG (once_1 + ((7 : Int) * a.2.1)) ((69621 : Int) + ((2 : Int) * a.2.1))) ((once_1 + ((7 : Int) * a.2.1)) * ((69621 : Int) + ((2 : Int) * a.2.1)))) fun (t5 : Int) => (R.ok (t5 % (2147483587 : Int))))) (g_modR (ma := (ifR (MulG (once_1 + ((7 : Int) * a.2.1)) ((69621 : Int) + ((2 : Int) * a.2.1))) ((once_1 + ((7 : Int) * a.2.1)) * ((69621 : Int) + ((2 : Int) * a.2.1))))) (by decide) (g_mulG (ma := (R.ok (once_1 + ((7 : Int) * a.2.1)))) (mb := (R.ok ((69621 : Int) + ((2 : Int) * a.2.1)))) (g_add (ma := (R.ok once_1)) (mb := (R.ok ((7 : Int) * a.2.1))) (g_var (pv 2)) (g_mulL (mb := (R.ok a.2.1)) (by decide) g_int (g_var (pv 1)))) (g_add (ma := (R.ok (69621 : Int))) (mb := (R.ok ((2 : Int) * a.2.1))) g_int (g_mulL (mb := (R.ok a.2.1)) (by decide) g_int (g_var (pv 1))))) g_int) (fun _ _ _ _ h => h)
theorem ok_law_mixed {P : Program} {w : World} {K : PySem.W.Frag} {mg : Str → Option Value} {base : Heap} {κ : Cc} {f : Addr} {fd : FuncData} (hK : κ.K = K)  (F : Fun K "_law_mixed" "_law_mixed" s_law_mixed f fd) : FnOk P w K mg base (L2.CX P w) 1 f fd ["_law_cell", "_law_k"] (spF κ m_law_mixed) :=
  fn_ok hK F sc_law_mixed rfl fun cdv A' outer s H Hf E a L => b_law_mixed  a L

/-! ### _law_cell_at : _law_script:Scr _law_k:Int -> Int -/
abbrev s_law_cell_at : Stmt := top 3
abbrev N_law_cell_at : List Str := ["_law_script", "_law_k"]
theorem sc_law_cell_at : FnScope N_law_cell_at ["_law_script", "_law_k"] (defScope s_law_cell_at) := ⟨rfl, rfl, rfl, by decide +kernel, rfl, by decide +kernel, by decide +kernel⟩
def mb_law_cell_at (a : Scr × Int × Unit) : R (Fw Empty Empty Int) :=
  (if (decide (a.2.1 < (a.1.l.length : Int))) = true then (R.bind (ixR a.1.l a.2.1) fun (t1 : Int) => (R.ok (Fw.rt t1))) else (R.ok (Fw.rt (0 : Int))))
def m_law_cell_at (a : Scr × Int × Unit) : R Int := (mb_law_cell_at a).bind retE
theorem b_law_cell_at {P : Program} {w : World} {K : PySem.W.Frag} {mg : Str → Option Value} {base : Heap} {f : Addr} {cdv : Value} {A' : Around} {outer : List Env} {s : Shared} {H : Hp} {E : XK} {φ : Fx} (z_len : mg "len" = none) (a : Scr × Int × Unit) (L : Lv (XF P w K mg base N_law_cell_at "_law_cell_at" s_law_cell_at f cdv A' outer s H E) E φ 0) : GS (XF P w K mg base N_law_cell_at "_law_cell_at" s_law_cell_at f cdv A' outer s H E) E φ (defBody s_law_cell_at) (PyE.env φ 0 a) (mb_law_cell_at a) noE noE (zr φ) := by
  refine s_ifNp (t_lt (ma := (R.ok a.2.1)) (mb := (R.ok (a.1.l.length : Int))) (g_var (pv 1)) (g_len (m := (R.ok a.1.l)) L (pcb call_len_seq z_len) (GX.scr (m := (R.ok a.1)) (g_var (pv 0))))) ?_ ?nn ?_
  case nn => repeat' first | exact nn_rt | exact nn_ct | exact nn_bk | exact nn_err | exact nn_bad | refine nn_if ?_ ?_ | refine nn_seq fun _ => ?_ | refine nn_bind fun _ => ?_
  · skip
    exact s_ret (m := (ixR a.1.l a.2.1)) (g_ix (ma := (R.ok a.1.l)) (mb := (R.ok a.2.1)) L (GX.scr (m := (R.ok a.1)) (g_var (pv 0))) (g_var (pv 1))) (fun _ _ _ _ h => h)
  exact s_ret (m := (R.ok (0 : Int))) g_int (fun _ _ _ _ h => h)
theorem ok_law_cell_at {P : Program} {w : World} {K : PySem.W.Frag} {mg : Str → Option Value} {base : Heap} {κ : Cc} {f : Addr} {fd : FuncData} (hK : κ.K = K) (z_len : mg "len" = none) (F : Fun K "_law_cell_at" "_law_cell_at" s_law_cell_at f fd) : FnOk P w K mg base (L2.CX P w) 1 f fd ["_law_script", "_law_k"] (spF κ m_law_cell_at) :=
  fn_ok hK F sc_law_cell_at rfl fun cdv A' outer s H Hf E a L => b_law_cell_at z_len a L

/-! ### _law_digits : _law_script:Scr _law_at:Int _law_many:Int -> (List Int) -/
abbrev s_law_digits : Stmt := top 6
abbrev N_law_digits : List Str := ["_law_script", "_law_at", "_law_many", "_law_left", "_law_found", "_law_k"]
theorem sc_law_digits : FnScope N_law_digits ["_law_script", "_law_at", "_law_many"] (defScope s_law_digits) := ⟨rfl, rfl, rfl, by decide +kernel, rfl, by decide +kernel, by decide +kernel⟩
def lb_law_digits_1 (a : (Scr × Int × Int × Unit)) (st8 : ((List Int) × Int)) (k_9 : Int) : R (Fw ((List Int) × Int) ((List Int) × Int) (List Int)) :=
  (if (decide (st8.2 > (0 : Int))) = true then (R.bind (ifR (st8.1.length < sizeLine) (st8.1 ++ [(st8.2 % (64 : Int))])) fun (found_10 : (List Int)) => (R.bind (R.ok (st8.2 / (64 : Int))) fun (left_11 : Int) => (R.ok (Fw.nx (found_10, left_11))))) else (R.bind (R.bind (R.bind (R.bind (m_law_cell_at (a.1, (((a.2.1 + (1 : Int)) + (k_9 % (9 : Int))), ()))) fun (t13 : Int) => (R.ok (t13, (k_9, ())))) m_law_mixed) fun (t14 : Int) => (R.ok (t14 % (64 : Int)))) fun (t15 : Int) => (R.bind (ifR (st8.1.length < sizeLine) (st8.1 ++ [t15])) fun (found_12 : (List Int)) => (R.ok (Fw.nx (found_12, st8.2))))))
def mb_law_digits (a : Scr × Int × Int × Unit) : R (Fw Empty Empty (List Int)) :=
  (R.bind (R.bind (R.bind (m_law_cell_at (a.1, ((a.2.1 + (1 : Int)), ()))) fun (t2 : Int) => (R.ok (if t2 < 0 then -t2 else t2))) fun (t5 : Int) => (R.bind (R.bind (R.bind (m_law_cell_at (a.1, (a.2.1, ()))) fun (t3 : Int) => (R.ok (t3 % (2 : Int)))) fun (t4 : Int) => (R.ok ((1 : Int) - t4))) fun (t6 : Int) => (ifR (MulG t5 t6) (t5 * t6)))) fun (left_1 : Int) => (R.bind (R.ok ([] : (List Int))) fun (found_7 : (List Int)) => (R.bind (R.bind (ifR (Big a.2.2.1) (rangeL 0 a.2.2.1)) fun l => (loopR (lb_law_digits_1 a) (found_7, left_1) l : R (Fw ((List Int) × Int) Empty (List Int)))) (Fw.seq fun (st8 : ((List Int) × Int)) => (R.ok (Fw.rt st8.1))))))
def m_law_digits (a : Scr × Int × Int × Unit) : R (List Int) := (mb_law_digits a).bind retE
theorem b_law_digits {P : Program} {w : World} {K : PySem.W.Frag} {mg : Str → Option Value} {base : Heap} {f : Addr} {cdv : Value} {A' : Around} {outer : List Env} {s : Shared} {H : Hp} {E : XK} {φ : Fx} (z_abs : mg "abs" = none) (z_range : mg "range" = none) (c_law_cell_at : Cal P w K mg base 1 "_law_cell_at" (spF φ.κ m_law_cell_at)) (c_law_mixed : Cal P w K mg base 1 "_law_mixed" (spF φ.κ m_law_mixed)) (a : Scr × Int × Int × Unit) (L : Lv (XF P w K mg base N_law_digits "_law_digits" s_law_digits f cdv A' outer s H E) E φ 1) : GS (XF P w K mg base N_law_digits "_law_digits" s_law_digits f cdv A' outer s H E) E φ (defBody s_law_digits) (PyE.env φ 0 a) (mb_law_digits a) noE noE (nr φ) := by
  refine s_set (m := (R.bind (R.bind (m_law_cell_at (a.1, ((a.2.1 + (1 : Int)), ()))) fun (t2 : Int) => (R.ok (if t2 < 0 then -t2 else t2))) fun (t5 : Int) => (R.bind (R.bind (R.bind (m_law_cell_at (a.1, (a.2.1, ()))) fun (t3 : Int) => (R.ok (t3 % (2 : Int)))) fun (t4 : Int) => (R.ok ((1 : Int) - t4))) fun (t6 : Int) => (ifR (MulG t5 t6) (t5 * t6))))) L 3 rfl (by first | exact Or.inl rfl | exact Or.inr rfl) (g_mulG (ma := (R.bind (m_law_cell_at (a.1, ((a.2.1 + (1 : Int)), ()))) fun (t2 : Int) => (R.ok (if t2 < 0 then -t2 else t2)))) (mb := (R.bind (R.bind (m_law_cell_at (a.1, (a.2.1, ()))) fun (t3 : Int) => (R.ok (t3 % (2 : Int)))) fun (t4 : Int) => (R.ok ((1 : Int) - t4)))) (g_abs (m := (m_law_cell_at (a.1, ((a.2.1 + (1 : Int)), ())))) (pcb call_abs z_abs) (g_call (ma := (R.ok (a.1, ((a.2.1 + (1 : Int)), ())))) L c_law_cell_at (by decide) (a_cons (m := (R.ok a.1)) (ms := (R.ok ((a.2.1 + (1 : Int)), ()))) (g_var (pv 0)) (a_cons (m := (R.ok (a.2.1 + (1 : Int)))) (ms := (R.ok ())) (g_add (ma := (R.ok a.2.1)) (mb := (R.ok (1 : Int))) (g_var (pv 1)) g_int) a_nil)))) (g_sub (ma := (R.ok (1 : Int))) (mb := (R.bind (m_law_cell_at (a.1, (a.2.1, ()))) fun (t3 : Int) => (R.ok (t3 % (2 : Int))))) g_int (g_modR (ma := (m_law_cell_at (a.1, (a.2.1, ())))) (by decide) (g_call (ma := (R.ok (a.1, (a.2.1, ())))) L c_law_cell_at (by decide) (a_cons (m := (R.ok a.1)) (ms := (R.ok (a.2.1, ()))) (g_var (pv 0)) (a_cons (m := (R.ok a.2.1)) (ms := (R.ok ())) (g_var (pv 1)) a_nil))) g_int))) fun left_1 => ?_
  refine s_setN (m := (R.ok ([] : (List Int)))) L 4 rfl (by first | exact Or.inl rfl | exact Or.inr rfl) (g_list i_nil) fun found_7 => ?_
  refine s_seq (En1 := (fun (st8 : ((List Int) × Int)) => [(0, vz φ a.1), (1, vz φ a.2.1), (2, vz φ a.2.2.1), (4, vo φ st8.1), (3, vz φ st8.2)])) (q_for (m := (ifR (Big a.2.2.1) (rangeL 0 a.2.2.1))) (bE := (b1 φ 5)) (Eh := (fun (st8 : ((List Int) × Int)) => [(0, vz φ a.1), (1, vz φ a.2.1), (2, vz φ a.2.2.1), (4, vo φ st8.1), (3, vz φ st8.2)])) L (found_7, left_1) (pi_range1 (by rfl) z_range (pa_cons peS pa_nil)) (pg_name (i := 5) L.nd rfl (by first | exact Or.inl rfl | exact Or.inr rfl)) (gf_r1 (m := (R.ok a.2.2.1)) (lt_n L rfl) (g_var (pv 2))) (.cons rfl (.cons rfl (.cons rfl (.cons rfl (.cons rfl .nil))))) fun st8 k_9 => ?_) fun st8 => ?_
  · skip
    refine s_one (q_ifp (t_gt (ma := (R.ok st8.2)) (mb := (R.ok (0 : Int))) (g_var (pv 3)) g_int) ?_ ?_)
    · skip
      refine s_app (xs := st8.1) (m := (R.ok (st8.2 % (64 : Int)))) 4 (pv 4) rfl (g_modR (ma := (R.ok st8.2)) (by decide) (g_var (pv 3)) g_int) (fun found_10 => ?_) (pe_bm PySem.F.plainAttrs_list PySem.F.slot_list_append PySem.F.type_list_append mt_append peS (pa_cons peS pa_nil))
      refine s_set (m := (R.ok (st8.2 / (64 : Int)))) L 3 rfl (by first | exact Or.inl rfl | exact Or.inr rfl) (g_divR (ma := (R.ok st8.2)) (by decide +kernel) (g_var (pv 3)) g_int) fun left_11 => ?_
      exact s_nil (x := (found_10, left_11)) (.cons rfl (.cons rfl (.cons rfl (.cons rfl (.cons rfl .nil)))))
    · skip
      refine s_app (xs := st8.1) (m := (R.bind (R.bind (R.bind (m_law_cell_at (a.1, (((a.2.1 + (1 : Int)) + (k_9 % (9 : Int))), ()))) fun (t13 : Int) => (R.ok (t13, (k_9, ())))) m_law_mixed) fun (t14 : Int) => (R.ok (t14 % (64 : Int))))) 4 (pv 4) rfl (g_modR (ma := (R.bind (R.bind (m_law_cell_at (a.1, (((a.2.1 + (1 : Int)) + (k_9 % (9 : Int))), ()))) fun (t13 : Int) => (R.ok (t13, (k_9, ())))) m_law_mixed)) (by decide) (g_call (ma := (R.bind (m_law_cell_at (a.1, (((a.2.1 + (1 : Int)) + (k_9 % (9 : Int))), ()))) fun (t13 : Int) => (R.ok (t13, (k_9, ()))))) L c_law_mixed (by decide) (a_cons (m := (m_law_cell_at (a.1, (((a.2.1 + (1 : Int)) + (k_9 % (9 : Int))), ())))) (ms := (R.ok (k_9, ()))) (g_call (ma := (R.ok (a.1, (((a.2.1 + (1 : Int)) + (k_9 % (9 : Int))), ())))) L c_law_cell_at (by decide) (a_cons (m := (R.ok a.1)) (ms := (R.ok (((a.2.1 + (1 : Int)) + (k_9 % (9 : Int))), ()))) (g_var (pv 0)) (a_cons (m := (R.ok ((a.2.1 + (1 : Int)) + (k_9 % (9 : Int))))) (ms := (R.ok ())) (g_add (ma := (R.ok (a.2.1 + (1 : Int)))) (mb := (R.ok (k_9 % (9 : Int)))) (g_add (ma := (R.ok a.2.1)) (mb := (R.ok (1 : Int))) (g_var (pv 1)) g_int) (g_modR (ma := (R.ok k_9)) (by decide) (g_var (pv 5)) g_int)) a_nil))) (a_cons (m := (R.ok k_9)) (ms := (R.ok ())) (g_var (pv 5)) a_nil))) g_int) (fun found_12 => ?_) (pe_bm PySem.F.plainAttrs_list PySem.F.slot_list_append PySem.F.type_list_append mt_append peS (pa_cons peS pa_nil))
      exact s_nil (x := (found_12, st8.2)) (.cons rfl (.cons rfl (.cons rfl (.cons rfl (.cons rfl .nil)))))
  exact s_retO (pv 4)
theorem ok_law_digits {P : Program} {w : World} {K : PySem.W.Frag} {mg : Str → Option Value} {base : Heap} {κ : Cc} {f : Addr} {fd : FuncData} (hK : κ.K = K) (z_abs : mg "abs" = none) (z_range : mg "range" = none) (c_law_cell_at : Cal P w K mg base 1 "_law_cell_at" (spF κ m_law_cell_at)) (c_law_mixed : Cal P w K mg base 1 "_law_mixed" (spF κ m_law_mixed)) (F : Fun K "_law_digits" "_law_digits" s_law_digits f fd) : FnOk P w K mg base (L2.CX P w) 2 f fd ["_law_script", "_law_at", "_law_many"] (spN κ m_law_digits) :=
  fn_okN hK F sc_law_digits rfl fun cdv A' outer s H Hf E a L => b_law_digits z_abs z_range c_law_cell_at c_law_mixed a L

/-! ### sums_of : text:Tx -> (T3 Int Int Int) -/
abbrev s_sums_of : Stmt := top 1
abbrev N_sums_of : List Str := ["text", "knots", "whole", "least", "place", "sign"]
theorem sc_sums_of : FnScope N_sums_of ["text"] (defScope s_sums_of) := ⟨rfl, rfl, rfl, by decide +kernel, rfl, by decide +kernel, by decide +kernel⟩
def lb_sums_of_1  (st4 : (Int × Int × Int)) (place_5 : (T2 Int Tx)) : R (Fw (Int × Int × Int) (Int × Int × Int) (T3 Int Int Int)) :=
  (R.bind ((if (decide (place_5.b = ([49] : Tx))) = true then (R.bind (R.ok (st4.1 + (1 : Int))) fun (knots_7 : Int) => (R.bind (R.ok (st4.2.1 + (1 : Int))) fun (whole_8 : Int) => (R.ok (Fw.nx (knots_7, whole_8))))) else (R.bind (R.ok (st4.2.1 - (1 : Int))) fun (whole_9 : Int) => (R.ok (Fw.nx (st4.1, whole_9))))) : R (Fw (Int × Int) (Int × Int × Int) (T3 Int Int Int))) (Fw.seq fun (st6 : (Int × Int)) => (if ((decide (place_5.a = (0 : Int))) || (decide (st6.2 < st4.2.2))) = true then (R.bind (R.ok st6.2) fun (least_10 : Int) => (R.ok (Fw.nx (st6.1, st6.2, least_10)))) else (R.ok (Fw.nx (st6.1, st6.2, st4.2.2))))))
def mb_sums_of (a : Tx × Unit) : R (Fw Empty Empty (T3 Int Int Int)) :=
  (R.bind (R.ok (0 : Int)) fun (knots_1 : Int) => (R.bind (R.ok (0 : Int)) fun (whole_2 : Int) => (R.bind (R.ok (0 : Int)) fun (least_3 : Int) => (R.bind (loopR lb_sums_of_1 (knots_1, whole_2, least_3) (enumL (signs a.1)) : R (Fw (Int × Int × Int) Empty (T3 Int Int Int))) (Fw.seq fun (st4 : (Int × Int × Int)) => (R.ok (Fw.rt (T3.mk st4.1 st4.2.1 st4.2.2 : (T3 Int Int Int)))))))))
def m_sums_of (a : Tx × Unit) : R (T3 Int Int Int) := (mb_sums_of a).bind retE
theorem b_sums_of {P : Program} {w : World} {K : PySem.W.Frag} {mg : Str → Option Value} {base : Heap} {f : Addr} {cdv : Value} {A' : Around} {outer : List Env} {s : Shared} {H : Hp} {E : XK} {φ : Fx} (z_enumerate : mg "enumerate" = none) (a : Tx × Unit) (L : Lv (XF P w K mg base N_sums_of "sums_of" s_sums_of f cdv A' outer s H E) E φ 0) : GS (XF P w K mg base N_sums_of "sums_of" s_sums_of f cdv A' outer s H E) E φ (defBody s_sums_of) (PyE.env φ 0 a) (mb_sums_of a) noE noE (zr φ) := by
  refine s_set (m := (R.ok (0 : Int))) L 1 rfl (by first | exact Or.inl rfl | exact Or.inr rfl) g_int fun knots_1 => ?_
  refine s_set (m := (R.ok (0 : Int))) L 2 rfl (by first | exact Or.inl rfl | exact Or.inr rfl) g_int fun whole_2 => ?_
  refine s_set (m := (R.ok (0 : Int))) L 3 rfl (by first | exact Or.inl rfl | exact Or.inr rfl) g_int fun least_3 => ?_
  refine s_seq (En1 := (fun (st4 : (Int × Int × Int)) => [(0, vz φ a.1), (1, vz φ st4.1), (2, vz φ st4.2.1), (3, vz φ st4.2.2)])) (q_forp (l := (enumL (signs a.1))) (bE := (b2 φ 4 5)) (Eh := (fun (st4 : (Int × Int × Int)) => [(0, vz φ a.1), (1, vz φ st4.1), (2, vz φ st4.2.1), (3, vz φ st4.2.2)])) L (knots_1, whole_2, least_3) (pi_enumT (by rfl) z_enumerate peS) (pg_2 (i := 4) (j := 5) L rfl rfl (by first | exact Or.inl rfl | exact Or.inr rfl) (by first | exact Or.inl rfl | exact Or.inr rfl)) (gf_enumT (m := (R.ok a.1)) L (lt_n L rfl) (lt_n L rfl) (g_var (pv 0))) (.cons rfl (.cons rfl (.cons rfl (.cons rfl .nil)))) fun st4 place_5 => ?_) fun st4 => ?_
  · skip
    refine s_seq (En1 := (fun (st6 : (Int × Int)) => [(0, vz φ a.1), (3, vz φ st4.2.2), (4, vz φ place_5.a), (5, vz φ place_5.b), (1, vz φ st6.1), (2, vz φ st6.2)])) (q_ifp (t_eq (ma := (R.ok place_5.b)) (mb := (R.ok ([49] : Tx))) L zr_up zr_rd zr_rd (g_var (pv 5)) (g_str ([49] : Tx))) ?_ ?_) fun st6 => ?_
    · skip
      refine s_aug (z := st4.1) (m := (R.ok (1 : Int))) L ip_add 1 rfl (by first | exact Or.inl rfl | exact Or.inr rfl) rfl g_int fun knots_7 => ?_
      refine s_aug (z := st4.2.1) (m := (R.ok (1 : Int))) L ip_add 2 rfl (by first | exact Or.inl rfl | exact Or.inr rfl) rfl g_int fun whole_8 => ?_
      exact s_nil (x := (knots_7, whole_8)) (.cons rfl (.cons rfl (.cons rfl (.cons rfl (.cons rfl (.cons rfl .nil))))))
    · skip
      refine s_aug (z := st4.2.1) (m := (R.ok (1 : Int))) L ip_sub 2 rfl (by first | exact Or.inl rfl | exact Or.inr rfl) rfl g_int fun whole_9 => ?_
      exact s_nil (x := (st4.1, whole_9)) (.cons rfl (.cons rfl (.cons rfl (.cons rfl (.cons rfl (.cons rfl .nil))))))
    refine s_one (q_ifp (t_w (w_orP (t_eq (ma := (R.ok place_5.a)) (mb := (R.ok (0 : Int))) L zr_up zr_rd zr_rd (g_var (pv 4)) g_int) (w_or1 (t_lt (ma := (R.ok st6.2)) (mb := (R.ok st4.2.2)) (g_var (pv 2)) (g_var (pv 3)))))) ?_ ?_)
    · skip
      refine s_set (m := (R.ok st6.2)) L 3 rfl (by first | exact Or.inl rfl | exact Or.inr rfl) (g_var (pv 2)) fun least_10 => ?_
      exact s_nil (x := (st6.1, st6.2, least_10)) (.cons rfl (.cons rfl (.cons rfl (.cons rfl .nil))))
    · skip
      exact s_nil (x := (st6.1, st6.2, st4.2.2)) (.cons rfl (.cons rfl (.cons rfl (.cons rfl .nil))))
  exact s_ret (m := (R.ok (T3.mk st4.1 st4.2.1 st4.2.2 : (T3 Int Int Int)))) (g_t3 (ma := (R.ok st4.1)) (mb := (R.ok st4.2.1)) (mc := (R.ok st4.2.2)) (g_var (pv 1)) (g_var (pv 2)) (g_var (pv 3))) (fun _ _ _ _ h => h)
theorem ok_sums_of {P : Program} {w : World} {K : PySem.W.Frag} {mg : Str → Option Value} {base : Heap} {κ : Cc} {f : Addr} {fd : FuncData} (hK : κ.K = K) (z_enumerate : mg "enumerate" = none) (F : Fun K "sums_of" "sums_of" s_sums_of f fd) : FnOk P w K mg base (L2.CX P w) 1 f fd ["text"] (spF κ m_sums_of) :=
  fn_ok hK F sc_sums_of rfl fun cdv A' outer s H Hf E a L => b_sums_of z_enumerate a L

/-! ### _law_due : _law_text:Tx -> (T3 Int Int Int) -/
abbrev s_law_due : Stmt := top 7
abbrev N_law_due : List Str := ["_law_text", "_law_whole_here", "_law_least", "_law_sign"]
theorem sc_law_due : FnScope N_law_due ["_law_text"] (defScope s_law_due) := ⟨rfl, rfl, rfl, by decide +kernel, rfl, by decide +kernel, by decide +kernel⟩
def lb_law_due_1  (st3 : (Int × (List Int))) (sign_4 : Tx) : R (Fw (Int × (List Int)) (Int × (List Int)) (T3 Int Int Int)) :=
  (R.bind (R.bind (ixR ((-(1 : Int)) :: ((1 : Int) :: ([] : (List Int)))) (if (decide (sign_4 = ([49] : Tx))) = true then (1 : Int) else 0)) fun (t6 : Int) => (R.ok (st3.1 + t6))) fun (whole_here_5 : Int) => (R.bind (R.bind (R.bind (ifR (st3.2.length + (whole_here_5 :: ([] : (List Int))).length ≤ sizeLine) (st3.2 ++ (whole_here_5 :: ([] : (List Int))))) fun (t8 : (List Int)) => (optR t8.min?)) fun (t9 : Int) => (R.ok (t9 :: ([] : (List Int))))) fun (least_7 : (List Int)) => (R.ok (Fw.nx (whole_here_5, least_7)))))
def mb_law_due (a : Tx × Unit) : R (Fw Empty Empty (T3 Int Int Int)) :=
  (R.bind (R.ok (0 : Int)) fun (whole_here_1 : Int) => (R.bind (R.ok ([] : (List Int))) fun (least_2 : (List Int)) => (R.bind (loopR lb_law_due_1 (whole_here_1, least_2) (signs a.1) : R (Fw (Int × (List Int)) Empty (T3 Int Int Int))) (Fw.seq fun (st3 : (Int × (List Int))) => (R.bind (R.bind (R.bind (ifR (st3.2.length + ((0 : Int) :: ([] : (List Int))).length ≤ sizeLine) (st3.2 ++ ((0 : Int) :: ([] : (List Int))))) fun (t10 : (List Int)) => (ixR t10 (0 : Int))) fun (t11 : Int) => (R.ok (T3.mk (cntT a.1 ([49] : Tx)) st3.1 t11 : (T3 Int Int Int)))) fun (t12 : (T3 Int Int Int)) => (R.ok (Fw.rt t12)))))))
def m_law_due (a : Tx × Unit) : R (T3 Int Int Int) := (mb_law_due a).bind retE
theorem b_law_due {P : Program} {w : World} {K : PySem.W.Frag} {mg : Str → Option Value} {base : Heap} {f : Addr} {cdv : Value} {A' : Around} {outer : List Env} {s : Shared} {H : Hp} {E : XK} {φ : Fx} (z_int : mg "int" = none) (z_min : mg "min" = none) (a : Tx × Unit) (L : Lv (XF P w K mg base N_law_due "_law_due" s_law_due f cdv A' outer s H E) E φ 0) : GS (XF P w K mg base N_law_due "_law_due" s_law_due f cdv A' outer s H E) E φ (defBody s_law_due) (PyE.env φ 0 a) (mb_law_due a) noE noE (zr φ) := by
  refine s_set (m := (R.ok (0 : Int))) L 1 rfl (by first | exact Or.inl rfl | exact Or.inr rfl) g_int fun whole_here_1 => ?_
  refine s_set (m := (R.ok ([] : (List Int)))) L 2 rfl (by first | exact Or.inl rfl | exact Or.inr rfl) ((g_list i_nil)).toZ fun least_2 => ?_
  refine s_seq (En1 := (fun (st3 : (Int × (List Int))) => [(0, vz φ a.1), (1, vz φ st3.1), (2, vz φ st3.2)])) (q_forp (l := (signs a.1)) (bE := (b1 φ 3)) (Eh := (fun (st3 : (Int × (List Int))) => [(0, vz φ a.1), (1, vz φ st3.1), (2, vz φ st3.2)])) L (whole_here_1, least_2) (pi_str peS) (pg_name (i := 3) L.nd rfl (by first | exact Or.inl rfl | exact Or.inr rfl)) (gf_str (m := (R.ok a.1)) (lt_n L rfl) (g_var (pv 0))) (.cons rfl (.cons rfl (.cons rfl .nil))) fun st3 sign_4 => ?_) fun st3 => ?_
  · skip
    refine s_set (m := (R.bind (ixR ((-(1 : Int)) :: ((1 : Int) :: ([] : (List Int)))) (if (decide (sign_4 = ([49] : Tx))) = true then (1 : Int) else 0)) fun (t6 : Int) => (R.ok (st3.1 + t6)))) L 1 rfl (by first | exact Or.inl rfl | exact Or.inr rfl) (g_add (ma := (R.ok st3.1)) (mb := (ixR ((-(1 : Int)) :: ((1 : Int) :: ([] : (List Int)))) (if (decide (sign_4 = ([49] : Tx))) = true then (1 : Int) else 0))) (g_var (pv 1)) (g_ix (ma := (R.ok ((-(1 : Int)) :: ((1 : Int) :: ([] : (List Int)))))) (mb := (R.ok (if (decide (sign_4 = ([49] : Tx))) = true then (1 : Int) else 0))) L ((g_list (i_cons (m := (R.ok (-(1 : Int)))) (ms := (R.ok ((1 : Int) :: ([] : (List Int))))) (g_neg (m := (R.ok (1 : Int))) g_int) (i_cons (m := (R.ok (1 : Int))) (ms := (R.ok ([] : (List Int)))) g_int i_nil)))).toL (g_intB (m := (R.ok (decide (sign_4 = ([49] : Tx))))) (pct call_int1 z_int) (g_eq (ma := (R.ok sign_4)) (mb := (R.ok ([49] : Tx))) L zr_up zr_rd zr_rd (g_var (pv 3)) (g_str ([49] : Tx)))))) fun whole_here_5 => ?_
    refine s_set (m := (R.bind (R.bind (ifR (st3.2.length + (whole_here_5 :: ([] : (List Int))).length ≤ sizeLine) (st3.2 ++ (whole_here_5 :: ([] : (List Int))))) fun (t8 : (List Int)) => (optR t8.min?)) fun (t9 : Int) => (R.ok (t9 :: ([] : (List Int)))))) L 2 rfl (by first | exact Or.inl rfl | exact Or.inr rfl) ((g_list (i_cons (m := (R.bind (ifR (st3.2.length + (whole_here_5 :: ([] : (List Int))).length ≤ sizeLine) (st3.2 ++ (whole_here_5 :: ([] : (List Int))))) fun (t8 : (List Int)) => (optR t8.min?))) (ms := (R.ok ([] : (List Int)))) (g_min (m := (ifR (st3.2.length + (whole_here_5 :: ([] : (List Int))).length ≤ sizeLine) (st3.2 ++ (whole_here_5 :: ([] : (List Int)))))) L (pcb (cr_min L.calm) z_min) ((g_cat (ma := (R.ok st3.2)) (mb := (R.ok (whole_here_5 :: ([] : (List Int))))) ((g_var (pv 2))).toW ((g_list (i_cons (m := (R.ok whole_here_5)) (ms := (R.ok ([] : (List Int)))) (g_var (pv 1)) i_nil))).toW)).toL) i_nil))).toZ fun least_7 => ?_
    exact s_nil (x := (whole_here_5, least_7)) (.cons rfl (.cons rfl (.cons rfl .nil)))
  exact s_ret (m := (R.bind (R.bind (ifR (st3.2.length + ((0 : Int) :: ([] : (List Int))).length ≤ sizeLine) (st3.2 ++ ((0 : Int) :: ([] : (List Int))))) fun (t10 : (List Int)) => (ixR t10 (0 : Int))) fun (t11 : Int) => (R.ok (T3.mk (cntT a.1 ([49] : Tx)) st3.1 t11 : (T3 Int Int Int))))) (g_t3 (ma := (R.ok (cntT a.1 ([49] : Tx)))) (mb := (R.ok st3.1)) (mc := (R.bind (ifR (st3.2.length + ((0 : Int) :: ([] : (List Int))).length ≤ sizeLine) (st3.2 ++ ((0 : Int) :: ([] : (List Int))))) fun (t10 : (List Int)) => (ixR t10 (0 : Int)))) (g_count (ma := (R.ok a.1)) (mb := (R.ok ([49] : Tx))) (g_var (pv 0)) (g_str ([49] : Tx)) (pe_m1 F.slot_str_count F.type_str_count mt_count peS peS)) (g_var (pv 1)) (g_ix (ma := (ifR (st3.2.length + ((0 : Int) :: ([] : (List Int))).length ≤ sizeLine) (st3.2 ++ ((0 : Int) :: ([] : (List Int)))))) (mb := (R.ok (0 : Int))) L ((g_cat (ma := (R.ok st3.2)) (mb := (R.ok ((0 : Int) :: ([] : (List Int))))) ((g_var (pv 2))).toW ((g_list (i_cons (m := (R.ok (0 : Int))) (ms := (R.ok ([] : (List Int)))) g_int i_nil))).toW)).toL g_int)) (fun _ _ _ _ h => h)
theorem ok_law_due {P : Program} {w : World} {K : PySem.W.Frag} {mg : Str → Option Value} {base : Heap} {κ : Cc} {f : Addr} {fd : FuncData} (hK : κ.K = K) (z_int : mg "int" = none) (z_min : mg "min" = none) (F : Fun K "_law_due" "_law_due" s_law_due f fd) : FnOk P w K mg base (L2.CX P w) 1 f fd ["_law_text"] (spF κ m_law_due) :=
  fn_ok hK F sc_law_due rfl fun cdv A' outer s H Hf E a L => b_law_due z_int z_min a L

/-! ### _law_whole : _law_found:Int -> Bool -/
abbrev s_law_whole : Stmt := top 4
abbrev N_law_whole : List Str := ["_law_found"]
theorem sc_law_whole : FnScope N_law_whole ["_law_found"] (defScope s_law_whole) := ⟨rfl, rfl, rfl, by decide +kernel, rfl, by decide +kernel, by decide +kernel⟩
def mb_law_whole (a : Int × Unit) : R (Fw Empty Empty Bool) :=
  (R.ok (Fw.rt (true && (!false))))
def m_law_whole (a : Int × Unit) : R Bool := (mb_law_whole a).bind retE
theorem b_law_whole {P : Program} {w : World} {K : PySem.W.Frag} {mg : Str → Option Value} {base : Heap} {f : Addr} {cdv : Value} {A' : Around} {outer : List Env} {s : Shared} {H : Hp} {E : XK} {φ : Fx} (z_bool : mg "bool" = none) (z_int : mg "int" = none) (z_isinstance : mg "isinstance" = none) (a : Int × Unit) (L : Lv (XF P w K mg base N_law_whole "_law_whole" s_law_whole f cdv A' outer s H E) E φ 0) : GS (XF P w K mg base N_law_whole "_law_whole" s_law_whole f cdv A' outer s H E) E φ (defBody s_law_whole) (PyE.env φ 0 a) (mb_law_whole a) noE noE (zr φ) := by
  exact s_ret (m := (R.ok (true && (!false)))) (g_andP (g_isi (T := "int") (r := true) (m := (R.ok a.1)) L zr_rd (by decide +kernel) (pcb2 call_isi z_isinstance) (g_var (pv 0)) (pe_bltn (v := .ty "int") (by rfl) z_int (by decide +kernel) rfl)) (g_one (g_not (m := (R.ok false)) (g_isi (T := "bool") (r := false) (m := (R.ok a.1)) L zr_rd (by decide +kernel) (pcb2 call_isi z_isinstance) (g_var (pv 0)) (pe_bltn (v := .ty "bool") (by rfl) z_bool (by decide +kernel) rfl))))) (fun _ _ _ _ h => h)
theorem ok_law_whole {P : Program} {w : World} {K : PySem.W.Frag} {mg : Str → Option Value} {base : Heap} {κ : Cc} {f : Addr} {fd : FuncData} (hK : κ.K = K) (z_bool : mg "bool" = none) (z_int : mg "int" = none) (z_isinstance : mg "isinstance" = none) (F : Fun K "_law_whole" "_law_whole" s_law_whole f fd) : FnOk P w K mg base (L2.CX P w) 1 f fd ["_law_found"] (spF κ m_law_whole) :=
  fn_ok hK F sc_law_whole rfl fun cdv A' outer s H Hf E a L => b_law_whole z_bool z_int z_isinstance a L

/-! ### law : _law_script:Scr -> Bool -/
abbrev s_law : Stmt := top 8
abbrev N_law : List Str := ["_law_script", "_law_many", "_law_text", "_law_some", "_law_found", "_law_digit", "_law_one"]
theorem sc_law : FnScope N_law ["_law_script"] (defScope s_law) := ⟨rfl, rfl, rfl, by decide +kernel, rfl, by decide +kernel, by decide +kernel⟩
def lb_law_1  (st8 : Unit) (some_14 : Tx) : R (Fw Unit Unit Bool) :=
  (R.bind (m_sums_of (some_14, ())) fun (found_15 : (T3 Int Int Int)) => (R.bind (orR (R.ok (!true)) (R.bind (m_law_due (some_14, ())) fun (t16 : (T3 Int Int Int)) => (R.ok (!decide (found_15 = t16))))) fun (t21 : Bool) => (if t21 = true then (R.ok (Fw.rt false)) else (R.bind (R.bind (R.bind (ifR ((t3L found_15).length ≤ sizeLine) (t3L found_15)) fun l => compR (fun (one_17 : Int) => (R.bind (m_law_whole (one_17, ())) fun (t18 : Bool) => (R.ok (!t18)))) (fun (one_17 : Int) => (R.ok one_17)) l) fun (t19 : (List Int)) => (R.ok (!decide (t19 = ([] : (List Int)))))) fun (t20 : Bool) => (if t20 = true then (R.ok (Fw.rt false)) else (R.ok (Fw.nx ())))))))
def mb_law (a : Scr × Unit) : R (Fw Empty Empty Bool) :=
  (R.bind (R.bind (R.bind (R.bind (m_law_cell_at (a.1, ((0 : Int), ()))) fun (t2 : Int) => (R.ok (t2, ((1 : Int), ())))) m_law_mixed) fun (t3 : Int) => (R.ok (t3 % (61 : Int)))) fun (many_1 : Int) => (R.bind (R.bind (R.bind (m_law_digits (a.1, ((2 : Int), (many_1, ())))) fun (l6 : (List Int)) => R.bind (ifR (l6.length ≤ sizeLine) l6) fun l => compR (fun (digit_5 : Int) => (R.ok true)) (fun (digit_5 : Int) => (ixT ([48, 49] : Tx) (digit_5 % (2 : Int)))) l) fun (t7 : (List Tx)) => (ifR ((t7.map List.length).sum + t7.length * ([] : Tx).length ≤ 16777216) (joinT ([] : Tx) t7))) fun (text_4 : Tx) => (R.bind (R.bind (R.bind (R.bind (R.bind (R.bind (R.bind (m_law_cell_at (a.1, ((1 : Int), ()))) fun (t9 : Int) => (R.ok (t9 % (3 : Int)))) fun (t10 : Int) => (R.ok ((2 : Int) + t10))) fun (t11 : Int) => (ifR (-(2 ^ 40) ≤ t11 ∧ t11 ≤ 2 ^ 25 ∧ t11.toNat * text_4.length ≤ sizeLine) (repT text_4 t11))) fun (t12 : Tx) => (R.ok (t12 :: ((revT text_4) :: (([] : Tx) :: ([] : (List Tx))))))) fun (t13 : (List Tx)) => (R.ok (text_4 :: t13))) fun l => (loopR lb_law_1 () l : R (Fw Unit Empty Bool))) (Fw.seq fun (st8 : Unit) => (R.ok (Fw.rt true))))))
def m_law (a : Scr × Unit) : R Bool := (mb_law a).bind retE
theorem b_law {P : Program} {w : World} {K : PySem.W.Frag} {mg : Str → Option Value} {base : Heap} {f : Addr} {cdv : Value} {A' : Around} {outer : List Env} {s : Shared} {H : Hp} {E : XK} {φ : Fx} (z_isinstance : mg "isinstance" = none) (z_tuple : mg "tuple" = none) (c_law_mixed : Cal P w K mg base 1 "_law_mixed" (spF φ.κ m_law_mixed)) (c_law_cell_at : Cal P w K mg base 1 "_law_cell_at" (spF φ.κ m_law_cell_at)) (c_law_digits : Cal P w K mg base 2 "_law_digits" (spN φ.κ m_law_digits)) (c_sums_of : Cal P w K mg base 1 "sums_of" (spF φ.κ m_sums_of)) (c_law_due : Cal P w K mg base 1 "_law_due" (spF φ.κ m_law_due)) (c_law_whole : Cal P w K mg base 1 "_law_whole" (spF φ.κ m_law_whole)) (a : Scr × Unit) (L : Lv (XF P w K mg base N_law "law" s_law f cdv A' outer s H E) E φ 2) : GS (XF P w K mg base N_law "law" s_law f cdv A' outer s H E) E φ (defBody s_law) (PyE.env φ 0 a) (mb_law a) noE noE (zr φ) := by
  refine s_set (m := (R.bind (R.bind (R.bind (m_law_cell_at (a.1, ((0 : Int), ()))) fun (t2 : Int) => (R.ok (t2, ((1 : Int), ())))) m_law_mixed) fun (t3 : Int) => (R.ok (t3 % (61 : Int))))) L 1 rfl (by first | exact Or.inl rfl | exact Or.inr rfl) (g_modR (ma := (R.bind (R.bind (m_law_cell_at (a.1, ((0 : Int), ()))) fun (t2 : Int) => (R.ok (t2, ((1 : Int), ())))) m_law_mixed)) (by decide) (g_call (ma := (R.bind (m_law_cell_at (a.1, ((0 : Int), ()))) fun (t2 : Int) => (R.ok (t2, ((1 : Int), ()))))) L c_law_mixed (by decide) (a_cons (m := (m_law_cell_at (a.1, ((0 : Int), ())))) (ms := (R.ok ((1 : Int), ()))) (g_call (ma := (R.ok (a.1, ((0 : Int), ())))) L c_law_cell_at (by decide) (a_cons (m := (R.ok a.1)) (ms := (R.ok ((0 : Int), ()))) (g_var (pv 0)) (a_cons (m := (R.ok (0 : Int))) (ms := (R.ok ())) g_int a_nil))) (a_cons (m := (R.ok (1 : Int))) (ms := (R.ok ())) g_int a_nil))) g_int) fun many_1 => ?_
  refine s_set (m := (R.bind (R.bind (m_law_digits (a.1, ((2 : Int), (many_1, ())))) fun (l6 : (List Int)) => R.bind (ifR (l6.length ≤ sizeLine) l6) fun l => compR (fun (digit_5 : Int) => (R.ok true)) (fun (digit_5 : Int) => (ixT ([48, 49] : Tx) (digit_5 % (2 : Int)))) l) fun (t7 : (List Tx)) => (ifR ((t7.map List.length).sum + t7.length * ([] : Tx).length ≤ 16777216) (joinT ([] : Tx) t7)))) L 2 rfl (by first | exact Or.inl rfl | exact Or.inr rfl) (g_join (ma := (R.ok ([] : Tx))) (mb := (R.bind (m_law_digits (a.1, ((2 : Int), (many_1, ())))) fun (l6 : (List Int)) => R.bind (ifR (l6.length ≤ sizeLine) l6) fun l => compR (fun (digit_5 : Int) => (R.ok true)) (fun (digit_5 : Int) => (ixT ([48, 49] : Tx) (digit_5 % (2 : Int)))) l)) L (pe_m1 F.slot_str_join F.type_str_join mt_join peS peS) (g_str ([] : Tx)) ((g_lc (m := (m_law_digits (a.1, ((2 : Int), (many_1, ()))))) (t := (fun (digit_5 : Int) => (R.ok true))) (f := (fun (digit_5 : Int) => (ixT ([48, 49] : Tx) (digit_5 % (2 : Int))))) (bE := (b1 φ 5)) L 1000 [("_law_digit", 5)] rfl (pi_list peS) (blkOk_by (N := N_law) (sc := defScope s_law) (own := [("_law_digit", 5)]) (by decide +kernel)) (fun s H C cl fp => (pg_name (i := 5) (L.blk (s := s) (H := H) (C := C) (cl := cl) (fp := fp)).nd rfl (by first | exact Or.inl rfl | exact Or.inr rfl))) (gf_list (m := (m_law_digits (a.1, ((2 : Int), (many_1, ()))))) (lt_n L rfl) ((g_callN (ma := (R.ok (a.1, ((2 : Int), (many_1, ()))))) L c_law_digits (by decide) (a_cons (m := (R.ok a.1)) (ms := (R.ok ((2 : Int), (many_1, ())))) (g_var (pv 0)) (a_cons (m := (R.ok (2 : Int))) (ms := (R.ok (many_1, ()))) g_int (a_cons (m := (R.ok many_1)) (ms := (R.ok ())) (g_var (pv 1)) a_nil))))).toZ) (fun i hi => by simp at hi; subst hi; exact ⟨rfl, rfl⟩) (fun _ _ h => by simp at h; subst h; simp) (fun s H C cl fp digit_5 r L1000 => ifs_nil) (fun s H C cl fp digit_5 r L1000 => (g_ixT (ma := (R.ok ([48, 49] : Tx))) (mb := (R.ok (digit_5 % (2 : Int)))) (g_str ([48, 49] : Tx)) (g_modR (ma := (R.ok digit_5)) (by decide) (g_var (pv 5)) g_int))))).toL) fun text_4 => ?_
  refine s_seq (En1 := (fun (st8 : Unit) => [(0, vz φ a.1), (1, vz φ many_1), (2, vz φ text_4)])) (q_for (m := (R.bind (R.bind (R.bind (R.bind (R.bind (m_law_cell_at (a.1, ((1 : Int), ()))) fun (t9 : Int) => (R.ok (t9 % (3 : Int)))) fun (t10 : Int) => (R.ok ((2 : Int) + t10))) fun (t11 : Int) => (ifR (-(2 ^ 40) ≤ t11 ∧ t11 ≤ 2 ^ 25 ∧ t11.toNat * text_4.length ≤ sizeLine) (repT text_4 t11))) fun (t12 : Tx) => (R.ok (t12 :: ((revT text_4) :: (([] : Tx) :: ([] : (List Tx))))))) fun (t13 : (List Tx)) => (R.ok (text_4 :: t13)))) (bE := (b1 φ 3)) (Eh := (fun (st8 : Unit) => [(0, vz φ a.1), (1, vz φ many_1), (2, vz φ text_4)])) L () (pi_list peS) (pg_name (i := 3) L.nd rfl (by first | exact Or.inl rfl | exact Or.inr rfl)) (gf_list (m := (R.bind (R.bind (R.bind (R.bind (R.bind (m_law_cell_at (a.1, ((1 : Int), ()))) fun (t9 : Int) => (R.ok (t9 % (3 : Int)))) fun (t10 : Int) => (R.ok ((2 : Int) + t10))) fun (t11 : Int) => (ifR (-(2 ^ 40) ≤ t11 ∧ t11 ≤ 2 ^ 25 ∧ t11.toNat * text_4.length ≤ sizeLine) (repT text_4 t11))) fun (t12 : Tx) => (R.ok (t12 :: ((revT text_4) :: (([] : Tx) :: ([] : (List Tx))))))) fun (t13 : (List Tx)) => (R.ok (text_4 :: t13)))) (lt_n L rfl) ((g_list (i_cons (m := (R.ok text_4)) (ms := (R.bind (R.bind (R.bind (R.bind (m_law_cell_at (a.1, ((1 : Int), ()))) fun (t9 : Int) => (R.ok (t9 % (3 : Int)))) fun (t10 : Int) => (R.ok ((2 : Int) + t10))) fun (t11 : Int) => (ifR (-(2 ^ 40) ≤ t11 ∧ t11 ≤ 2 ^ 25 ∧ t11.toNat * text_4.length ≤ sizeLine) (repT text_4 t11))) fun (t12 : Tx) => (R.ok (t12 :: ((revT text_4) :: (([] : Tx) :: ([] : (List Tx)))))))) (g_var (pv 2)) (i_cons (m := (R.bind (R.bind (R.bind (m_law_cell_at (a.1, ((1 : Int), ()))) fun (t9 : Int) => (R.ok (t9 % (3 : Int)))) fun (t10 : Int) => (R.ok ((2 : Int) + t10))) fun (t11 : Int) => (ifR (-(2 ^ 40) ≤ t11 ∧ t11 ≤ 2 ^ 25 ∧ t11.toNat * text_4.length ≤ sizeLine) (repT text_4 t11)))) (ms := (R.ok ((revT text_4) :: (([] : Tx) :: ([] : (List Tx)))))) (g_mulS (ma := (R.ok text_4)) (mb := (R.bind (R.bind (m_law_cell_at (a.1, ((1 : Int), ()))) fun (t9 : Int) => (R.ok (t9 % (3 : Int)))) fun (t10 : Int) => (R.ok ((2 : Int) + t10)))) (g_var (pv 2)) (g_add (ma := (R.ok (2 : Int))) (mb := (R.bind (m_law_cell_at (a.1, ((1 : Int), ()))) fun (t9 : Int) => (R.ok (t9 % (3 : Int))))) g_int (g_modR (ma := (m_law_cell_at (a.1, ((1 : Int), ())))) (by decide) (g_call (ma := (R.ok (a.1, ((1 : Int), ())))) L c_law_cell_at (by decide) (a_cons (m := (R.ok a.1)) (ms := (R.ok ((1 : Int), ()))) (g_var (pv 0)) (a_cons (m := (R.ok (1 : Int))) (ms := (R.ok ())) g_int a_nil))) g_int))) (i_cons (m := (R.ok (revT text_4))) (ms := (R.ok (([] : Tx) :: ([] : (List Tx))))) (g_revS (m := (R.ok text_4)) (g_var (pv 2))) (i_cons (m := (R.ok ([] : Tx))) (ms := (R.ok ([] : (List Tx)))) (g_str ([] : Tx)) i_nil)))))).toZ) (.cons rfl (.cons rfl (.cons rfl .nil))) fun st8 some_14 => ?_) fun st8 => ?_
  · skip
    refine s_set (m := (m_sums_of (some_14, ()))) L 4 rfl (by first | exact Or.inl rfl | exact Or.inr rfl) (g_call (ma := (R.ok (some_14, ()))) L c_sums_of (by decide) (a_cons (m := (R.ok some_14)) (ms := (R.ok ())) (g_var (pv 3)) a_nil)) fun found_15 => ?_
    refine s_ifN (mc := (orR (R.ok (!true)) (R.bind (m_law_due (some_14, ())) fun (t16 : (T3 Int Int Int)) => (R.ok (!decide (found_15 = t16)))))) (t_w (w_or (m := (R.ok (!true))) (n := (R.bind (m_law_due (some_14, ())) fun (t16 : (T3 Int Int Int)) => (R.ok (!decide (found_15 = t16))))) (t_not (m := (R.ok true)) (t_val (g_isi (T := "tuple") (r := true) (m := (R.ok found_15)) L zr_rd (by decide +kernel) (pcb2 call_isi z_isinstance) (g_var (pv 4)) (pe_bltn (v := .ty "tuple") (by rfl) z_tuple (by decide +kernel) rfl)))) (w_or1 (t_ne (ma := (R.ok found_15)) (mb := (m_law_due (some_14, ()))) L zr_up zr_rd zr_rd (g_var (pv 4)) (g_call (ma := (R.ok (some_14, ()))) L c_law_due (by decide) (a_cons (m := (R.ok some_14)) (ms := (R.ok ())) (g_var (pv 3)) a_nil)))))) ?_ ?nn ?_
    case nn => repeat' first | exact nn_rt | exact nn_ct | exact nn_bk | exact nn_err | exact nn_bad | refine nn_if ?_ ?_ | refine nn_seq fun _ => ?_ | refine nn_bind fun _ => ?_
    · skip
      exact s_ret (m := (R.ok false)) g_bool (fun _ _ _ _ h => h)
    refine s_ifN (mc := (R.bind (R.bind (ifR ((t3L found_15).length ≤ sizeLine) (t3L found_15)) fun l => compR (fun (one_17 : Int) => (R.bind (m_law_whole (one_17, ())) fun (t18 : Bool) => (R.ok (!t18)))) (fun (one_17 : Int) => (R.ok one_17)) l) fun (t19 : (List Int)) => (R.ok (!decide (t19 = ([] : (List Int))))))) (t_ne (ma := (R.bind (ifR ((t3L found_15).length ≤ sizeLine) (t3L found_15)) fun l => compR (fun (one_17 : Int) => (R.bind (m_law_whole (one_17, ())) fun (t18 : Bool) => (R.ok (!t18)))) (fun (one_17 : Int) => (R.ok one_17)) l)) (mb := (R.ok ([] : (List Int)))) L zr_up zr_rd zr_rd ((g_lc (m := (R.ok (t3L found_15))) (t := (fun (one_17 : Int) => (R.bind (m_law_whole (one_17, ())) fun (t18 : Bool) => (R.ok (!t18))))) (f := (fun (one_17 : Int) => (R.ok one_17))) (bE := (b1 φ 6)) L 1000 [("_law_one", 6)] rfl (pi_tup peS) (blkOk_by (N := N_law) (sc := defScope s_law) (own := [("_law_one", 6)]) (by decide +kernel)) (fun s H C cl fp => (pg_name (i := 6) (L.blk (s := s) (H := H) (C := C) (cl := cl) (fp := fp)).nd rfl (by first | exact Or.inl rfl | exact Or.inr rfl))) (gf_t3 (m := (R.ok found_15)) L (lt_n L rfl) (g_var (pv 4))) (fun i hi => by simp at hi; subst hi; exact ⟨rfl, rfl⟩) (fun _ _ h => by simp at h; subst h; simp) (fun s H C cl fp one_17 r L1000 => (ifs_one (t_not (m := (m_law_whole (one_17, ()))) (t_val (g_call (ma := (R.ok (one_17, ()))) L1000 c_law_whole (by decide) (a_cons (m := (R.ok one_17)) (ms := (R.ok ())) (g_var (pv 6)) a_nil)))))) (fun s H C cl fp one_17 r L1000 => (g_var (pv 6))))).toZ ((g_list i_nil)).toZ) ?_ ?nn ?_
    case nn => repeat' first | exact nn_rt | exact nn_ct | exact nn_bk | exact nn_err | exact nn_bad | refine nn_if ?_ ?_ | refine nn_seq fun _ => ?_ | refine nn_bind fun _ => ?_
    · skip
      exact s_ret (m := (R.ok false)) g_bool (fun _ _ _ _ h => h)
    exact s_nil (x := ()) (.cons rfl (.cons rfl (.cons rfl .nil)))
  exact s_ret (m := (R.ok true)) g_bool (fun _ _ _ _ h => h)
theorem ok_law {P : Program} {w : World} {K : PySem.W.Frag} {mg : Str → Option Value} {base : Heap} {κ : Cc} {f : Addr} {fd : FuncData} (hK : κ.K = K) (z_isinstance : mg "isinstance" = none) (z_tuple : mg "tuple" = none) (c_law_mixed : Cal P w K mg base 1 "_law_mixed" (spF κ m_law_mixed)) (c_law_cell_at : Cal P w K mg base 1 "_law_cell_at" (spF κ m_law_cell_at)) (c_law_digits : Cal P w K mg base 2 "_law_digits" (spN κ m_law_digits)) (c_sums_of : Cal P w K mg base 1 "sums_of" (spF κ m_sums_of)) (c_law_due : Cal P w K mg base 1 "_law_due" (spF κ m_law_due)) (c_law_whole : Cal P w K mg base 1 "_law_whole" (spF κ m_law_whole)) (F : Fun K "law" "law" s_law f fd) : FnOk P w K mg base (L2.CX P w) 3 f fd ["_law_script"] (spF κ m_law) :=
  fn_ok hK F sc_law rfl fun cdv A' outer s H Hf E a L => b_law z_isinstance z_tuple c_law_mixed c_law_cell_at c_law_digits c_sums_of c_law_due c_law_whole a L

theorem all_mk {l : PySem.W.OpenLaw} {w : World} {K : PySem.W.Frag} {h : Heap} {mg : Str → Option Value} {fa f1 f2 f3 f4 f5 f6 f7  : Addr} (X : K.In h) (G : h.Ns mainGlobals mg) (hfa : mg "law" = some (.ref fa)) (hm : ∀ ns : List Int, ns.length ≤ 63 → m_law (⟨ns⟩, ()) = .ok true)
    {od1 an1 od2 an2 od3 an3 od4 an4 od5 an5 od6 an6 od7 an7 : Option Addr} {sl1 sl2 sl3 sl4 sl5 sl6 sl7 : Array (Option Value)} {oc1 kV1 dc1 pm1 cd1 ct1 oc2 kV2 dc2 pm2 cd2 ct2 oc3 kV3 dc3 pm3 cd3 ct3 oc4 kV4 dc4 pm4 cd4 ct4 oc5 kV5 dc5 pm5 cd5 ct5 oc6 kV6 dc6 pm6 cd6 ct6 oc7 kV7 dc7 pm7 cd7 ct7 : Value}
    (a1 : PySem.W.nsIn K mainGlobals "_law_mixed" = some (some (.ref f1)))
    (l1 : K.lookup f1 = some ⟨oc1, od1, .func (PySem.W.fnOf "_law_mixed" "_law_mixed" (defArgs s_law_mixed) (defBody s_law_mixed) (defScope s_law_mixed) .none kV1 dc1 pm1 an1 cd1 ct1), sl1⟩) (c1 : PySem.W.codeIn K cd1 "_law_mixed" = true) (k1 : PySem.W.keepIn K (.ref f1) = true)
    (a2 : PySem.W.nsIn K mainGlobals "_law_cell_at" = some (some (.ref f2)))
    (l2 : K.lookup f2 = some ⟨oc2, od2, .func (PySem.W.fnOf "_law_cell_at" "_law_cell_at" (defArgs s_law_cell_at) (defBody s_law_cell_at) (defScope s_law_cell_at) .none kV2 dc2 pm2 an2 cd2 ct2), sl2⟩) (c2 : PySem.W.codeIn K cd2 "_law_cell_at" = true) (k2 : PySem.W.keepIn K (.ref f2) = true)
    (a3 : PySem.W.nsIn K mainGlobals "_law_digits" = some (some (.ref f3)))
    (l3 : K.lookup f3 = some ⟨oc3, od3, .func (PySem.W.fnOf "_law_digits" "_law_digits" (defArgs s_law_digits) (defBody s_law_digits) (defScope s_law_digits) .none kV3 dc3 pm3 an3 cd3 ct3), sl3⟩) (c3 : PySem.W.codeIn K cd3 "_law_digits" = true) (k3 : PySem.W.keepIn K (.ref f3) = true)
    (a4 : PySem.W.nsIn K mainGlobals "sums_of" = some (some (.ref f4)))
    (l4 : K.lookup f4 = some ⟨oc4, od4, .func (PySem.W.fnOf "sums_of" "sums_of" (defArgs s_sums_of) (defBody s_sums_of) (defScope s_sums_of) .none kV4 dc4 pm4 an4 cd4 ct4), sl4⟩) (c4 : PySem.W.codeIn K cd4 "sums_of" = true) (k4 : PySem.W.keepIn K (.ref f4) = true)
    (a5 : PySem.W.nsIn K mainGlobals "_law_due" = some (some (.ref f5)))
    (l5 : K.lookup f5 = some ⟨oc5, od5, .func (PySem.W.fnOf "_law_due" "_law_due" (defArgs s_law_due) (defBody s_law_due) (defScope s_law_due) .none kV5 dc5 pm5 an5 cd5 ct5), sl5⟩) (c5 : PySem.W.codeIn K cd5 "_law_due" = true) (k5 : PySem.W.keepIn K (.ref f5) = true)
    (a6 : PySem.W.nsIn K mainGlobals "_law_whole" = some (some (.ref f6)))
    (l6 : K.lookup f6 = some ⟨oc6, od6, .func (PySem.W.fnOf "_law_whole" "_law_whole" (defArgs s_law_whole) (defBody s_law_whole) (defScope s_law_whole) .none kV6 dc6 pm6 an6 cd6 ct6), sl6⟩) (c6 : PySem.W.codeIn K cd6 "_law_whole" = true) (k6 : PySem.W.keepIn K (.ref f6) = true)
    (a7 : PySem.W.nsIn K mainGlobals "law" = some (some (.ref f7)))
    (l7 : K.lookup f7 = some ⟨oc7, od7, .func (PySem.W.fnOf "law" "law" (defArgs s_law) (defBody s_law) (defScope s_law) .none kV7 dc7 pm7 an7 cd7 ct7), sl7⟩) (c7 : PySem.W.codeIn K cd7 "law" = true) (k7 : PySem.W.keepIn K (.ref f7) = true)
    (zabs : PySem.W.nsIn K mainGlobals "abs" = some none)
    (zbool : PySem.W.nsIn K mainGlobals "bool" = some none)
    (zenumerate : PySem.W.nsIn K mainGlobals "enumerate" = some none)
    (zint : PySem.W.nsIn K mainGlobals "int" = some none)
    (zisinstance : PySem.W.nsIn K mainGlobals "isinstance" = some none)
    (zlen : PySem.W.nsIn K mainGlobals "len" = some none)
    (zmin : PySem.W.nsIn K mainGlobals "min" = some none)
    (zrange : PySem.W.nsIn K mainGlobals "range" = some none)
    (ztuple : PySem.W.nsIn K mainGlobals "tuple" = some none)
    : ∃ fd : FuncData, (∀ (s : Shared) (v : Value), BindsTo s fd ⟨[v], []⟩ [("_law_script", v)]) ∧ ∀ base : Heap, K.In base → base.Ns mainGlobals mg → FnOk l.prog w K mg base (L2.CX l.prog w) 3 fa fd ["_law_script"] (spLaw K) := by
  have e := hfa.symm.trans (PySem.W.mg_of X G a7)
  cases e
  have z_abs := PySem.W.mg_none_of X G zabs
  have z_bool := PySem.W.mg_none_of X G zbool
  have z_enumerate := PySem.W.mg_none_of X G zenumerate
  have z_int := PySem.W.mg_none_of X G zint
  have z_isinstance := PySem.W.mg_none_of X G zisinstance
  have z_len := PySem.W.mg_none_of X G zlen
  have z_min := PySem.W.mg_none_of X G zmin
  have z_range := PySem.W.mg_none_of X G zrange
  have z_tuple := PySem.W.mg_none_of X G ztuple
  have F1 := fun_mk (st := s_law_mixed) l1 c1 k1
  have F2 := fun_mk (st := s_law_cell_at) l2 c2 k2
  have F3 := fun_mk (st := s_law_digits) l3 c3 k3
  have F4 := fun_mk (st := s_sums_of) l4 c4 k4
  have F5 := fun_mk (st := s_law_due) l5 c5 k5
  have F6 := fun_mk (st := s_law_whole) l6 c6 k6
  have F7 := fun_mk (st := s_law) l7 c7 k7
  have b1 := F1.binds (ps := ["_law_cell", "_law_k"]) fun _ _ _ _ _ _ us hl => match us, hl with | [_, _], _ => rfl
  have b2 := F2.binds (ps := ["_law_script", "_law_k"]) fun _ _ _ _ _ _ us hl => match us, hl with | [_, _], _ => rfl
  have b3 := F3.binds (ps := ["_law_script", "_law_at", "_law_many"]) fun _ _ _ _ _ _ us hl => match us, hl with | [_, _, _], _ => rfl
  have b4 := F4.binds (ps := ["text"]) fun _ _ _ _ _ _ us hl => match us, hl with | [_], _ => rfl
  have b5 := F5.binds (ps := ["_law_text"]) fun _ _ _ _ _ _ us hl => match us, hl with | [_], _ => rfl
  have b6 := F6.binds (ps := ["_law_found"]) fun _ _ _ _ _ _ us hl => match us, hl with | [_], _ => rfl
  refine ⟨PySem.W.fnOf "law" "law" (defArgs s_law) (defBody s_law) (defScope s_law) .none kV7 dc7 pm7 an7 cd7 ct7, fun s v => .of_eq rfl, fun base _ _ => law_ok (κ := ⟨K, fun i => [].getD i 0⟩) rfl ?ok hm⟩
  case ok =>
    have c_law_mixed : Cal l.prog w K mg base 1 "_law_mixed" (spF (⟨K, fun i => [].getD i 0⟩ : Cc) m_law_mixed) := cal_mk F1 (ok_law_mixed rfl  F1) (PySem.W.mg_of X G a1) b1
    have c_law_cell_at : Cal l.prog w K mg base 1 "_law_cell_at" (spF (⟨K, fun i => [].getD i 0⟩ : Cc) m_law_cell_at) := cal_mk F2 (ok_law_cell_at rfl z_len F2) (PySem.W.mg_of X G a2) b2
    have c_law_digits : Cal l.prog w K mg base 2 "_law_digits" (spN (⟨K, fun i => [].getD i 0⟩ : Cc) m_law_digits) := cal_mk F3 (ok_law_digits rfl z_abs z_range c_law_cell_at c_law_mixed F3) (PySem.W.mg_of X G a3) b3
    have c_sums_of : Cal l.prog w K mg base 1 "sums_of" (spF (⟨K, fun i => [].getD i 0⟩ : Cc) m_sums_of) := cal_mk F4 (ok_sums_of rfl z_enumerate F4) (PySem.W.mg_of X G a4) b4
    have c_law_due : Cal l.prog w K mg base 1 "_law_due" (spF (⟨K, fun i => [].getD i 0⟩ : Cc) m_law_due) := cal_mk F5 (ok_law_due rfl z_int z_min F5) (PySem.W.mg_of X G a5) b5
    have c_law_whole : Cal l.prog w K mg base 1 "_law_whole" (spF (⟨K, fun i => [].getD i 0⟩ : Cc) m_law_whole) := cal_mk F6 (ok_law_whole rfl z_bool z_int z_isinstance F6) (PySem.W.mg_of X G a6) b6
    exact ok_law (κ := ⟨K, fun i => [].getD i 0⟩) rfl z_isinstance z_tuple c_law_mixed c_law_cell_at c_law_digits c_sums_of c_law_due c_law_whole F7
end
end G

/-! K71b: the law's mathematics. -/
namespace G
open PySem L2
theorem cell_at (ns : List Int) (k : Int) (hk : 0 ≤ k) : ∃ v, m_law_cell_at (⟨ns⟩, k, ()) = .ok v := by
  unfold m_law_cell_at mb_law_cell_at
  dsimp only
  obtain ⟨j, rfl⟩ : ∃ j : Nat, k = j := ⟨k.toNat, by omega⟩
  by_cases h : j < ns.length
  · rw [if_pos (by simpa using h), ixR_nat (x := ns[j]) (by simp [h])]
    exact ⟨_, rfl⟩
  · rw [if_neg (by simpa using h)]
    exact ⟨0, rfl⟩
theorem mixed_math (c k : Int) (h0 : 0 ≤ k) (h1 : k ≤ 1000000) : ∃ v, m_law_mixed (c, k, ()) = .ok v ∧ 0 ≤ v ∧ v < 2147483587 := by
  unfold m_law_mixed mb_law_mixed
  dsimp only
  have k2 : 2 * k * k ≤ 2000000 * 1000000 := Int.mul_le_mul (by omega) h1 h0 (by omega)
  have k3 : 0 ≤ 2 * k * k := Int.mul_nonneg (by omega) h0
  rw [ifR_ok (mulG_of (m := 30) (n := 30) (by decide) (by decide) (by decide) (by omega) (by omega))]
  simp only [R.bind_ok]
  have c1 : 0 ≤ c % 2147483647 ∧ c % 2147483647 < 2147483647 := ⟨Int.emod_nonneg _ (by decide), Int.emod_lt_of_pos _ (by decide)⟩
  rw [ifR_ok (mulG_of (m := 40) (n := 60) (by decide) (by decide) (by decide) (by omega) (by omega))]
  simp only [R.bind_ok]
  generalize (c % 2147483647 + 19) * (48271 + 2 * k * k) = z
  have c2 : 0 ≤ z % 2147483629 ∧ z % 2147483629 < 2147483629 := ⟨Int.emod_nonneg _ (by decide), Int.emod_lt_of_pos _ (by decide)⟩
  rw [ifR_ok (mulG_of (m := 40) (n := 60) (by decide) (by decide) (by decide) (by omega) (by omega))]
  simp only [R.bind_ok]
  exact ⟨_, rfl, Int.emod_nonneg _ (by decide), Int.emod_lt_of_pos _ (by decide)⟩
theorem digits_math (ns : List Int) (at_ n : Nat) (ha : at_ ≤ 1000) (hn : n ≤ 100000) : ∃ l, m_law_digits (⟨ns⟩, (at_ : Int), (n : Int), ()) = .ok l ∧ l.length = n := by
  unfold m_law_digits mb_law_digits
  dsimp only
  obtain ⟨c1, h1⟩ := cell_at ns ((at_ : Int) + 1) (by omega)
  obtain ⟨c0, h0⟩ := cell_at ns (at_ : Int) (by omega)
  rw [h1, h0]
  simp only [R.bind_ok]
  rw [ifR_ok (.inl (.inr ⟨by omega, by omega⟩))]
  simp only [R.bind_ok]
  rw [ifR_ok (big_of (by omega) (by omega))]
  simp only [R.bind_ok]
  generalize (if c1 < 0 then -c1 else c1) * (1 - c0 % 2) = left
  obtain ⟨st, g1, g2, g3⟩ := loopR_I (γ := Empty) (ρ := List Int) (f := lb_law_digits_1 (⟨ns⟩, (at_ : Int), (n : Int), ())) (fun i st => st.1.length = i ∧ i ≤ n) (xs := rangeL 0 (n : Int)) (b0 := (([] : List Int), left)) ⟨rfl, Nat.zero_le _⟩ (by
    rintro i ⟨fo, le⟩ x hx ⟨hl, hi⟩
    obtain ⟨hx1, rfl⟩ := rangeL_get0 hx
    rw [Int.toNat_natCast] at hx1
    dsimp only at hl
    have hs : fo.length < sizeLine := by rw [sizeLine_eq]; omega
    unfold lb_law_digits_1
    dsimp only
    by_cases h : le > 0
    · rw [if_pos (by simpa using h), ifR_ok hs]
      exact ⟨_, .inl rfl, by simp [hl], by omega⟩
    · rw [if_neg (by simpa using h)]
      obtain ⟨c, hc⟩ := cell_at ns ((at_ : Int) + 1 + (i : Int) % 9) (by omega)
      rw [hc]
      simp only [R.bind_ok]
      obtain ⟨v, hv, _⟩ := mixed_math c (i : Int) (by omega) (by omega)
      rw [hv]
      simp only [R.bind_ok]
      rw [ifR_ok hs]
      exact ⟨_, .inl rfl, by simp [hl], by omega⟩)
  rw [g1]
  exact ⟨st.1, rfl, by rw [g2, rangeL_len0]; simp⟩
/-! the sums -/
def up (c : Nat) : Int := if c = 49 then 1 else -1
def Rel (i : Nat) (t : Tx) (s : Int × Int × Int) (d : Int × List Int) : Prop := s.1 = ((t.filter fun c => decide (c = 49)).length : Int) ∧ d.1 = s.2.1 ∧ ((i = 0 ∧ s.2.2 = 0 ∧ d.2 = []) ∨ (0 < i ∧ d.2 = [s.2.2]))
theorem step_s (i c : Nat) (s : Int × Int × Int) : lb_sums_of_1 s ⟨(i : Int), [c]⟩ = .ok (.nx (s.1 + (if c = 49 then 1 else 0), s.2.1 + up c, if i = 0 ∨ s.2.1 + up c < s.2.2 then s.2.1 + up c else s.2.2)) := by
  unfold lb_sums_of_1 up
  dsimp only
  by_cases h : c = 49
  · subst h
    rw [if_pos (by rfl)]
    simp only [R.bind_ok, seq_nx]
    by_cases q : i = 0 ∨ s.2.1 + 1 < s.2.2
    · rw [if_pos (by simp; omega)]
      simp [q]
    · rw [if_neg (by simp; omega)]
      simp [q]
  · rw [if_neg (by simpa using h)]
    simp only [R.bind_ok, seq_nx]
    by_cases q : i = 0 ∨ s.2.1 + -1 < s.2.2
    · rw [if_pos (by simp; omega)]
      simp [q, h]
      omega
    · rw [if_neg (by simp; omega)]
      simp [q, h]
      omega
theorem step_d (c : Nat) (d : Int × List Int) (h : d.2.length ≤ 1) : ∃ m, (d.2 ++ [d.1 + up c]).min? = some m ∧ lb_law_due_1 d [c] = .ok (.nx (d.1 + up c, [m])) := by
  unfold lb_law_due_1
  have e : ixR ((-(1 : Int)) :: ((1 : Int) :: ([] : (List Int)))) (if (decide (([c] : Tx) = ([49] : Tx))) = true then (1 : Int) else 0) = .ok (up c) := by
    unfold up
    by_cases h : c = 49
    · subst h
      rfl
    · have : decide (([c] : Tx) = [49]) = false := by simpa using h
      rw [this, if_neg h]
      rfl
  rw [e]
  simp only [R.bind_ok]
  have hm : ∃ m, (d.2 ++ [d.1 + up c]).min? = some m := by
    cases hq : (d.2 ++ [d.1 + up c]).min? with
    | none => rw [List.min?_eq_none_iff] at hq; simp at hq
    | some m => exact ⟨m, rfl⟩
  obtain ⟨m, hm⟩ := hm
  refine ⟨m, hm, ?_⟩
  rw [ifR_ok (by rw [sizeLine_eq]; simp; omega)]
  simp only [R.bind_ok]
  rw [hm]
  rfl
theorem loops (t : Tx) : ∃ s d, (loopR lb_sums_of_1 ((0 : Int), (0 : Int), (0 : Int)) (enumL (signs t)) : R (Fw (Int × Int × Int) Empty (T3 Int Int Int))) = .ok (.nx s) ∧ (loopR lb_law_due_1 ((0 : Int), ([] : List Int)) (signs t) : R (Fw (Int × (List Int)) Empty (T3 Int Int Int))) = .ok (.nx d) ∧ Rel t.length t s d := by
  have key : ∀ (u v : Tx) (s : Int × Int × Int) (d : Int × List Int), Rel u.length u s d → ∃ s' d', (loopR lb_sums_of_1 s ((enumL (signs (u ++ v))).drop u.length) : R (Fw (Int × Int × Int) Empty (T3 Int Int Int))) = .ok (.nx s') ∧ (loopR lb_law_due_1 d (signs v) : R (Fw (Int × (List Int)) Empty (T3 Int Int Int))) = .ok (.nx d') ∧ Rel (u ++ v).length (u ++ v) s' d' := by
    intro u v
    induction v generalizing u with
    | nil =>
      intro s d h
      refine ⟨s, d, ?_, rfl, by rw [List.append_nil]; exact h⟩
      rw [List.append_nil, List.drop_eq_nil_of_le (by rw [enumL_len]; simp [signs])]
      rfl
    | cons c v ih =>
      intro s d h
      have hlen : u.length < (enumL (signs (u ++ c :: v))).length := by rw [enumL_len]; simp [signs]
      have hd : (enumL (signs (u ++ c :: v))).drop u.length = ⟨(u.length : Int), [c]⟩ :: (enumL (signs (u ++ c :: v))).drop (u.length + 1) := by
        rw [List.drop_eq_getElem_cons hlen]
        congr 1
        have hg : (enumL (signs (u ++ c :: v)))[u.length]? = some (enumL (signs (u ++ c :: v)))[u.length] := by simp [hlen]
        obtain ⟨y, hy, e⟩ := enumL_get hg
        rw [e]
        unfold signs at hy
        simp at hy
        rw [← hy]
      have hl : d.2.length ≤ 1 := by
        rcases h.2.2 with ⟨_, _, e⟩ | ⟨_, e⟩ <;> rw [e] <;> simp
      obtain ⟨m, hm, hs⟩ := step_d c d hl
      have hr : Rel (u ++ [c]).length (u ++ [c]) (s.1 + (if c = 49 then 1 else 0), s.2.1 + up c, if u.length = 0 ∨ s.2.1 + up c < s.2.2 then s.2.1 + up c else s.2.2) (d.1 + up c, [m]) := by
        refine ⟨?_, by rw [h.2.1], .inr ⟨by simp, ?_⟩⟩
        · rw [List.filter_append, List.length_append, h.1]
          by_cases h49 : c = 49 <;> simp [h49]
        · have hmm : m = if u.length = 0 ∨ s.2.1 + up c < s.2.2 then s.2.1 + up c else s.2.2 := by
            rw [h.2.1] at hm
            rcases h.2.2 with ⟨e0, _, e⟩ | ⟨e0, e⟩
            · rw [e] at hm
              simp at hm
              rw [if_pos (.inl e0)]
              exact hm.symm
            · rw [e] at hm
              simp [List.min?_cons] at hm
              have : ¬ u.length = 0 := by omega
              split <;> omega
          rw [hmm]
      obtain ⟨s', d', g1, g2, g3⟩ := ih (u ++ [c]) _ _ hr
      have e1 : u ++ [c] ++ v = u ++ c :: v := by simp
      rw [e1] at g1 g3
      have e2 : (u ++ [c]).length = u.length + 1 := by simp
      rw [e2] at g1
      refine ⟨s', d', ?_, ?_, g3⟩
      · rw [hd, loopR, step_s]
        exact g1
      · show loopR lb_law_due_1 d ([c] :: signs v) = _
        rw [loopR, hs]
        exact g2
  obtain ⟨s, d, h1, h2, h3⟩ := key [] t (0, 0, 0) (0, []) ⟨rfl, rfl, .inl ⟨rfl, rfl, rfl⟩⟩
  exact ⟨s, d, h1, h2, h3⟩
theorem same (t : Tx) : ∃ x, m_sums_of (t, ()) = .ok x ∧ m_law_due (t, ()) = .ok x := by
  obtain ⟨s, d, h1, h2, h3, h4, h5⟩ := loops t
  refine ⟨T3.mk s.1 s.2.1 s.2.2, ?_, ?_⟩
  · unfold m_sums_of mb_sums_of
    simp only [R.bind_ok]
    rw [h1]
    rfl
  · unfold m_law_due mb_law_due
    simp only [R.bind_ok]
    rw [h2]
    simp only [R.bind_ok, seq_nx]
    have e : ixR (d.2 ++ [(0 : Int)]) 0 = .ok s.2.2 ∧ d.2.length ≤ 1 := by
      rcases h5 with ⟨_, e0, e⟩ | ⟨_, e⟩
      · rw [e, e0]; exact ⟨rfl, by simp⟩
      · rw [e]; exact ⟨rfl, by simp⟩
    rw [ifR_ok (by rw [sizeLine_eq]; simp; omega)]
    simp only [R.bind_ok]
    rw [show ((0 : Int) :: ([] : List Int)) = [0] from rfl, e.1, cntT_eq, ← h3, h4]
    rfl
theorem some_math (t : Tx) : lb_law_1 () t = .ok (.nx ()) := by
  obtain ⟨x, h1, h2⟩ := same t
  unfold lb_law_1
  rw [h1]
  simp only [R.bind_ok]
  rw [h2]
  simp only [R.bind_ok, decide_true, Bool.not_true, orR_f]
  rw [if_neg Bool.false_ne_true, ifR_ok (by rw [sizeLine_eq]; simp [t3L])]
  simp only [R.bind_ok]
  have e := compR_filter (t := fun (one_17 : Int) => (R.bind (m_law_whole (one_17, ())) fun (t18 : Bool) => (R.ok (!t18)))) (f := fun (one_17 : Int) => (R.ok one_17)) (p := fun _ => false) (g := fun x => x) (xs := t3L x) (fun x _ => ⟨rfl, fun h => by cases h⟩)
  rw [e]
  have e2 : (t3L x).filter (fun _ => false) = [] := by simp [t3L]
  rw [e2]
  rfl
theorem mod2 (x : Int) : x % 2 = 0 ∨ x % 2 = 1 := by omega
theorem ix01 (x : Int) : ixT ([48, 49] : Tx) (x % 2) = .ok [if x % 2 = 0 then 48 else 49] := by
  rcases mod2 x with h | h <;> rw [h] <;> rfl
theorem math (ns : List Int) (h : ns.length ≤ 63) : m_law (⟨ns⟩, ()) = .ok true := by
  unfold m_law mb_law
  dsimp only
  obtain ⟨c0, h0⟩ := cell_at ns 0 (by decide)
  obtain ⟨c1, h1⟩ := cell_at ns 1 (by decide)
  rw [h0]
  simp only [R.bind_ok]
  obtain ⟨v, hv, v0, _⟩ := mixed_math c0 1 (by decide) (by decide)
  rw [hv]
  simp only [R.bind_ok]
  obtain ⟨n, hn⟩ : ∃ n : Nat, v % 61 = (n : Int) := ⟨(v % 61).toNat, by omega⟩
  have nl : n ≤ 60 := by omega
  obtain ⟨l, hl, ll⟩ := digits_math ns 2 n (by decide) (by omega)
  rw [hn, show (2 : Int) = ((2 : Nat) : Int) from rfl, hl]
  simp only [R.bind_ok]
  rw [ifR_ok (by rw [sizeLine_eq]; omega), R.bind_ok]
  have hc := compR_ok (t := fun (digit_5 : Int) => (R.ok true)) (f := fun (digit_5 : Int) => (ixT ([48, 49] : Tx) (digit_5 % (((2 : Nat) : Int))))) (g := fun x : Int => ([if x % 2 = 0 then 48 else 49] : Tx)) (xs := l) (fun x _ => ⟨rfl, ix01 x⟩)
  rw [hc]
  simp only [R.bind_ok]
  have e1 : ∀ xs : List Int, ((xs.map fun x : Int => ([if x % 2 = 0 then 48 else 49] : Tx)).map List.length).sum = xs.length := fun xs => by
    induction xs with
    | nil => rfl
    | cons x xs ih => rw [List.map_cons, List.map_cons, List.sum_cons, ih, List.length_cons]; simp; omega
  rw [ifR_ok (by rw [e1, ll]; simp; omega)]
  simp only [R.bind_ok]
  have jl : (joinT [] (l.map fun x : Int => ([if x % 2 = 0 then 48 else 49] : Tx))).length ≤ 60 := by
    unfold joinT
    refine Nat.le_trans joinL_len ?_
    rw [e1, ll]
    simp
    omega
  generalize joinT [] (l.map fun x : Int => ([if x % 2 = 0 then 48 else 49] : Tx)) = text at jl
  rw [h1]
  simp only [R.bind_ok]
  obtain ⟨m, hm⟩ : ∃ m : Nat, ((2 : Nat) : Int) + c1 % 3 = (m : Int) := ⟨(((2 : Nat) : Int) + c1 % 3).toNat, by omega⟩
  have ml : m ≤ 4 := by omega
  rw [hm, Int.toNat_natCast]
  have hp : m * text.length ≤ 4 * 60 := Nat.mul_le_mul ml jl
  rw [ifR_ok (by rw [sizeLine_eq]; exact ⟨by omega, by omega, by omega⟩)]
  simp only [R.bind_ok]
  obtain ⟨b, h3, _⟩ := loopR_A (γ := Empty) (ρ := Bool) (f := lb_law_1) (fun _ => True) (xs := text :: repT text (m : Int) :: revT text :: ([] : Tx) :: []) (b0 := ()) trivial (by
    rintro u x hx _
    exact ⟨(), .inl (some_math x), trivial⟩)
  rw [h3]
  rfl
end G

open PySem PySem.W PyProof.Rows
set_option maxRecDepth 100000 in
set_option maxHeartbeats 0 in
theorem PySem.Challenge.cw_tightwood_k71_sums_holds : PySem.Challenge.rw_tightwood_k71_sums.Holds := by
  w_on; o_law; k_head; (case hw => w_witness2)
  k_fill
  refine G.walk_law (l := PySem.Challenge.rw_tightwood_k71_sums) (k := 3) (x := "_law_script") rfl rfl ⟨rfl, by decide, by decide⟩ (fun w h Y => PySem.W.kIn_of Y) ?F
  case F =>
    intro w mg fa h KX GG hmg
    refine' G.all_mk KX GG hmg G.math ?a1 ?l1 ?c1 ?k1 ?a2 ?l2 ?c2 ?k2 ?a3 ?l3 ?c3 ?k3 ?a4 ?l4 ?c4 ?k4 ?a5 ?l5 ?c5 ?k5 ?a6 ?l6 ?c6 ?k6 ?a7 ?l7 ?c7 ?k7 ?zabs ?zbool ?zenumerate ?zint ?zisinstance ?zlen ?zmin ?zrange ?ztuple
    (case a1 => k_is)
    (case l1 => k_is)
    (case c1 => k_is)
    (case k1 => k_is)
    (case a2 => k_is)
    (case l2 => k_is)
    (case c2 => k_is)
    (case k2 => k_is)
    (case a3 => k_is)
    (case l3 => k_is)
    (case c3 => k_is)
    (case k3 => k_is)
    (case a4 => k_is)
    (case l4 => k_is)
    (case c4 => k_is)
    (case k4 => k_is)
    (case a5 => k_is)
    (case l5 => k_is)
    (case c5 => k_is)
    (case k5 => k_is)
    (case a6 => k_is)
    (case l6 => k_is)
    (case c6 => k_is)
    (case k6 => k_is)
    (case a7 => k_is)
    (case l7 => k_is)
    (case c7 => k_is)
    (case k7 => k_is)
    (case zabs => k_is)
    (case zbool => k_is)
    (case zenumerate => k_is)
    (case zint => k_is)
    (case zisinstance => k_is)
    (case zlen => k_is)
    (case zmin => k_is)
    (case zrange => k_is)
    (case ztuple => k_is)

