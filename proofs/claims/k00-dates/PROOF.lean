import PyProof.Rows.All
import HandS.ForMost
import HandS.Style
import HandS.Exc
import HandS.ExcOwn
import HandS.WordsExc
import HandS.ExcInit
import HandS.ExcField
import HandS.ClsMeth
import PySem.Challenge.RW_slotwork_k00_whole_dates_there_and_back
set_option Elab.async false
set_option linter.all false
set_option maxRecDepth 100000
set_option maxHeartbeats 4000000
set_option autoImplicit false
/-! S3: value semantics over the hand layer: slots that hold frozen typed values or owned containers. -/
namespace S3
open PySem PySem.Spec PyProof.Rows L2

abbrev Fg := PySem.W.Frag

/-! ### frozen values -/
structure SD where
  p : Fg → V → Hp → Prop
  mono : ∀ {K v F F'}, p K v F → Same F F' → p K v F'
class Rp (α : Type) where
  rep : Fg → α → V → Hp → Prop
  mono : ∀ {K x v F F'}, rep K x v F → Same F F' → rep K x v F'
def sd {α : Type} [Rp α] (x : α) : SD := ⟨fun K v F => Rp.rep K x v F, fun h m => Rp.mono h m⟩

theorem SqTmono {K : Fg} {F F' : Hp} {a : Addr} {xs : List V} (h : SqT K F a xs) (m : Same F F') : SqT K F' a xs := by
  rcases h with (h | ⟨o, h⟩) | h
  · exact .inl (.inl (m _ _ h))
  · exact .inl (.inr ⟨o, m _ _ h⟩)
  · exact .inr h
theorem SqLmono {K : Fg} {F F' : Hp} {a : Addr} {xs : List V} (h : SqL K F a xs) (m : Same F F') : SqL K F' a xs := m.seq h

instance : Rp Int := ⟨fun _ x v _ => v = .int x, fun h _ => h⟩
instance : Rp Bool := ⟨fun _ x v _ => v = .bl x, fun h _ => h⟩
instance : Rp Str := ⟨fun _ x v _ => v = .str x, fun h _ => h⟩
instance : Rp Unit := ⟨fun _ _ v _ => v = .non, fun h _ => h⟩
def optRep {α : Type} [Rp α] (K : Fg) (x : Option α) (v : V) (F : Hp) : Prop := match x with
  | none => v = .non
  | some y => Rp.rep K y v F
instance {α : Type} [Rp α] : Rp (Option α) := ⟨optRep, fun {K x v F F'} h m => by
  cases x with
  | none => exact h
  | some y => exact Rp.mono (show Rp.rep K y v F from h) m⟩
abbrev Reps {α : Type} [Rp α] (K : Fg) (F : Hp) : List α → List V → Prop := Paired fun (x : α) (v : V) => Rp.rep K x v F
theorem Reps.mono {α : Type} [Rp α] {K : Fg} {F F' : Hp} {xs : List α} {vs : List V} (h : Reps K F xs vs) (m : Same F F') : Reps K F' xs vs := Paired.mapP h fun _ _ r => Rp.mono r m
theorem Reps.length {α : Type} [Rp α] {K : Fg} {F : Hp} {xs : List α} {vs : List V} (h : Reps K F xs vs) : xs.length = vs.length := Paired.length h
instance {α : Type} [Rp α] : Rp (List α) := ⟨fun K xs v F => ∃ a vs, v = .ref a ∧ F a = some (.lst vs) ∧ Reps K F xs vs, fun ⟨a, vs, e, h, r⟩ m => ⟨a, vs, e, m _ _ h, r.mono m⟩⟩
/-- a list that is only read: the script, a module's list -/
structure Ro (α : Type) where
  l : List α
instance {α : Type} [Rp α] : Rp (Ro α) := ⟨fun K xs v F => ∃ a vs, v = .ref a ∧ SqL K F a vs ∧ Reps K F xs.l vs, fun ⟨a, vs, e, h, r⟩ m => ⟨a, vs, e, SqLmono h m, r.mono m⟩⟩
/-- a tuple of any length, items of one type -/
structure Tp (α : Type) where
  l : List α
  deriving DecidableEq, Inhabited
instance {α : Type} [Rp α] : Rp (Tp α) := ⟨fun K xs v F => ∃ a vs, v = .ref a ∧ SqT K F a vs ∧ Reps K F xs.l vs, fun ⟨a, vs, e, h, r⟩ m => ⟨a, vs, e, SqTmono h m, r.mono m⟩⟩
instance {α β : Type} [Rp α] [Rp β] : Rp (α × β) := ⟨fun K x v F => ∃ a u w, v = .ref a ∧ F a = some (.tup [u, w]) ∧ Rp.rep K x.1 u F ∧ Rp.rep K x.2 w F,
  fun ⟨a, u, w, e, h, r1, r2⟩ m => ⟨a, u, w, e, m _ _ h, Rp.mono r1 m, Rp.mono r2 m⟩⟩
structure T3 (α β γ : Type) where
  a : α
  b : β
  c : γ
  deriving DecidableEq, Inhabited
instance {α β γ : Type} [Rp α] [Rp β] [Rp γ] : Rp (T3 α β γ) := ⟨fun K x v F => ∃ a u w z, v = .ref a ∧ F a = some (.tup [u, w, z]) ∧ Rp.rep K x.a u F ∧ Rp.rep K x.b w F ∧ Rp.rep K x.c z F,
  fun ⟨a, u, w, z, e, h, r1, r2, r3⟩ m => ⟨a, u, w, z, e, m _ _ h, Rp.mono r1 m, Rp.mono r2 m, Rp.mono r3 m⟩⟩

/-! ### owned things: an assertion of value, footprint, heap, frozen heap -/
structure OA where
  P : Fg → V → List Addr → Hp → Hp → Prop
  loc : ∀ {K v A H F H' F'}, P K v A H F → (∀ a ∈ A, H' a = H a) → Same F F' → P K v A H' F'
  live : ∀ {K v A H F}, P K v A H F → ∀ a ∈ A, ∃ o, H a = some o
inductive Sl where
  | any
  | fz (d : SD)
  | ow (o : OA)
instance : Inhabited Sl := ⟨.any⟩
/-- a frozen value -/
abbrev fz {α : Type} [Rp α] (x : α) : Sl := .fz (sd x)
def OA.at (o : OA) (u : V) : OA := ⟨fun K v A H F => v = u ∧ o.P K v A H F, fun ⟨e, h⟩ k m => ⟨e, o.loc h k m⟩, fun ⟨_, h⟩ => o.live h⟩
def OA.pin (o : OA) : Option V → OA
  | none => o
  | some u => o.at u

def SlOk (K : Fg) (s : Sl) (v : V) (A : List Addr) (H F : Hp) : Prop := match s with
  | .any => A = []
  | .fz d => A = [] ∧ d.p K v F
  | .ow o => o.P K v A H F
theorem SlOk.loc {K : Fg} {s : Sl} {v : V} {A : List Addr} {H F H' F' : Hp} (h : SlOk K s v A H F) (k : ∀ a ∈ A, H' a = H a) (m : Same F F') : SlOk K s v A H' F' := by
  cases s with
  | any => exact h
  | fz d => exact ⟨h.1, d.mono h.2 m⟩
  | ow o => exact o.loc h k m
theorem SlOk.live {K : Fg} {s : Sl} {v : V} {A : List Addr} {H F : Hp} (h : SlOk K s v A H F) : ∀ a ∈ A, ∃ o, H a = some o := by
  cases s with
  | any => intro a ha; rw [show A = [] from h] at ha; cases ha
  | fz d => intro a ha; rw [h.1] at ha; cases ha
  | ow o => exact o.live h

def isD (o : HO) : Prop := (∃ kvs, o = .dK kvs) ∨ ∃ kvs, o = .dT kvs

/-- the base of a stretch of code: what is owned, frozen, there at its beginning; the dicts that it holds locked now -/
structure Bs where
  A0 : Addr → Prop
  F0 : Hp
  H0 : Hp
  L : List Addr

structure Sat (K : Fg) (B : Bs) (env : List Sl) (σ : L2.St) (H F : Hp) (As : Nat → List Addr) : Prop where
  len : env.length = σ.length
  sub : ∀ a o, F a = some o → H a = some o ∨ (isD o ∧ ∃ ob, H a = some (.frz ob o))
  sl : ∀ (i : Nat) (s : Sl), env[i]? = some s → (s = .any ∧ As i = []) ∨ ∃ v, σ[i]? = some (some v) ∧ SlOk K s v (As i) H F
  dj : ∀ i j a, a ∈ As i → a ∈ As j → i = j
  own : ∀ i a, a ∈ As i → F a = none
  out : ∀ i, env.length ≤ i → As i = []
  fro : Same B.F0 F
  frame : ∀ a o, B.H0 a = some o → ¬ B.A0 a → (a ∉ B.L → H a = some o) ∧ (a ∈ B.L → isD o ∧ ∃ ob, H a = some (.frz ob o))
  orig : ∀ i a, a ∈ As i → B.A0 a ∨ B.H0 a = none
  forig : ∀ a o, F a = some o → (∃ o', B.F0 a = some o') ∨ B.A0 a ∨ B.H0 a = none

def SatE (K : Fg) (B : Bs) (env : List Sl) (σ : L2.St) (H : Hp) : Prop := ∃ F As, Sat K B env σ H F As

theorem Sat.live {K : Fg} {B : Bs} {env : List Sl} {σ : L2.St} {H F : Hp} {As : Nat → List Addr} (h : Sat K B env σ H F As) (i : Nat) (a : Addr) (ha : a ∈ As i) : ∃ o, H a = some o := by
  cases e : env[i]? with
  | none =>
    rw [h.out i (List.getElem?_eq_none_iff.mp e)] at ha; cases ha
  | some s =>
    rcases h.sl i s e with ⟨_, z⟩ | ⟨v, _, k⟩
    · rw [z] at ha; cases ha
    · exact k.live a ha

/-- what a frozen list or tuple is read from in the heap -/
theorem Sat.rdL {K : Fg} {B : Bs} {env : List Sl} {σ : L2.St} {H F : Hp} {As : Nat → List Addr} (h : Sat K B env σ H F As) {a : Addr} {xs : List V} (q : SqL K F a xs) : SqL K H a xs := by
  rcases q with (q | ⟨o, q⟩) | q
  · rcases h.sub a _ q with e | ⟨d, _⟩
    · exact .inl (.inl e)
    · rcases d with ⟨_, z⟩ | ⟨_, z⟩ <;> cases z
  · rcases h.sub a _ q with e | ⟨d, _⟩
    · exact .inl (.inr ⟨o, e⟩)
    · rcases d with ⟨_, z⟩ | ⟨_, z⟩ <;> cases z
  · exact .inr q
theorem Sat.rdT {K : Fg} {B : Bs} {env : List Sl} {σ : L2.St} {H F : Hp} {As : Nat → List Addr} (h : Sat K B env σ H F As) {a : Addr} {xs : List V} (q : SqT K F a xs) : SqT K H a xs := by
  rcases q with (q | ⟨o, q⟩) | q
  · rcases h.sub a _ q with e | ⟨d, _⟩
    · exact .inl (.inl e)
    · rcases d with ⟨_, z⟩ | ⟨_, z⟩ <;> cases z
  · rcases h.sub a _ q with e | ⟨d, _⟩
    · exact .inl (.inr ⟨o, e⟩)
    · rcases d with ⟨_, z⟩ | ⟨_, z⟩ <;> cases z
  · exact .inr q
theorem Sat.noF {K : Fg} {B : Bs} {env : List Sl} {σ : L2.St} {H F : Hp} {As : Nat → List Addr} (h : Sat K B env σ H F As) {p : Addr} (hp : H p = none) : F p = none := by
  cases e : F p with
  | none => rfl
  | some o =>
    rcases h.sub p o e with z | ⟨_, ob, z⟩
    · rw [hp] at z; cases z
    · rw [hp] at z; cases z
theorem Sat.noA {K : Fg} {B : Bs} {env : List Sl} {σ : L2.St} {H F : Hp} {As : Nat → List Addr} (h : Sat K B env σ H F As) {p : Addr} (hp : H p = none) (i : Nat) : p ∉ As i := fun z => by
  obtain ⟨o, e⟩ := h.live i p z
  rw [hp] at e; cases e

theorem Sat.rdX {K : Fg} {B : Bs} {env : List Sl} {σ : L2.St} {H F : Hp} {As : Nat → List Addr} (h : Sat K B env σ H F As) {a : Addr} {xs : List V} (q : F a = some (.lst xs)) : H a = some (.lst xs) := by
  rcases h.sub a _ q with e | ⟨d, _⟩
  · exact e
  · rcases d with ⟨_, z⟩ | ⟨_, z⟩ <;> cases z

theorem Sat.key {K : Fg} {B : Bs} {env : List Sl} {σ : L2.St} {H F : Hp} {As : Nat → List Addr} (h : Sat K B env σ H F As) {a : Addr} (z : H a = none) : B.A0 a ∨ B.H0 a = none := by
  by_cases q : B.A0 a
  · exact .inl q
  · right
    cases e : B.H0 a with
    | none => rfl
    | some o =>
      obtain ⟨f1, f2⟩ := h.frame a o e q
      by_cases l : a ∈ B.L
      · obtain ⟨_, ob, e2⟩ := f2 l; rw [z] at e2; cases e2
      · have := f1 l; rw [z] at this; cases this

theorem Sat.rdY {K : Fg} {B : Bs} {env : List Sl} {σ : L2.St} {H F : Hp} {As : Nat → List Addr} (h : Sat K B env σ H F As) {a : Addr} {xs : List V} (q : F a = some (.tup xs)) : H a = some (.tup xs) := by
  rcases h.sub a _ q with e | ⟨d, _⟩
  · exact e
  · rcases d with ⟨_, z⟩ | ⟨_, z⟩ <;> cases z

/-! ### the base of now -/
def nowB (As : Nat → List Addr) (F H : Hp) : Bs := ⟨fun a => ∃ i, a ∈ As i, F, H, []⟩
theorem Sat.now {K : Fg} {B : Bs} {env : List Sl} {σ : L2.St} {H F : Hp} {As : Nat → List Addr} (h : Sat K B env σ H F As) : Sat K (nowB As F H) env σ H F As :=
  ⟨h.len, h.sub, h.sl, h.dj, h.own, h.out, Same.refl _, fun a o e _ => ⟨fun _ => e, fun z => nomatch z⟩, fun i a ha => .inl ⟨i, ha⟩, fun a o e => .inl ⟨o, e⟩⟩
/-- from now on, then from the base -/
theorem Sat.trans {K : Fg} {B : Bs} {env env2 : List Sl} {σ σ2 : L2.St} {H F H2 F2 : Hp} {As As2 : Nat → List Addr} (h : Sat K B env σ H F As) (h2 : Sat K (nowB As F H) env2 σ2 H2 F2 As2) : Sat K B env2 σ2 H2 F2 As2 := by
  have key : ∀ a, (∃ i, a ∈ As i) ∨ H a = none → B.A0 a ∨ B.H0 a = none := fun a z => by
    rcases z with ⟨i, z⟩ | z
    · exact h.orig i a z
    · by_cases q : B.A0 a
      · exact .inl q
      · right
        cases e : B.H0 a with
        | none => rfl
        | some o =>
          obtain ⟨f1, f2⟩ := h.frame a o e q
          by_cases l : a ∈ B.L
          · obtain ⟨_, ob, e2⟩ := f2 l; rw [z] at e2; cases e2
          · have := f1 l; rw [z] at this; cases this
  refine ⟨h2.len, h2.sub, h2.sl, h2.dj, h2.own, h2.out, h.fro.trans h2.fro, fun a o e q => ?_, fun i a ha => key a (h2.orig i a ha), fun a o e => ?_⟩
  · obtain ⟨f1, f2⟩ := h.frame a o e q
    have nA : ¬ (nowB As F H).A0 a := fun ⟨i, hi⟩ => by
      rcases h.orig i a hi with z | z
      · exact q z
      · rw [e] at z; cases z
    refine ⟨fun l => ((h2.frame a o (f1 l) nA).1 fun z => nomatch z), fun l => ?_⟩
    obtain ⟨d, ob, e2⟩ := f2 l
    exact ⟨d, ob, (h2.frame a _ e2 nA).1 fun z => nomatch z⟩
  · rcases h2.forig a o e with ⟨o', z⟩ | z | z
    · exact h.forig a o' z
    · exact .inr (key a (.inl z))
    · exact .inr (key a (.inr z))

/-! ### slots: dropping, moving -/
theorem Sat.tail {K : Fg} {B : Bs} {r : Sl} {env : List Sl} {x : Option V} {σ : L2.St} {H F : Hp} {As : Nat → List Addr} (h : Sat K B (r :: env) (x :: σ) H F As) : Sat K B env σ H F (fun i => As (i + 1)) :=
  ⟨by have := h.len; simpa using this, h.sub, fun i s e => h.sl (i + 1) s (by simpa using e), fun i j a p q => by have := h.dj _ _ a p q; omega, fun i a z => h.own _ a z, fun i z => h.out _ (by simp; omega),
    h.fro, h.frame, fun i a z => h.orig _ a z, h.forig⟩
theorem Sat.head {K : Fg} {B : Bs} {r : Sl} {env : List Sl} {v : V} {σ : L2.St} {H F : Hp} {As : Nat → List Addr} (h : Sat K B (r :: env) (some v :: σ) H F As) : SlOk K r v (As 0) H F := by
  rcases h.sl 0 r rfl with ⟨e, z⟩ | ⟨u, e, k⟩
  · subst e; exact z
  · have e' : v = u := by simpa using e
    subst e'; exact k
/-- a frozen value beside -/
theorem Sat.cons {K : Fg} {B : Bs} {d : SD} {env : List Sl} {v : V} {σ : L2.St} {H F : Hp} {As : Nat → List Addr} (h : Sat K B env σ H F As) (hd : d.p K v F) : Sat K B (.fz d :: env) (some v :: σ) H F (fun i => match i with | 0 => [] | j + 1 => As j) := by
  refine ⟨by simpa using h.len, h.sub, fun i s e => ?_, fun i j a p q => ?_, fun i a z => ?_, fun i z => ?_, h.fro, h.frame, fun i a z => ?_, h.forig⟩
  · cases i with
    | zero =>
      have e' : Sl.fz d = s := by simpa using e
      subst e'
      exact .inr ⟨v, rfl, rfl, hd⟩
    | succ j => exact h.sl j s (by simpa using e)
  · cases i with
    | zero => cases p
    | succ i => cases j with
      | zero => cases q
      | succ j => exact congrArg (· + 1) (h.dj i j a p q)
  · cases i with
    | zero => cases z
    | succ i => exact h.own i a z
  · cases i with
    | zero => rfl
    | succ i => exact h.out i (by simpa using z)
  · cases i with
    | zero => cases z
    | succ i => exact h.orig i a z
/-- the head moves into the slot i -/
theorem Sat.move {K : Fg} {B : Bs} {r : Sl} {env : List Sl} {v : V} {σ : L2.St} {H F : Hp} {As : Nat → List Addr} {i : Nat} (h : Sat K B (r :: env) (some v :: σ) H F As) (hi : i < env.length) :
    Sat K B (env.set i r) (σ.set i (some v)) H F (fun j => if j = i then As 0 else As (j + 1)) := by
  have hl : env.length = σ.length := by have := h.len; simpa using this
  refine ⟨by simpa using hl, h.sub, fun j s e => ?_, fun j k a p q => ?_, fun j a z => ?_, fun j z => ?_, h.fro, h.frame, fun j a z => ?_, h.forig⟩
  · by_cases hj : j = i
    · subst hj
      rw [List.getElem?_set_self hi] at e
      have e' : r = s := Option.some.inj e
      subst e'
      right
      refine ⟨v, by rw [List.getElem?_set_self (by omega)], ?_⟩
      rw [if_pos rfl]
      exact h.head
    · rw [List.getElem?_set_ne (Ne.symm hj)] at e
      rcases h.sl (j + 1) s (by simpa using e) with ⟨z1, z2⟩ | ⟨u, z1, z2⟩
      · left; refine ⟨z1, ?_⟩; rw [if_neg hj]; exact z2
      · right
        refine ⟨u, ?_, ?_⟩
        · rw [List.getElem?_set_ne (Ne.symm hj)]; simpa using z1
        · rw [if_neg hj]; exact z2
  · by_cases hj : j = i
    · by_cases hk : k = i
      · omega
      · rw [if_pos hj] at p; rw [if_neg hk] at q
        have := h.dj _ _ a p q; omega
    · by_cases hk : k = i
      · rw [if_neg hj] at p; rw [if_pos hk] at q
        have := h.dj _ _ a p q; omega
      · rw [if_neg hj] at p; rw [if_neg hk] at q
        have := h.dj _ _ a p q; omega
  · by_cases hj : j = i
    · rw [if_pos hj] at z; exact h.own _ a z
    · rw [if_neg hj] at z; exact h.own _ a z
  · have z' : env.length ≤ j := by simpa using z
    show (if j = i then As 0 else As (j + 1)) = []
    rw [if_neg (by omega)]
    exact h.out _ (by simp; omega)
  · by_cases hj : j = i
    · rw [if_pos hj] at z; exact h.orig _ a z
    · rw [if_neg hj] at z; exact h.orig _ a z
/-- a slot is forgotten -/
theorem Sat.drop {K : Fg} {B : Bs} {env : List Sl} {σ : L2.St} {H F : Hp} {As : Nat → List Addr} {i : Nat} (h : Sat K B env σ H F As) : Sat K B (env.set i .any) σ H F (fun j => if j = i then [] else As j) := by
  refine ⟨by simpa using h.len, h.sub, fun j s e => ?_, fun j k a p q => ?_, fun j a z => ?_, fun j z => ?_, h.fro, h.frame, fun j a z => ?_, h.forig⟩
  · by_cases hj : j = i
    · left
      subst hj
      refine ⟨?_, if_pos rfl⟩
      by_cases hl : j < env.length
      · rw [List.getElem?_set_self hl] at e; exact (Option.some.inj e).symm
      · rw [List.getElem?_eq_none (by simpa using Nat.le_of_not_lt hl)] at e; cases e
    · rw [List.getElem?_set_ne (Ne.symm hj)] at e
      rw [if_neg hj]
      exact h.sl j s e
  · by_cases hj : j = i
    · rw [if_pos hj] at p; cases p
    · by_cases hk : k = i
      · rw [if_pos hk] at q; cases q
      · rw [if_neg hj] at p; rw [if_neg hk] at q; exact h.dj _ _ a p q
  · by_cases hj : j = i
    · rw [if_pos hj] at z; cases z
    · rw [if_neg hj] at z; exact h.own _ a z
  · show (if j = i then [] else As j) = []
    by_cases hj : j = i
    · rw [if_pos hj]
    · rw [if_neg hj]; exact h.out j (by simpa using z)
  · by_cases hj : j = i
    · rw [if_pos hj] at z; cases z
    · rw [if_neg hj] at z; exact h.orig _ a z

/-! ### the heap grows by a new object -/
/-- a new owned object at the head -/
theorem Sat.fresh {K : Fg} {B : Bs} {env : List Sl} {σ : L2.St} {H F : Hp} {As : Nat → List Addr} {p : Addr} {ob : HO} {o : OA} (h : Sat K B env σ H F As) (hp : H p = none) (ho : o.P K (.ref p) [p] (upd H p ob) F) :
    Sat K B (.ow o :: env) (some (.ref p) :: σ) (upd H p ob) F (fun i => match i with | 0 => [p] | j + 1 => As j) := by
  have fp := h.noF hp
  have np := fun i => h.noA hp i
  refine ⟨by simpa using h.len, fun a ob' e => ?_, fun i s e => ?_, fun i j a q1 q2 => ?_, fun i a z => ?_, fun i z => ?_, h.fro, fun a ob' e q => ?_, fun i a z => ?_, h.forig⟩
  · have : a ≠ p := fun z => by rw [z, fp] at e; cases e
    rw [upd_ne this]
    exact h.sub a ob' e
  · cases i with
    | zero =>
      have e' : Sl.ow o = s := by simpa using e
      subst e'
      exact .inr ⟨_, rfl, ho⟩
    | succ j =>
      rcases h.sl j s (by simpa using e) with z | ⟨v, z1, z2⟩
      · exact .inl z
      · exact .inr ⟨v, by simpa using z1, z2.loc (fun a ha => upd_ne fun z => np j (z ▸ ha)) (Same.refl _)⟩
  · cases i with
    | zero =>
      cases j with
      | zero => rfl
      | succ j =>
        have : a = p := by simpa using q1
        subst this
        exact absurd q2 (np j)
    | succ i =>
      cases j with
      | zero =>
        have : a = p := by simpa using q2
        subst this
        exact absurd q1 (np i)
      | succ j => exact congrArg (· + 1) (h.dj i j a q1 q2)
  · cases i with
    | zero =>
      have : a = p := by simpa using z
      subst this; exact fp
    | succ i => exact h.own i a z
  · cases i with
    | zero => simp at z
    | succ i => exact h.out i (by simpa using z)
  · obtain ⟨f1, f2⟩ := h.frame a ob' e q
    have ap : a ≠ p := fun z => by
      subst z
      by_cases l : a ∈ B.L
      · obtain ⟨_, x, e2⟩ := f2 l; rw [hp] at e2; cases e2
      · have := f1 l; rw [hp] at this; cases this
    rw [upd_ne ap]
    exact ⟨f1, f2⟩
  · cases i with
    | zero =>
      have : a = p := by simpa using z
      subst this
      by_cases q : B.A0 a
      · exact .inl q
      · right
        cases e : B.H0 a with
        | none => rfl
        | some o' =>
          obtain ⟨f1, f2⟩ := h.frame a o' e q
          by_cases l : a ∈ B.L
          · obtain ⟨_, x, e2⟩ := f2 l; rw [hp] at e2; cases e2
          · have := f1 l; rw [hp] at this; cases this
    | succ i => exact h.orig i a z
def addF (F : Hp) (a : Addr) (o : HO) : Hp := upd F a o
/-- an owned object of a slot is frozen -/
theorem Sat.freeze {K : Fg} {B : Bs} {env : List Sl} {σ : L2.St} {H F : Hp} {As : Nat → List Addr} {i : Nat} {a : Addr} {ob : HO} {d : SD} {v : V} (h : Sat K B env σ H F As) (hv : σ[i]? = some (some v)) (hA : As i = [a]) (hH : H a = some ob) (hd : d.p K v (upd F a ob)) :
    Sat K B (env.set i (.fz d)) σ H (upd F a ob) (fun j => if j = i then [] else As j) := by
  have ha : a ∈ As i := by rw [hA]; exact List.mem_cons_self
  have fa := h.own i a ha
  have hS : Same F (upd F a ob) := fun b o e => by rw [upd_ne (ne_of_none e fa)]; exact e
  refine ⟨by simpa using h.len, fun b o e => ?_, fun j s e => ?_, fun j k b p q => ?_, fun j b z => ?_, fun j z => ?_, h.fro.trans hS, h.frame, fun j b z => ?_, fun b o e => ?_⟩
  · by_cases hb : b = a
    · subst hb
      rw [upd_same] at e; cases e
      exact .inl hH
    · rw [upd_ne hb] at e
      exact h.sub b o e
  · by_cases hj : j = i
    · subst hj
      have hl : j < env.length := by
        have := h.len
        have h2 : j < σ.length := by
          rcases Nat.lt_or_ge j σ.length with q | q
          · exact q
          · rw [List.getElem?_eq_none q] at hv; cases hv
        omega
      rw [List.getElem?_set_self hl] at e
      have e' : Sl.fz d = s := Option.some.inj e
      subst e'
      exact .inr ⟨v, hv, if_pos rfl, hd⟩
    · rw [List.getElem?_set_ne (Ne.symm hj)] at e
      rw [if_neg hj]
      rcases h.sl j s e with z | ⟨u, z1, z2⟩
      · exact .inl z
      · exact .inr ⟨u, z1, z2.loc (fun _ _ => rfl) hS⟩
  · by_cases hj : j = i
    · rw [if_pos hj] at p; cases p
    · by_cases hk : k = i
      · rw [if_pos hk] at q; cases q
      · rw [if_neg hj] at p; rw [if_neg hk] at q; exact h.dj _ _ b p q
  · by_cases hj : j = i
    · rw [if_pos hj] at z; cases z
    · rw [if_neg hj] at z
      have : b ≠ a := fun q => hj (h.dj j i b z (q ▸ ha))
      rw [upd_ne this]; exact h.own j b z
  · show (if j = i then [] else As j) = []
    by_cases hj : j = i
    · rw [if_pos hj]
    · rw [if_neg hj]; exact h.out j (by simpa using z)
  · by_cases hj : j = i
    · rw [if_pos hj] at z; cases z
    · rw [if_neg hj] at z; exact h.orig _ b z
  · by_cases hb : b = a
    · subst hb
      exact .inr (h.orig i b ha)
    · rw [upd_ne hb] at e
      exact h.forig b o e
/-- an owned object of a slot is changed -/
theorem Sat.write {K : Fg} {B : Bs} {env : List Sl} {σ : L2.St} {H F : Hp} {As : Nat → List Addr} {i : Nat} {a : Addr} {ob : HO} {o : OA} {v : V} (h : Sat K B env σ H F As) (hv : σ[i]? = some (some v)) (ha : a ∈ As i)
    (ho : o.P K v (As i) (upd H a ob) F) : Sat K B (env.set i (.ow o)) σ (upd H a ob) F As := by
  have fa := h.own i a ha
  have hl : i < env.length := by
    rcases Nat.lt_or_ge i env.length with q | q
    · exact q
    · rw [h.out i q] at ha; cases ha
  refine ⟨by simpa using h.len, fun b ob' e => ?_, fun j s e => ?_, h.dj, h.own, fun j z => h.out j (by simpa using z), h.fro, fun b ob' e q => ?_, h.orig, h.forig⟩
  · rw [upd_ne (ne_of_none e fa)]; exact h.sub b ob' e
  · by_cases hj : j = i
    · subst hj
      rw [List.getElem?_set_self hl] at e
      have e' : Sl.ow o = s := Option.some.inj e
      subst e'
      exact .inr ⟨v, hv, ho⟩
    · rw [List.getElem?_set_ne (Ne.symm hj)] at e
      rcases h.sl j s e with z | ⟨u, z1, z2⟩
      · exact .inl z
      · exact .inr ⟨u, z1, z2.loc (fun b hb => upd_ne fun q => hj (h.dj j i b hb (q ▸ ha))) (Same.refl _)⟩
  · have ba : b ≠ a := fun z => by
      subst z
      rcases h.orig i b ha with z | z
      · exact q z
      · rw [e] at z; cases z
    rw [upd_ne ba]
    exact h.frame b ob' e q

/-! ### containers of one object -/
class Ct (α : Type) where
  cont : Fg → α → HO → Hp → Prop
  cmono : ∀ {K x o F F'}, cont K x o F → Same F F' → cont K x o F'
def owB {α : Type} [Ct α] (x : α) : OA := ⟨fun K v A H F => ∃ a o, v = .ref a ∧ A = [a] ∧ H a = some o ∧ Ct.cont K x o F,
  fun {K v A H F H' F'} ⟨a, o, e1, e2, e3, e4⟩ k m => ⟨a, o, e1, e2, by rw [k a (by rw [e2]; exact List.mem_cons_self)]; exact e3, Ct.cmono e4 m⟩,
  fun {K v A H F} ⟨a, o, e1, e2, e3, _⟩ b hb => by
    rw [e2] at hb
    have : b = a := by simpa using hb
    subst this
    exact ⟨o, e3⟩⟩
/-- an owned container; m: the value that it must remain (lent by the caller) -/
abbrev ow {α : Type} [Ct α] (x : α) (m : Option V := none) : Sl := .ow ((owB x).pin m)
theorem pin_iff {o : OA} {m : Option V} {K : Fg} {v : V} {A : List Addr} {H F : Hp} : (o.pin m).P K v A H F ↔ (∀ u, m = some u → v = u) ∧ o.P K v A H F := by
  cases m with
  | none => exact ⟨fun h => ⟨fun _ z => (nomatch z), h⟩, fun h => h.2⟩
  | some u => exact ⟨fun h => ⟨fun _ z => by cases z; exact h.1, h.2⟩, fun h => ⟨h.1 u rfl, h.2⟩⟩
instance {α : Type} [Rp α] : Ct (List α) := ⟨fun K xs o F => ∃ vs, o = .lst vs ∧ Reps K F xs vs, fun ⟨vs, e, r⟩ m => ⟨vs, e, r.mono m⟩⟩
/-- a container that can be frozen -/
class Fz (α : Type) extends Rp α, Ct α where
  frz : ∀ {K : Fg} {x : α} {o : HO} {F : Hp} {a : Addr}, cont K x o F → F a = none → rep K x (.ref a) (upd F a o)
theorem same_upd {H : Hp} {p : Addr} {o : HO} (h : H p = none) : Same H (upd H p o) := fun b x e => by
  rw [upd_ne (ne_of_none e h)]
  exact e
instance {α : Type} [Rp α] : Fz (List α) where
  frz := fun {K x o F a} ⟨vs, e, r⟩ h => by
    subst e
    exact ⟨a, vs, rfl, upd_same, r.mono (same_upd h)⟩
end S3

/-! S3: judgements over slots, and the rules. -/
namespace S3
open PySem PySem.Spec PyProof.Rows L2

/-- an operand: a frozen value, or what a slot holds now -/
inductive Vw where
  | val (d : SD)
  | slot (i : Nat)
abbrev vl {α : Type} [Rp α] (x : α) : Vw := .val (sd x)
def VwOk (K : Fg) (w : Vw) (v : V) (σ : L2.St) (F : Hp) : Prop := match w with
  | .val d => d.p K v F
  | .slot i => σ[i]? = some (some v)
theorem VwOk.mono {K : Fg} {w : Vw} {v : V} {σ : L2.St} {F F' : Hp} (h : VwOk K w v σ F) (m : Same F F') : VwOk K w v σ F' := by
  cases w with
  | val d => exact d.mono h m
  | slot i => exact h

section
variable (X : Cx) (env : List Sl) (e : Expr)
structure WE (Q : Sl → List Sl → Prop) : Prop where
  run : ∀ (B : Bs) (pins : List (Addr × Obj)) (s : Shared) (σ : L2.St) (H : Hp) (R : VK), Inv X pins σ H s → SatE X.K B env σ H →
    (∀ r env' v H', Q r env' → SatE X.K B (r :: env') (some v :: σ) H' → R v H') → wpAny (model X.prog X.w) X.A (eval e X.env) (EP X pins σ R) X.xe s
structure WV (Q : Vw → List Sl → Prop) : Prop where
  run : ∀ (B : Bs) (pins : List (Addr × Obj)) (s : Shared) (σ : L2.St) (H : Hp) (R : VK), Inv X pins σ H s → SatE X.K B env σ H →
    (∀ w env' v H', Q w env' → (∃ F As, Sat X.K B env' σ H' F As ∧ VwOk X.K w v σ F) → R v H') → wpAny (model X.prog X.w) X.A (eval e X.env) (EP X pins σ R) X.xe s
structure WT (Q : Bool → List Sl → Prop) : Prop where
  run : ∀ (B : Bs) (pins : List (Addr × Obj)) (s : Shared) (σ : L2.St) (H : Hp) (R : Bool → Hp → Prop), Inv X pins σ H s → SatE X.K B env σ H →
    (∀ b env' H', Q b env' → SatE X.K B env' σ H' → R b H') → wpAny (model X.prog X.w) X.A (isTrue e X.env (eval e X.env)) (TP X pins σ R) X.xe s
/-- a test whatever its whole is -/
structure WTw (Q : Bool → List Sl → Prop) : Prop where
  run : ∀ (whole : Sem Value) (B : Bs) (pins : List (Addr × Obj)) (s : Shared) (σ : L2.St) (H : Hp) (R : Bool → Hp → Prop), Inv X pins σ H s → SatE X.K B env σ H →
    (∀ b env' H', Q b env' → SatE X.K B env' σ H' → R b H') → wpAny (model X.prog X.w) X.A (isTrue e X.env whole) (TP X pins σ R) X.xe s
end
/-- the readings, for the hand layer's rules -/
def tE (K : Fg) (W : List Sl → (Sl → List Sl → Prop) → Prop) : TE := fun σ H R => ∃ B env Q, W env Q ∧ SatE K B env σ H ∧ ∀ r env' v H', Q r env' → SatE K B (r :: env') (some v :: σ) H' → R v H'
def tV (K : Fg) (W : List Sl → (Vw → List Sl → Prop) → Prop) : TE := fun σ H R => ∃ B env Q, W env Q ∧ SatE K B env σ H ∧ ∀ w env' v H', Q w env' → (∃ F As, Sat K B env' σ H' F As ∧ VwOk K w v σ F) → R v H'
def tT (K : Fg) (W : List Sl → (Bool → List Sl → Prop) → Prop) : TT := fun σ H R => ∃ B env Q, W env Q ∧ SatE K B env σ H ∧ ∀ b env' H', Q b env' → SatE K B env' σ H' → R b H'
section
variable {X : Cx} {e : Expr}
theorem peE : PE X e (tE X.K fun env Q => WE X env e Q) := ⟨fun pins s σ H R I ⟨B, env, Q, w, hs, k⟩ => w.run B pins s σ H R I hs k⟩
theorem peV : PE X e (tV X.K fun env Q => WV X env e Q) := ⟨fun pins s σ H R I ⟨B, env, Q, w, hs, k⟩ => w.run B pins s σ H R I hs k⟩
theorem ptT : PT X e (tT X.K fun env Q => WT X env e Q) := ⟨fun pins s σ H R I ⟨B, env, Q, w, hs, k⟩ => w.run B pins s σ H R I hs k⟩
theorem pwT : PW X e (tT X.K fun env Q => WTw X env e Q) := ⟨fun wh pins s σ H R I ⟨B, env, Q, w, hs, k⟩ => w.run wh B pins s σ H R I hs k⟩
end
theorem WTw.wt {X : Cx} {env : List Sl} {e : Expr} {Q : Bool → List Sl → Prop} (h : WTw X env e Q) : WT X env e Q := ⟨h.run _⟩

/-- what stands at an operand's end -/
def AtV (K : Fg) (B : Bs) (w : Vw) (env : List Sl) (v : V) (σ : L2.St) (H : Hp) : Prop := ∃ F As, Sat K B env σ H F As ∧ VwOk K w v σ F
theorem AtV.sat {K : Fg} {B : Bs} {w : Vw} {env : List Sl} {v : V} {σ : L2.St} {H : Hp} (h : AtV K B w env v σ H) : SatE K B env σ H := let ⟨F, As, S, _⟩ := h; ⟨F, As, S⟩

section
variable {X : Cx} {env : List Sl}
/-- two operands in a row -/
theorem two {a b : Expr} {P : Vw → Vw → List Sl → Prop} (h : WV X env a fun w1 e1 => WV X e1 b fun w2 e2 => P w1 w2 e2) {B : Bs} {σ : L2.St} {H : Hp} {R : V → V → Hp → Prop} (hs : SatE X.K B env σ H)
    (k : ∀ w1 w2 e' x y H' F As, P w1 w2 e' → Sat X.K B e' σ H' F As → VwOk X.K w1 x σ F → VwOk X.K w2 y σ F → R x y H') :
    tV X.K (fun env Q => WV X env a Q) σ H (fun x H1 => tV X.K (fun env Q => WV X env b Q) σ H1 (fun y H2 => R x y H2)) := by
  refine ⟨B, env, _, h, hs, fun w1 e1 x H1 q1 ⟨F1, As1, S1, v1⟩ => ⟨nowB As1 F1 H1, e1, _, q1, ⟨F1, As1, S1.now⟩, fun w2 e2 y H2 q2 ⟨F2, As2, S2, v2⟩ => ?_⟩⟩
  exact k w1 w2 e2 x y H2 F2 As2 q2 (S1.trans S2) (v1.mono S2.fro) v2
theorem three {a b c : Expr} {P : Vw → Vw → Vw → List Sl → Prop} (h : WV X env a fun w1 e1 => WV X e1 b fun w2 e2 => WV X e2 c fun w3 e3 => P w1 w2 w3 e3) {B : Bs} {σ : L2.St} {H : Hp} {R : V → V → V → Hp → Prop} (hs : SatE X.K B env σ H)
    (k : ∀ w1 w2 w3 e' x y z H' F As, P w1 w2 w3 e' → Sat X.K B e' σ H' F As → VwOk X.K w1 x σ F → VwOk X.K w2 y σ F → VwOk X.K w3 z σ F → R x y z H') :
    tV X.K (fun env Q => WV X env a Q) σ H (fun x H1 => tV X.K (fun env Q => WV X env b Q) σ H1 (fun y H2 => tV X.K (fun env Q => WV X env c Q) σ H2 (fun z H3 => R x y z H3))) := by
  refine ⟨B, env, _, h, hs, fun w1 e1 x H1 q1 ⟨F1, As1, S1, v1⟩ => ⟨nowB As1 F1 H1, e1, _, q1, ⟨F1, As1, S1.now⟩, fun w2 e2 y H2 q2 ⟨F2, As2, S2, v2⟩ => ⟨nowB As2 F2 H2, e2, _, q2, ⟨F2, As2, S2.now⟩, fun w3 e3 z H3 q3 ⟨F3, As3, S3, v3⟩ => ?_⟩⟩⟩
  exact k w1 w2 w3 e3 x y z H3 F3 As3 q3 ((S1.trans S2).trans S3) ((v1.mono S2.fro).mono S3.fro) (v2.mono S3.fro) v3
theorem one {a : Expr} {P : Vw → List Sl → Prop} (h : WV X env a P) {B : Bs} {σ : L2.St} {H : Hp} {R : V → Hp → Prop} (hs : SatE X.K B env σ H)
    (k : ∀ w e' x H' F As, P w e' → Sat X.K B e' σ H' F As → VwOk X.K w x σ F → R x H') : tV X.K (fun env Q => WV X env a Q) σ H R :=
  ⟨B, env, _, h, hs, fun w e1 x H1 q1 ⟨F1, As1, S1, v1⟩ => k w e1 x H1 F1 As1 q1 S1 v1⟩

theorem Sat.here {K : Fg} {B : Bs} {σ : L2.St} {H F : Hp} {As : Nat → List Addr} {i : Nat} {s : Sl} {u : V} (S : Sat K B env σ H F As) (he : env[i]? = some s) (hn : s ≠ .any) (hv : σ[i]? = some (some u)) : SlOk K s u (As i) H F := by
  rcases S.sl i s he with ⟨z, _⟩ | ⟨v, e, k⟩
  · exact absurd z hn
  · rw [hv] at e; cases e; exact k
theorem Sat.there {K : Fg} {B : Bs} {σ : L2.St} {H F : Hp} {As : Nat → List Addr} {i : Nat} {s : Sl} (S : Sat K B env σ H F As) (he : env[i]? = some s) (hn : s ≠ .any) : ∃ u, σ[i]? = some (some u) ∧ SlOk K s u (As i) H F := by
  rcases S.sl i s he with ⟨z, _⟩ | ⟨v, e, k⟩
  · exact absurd z hn
  · exact ⟨v, e, k⟩

/-! ### names -/
section
variable {i : Nat} {x : Str} {pos : Pos}
theorem wv_nameF {d : SD} {Q : Vw → List Sl → Prop} (i : Nat) (h : Q (.val d) env) (he : env[i]? = some (.fz d) := by rfl) (hN : X.N[i]? = some x := by rfl) (hv : Vis X.env.scope x := by first | exact Or.inl rfl | exact Or.inr (Or.inl rfl) | exact Or.inr (Or.inr rfl)) (hd : (x == ("__debug__" : Str)) = false := by decide)
    (hcd : (x == ("__classdict__" : Str)) = false := by decide) : WV X env (.Name x pos) Q := by
  refine ⟨fun B pins s σ H R I ⟨F, As, S⟩ k => (pe_var hN hv hd hcd).run pins s σ H R I ?_⟩
  obtain ⟨u, e, ok⟩ := S.there he (by intro z; cases z)
  exact ⟨u, e, k _ _ _ _ h ⟨F, As, S, ok.2⟩⟩
theorem wv_nameO {o : OA} {Q : Vw → List Sl → Prop} (i : Nat) (h : Q (.slot i) env) (he : env[i]? = some (.ow o) := by rfl) (hN : X.N[i]? = some x := by rfl) (hv : Vis X.env.scope x := by first | exact Or.inl rfl | exact Or.inr (Or.inl rfl) | exact Or.inr (Or.inr rfl)) (hd : (x == ("__debug__" : Str)) = false := by decide)
    (hcd : (x == ("__classdict__" : Str)) = false := by decide) : WV X env (.Name x pos) Q := by
  refine ⟨fun B pins s σ H R I ⟨F, As, S⟩ k => (pe_var hN hv hd hcd).run pins s σ H R I ?_⟩
  obtain ⟨u, e, ok⟩ := S.there he (by intro z; cases z)
  exact ⟨u, e, k _ _ _ _ h ⟨F, As, S, e⟩⟩
theorem we_nameF {d : SD} {Q : Sl → List Sl → Prop} (i : Nat) (h : Q (.fz d) env) (he : env[i]? = some (.fz d) := by rfl) (hN : X.N[i]? = some x := by rfl) (hv : Vis X.env.scope x := by first | exact Or.inl rfl | exact Or.inr (Or.inl rfl) | exact Or.inr (Or.inr rfl)) (hd : (x == ("__debug__" : Str)) = false := by decide)
    (hcd : (x == ("__classdict__" : Str)) = false := by decide) : WE X env (.Name x pos) Q := by
  refine ⟨fun B pins s σ H R I ⟨F, As, S⟩ k => (pe_var hN hv hd hcd).run pins s σ H R I ?_⟩
  obtain ⟨u, e, ok⟩ := S.there he (by intro z; cases z)
  exact ⟨u, e, k _ _ _ _ h ⟨F, _, S.cons ok.2⟩⟩
theorem Sat.moveOut {K : Fg} {B : Bs} {σ : L2.St} {H F : Hp} {As : Nat → List Addr} {i : Nat} {s : Sl} {u : V} (S : Sat K B env σ H F As) (he : env[i]? = some s) (hv : σ[i]? = some (some u)) (ok : SlOk K s u (As i) H F) :
    Sat K B (s :: env.set i .any) (some u :: σ) H F (fun j => match j with | 0 => As i | k + 1 => if k = i then [] else As k) := by
  have D := S.drop (i := i)
  refine ⟨by simpa using S.len, S.sub, fun j t e => ?_, fun j k a p q => ?_, fun j a z => ?_, fun j z => ?_, S.fro, S.frame, fun j a z => ?_, S.forig⟩
  · cases j with
    | zero =>
      have e' : s = t := by simpa using e
      subst e'
      exact .inr ⟨u, rfl, ok⟩
    | succ j => exact D.sl j t (by simpa using e)
  · cases j with
    | zero =>
      cases k with
      | zero => rfl
      | succ k =>
        by_cases hk : k = i
        · have q' : a ∈ (if k = i then [] else As k) := q
          rw [if_pos hk] at q'; cases q'
        · have q' : a ∈ (if k = i then [] else As k) := q
          rw [if_neg hk] at q'
          exact absurd (S.dj _ _ a q' p) hk
    | succ j =>
      by_cases hj : j = i
      · have p' : a ∈ (if j = i then [] else As j) := p
        rw [if_pos hj] at p'; cases p'
      · have p' : a ∈ (if j = i then [] else As j) := p
        rw [if_neg hj] at p'
        cases k with
        | zero => exact absurd (S.dj _ _ a p' q) hj
        | succ k =>
          by_cases hk : k = i
          · have q' : a ∈ (if k = i then [] else As k) := q
            rw [if_pos hk] at q'; cases q'
          · have q' : a ∈ (if k = i then [] else As k) := q
            rw [if_neg hk] at q'
            rw [S.dj _ _ a p' q']
  · cases j with
    | zero => exact S.own i a z
    | succ j => exact D.own j a z
  · cases j with
    | zero => simp at z
    | succ j => exact D.out j (by simpa using z)
  · cases j with
    | zero => exact S.orig i a z
    | succ j => exact D.orig j a z
/-- the owned thing itself moves out of its slot -/
theorem we_nameM {o : OA} {Q : Sl → List Sl → Prop} (i : Nat) (h : Q (.ow o) (env.set i .any)) (he : env[i]? = some (.ow o) := by rfl) (hN : X.N[i]? = some x := by rfl) (hv : Vis X.env.scope x := by first | exact Or.inl rfl | exact Or.inr (Or.inl rfl) | exact Or.inr (Or.inr rfl)) (hd : (x == ("__debug__" : Str)) = false := by decide)
    (hcd : (x == ("__classdict__" : Str)) = false := by decide) : WE X env (.Name x pos) Q := by
  refine ⟨fun B pins s σ H R I ⟨F, As, S⟩ k => (pe_var hN hv hd hcd).run pins s σ H R I ?_⟩
  obtain ⟨u, e, ok⟩ := S.there he (by intro z; cases z)
  exact ⟨u, e, k _ _ _ _ h ⟨F, _, S.moveOut he e ok⟩⟩
theorem Sat.frz {K : Fg} {B : Bs} {σ : L2.St} {H F : Hp} {As : Nat → List Addr} {i : Nat} {α : Type} [Fz α] {y : α} {u : V} (S : Sat K B env σ H F As) (he : env[i]? = some (ow y)) (hv : σ[i]? = some (some u)) :
    ∃ F' As', Same F F' ∧ Rp.rep K y u F' ∧ Sat K B (env.set i (fz y)) σ H F' As' := by
  have ok := S.here he (by intro z; cases z) hv
  obtain ⟨a, o, e1, e2, e3, e4⟩ : (owB y).P K u (As i) H F := ok
  subst e1
  have fa := S.own i a (by rw [e2]; exact List.mem_cons_self)
  have r := Fz.frz e4 fa
  exact ⟨_, _, same_upd fa, r, S.freeze (d := sd y) hv e2 e3 r⟩
/-- a name's owned container is frozen, here and in its slot -/
theorem wv_nameZ {α : Type} [Fz α] {y : α} {Q : Vw → List Sl → Prop} (i : Nat) (h : Q (vl y) (env.set i (fz y))) (he : env[i]? = some (ow y) := by rfl) (hN : X.N[i]? = some x := by rfl) (hv : Vis X.env.scope x := by first | exact Or.inl rfl | exact Or.inr (Or.inl rfl) | exact Or.inr (Or.inr rfl)) (hd : (x == ("__debug__" : Str)) = false := by decide)
    (hcd : (x == ("__classdict__" : Str)) = false := by decide) : WV X env (.Name x pos) Q := by
  refine ⟨fun B pins s σ H R I ⟨F, As, S⟩ k => (pe_var hN hv hd hcd).run pins s σ H R I ?_⟩
  obtain ⟨u, e, ok⟩ := S.there he (by intro z; cases z)
  obtain ⟨F', As', m, r, S'⟩ := S.frz he e
  exact ⟨u, e, k _ _ _ _ h ⟨F', As', S', r⟩⟩
theorem we_nameZ {α : Type} [Fz α] {y : α} {Q : Sl → List Sl → Prop} (i : Nat) (h : Q (fz y) (env.set i (fz y))) (he : env[i]? = some (ow y) := by rfl) (hN : X.N[i]? = some x := by rfl) (hv : Vis X.env.scope x := by first | exact Or.inl rfl | exact Or.inr (Or.inl rfl) | exact Or.inr (Or.inr rfl)) (hd : (x == ("__debug__" : Str)) = false := by decide)
    (hcd : (x == ("__classdict__" : Str)) = false := by decide) : WE X env (.Name x pos) Q := by
  refine ⟨fun B pins s σ H R I ⟨F, As, S⟩ k => (pe_var hN hv hd hcd).run pins s σ H R I ?_⟩
  obtain ⟨u, e, ok⟩ := S.there he (by intro z; cases z)
  obtain ⟨F', As', m, r, S'⟩ := S.frz he e
  exact ⟨u, e, k _ _ _ _ h ⟨F', _, S'.cons (d := sd y) r⟩⟩
end

/-! ### from a value that may be new and owned to an operand -/
/-- a result, taken as a frozen one -/
def FzR (r : Sl) (k : SD → Prop) : Prop := (∃ d, r = .fz d ∧ k d) ∨ ∃ (α : Type) (_ : Fz α) (y : α), r = ow y ∧ k (sd y)
theorem FzR.f {d : SD} {k : SD → Prop} (h : k d) : FzR (.fz d) k := .inl ⟨d, rfl, h⟩
theorem FzR.o {α : Type} [i : Fz α] {y : α} {k : SD → Prop} (h : k (sd y)) : FzR (ow y) k := .inr ⟨α, i, y, rfl, h⟩
theorem Sat.frzHead {K : Fg} {B : Bs} {σ : L2.St} {H : Hp} {r : Sl} {v : V} {k : SD → Prop} (h : SatE K B (r :: env) (some v :: σ) H) (z : FzR r k) : ∃ d F As, k d ∧ Sat K B env σ H F As ∧ d.p K v F := by
  obtain ⟨F, As, S⟩ := h
  rcases z with ⟨d, rfl, kd⟩ | ⟨α, i, y, rfl, kd⟩
  · exact ⟨d, F, _, kd, S.tail, S.head.2⟩
  · obtain ⟨F', As', m, r', S'⟩ := S.frz (i := 0) rfl rfl
    exact ⟨sd y, F', _, kd, Sat.tail S', r'⟩
theorem wv_of {e : Expr} {Q : Vw → List Sl → Prop} (h : WE X env e fun r e1 => FzR r fun d => Q (.val d) e1) : WV X env e Q :=
  ⟨fun B pins s σ H R I hs k => h.run B pins s σ H R I hs fun r e1 v H1 q hs1 => by
    obtain ⟨d, F, As, kd, S, r'⟩ := Sat.frzHead hs1 q
    exact k _ _ _ _ kd ⟨F, As, S, r'⟩⟩
/-- an operand that is a frozen value, as a result -/
theorem we_of {e : Expr} {Q : Sl → List Sl → Prop} (h : WV X env e fun w e1 => ∃ d, w = .val d ∧ Q (.fz d) e1) : WE X env e Q :=
  ⟨fun B pins s σ H R I hs k => h.run B pins s σ H R I hs fun w e1 v H1 ⟨d, e, q⟩ ⟨F, As, S, ok⟩ => by
    subst e
    exact k _ _ _ _ q ⟨F, _, S.cons ok⟩⟩

/-! ### constants -/
section
variable {j : Nat} {pos : Pos}
theorem we_c {e : Expr} {v : V} (p : PE X e (tC v)) {α : Type} [Rp α] (y : α) (hy : ∀ F, Rp.rep X.K y v F) {Q : Sl → List Sl → Prop} (h : Q (fz y) env) : WE X env e Q :=
  ⟨fun B pins s σ H R I ⟨F, As, S⟩ k => p.run pins s σ H R I (k _ _ _ _ h ⟨F, _, S.cons (d := sd y) (hy F)⟩)⟩
theorem wv_c {e : Expr} {v : V} (p : PE X e (tC v)) {α : Type} [Rp α] (y : α) (hy : ∀ F, Rp.rep X.K y v F) {Q : Vw → List Sl → Prop} (h : Q (vl y) env) : WV X env e Q :=
  ⟨fun B pins s σ H R I ⟨F, As, S⟩ k => p.run pins s σ H R I (k _ _ _ _ h ⟨F, As, S, hy F⟩)⟩
theorem we_int {i : Int} {Q : Sl → List Sl → Prop} (h : Q (fz i) env) : WE X env (.Constant (.int i) j pos) Q := we_c pe_int i (fun _ => rfl) h
theorem wv_int {i : Int} {Q : Vw → List Sl → Prop} (h : Q (vl i) env) : WV X env (.Constant (.int i) j pos) Q := wv_c pe_int i (fun _ => rfl) h
theorem we_bl {b : Bool} {Q : Sl → List Sl → Prop} (h : Q (fz b) env) : WE X env (.Constant (.bool b) j pos) Q := we_c pe_bl b (fun _ => rfl) h
theorem wv_bl {b : Bool} {Q : Vw → List Sl → Prop} (h : Q (vl b) env) : WV X env (.Constant (.bool b) j pos) Q := wv_c pe_bl b (fun _ => rfl) h
theorem we_str {x : Str} {Q : Sl → List Sl → Prop} (h : Q (fz x) env) : WE X env (.Constant (.str x) j pos) Q := we_c pe_str x (fun _ => rfl) h
theorem wv_str {x : Str} {Q : Vw → List Sl → Prop} (h : Q (vl x) env) : WV X env (.Constant (.str x) j pos) Q := wv_c pe_str x (fun _ => rfl) h
theorem we_non {Q : Sl → List Sl → Prop} (h : Q (fz ()) env) : WE X env (.Constant .none j pos) Q := we_c pe_non () (fun _ => rfl) h
theorem wv_non {Q : Vw → List Sl → Prop} (h : Q (vl ()) env) : WV X env (.Constant .none j pos) Q := wv_c pe_non () (fun _ => rfl) h
end

/-! ### ints -/
/-- the operand is this typed value -/
def Is {α : Type} [Rp α] (w : Vw) (k : α → Prop) : Prop := ∃ y : α, w = vl y ∧ k y
theorem Is.i {α : Type} [Rp α] {y : α} {k : α → Prop} (h : k y) : Is (vl y) k := ⟨y, rfl, h⟩
def Is2 {α β : Type} [Rp α] [Rp β] (w1 w2 : Vw) (k : α → β → Prop) : Prop := ∃ y z, w1 = vl y ∧ w2 = vl z ∧ k y z
theorem Is2.i {α β : Type} [Rp α] [Rp β] {y : α} {z : β} {k : α → β → Prop} (h : k y z) : Is2 (vl y) (vl z) k := ⟨y, z, rfl, rfl, h⟩
section
variable {a b c : Expr} {pos : Pos}
/-- a value of two ints, under C -/
theorem we_opI {op : Operator} {C : Int → Int → Prop} {g : Int → Int → Int} (ho : OpR X (binaryOp op) (rI C fun i j => .int (g i j))) {Q : Sl → List Sl → Prop}
    (h : WV X env a fun w1 e1 => WV X e1 b fun w2 e2 => Is2 w1 w2 fun i j : Int => C i j ∧ Q (fz (g i j)) e2) : WE X env (.BinOp a op b pos) Q :=
  ⟨fun B pins s σ H R I hs k => (pe_op ho peV peV).run pins s σ H R I (two h hs fun w1 w2 e' x y H' F As ⟨i, j, e1, e2, c, q⟩ S v1 v2 => by
    subst e1; subst e2
    exact ⟨i, j, v1, v2, c, k _ _ _ _ q ⟨F, _, S.cons (d := sd (g i j)) rfl⟩⟩)⟩
theorem we_opI0 {op : Operator} {g : Int → Int → Int} (ho : OpR X (binaryOp op) (rI0 fun i j => .int (g i j))) {Q : Sl → List Sl → Prop}
    (h : WV X env a fun w1 e1 => WV X e1 b fun w2 e2 => Is2 w1 w2 fun i j : Int => Q (fz (g i j)) e2) : WE X env (.BinOp a op b pos) Q :=
  ⟨fun B pins s σ H R I hs k => (pe_op ho peV peV).run pins s σ H R I (two h hs fun w1 w2 e' x y H' F As ⟨i, j, e1, e2, q⟩ S v1 v2 => by
    subst e1; subst e2
    exact ⟨i, j, v1, v2, k _ _ _ _ q ⟨F, _, S.cons (d := sd (g i j)) rfl⟩⟩)⟩
theorem we_add {Q : Sl → List Sl → Prop} (h : WV X env a fun w1 e1 => WV X e1 b fun w2 e2 => Is2 w1 w2 fun i j : Int => Q (fz (i + j)) e2) : WE X env (.BinOp a .Add b pos) Q := we_opI0 op_add h
theorem we_sub {Q : Sl → List Sl → Prop} (h : WV X env a fun w1 e1 => WV X e1 b fun w2 e2 => Is2 w1 w2 fun i j : Int => Q (fz (i - j)) e2) : WE X env (.BinOp a .Sub b pos) Q := we_opI0 op_sub h
theorem we_mul {Q : Sl → List Sl → Prop} (h : WV X env a fun w1 e1 => WV X e1 b fun w2 e2 => Is2 w1 w2 fun i j : Int => CMul i j ∧ Q (fz (i * j)) e2) : WE X env (.BinOp a .Mult b pos) Q := we_opI op_mul h
theorem we_div {Q : Sl → List Sl → Prop} (h : WV X env a fun w1 e1 => WV X e1 b fun w2 e2 => Is2 w1 w2 fun i j : Int => CDiv i j ∧ Q (fz (i / j)) e2) : WE X env (.BinOp a .FloorDiv b pos) Q := we_opI op_fdiv h
theorem we_mod {Q : Sl → List Sl → Prop} (h : WV X env a fun w1 e1 => WV X e1 b fun w2 e2 => Is2 w1 w2 fun i j : Int => 0 < j ∧ Q (fz (i % j)) e2) : WE X env (.BinOp a .Mod b pos) Q := we_opI op_mod h
theorem we_pow {Q : Sl → List Sl → Prop} (h : WV X env a fun w1 e1 => WV X e1 b fun w2 e2 => Is2 w1 w2 fun i j : Int => CPow i j ∧ Q (fz (i ^ j.toNat)) e2) : WE X env (.BinOp a .Pow b pos) Q := we_opI op_pow h
theorem we_neg {Q : Sl → List Sl → Prop} (h : WV X env a fun w e1 => Is w fun i : Int => Q (fz (-i)) e1) : WE X env (.UnaryOp .USub a pos) Q :=
  ⟨fun B pins s σ H R I hs k => (pe_un un_neg peV).run pins s σ H R I (one h hs fun w e' x H' F As ⟨i, e1, q⟩ S v1 => by
    subst e1
    exact ⟨i, v1, k _ _ _ _ q ⟨F, _, S.cons (d := sd (-i)) rfl⟩⟩)⟩

/-! ### comparisons -/
theorem wt_cmpI {op : CmpOp} {g : Int → Int → Bool} (ho : OpR X (compareOp op) (rI0 fun i j => .bl (g i j))) (hm : behindInMarks op b = false) {Q : Bool → List Sl → Prop}
    (h : WV X env a fun w1 e1 => WV X e1 b fun w2 e2 => Is2 w1 w2 fun i j : Int => Q (g i j) e2) : WT X env (.Compare a [op] [b] pos) Q :=
  ⟨fun B pins s σ H R I hs k => (pt_cmpR ho peV peV hm).run pins s σ H R I (two h hs fun w1 w2 e' x y H' F As ⟨i, j, e1, e2, q⟩ S v1 v2 => by
    subst e1; subst e2
    exact ⟨i, j, v1, v2, _, rfl, k _ _ _ q ⟨F, As, S⟩⟩)⟩
theorem we_cmpI {op : CmpOp} {g : Int → Int → Bool} (ho : OpR X (compareOp op) (rI0 fun i j => .bl (g i j))) (hm : behindInMarks op b = false) {Q : Sl → List Sl → Prop}
    (h : WV X env a fun w1 e1 => WV X e1 b fun w2 e2 => Is2 w1 w2 fun i j : Int => Q (fz (g i j)) e2) : WE X env (.Compare a [op] [b] pos) Q :=
  ⟨fun B pins s σ H R I hs k => (pe_cmpR ho peV peV hm).run pins s σ H R I (two h hs fun w1 w2 e' x y H' F As ⟨i, j, e1, e2, q⟩ S v1 v2 => by
    subst e1; subst e2
    exact ⟨i, j, v1, v2, k _ _ _ _ q ⟨F, _, S.cons (d := sd (g i j)) rfl⟩⟩)⟩
section
variable {Q : Bool → List Sl → Prop}
theorem wt_lt (h : WV X env a fun w1 e1 => WV X e1 b fun w2 e2 => Is2 w1 w2 fun i j : Int => Q (decide (i < j)) e2) : WT X env (.Compare a [.Lt] [b] pos) Q := wt_cmpI op_lt (nomark _) h
theorem wt_le (h : WV X env a fun w1 e1 => WV X e1 b fun w2 e2 => Is2 w1 w2 fun i j : Int => Q (decide (i ≤ j)) e2) : WT X env (.Compare a [.LtE] [b] pos) Q := wt_cmpI op_le (nomark _) h
theorem wt_gt (h : WV X env a fun w1 e1 => WV X e1 b fun w2 e2 => Is2 w1 w2 fun i j : Int => Q (decide (j < i)) e2) : WT X env (.Compare a [.Gt] [b] pos) Q := wt_cmpI op_gt (nomark _) h
theorem wt_ge (h : WV X env a fun w1 e1 => WV X e1 b fun w2 e2 => Is2 w1 w2 fun i j : Int => Q (decide (j ≤ i)) e2) : WT X env (.Compare a [.GtE] [b] pos) Q := wt_cmpI op_ge (nomark _) h
end
section
variable {Q : Sl → List Sl → Prop}
theorem we_lt (h : WV X env a fun w1 e1 => WV X e1 b fun w2 e2 => Is2 w1 w2 fun i j : Int => Q (fz (decide (i < j))) e2) : WE X env (.Compare a [.Lt] [b] pos) Q := we_cmpI op_lt (nomark _) h
theorem we_le (h : WV X env a fun w1 e1 => WV X e1 b fun w2 e2 => Is2 w1 w2 fun i j : Int => Q (fz (decide (i ≤ j))) e2) : WE X env (.Compare a [.LtE] [b] pos) Q := we_cmpI op_le (nomark _) h
theorem we_gt (h : WV X env a fun w1 e1 => WV X e1 b fun w2 e2 => Is2 w1 w2 fun i j : Int => Q (fz (decide (j < i))) e2) : WE X env (.Compare a [.Gt] [b] pos) Q := we_cmpI op_gt (nomark _) h
theorem we_ge (h : WV X env a fun w1 e1 => WV X e1 b fun w2 e2 => Is2 w1 w2 fun i j : Int => Q (fz (decide (j ≤ i))) e2) : WE X env (.Compare a [.GtE] [b] pos) Q := we_cmpI op_ge (nomark _) h
end
end
end
end S3

/-! S3: tests, statements, targets, loops. -/
namespace S3
open PySem PySem.Spec PyProof.Rows L2

/-! ### two ways -/
def Br (b : Bool) (A B : Prop) : Prop := (b = true → A) ∧ (b = false → B)
theorem Br.b {b : Bool} {A B : Prop} (h1 : b = true → A) (h2 : b = false → B) : Br b A B := ⟨h1, h2⟩
theorem Br.d {p : Prop} [Decidable p] {A B : Prop} (h1 : p → A) (h2 : ¬ p → B) : Br (decide p) A B := ⟨fun h => h1 (of_decide_eq_true h), fun h => h2 (of_decide_eq_false h)⟩
theorem Br.n {b : Bool} {A B : Prop} (h : Br b B A) : Br (!b) A B := ⟨fun e => h.2 (by simpa using e), fun e => h.1 (by simpa using e)⟩
theorem Br.t {A B : Prop} (h : A) : Br true A B := ⟨fun _ => h, fun z => (nomatch z)⟩
theorem Br.f {A B : Prop} (h : B) : Br false A B := ⟨fun z => (nomatch z), fun _ => h⟩
theorem Br.T {b : Bool} {A B : Prop} (e : b = true) (h : A) : Br b A B := by subst e; exact Br.t h
theorem Br.F {b : Bool} {A B : Prop} (e : b = false) (h : B) : Br b A B := by subst e; exact Br.f h

section
variable {X : Cx} {env : List Sl} {a b c : Expr} {pos : Pos}
/-! ### tests -/
theorem wt_not {Q : Bool → List Sl → Prop} (h : WT X env a fun b e1 => Q (!b) e1) : WT X env (.UnaryOp .Not a pos) Q :=
  ⟨fun B pins s σ H R I hs k => (pt_not ptT).run pins s σ H R I ⟨B, env, _, h, hs, fun b e1 H1 q s1 => k _ _ _ q s1⟩⟩
theorem wtw_and1 {Q : Bool → List Sl → Prop} (h : WT X env a Q) : WTw X env (.BoolOp .And [a] pos) Q :=
  ⟨fun wh B pins s σ H R I hs k => (pw_and1 ptT).run wh pins s σ H R I ⟨B, env, _, h, hs, k⟩⟩
theorem wtw_or1 {Q : Bool → List Sl → Prop} (h : WT X env a Q) : WTw X env (.BoolOp .Or [a] pos) Q :=
  ⟨fun wh B pins s σ H R I hs k => (pw_or1 ptT).run wh pins s σ H R I ⟨B, env, _, h, hs, k⟩⟩
theorem wtw_and {rest : List Expr} {Q : Bool → List Sl → Prop} (h : WT X env a fun k e1 => Br k (WTw X e1 (.BoolOp .And (b :: rest) pos) Q) (Q false e1)) : WTw X env (.BoolOp .And (a :: b :: rest) pos) Q :=
  ⟨fun wh B pins s σ H R I hs k => (pw_and ptT pwT).run wh pins s σ H R I ⟨B, env, _, h, hs, fun c e1 H1 q s1 => by
    cases c with
    | true => exact iteT ⟨B, e1, _, q.1 rfl, s1, k⟩
    | false => exact iteF (k _ _ _ (q.2 rfl) s1)⟩⟩
theorem wtw_or {rest : List Expr} {Q : Bool → List Sl → Prop} (h : WT X env a fun k e1 => Br k (Q true e1) (WTw X e1 (.BoolOp .Or (b :: rest) pos) Q)) : WTw X env (.BoolOp .Or (a :: b :: rest) pos) Q :=
  ⟨fun wh B pins s σ H R I hs k => (pw_or ptT pwT).run wh pins s σ H R I ⟨B, env, _, h, hs, fun c e1 H1 q s1 => by
    cases c with
    | true => exact iteT (k _ _ _ (q.1 rfl) s1)
    | false => exact iteF ⟨B, e1, _, q.2 rfl, s1, k⟩⟩⟩
/-- a bool -/
theorem wt_val {e : Expr} {Q : Bool → List Sl → Prop} (h : WV X env e fun w e1 => Is w fun k : Bool => Q k e1) (he : ∀ whole, isTrue e X.env whole = (do let v ← whole; standAt e.pos; holding [v] (truthy v)) := by intro _; rfl) : WT X env e Q :=
  ⟨fun B pins s σ H R I hs k => (pt_val peV he).run pins s σ H R I (one h hs fun w e' x H' F As ⟨b, e1, q⟩ S v1 => by
    subst e1
    exact ⟨b, v1, k _ _ _ q ⟨F, As, S⟩⟩)⟩
/-- the truth of an operand -/
def TruW (K : Fg) (env : List Sl) (w : Vw) (k : Bool) : Prop := ∀ (B : Bs) (σ : L2.St) (H F : Hp) (As : Nat → List Addr) (v : V), Sat K B env σ H F As → VwOk K w v σ F → TruV K v H k
theorem wt_tru {e : Expr} {Q : Bool → List Sl → Prop} (h : WV X env e fun w e1 => ∃ k, TruW X.K e1 w k ∧ Q k e1) (he : ∀ whole, isTrue e X.env whole = (do let v ← whole; standAt e.pos; holding [v] (truthy v)) := by intro _; rfl) : WT X env e Q :=
  ⟨fun B pins s σ H R I hs k => (pt_truth peV he).run pins s σ H R I (one h hs fun w e' x H' F As ⟨b, tr, q⟩ S v1 => ⟨b, tr B σ H' F As x S v1, k _ _ _ q ⟨F, As, S⟩⟩)⟩
theorem we_not {Q : Sl → List Sl → Prop} (h : WV X env a fun w e1 => Is w fun b : Bool => Q (fz (!b)) e1) : WE X env (.UnaryOp .Not a pos) Q :=
  ⟨fun B pins s σ H R I hs k => (pe_not peV).run pins s σ H R I (one h hs fun w e' x H' F As ⟨b, e1, q⟩ S v1 => by
    subst e1
    exact ⟨b, v1, k _ _ _ _ q ⟨F, _, S.cons (d := sd (!b)) rfl⟩⟩)⟩
/-- and, or of bools, as values: in place of the last one a BoolOp of one -/
theorem we_one {op : BoolOp} {Q : Sl → List Sl → Prop} (h : WE X env a Q) : WE X env (.BoolOp op [a] pos) Q :=
  ⟨fun B pins s σ H R I hs k => (pe_one (op := op) peE).run pins s σ H R I ⟨B, env, _, h, hs, k⟩⟩
theorem we_and {rest : List Expr} {Q : Sl → List Sl → Prop} (h : WV X env a fun w e1 => Is w fun k : Bool => Br k (WE X e1 (.BoolOp .And (b :: rest) pos) Q) (Q (fz false) e1)) : WE X env (.BoolOp .And (a :: b :: rest) pos) Q :=
  ⟨fun B pins s σ H R I hs k => (pe_and peV peE).run pins s σ H R I (one h hs fun w e' x H' F As ⟨b, e1, q⟩ S v1 => by
    subst e1
    refine ⟨b, v1, ?_⟩
    cases b with
    | true => exact iteT ⟨B, e', _, q.1 rfl, ⟨F, As, S⟩, k⟩
    | false => exact iteF (k _ _ _ _ (q.2 rfl) ⟨F, _, S.cons (d := sd false) rfl⟩))⟩
theorem we_or {rest : List Expr} {Q : Sl → List Sl → Prop} (h : WV X env a fun w e1 => Is w fun k : Bool => Br k (Q (fz true) e1) (WE X e1 (.BoolOp .Or (b :: rest) pos) Q)) : WE X env (.BoolOp .Or (a :: b :: rest) pos) Q :=
  ⟨fun B pins s σ H R I hs k => (pe_or peV peE).run pins s σ H R I (one h hs fun w e' x H' F As ⟨b, e1, q⟩ S v1 => by
    subst e1
    refine ⟨b, v1, ?_⟩
    cases b with
    | true => exact iteT (k _ _ _ _ (q.1 rfl) ⟨F, _, S.cons (d := sd true) rfl⟩)
    | false => exact iteF ⟨B, e', _, q.2 rfl, ⟨F, As, S⟩, k⟩)⟩
theorem we_if {Q : Sl → List Sl → Prop} (h : WT X env c fun k e1 => Br k (WE X e1 a Q) (WE X e1 b Q)) : WE X env (.IfExp c a b pos) Q :=
  ⟨fun B pins s σ H R I hs k => (pe_ifExp ptT peE peE).run pins s σ H R I ⟨B, env, _, h, hs, fun d e1 H1 q s1 => by
    cases d with
    | true => exact iteT ⟨B, e1, _, q.1 rfl, s1, k⟩
    | false => exact iteF ⟨B, e1, _, q.2 rfl, s1, k⟩⟩⟩
/-- a < b < c on ints -/
theorem wt_chainI {op op' : CmpOp} {g g' : Int → Int → Bool} (ho : OpR X (compareOp op) (rI0 fun i j => .bl (g i j))) (ho' : OpR X (compareOp op') (rI0 fun i j => .bl (g' i j))) {Q : Bool → List Sl → Prop}
    (h : WV X env a fun w1 e1 => WV X e1 b fun w2 e2 => Is2 w1 w2 fun i j : Int => Br (g i j) (WV X e2 c fun w3 e3 => Is w3 fun l : Int => Q (g' j l) e3) (Q false e2)) (hm : lastMarks [op, op'] [b, c] = false := by with_unfolding_all rfl) : WT X env (.Compare a [op, op'] [b, c] pos) Q :=
  ⟨fun B pins s σ H R I hs k => (pt_chain ho ho' peV peV peV hm).run pins s σ H R I (two h hs fun w1 w2 e' x y H' F As ⟨i, j, e1, e2, q⟩ S v1 v2 => by
    subst e1; subst e2
    refine ⟨i, j, v1, v2, _, rfl, ?_⟩
    cases hg : g i j with
    | true =>
      refine iteT (one (q.1 hg) ⟨F, As, S⟩ fun w e3 z H3 F3 As3 ⟨l, e4, q3⟩ S3 v3 => ?_)
      subst e4
      exact ⟨j, l, v2, v3, _, rfl, k _ _ _ q3 ⟨F3, As3, S3⟩⟩
    | false => exact iteF ⟨false, rfl, k _ _ _ (q.2 hg) ⟨F, As, S⟩⟩)⟩
end

/-! ### statements -/
structure Kt where
  nx : List Sl → Prop
  rt : Sl → List Sl → Prop
  bk : List Sl → Prop := fun _ => False
  ct : List Sl → Prop := fun _ => False
structure KD (K : Fg) (B : Bs) (k : Kt) (D : Ends) : Prop where
  nx : ∀ env σ H, k.nx env → SatE K B env σ H → D.nx σ H
  rt : ∀ r env v σ H, k.rt r env → SatE K B (r :: env) (some v :: σ) H → D.rt v H
  bk : ∀ env σ H, k.bk env → SatE K B env σ H → D.bk σ H
  ct : ∀ env σ H, k.ct env → SatE K B env σ H → D.ct σ H
structure WS (X : Cx) (env : List Sl) (st : Stmt) (k : Kt) : Prop where
  run : ∀ (B : Bs) (pins : List (Addr × Obj)) (s : Shared) (σ : L2.St) (H : Hp) (D : Ends), Inv X pins σ H s → SatE X.K B env σ H → KD X.K B k D → wpAny (model X.prog X.w) X.A (exec st X.env) (SP X pins D) X.xe s
structure WSs (X : Cx) (env : List Sl) (st : List Stmt) (k : Kt) : Prop where
  run : ∀ (B : Bs) (pins : List (Addr × Obj)) (s : Shared) (σ : L2.St) (H : Hp) (D : Ends), Inv X pins σ H s → SatE X.K B env σ H → KD X.K B k D → wpAny (model X.prog X.w) X.A (execs st X.env) (SP X pins D) X.xe s
def tS (K : Fg) (W : List Sl → Kt → Prop) : TS := fun D σ H => ∃ B env k, W env k ∧ SatE K B env σ H ∧ KD K B k D
section
variable {X : Cx} {env : List Sl} {k : Kt} {pos : Pos} {st : Stmt} {rest : List Stmt}
theorem psS : PS X st (tS X.K fun env k => WS X env st k) := ⟨fun pins s σ H D I ⟨B, env, k, w, hs, kd⟩ => w.run B pins s σ H D I hs kd⟩
theorem pssS {sts : List Stmt} : PSs X sts (tS X.K fun env k => WSs X env sts k) := ⟨fun pins s σ H D I ⟨B, env, k, w, hs, kd⟩ => w.run B pins s σ H D I hs kd⟩
theorem wss_nil (h : k.nx env) : WSs X env [] k := ⟨fun B pins s σ H D I hs kd => pss_nil.run pins s σ H D I (kd.nx _ _ _ h hs)⟩
theorem wss_cons (h : WS X env st { k with nx := fun e1 => WSs X e1 rest k }) : WSs X env (st :: rest) k :=
  ⟨fun B pins s σ H D I hs kd => (pss_cons psS pssS).run pins s σ H D I ⟨B, env, _, h, hs, ⟨fun e1 σ1 H1 q s1 => ⟨B, e1, k, q, s1, kd⟩, kd.rt, kd.bk, kd.ct⟩⟩⟩
/-- a block's way to what stands between -/
theorem wss_cut {Mid : List Sl → Prop} (h : WS X env st { k with nx := Mid }) (h2 : ∀ e1, Mid e1 → WSs X e1 rest k) : WSs X env (st :: rest) k :=
  wss_cons ⟨fun B pins s σ H D I hs kd => h.run B pins s σ H D I hs ⟨fun e1 σ1 H1 q s1 => kd.nx e1 σ1 H1 (h2 e1 q) s1, kd.rt, kd.bk, kd.ct⟩⟩
theorem ws_if {c : Expr} {a b : List Stmt} (h : WT X env c fun d e1 => Br d (WSs X e1 a k) (WSs X e1 b k)) : WS X env (.If c a b pos) k :=
  ⟨fun B pins s σ H D I hs kd => (ps_if ptT pssS pssS).run pins s σ H D I ⟨B, env, _, h, hs, fun d e1 H1 q s1 => by
    cases d with
    | true => exact iteT ⟨B, e1, k, q.1 rfl, s1, kd⟩
    | false => exact iteF ⟨B, e1, k, q.2 rfl, s1, kd⟩⟩⟩
theorem ws_ret {e : Expr} (h : WE X env e fun r e1 => k.rt r e1) : WS X env (.Return (some e) pos) k :=
  ⟨fun B pins s σ H D I hs kd => (ps_ret peE).run pins s σ H D I ⟨B, env, _, h, hs, fun r e1 v H1 q s1 => kd.rt r e1 v σ H1 q s1⟩⟩
theorem ws_retN (h : k.rt (fz ()) env) : WS X env (.Return none pos) k :=
  ⟨fun B pins s σ H D I ⟨F, As, S⟩ kd => ps_retN.run pins s σ H D I (kd.rt _ _ _ σ H h ⟨F, _, S.cons (d := sd ()) rfl⟩)⟩
theorem ws_pass (h : k.nx env) : WS X env (.Pass pos) k := ⟨fun B pins s σ H D I hs kd => ps_pass.run pins s σ H D I (kd.nx _ _ _ h hs)⟩
theorem ws_break (h : k.bk env) : WS X env (.Break pos) k := ⟨fun B pins s σ H D I hs kd => ps_break.run pins s σ H D I (kd.bk _ _ _ h hs)⟩
theorem ws_cont (h : k.ct env) : WS X env (.Continue pos) k := ⟨fun B pins s σ H D I hs kd => ps_continue.run pins s σ H D I (kd.ct _ _ _ h hs)⟩
theorem ws_expr {e : Expr} (h : WE X env e fun _ e1 => k.nx e1) (hsw : swapsWith e none pos.line X.env = pure false := by rfl) : WS X env (.Expr e pos) k :=
  ⟨fun B pins s σ H D I hs kd => (ps_expr peE hsw).run pins s σ H D I ⟨B, env, _, h, hs, fun r e1 v H1 q ⟨F, As, S⟩ => kd.nx e1 σ H1 q ⟨F, _, S.tail⟩⟩⟩
theorem ws_set {x : Str} {e : Expr} {pos' : Pos} (i : Nat) (h : WE X env e fun r e1 => e1.length = env.length ∧ k.nx (e1.set i r)) (hN : X.N.Nodup) (hi : X.N[i]? = some x := by rfl) (hx : Loc X.env.scope x := by first | exact Or.inl rfl | exact Or.inr rfl)
    (hsw : swapsWith e (some (.Name x pos')) pos.line X.env = pure false := by rfl) (hl : i < env.length := by exact of_decide_eq_true rfl) (hf : X.fn x = true ∨ X.env.scope.names.lookup x = some .local := by first | exact .inl rfl | exact .inr rfl) : WS X env (.Assign [.Name x pos'] e pos) k :=
  ⟨fun B pins s σ H D I hs kd => (ps_set hN hi hx peE hsw hf).run pins s σ H D I ⟨B, env, _, h, hs, fun r e1 v H1 ⟨hle, q⟩ ⟨F, As, S⟩ => kd.nx _ _ _ q ⟨F, _, S.move (by omega)⟩⟩⟩

/-! ### targets -/
/-- vs: the slots that it may touch -/
structure Touch (vs : Nat → Prop) (σ σ1 : L2.St) : Prop where
  len : σ1.length = σ.length
  out : ∀ j, ¬ vs j → σ1[j]? = σ[j]?
theorem Touch.trans {vs : Nat → Prop} {σ σ1 σ2 : L2.St} (a : Touch vs σ σ1) (b : Touch vs σ1 σ2) : Touch vs σ σ2 := ⟨b.len.trans a.len, fun j h => (b.out j h).trans (a.out j h)⟩
structure WG (X : Cx) (env : List Sl) (tg : Expr) (r : Sl) (vs : Nat → Prop) (Q : List Sl → Prop) : Prop where
  run : ∀ (B : Bs) (pins : List (Addr × Obj)) (s : Shared) (σ : L2.St) (H : Hp) (v : V) (u : Value) (R : L2.St → Hp → Prop), Inv X pins σ H s → SatE X.K B (r :: env) (some v :: σ) H → RelV v u →
    (∀ e1 σ1 H1, Q e1 → SatE X.K B e1 σ1 H1 → Touch vs σ σ1 → R σ1 H1) → wpAny (model X.prog X.w) X.A (assign tg X.env u) (fun _ s' => ∃ σ' H', Inv X pins σ' H' s' ∧ R σ' H') X.xe s
def gW (K : Fg) (vs : Nat → Prop) (W : List Sl → Sl → (List Sl → Prop) → Prop) : TG := fun v σ H R => ∃ B env r Q, W env r Q ∧ SatE K B (r :: env) (some v :: σ) H ∧ ∀ e1 σ1 H1, Q e1 → SatE K B e1 σ1 H1 → Touch vs σ σ1 → R σ1 H1
theorem pgW {tg : Expr} {vs : Nat → Prop} : PG X tg (gW X.K vs fun env r Q => WG X env tg r vs Q) := ⟨fun pins s σ H v u R I rv ⟨B, env, r, Q, w, hs, kk⟩ => w.run B pins s σ H v u R I hs rv kk⟩
abbrev All : Nat → Prop := fun _ => True
theorem wg_name {x : Str} {r : Sl} {vs : Nat → Prop} {Q : List Sl → Prop} (i : Nat) (h : Q (env.set i r)) (hN : X.N.Nodup) (hi : X.N[i]? = some x := by rfl) (hx : Loc X.env.scope x := by first | exact Or.inl rfl | exact Or.inr rfl) (hl : i < env.length := by exact of_decide_eq_true rfl)
    (hvs : vs i := by first | trivial | decide) (hf : X.fn x = true ∨ X.env.scope.names.lookup x = some .local := by first | exact .inl rfl | exact .inr rfl) : WG X env (.Name x pos) r vs Q :=
  ⟨fun B pins s σ H v u R I ⟨F, As, S⟩ rv kk => (pg_name hN hi hx hf).run pins s σ H v u R I rv (kk _ _ _ h ⟨F, _, S.move hl⟩ ⟨List.length_set, fun j hj => by
    rw [List.getElem?_set_ne]
    intro e
    subst e
    exact hj hvs⟩)⟩
/-- a, b = a pair -/
theorem wg_pair {t1 t2 : Expr} {n : Nat} {α β : Type} [Rp α] [Rp β] {z : α × β} {vs : Nat → Prop} {Q : List Sl → Prop} (h : WG X env t1 (fz z.1) vs fun e1 => WG X e1 t2 (fz z.2) vs Q) (hc : X.calm = true := by rfl)
    (hs1 : (assignEach [t1, t2] X.env).map (·.2) = assign t1 X.env :: (assignEach [t2] X.env).map (·.2) := by rfl) (hs2 : (assignEach [t2] X.env).map (·.2) = assign t2 X.env :: (assignEach [] X.env).map (·.2) := by rfl)
    (hn : (assignEach [t1, t2] X.env).length = 2 := by rfl) (hst : (assignEach [t1, t2] X.env).findIdx? (·.1) = none := by rfl) : WG X env (.Tuple [t1, t2] n pos) (fz z) vs Q :=
  ⟨fun B pins s σ H v u R I ⟨F, As, S⟩ rv kk => (pg_tup hc (pgs_cons (pgW (vs := vs)) (pgs_cons (pgW (vs := vs)) pgs_nil hs2) hs1) hn hst).run pins s σ H v u R I rv (by
    obtain ⟨a, x, y, e, hq, r1, r2⟩ := S.head.2
    refine ⟨a, [x, y], e, SqT.of (S.tail.rdY hq), rfl, x, [y], rfl, nowB _ F H, env, _, _, h, ⟨F, _, S.tail.now.cons (d := sd z.1) r1⟩, fun e1 σ1 H1 w ⟨F1, As1, S1⟩ o1 => ⟨y, [], rfl, B, e1, _, _, w, ⟨F1, _, (S.tail.trans S1).cons (d := sd z.2) (Rp.mono r2 S1.fro)⟩, fun e2 σ2 H2 q s2 o2 => ⟨rfl, kk _ _ _ q s2 (o1.trans o2)⟩⟩⟩)⟩
theorem wg_t3 {t1 t2 t3 : Expr} {n : Nat} {α β γ : Type} [Rp α] [Rp β] [Rp γ] {z : T3 α β γ} {vs : Nat → Prop} {Q : List Sl → Prop} (h : WG X env t1 (fz z.a) vs fun e1 => WG X e1 t2 (fz z.b) vs fun e2 => WG X e2 t3 (fz z.c) vs Q) (hc : X.calm = true := by rfl)
    (hs1 : (assignEach [t1, t2, t3] X.env).map (·.2) = assign t1 X.env :: (assignEach [t2, t3] X.env).map (·.2) := by rfl) (hs2 : (assignEach [t2, t3] X.env).map (·.2) = assign t2 X.env :: (assignEach [t3] X.env).map (·.2) := by rfl) (hs3 : (assignEach [t3] X.env).map (·.2) = assign t3 X.env :: (assignEach [] X.env).map (·.2) := by rfl)
    (hn : (assignEach [t1, t2, t3] X.env).length = 3 := by rfl) (hst : (assignEach [t1, t2, t3] X.env).findIdx? (·.1) = none := by rfl) : WG X env (.Tuple [t1, t2, t3] n pos) (fz z) vs Q :=
  ⟨fun B pins s σ H v u R I ⟨F, As, S⟩ rv kk => (pg_tup hc (pgs_cons (pgW (vs := vs)) (pgs_cons (pgW (vs := vs)) (pgs_cons (pgW (vs := vs)) pgs_nil hs3) hs2) hs1) hn hst).run pins s σ H v u R I rv (by
    obtain ⟨a, x, y, z', e, hq, r1, r2, r3⟩ := S.head.2
    refine ⟨a, [x, y, z'], e, SqT.of (S.tail.rdY hq), rfl, x, [y, z'], rfl, nowB _ F H, env, _, _, h, ⟨F, _, S.tail.now.cons (d := sd z.a) r1⟩, fun e1 σ1 H1 w ⟨F1, As1, S1⟩ o1 => ⟨y, [z'], rfl, nowB As1 F1 H1, e1, _, _, w, ⟨F1, _, S1.now.cons (d := sd z.b) (Rp.mono r2 S1.fro)⟩, fun e2 σ2 H2 w2 ⟨F2, As2, S2⟩ o2 => ⟨z', [], rfl, B, e2, _, _, w2, ⟨F2, _, ((S.tail.trans S1).trans S2).cons (d := sd z.c) (Rp.mono (Rp.mono r3 S1.fro) S2.fro)⟩, fun e3 σ3 H3 q s3 o3 => ⟨rfl, kk _ _ _ q s3 ((o1.trans o2).trans o3)⟩⟩⟩⟩)⟩
/-- target = e -/
theorem ws_asg {tg e : Expr} (h : WE X env e fun r e1 => WG X e1 tg r All k.nx) (hs : swapsWithSole [tg] e pos.line X.env = pure false := by rfl) (hw : swappedStores [tg] e X.env = pure none := by rfl)
    (h1 : (assignEach [tg] X.env).map (·.2) = [assign tg X.env] := by rfl) : WS X env (.Assign [tg] e pos) k :=
  ⟨fun B pins s σ H D I hs0 kd => (ps_asg peE (pgW (vs := All)) hs hw h1).run pins s σ H D I ⟨B, env, _, h, hs0, fun r e1 v H1 w s1 => ⟨B, e1, r, _, w, s1, fun e2 σ2 H2 q s2 _ => kd.nx e2 σ2 H2 q s2⟩⟩⟩
end
end S3

/-! S3: the frame rule, what is walked, loops, comprehensions. -/
namespace S3
open PySem PySem.Spec PyProof.Rows L2

/-! ### the frame rule: what stands at the head stays -/
theorem Sat.under {K : Fg} {B : Bs} {r : Sl} {env env2 : List Sl} {v : V} {σ σ2 : L2.St} {H F H2 F2 : Hp} {As As2 : Nat → List Addr} (S : Sat K B (r :: env) (some v :: σ) H F As)
    (S2 : Sat K (nowB (fun i => As (i + 1)) F H) env2 σ2 H2 F2 As2) : Sat K B (r :: env2) (some v :: σ2) H2 F2 (fun i => match i with | 0 => As 0 | j + 1 => As2 j) := by
  have T := S.tail.trans S2
  have keep : ∀ a ∈ As 0, H2 a = H a := fun a ha => by
    obtain ⟨o, e⟩ := S.live 0 a ha
    have nA : ¬ (nowB (fun i => As (i + 1)) F H).A0 a := fun ⟨i, hi⟩ => by
      have := S.dj _ _ a ha hi; omega
    rw [e]
    exact (S2.frame a o e nA).1 (by intro z; cases z)
  have no2 : ∀ j a, a ∈ As 0 → a ∉ As2 j := fun j a ha z => by
    rcases S2.orig j a z with ⟨i, hi⟩ | e
    · have := S.dj _ _ a ha hi; omega
    · obtain ⟨o, e2⟩ := S.live 0 a ha
      have e' : H a = none := e
      rw [e'] at e2; cases e2
  refine ⟨by simpa using S2.len, S2.sub, fun i s e => ?_, fun i j a p q => ?_, fun i a z => ?_, fun i z => ?_, T.fro, T.frame, fun i a z => ?_, T.forig⟩
  · cases i with
    | zero =>
      have e' : r = s := by simpa using e
      subst e'
      exact .inr ⟨v, rfl, S.head.loc keep S2.fro⟩
    | succ j => exact S2.sl j s (by simpa using e)
  · cases i with
    | zero =>
      cases j with
      | zero => rfl
      | succ j => exact absurd q (no2 j a p)
    | succ i =>
      cases j with
      | zero => exact absurd p (no2 i a q)
      | succ j => exact congrArg (· + 1) (S2.dj i j a p q)
  · cases i with
    | zero =>
      cases e : F2 a with
      | none => rfl
      | some o =>
        rcases S2.forig a o e with ⟨o', z1⟩ | ⟨i, hi⟩ | z1
        · have := S.own 0 a z
          have z1' : F a = some o' := z1
          rw [this] at z1'; cases z1'
        · have := S.dj _ _ a z hi; omega
        · obtain ⟨o', e2⟩ := S.live 0 a z
          have z1' : H a = none := z1
          rw [z1'] at e2; cases e2
    | succ i => exact S2.own i a z
  · cases i with
    | zero => simp at z
    | succ i => exact S2.out i (by simpa using z)
  · cases i with
    | zero => exact S.orig 0 a z
    | succ i => exact T.orig i a z

/-! ### what is walked -/
def TWalk (K : Fg) (F1 : Hp) (J : It) (n : Nat) (it : Nat → Sl) : Prop :=
  (∀ (B : Bs) (env : List Sl) (σ : L2.St) (H F : Hp) (As : Nat → List Addr), Sat K B env σ H F As → Same F1 F → J.stop n H) ∧
  ∀ i, i < n → ∀ (B : Bs) (env : List Sl) (σ : L2.St) (H F : Hp) (As : Nat → List Addr), Sat K B env σ H F As → Same F1 F → J.go i H ∧ ∀ x H', J.yld i H x H' → SatE K B (it i :: env) (some x :: σ) H'
structure WI (X : Cx) (env : List Sl) (tg iter : Expr) (Q : (n : Nat) → (Nat → Sl) → List Sl → Prop) : Prop where
  run : ∀ (B : Bs) (pins : List (Addr × Obj)) (s : Shared) (σ : L2.St) (H : Hp) (R : It → Hp → Prop), Inv X pins σ H s → SatE X.K B env σ H →
    (∀ n it env' J H', Q n it env' → (∃ F As, Sat X.K B env' σ H' F As ∧ TWalk X.K F J n it) → R J H') →
    wpAny (model X.prog X.w) X.A (eval iter X.env) (fun v s1 => wpAny (model X.prog X.w) X.A (pyIter v) (PIE X pins σ tg R) X.xe s1) X.xe s
def iW (K : Fg) (W : List Sl → ((n : Nat) → (Nat → Sl) → List Sl → Prop) → Prop) : TI := fun σ H R => ∃ B env Q, W env Q ∧ SatE K B env σ H ∧ ∀ n it env' J H', Q n it env' → (∃ F As, Sat K B env' σ H' F As ∧ TWalk K F J n it) → R J H'
section
variable {X : Cx} {env : List Sl} {tg iter : Expr} {pos : Pos}
theorem piW : PI X tg iter (iW X.K fun env Q => WI X env tg iter Q) := ⟨fun pins s σ H R I ⟨B, env, Q, w, hs, k⟩ => w.run B pins s σ H R I hs k⟩
def itL {α : Type} [Rp α] (xs : List α) (i : Nat) : Sl := match xs[i]? with
  | some x => fz x
  | none => .any
theorem itL_at {α : Type} [Rp α] {xs : List α} {i : Nat} {x : α} (h : xs[i]? = some x) : itL xs i = fz x := by unfold itL; rw [h]
theorem Reps.get {α : Type} [Rp α] {K : Fg} {F : Hp} : ∀ {xs : List α} {vs : List V} {i : Nat} {x : α}, Reps K F xs vs → xs[i]? = some x → ∃ v, vs[i]? = some v ∧ Rp.rep K x v F
  | _, _, _, _, .nil, e => by simp at e
  | _, _, 0, _, .cons r _, e => by simp at e; subst e; exact ⟨_, rfl, r⟩
  | _, _, i + 1, x, .cons _ t, e => by
    obtain ⟨v, h1, h2⟩ := Reps.get (i := i) t (by simpa using e)
    exact ⟨v, by simpa using h1, h2⟩
theorem twalk_list {K : Fg} {α : Type} [Rp α] {F1 : Hp} {a : Addr} {vs : List V} {xs : List α} (q : SqL K F1 a vs) (r : Reps K F1 xs vs) : TWalk K F1 (Itl K a) xs.length (itL xs) :=
  ⟨fun B env σ H F As S m => ⟨vs, S.rdL (SqLmono q m), by rw [r.length]; exact Nat.le_refl _⟩, fun i hi B env σ H F As S m => by
    obtain ⟨v, e, rv⟩ := r.get (List.getElem?_eq_getElem hi)
    refine ⟨⟨vs, v, S.rdL (SqLmono q m), e⟩, fun x H' ⟨e1, e2⟩ => ?_⟩
    subst e1
    have ex : v = x := Option.some.inj (e.symm.trans (e2 vs (S.rdL (SqLmono q m))))
    subst ex
    rw [itL_at (List.getElem?_eq_getElem hi)]
    exact ⟨F, _, S.cons (d := sd xs[i]) (Rp.mono rv m)⟩⟩
theorem twalk_tup {K : Fg} {α : Type} [Rp α] {F1 : Hp} {a : Addr} {vs : List V} {xs : List α} (q : SqT K F1 a vs) (r : Reps K F1 xs vs) : TWalk K F1 (Itt K a) xs.length (itL xs) :=
  ⟨fun B env σ H F As S m => ⟨vs, S.rdT (SqTmono q m), by rw [r.length]; exact Nat.le_refl _⟩, fun i hi B env σ H F As S m => by
    obtain ⟨v, e, rv⟩ := r.get (List.getElem?_eq_getElem hi)
    refine ⟨⟨vs, v, S.rdT (SqTmono q m), e⟩, fun x H' ⟨e1, e2⟩ => ?_⟩
    subst e1
    have ex : v = x := Option.some.inj (e.symm.trans (e2 vs (S.rdT (SqTmono q m))))
    subst ex
    rw [itL_at (List.getElem?_eq_getElem hi)]
    exact ⟨F, _, S.cons (d := sd xs[i]) (Rp.mono rv m)⟩⟩
theorem wi_list {Q : (n : Nat) → (Nat → Sl) → List Sl → Prop} (h : WV X env iter fun w e1 => ∃ (α : Type) (_ : Rp α) (xs : List α), w = vl xs ∧ Q xs.length (itL xs) e1) : WI X env tg iter Q :=
  ⟨fun B pins s σ H R I hs k => (pi_list peV).run pins s σ H R I (one h hs fun w e1 x H1 F As ⟨α, _, xs, e, q⟩ S ok => by
    subst e
    obtain ⟨a, vs, ev, hq, rv⟩ := ok
    exact ⟨a, ev, ⟨vs, SqL.of (S.rdX hq)⟩, k _ _ _ _ _ q ⟨F, As, S, twalk_list (SqL.of hq) rv⟩⟩)⟩
theorem wi_tup {Q : (n : Nat) → (Nat → Sl) → List Sl → Prop} (h : WV X env iter fun w e1 => ∃ (α : Type) (_ : Rp α) (xs : List α), w = vl (Tp.mk xs) ∧ Q xs.length (itL xs) e1) : WI X env tg iter Q :=
  ⟨fun B pins s σ H R I hs k => (pi_tup peV).run pins s σ H R I (one h hs fun w e1 x H1 F As ⟨α, _, xs, e, q⟩ S ok => by
    subst e
    obtain ⟨a, vs, ev, hq, rv⟩ := ok
    exact ⟨a, ev, ⟨vs, S.rdT hq⟩, k _ _ _ _ _ q ⟨F, As, S, twalk_tup hq rv⟩⟩)⟩
theorem twalk_range {K : Fg} {F1 : Hp} {lo : Int} {n : Nat} : TWalk K F1 (Itr lo n) n (fun i => fz (lo + (i : Int))) :=
  ⟨fun B env σ H F As S m => Nat.le_refl n, fun i hi B env σ H F As S m => ⟨hi, fun x H' ⟨e1, e2⟩ => by
    subst e1; subst e2
    exact ⟨F, _, S.cons (d := sd (lo + (i : Int))) rfl⟩⟩⟩
theorem wi_range1 {a : Expr} {p : Pos} {Q : (n : Nat) → (Nat → Sl) → List Sl → Prop} (h : WV X env a fun w e1 => Is w fun j : Int => (-(2 ^ 62) ≤ j ∧ j < 2 ^ 62) ∧ Q j.toNat (fun i => fz ((0 : Int) + (i : Int))) e1)
    (hm : X.mg "range" = none) (hg : Gl X "range" := by rfl) (hst : starEach [a] X.env = [(false, eval a X.env)] := by rfl) : WI X env tg (.Call (.Name "range" p) [a] [] pos) Q :=
  ⟨fun B pins s σ H R I hs k => (pi_range1 hg hm (pa_cons peV pa_nil hst) hst).run pins s σ H R I (one h hs fun w e1 x H1 F As ⟨j, e, b, q⟩ S ok => by
    subst e
    have ok' : x = .int j := ok
    subst ok'
    exact ⟨j, rfl, b.1, b.2, k _ _ _ _ _ q ⟨F, As, S, twalk_range⟩⟩)⟩
theorem wi_range2 {a b : Expr} {p : Pos} {Q : (n : Nat) → (Nat → Sl) → List Sl → Prop} (h : WV X env a fun w1 e1 => WV X e1 b fun w2 e2 => Is2 w1 w2 fun i j : Int => (-(2 ^ 62) ≤ i ∧ i < 2 ^ 62 ∧ -(2 ^ 62) ≤ j ∧ j < 2 ^ 62) ∧ Q (j - i).toNat (fun m => fz (i + (m : Int))) e2)
    (hm : X.mg "range" = none) (hg : Gl X "range" := by rfl) (hst : starEach [a, b] X.env = [(false, eval a X.env), (false, eval b X.env)] := by rfl) (hst2 : starEach [b] X.env = [(false, eval b X.env)] := by rfl) : WI X env tg (.Call (.Name "range" p) [a, b] [] pos) Q :=
  ⟨fun B pins s σ H R I hs k => (pi_range2 hg hm (pa_cons peV (pa_cons peV pa_nil hst2) (by rw [hst, hst2])) hst hst2).run pins s σ H R I (two h hs fun w1 w2 e1 x y H1 F As ⟨i, j, e, e', b, q⟩ S v1 v2 => by
    subst e; subst e'
    have v1' : x = .int i := v1
    have v2' : y = .int j := v2
    subst v1'; subst v2'
    exact ⟨i, j, rfl, b, k _ _ _ _ _ q ⟨F, As, S, twalk_range⟩⟩)⟩

/-! ### for -/
theorem ws_for {k : Kt} {body : List Stmt} (h : WI X env tg iter fun n it e1 => ∃ I : Nat → List Sl → Prop, I 0 e1 ∧
      (∀ i e, i < n → I i e → WG X e tg (it i) All fun e2 => WSs X e2 body { nx := I (i + 1), rt := k.rt, bk := k.nx, ct := I (i + 1) }) ∧ ∀ e, I n e → k.nx e)
    (hp : PassesOwn (model X.prog X.w) X.A X.env X.xe := by exact PassesOwn.never) (hc : X.calm = true := by rfl) (hf : ∀ x, foldedSetIterable iter X.env x = pure x := by intro _; rfl) : WS X env (.For tg iter body [] pos) k :=
  ⟨fun B pins s σ H D I hs kd => (ps_for hp hc piW (pgW (vs := All)) pssS hf).run pins s σ H D I ⟨B, env, _, h, hs, fun n it e1 J H1 ⟨Iv, i0, turn, fin⟩ ⟨F1, As1, S1, wk, wt⟩ => by
    refine ⟨fun i m σ' H' => m = n - i ∧ i ≤ n ∧ ∃ e, Iv i e ∧ SatE X.K (nowB As1 F1 H1) e σ' H', ⟨n, by omega, Nat.zero_le _, e1, i0, F1, As1, S1.now⟩, ?_⟩
    rintro i m σ' H' ⟨rfl, hi, e, iv, F', As', S'⟩
    by_cases hlt : i < n
    · obtain ⟨go, yl⟩ := wt i hlt _ _ _ _ _ _ S' S'.fro
      refine .inr ⟨go, fun σ' H' => ∃ e, Iv (i + 1) e ∧ SatE X.K (nowB As1 F1 H1) e σ' H', fun σ2 H2 q => ⟨n - (i + 1), by omega, rfl, hlt, q⟩, fun x H2 y => ?_⟩
      refine ⟨_, e, it i, _, turn i e hlt iv, yl x H2 y, fun e2 σ2 H3 w s3 _ => ⟨_, e2, _, w, s3, ?_⟩⟩
      exact ⟨fun e3 σ3 H4 q s4 => ⟨e3, q, s4⟩, fun r e3 v σ3 H4 q ⟨F4, As4, S4⟩ => kd.rt r e3 v σ3 H4 q ⟨F4, _, S1.trans S4⟩, fun e3 σ3 H4 q ⟨F4, As4, S4⟩ => kd.nx e3 σ3 H4 q ⟨F4, _, S1.trans S4⟩, fun e3 σ3 H4 q s4 => ⟨e3, q, s4⟩⟩
    · have e' : i = n := by omega
      subst e'
      exact .inl ⟨wk _ _ _ _ _ _ S' S'.fro, kd.nx e σ' H' (fin e iv) ⟨F', _, S1.trans S'⟩⟩⟩⟩
/-- over a list -/
theorem forL {α : Type} [Rp α] {xs : List α} {k : Kt} {body : List Stmt} {e1 : List Sl} (I : Nat → List Sl → Prop) (h0 : I 0 e1)
    (hs : ∀ i x e, xs[i]? = some x → I i e → WG X e tg (fz x) All fun e2 => WSs X e2 body { nx := I (i + 1), rt := k.rt, bk := k.nx, ct := I (i + 1) }) (hd : ∀ e, I xs.length e → k.nx e) :
    ∃ I : Nat → List Sl → Prop, I 0 e1 ∧ (∀ i e, i < xs.length → I i e → WG X e tg (itL xs i) All fun e2 => WSs X e2 body { nx := I (i + 1), rt := k.rt, bk := k.nx, ct := I (i + 1) }) ∧ ∀ e, I xs.length e → k.nx e :=
  ⟨I, h0, fun i e hi iv => by rw [itL_at (List.getElem?_eq_getElem hi)]; exact hs i _ e (List.getElem?_eq_getElem hi) iv, hd⟩
/-- while -/
theorem ws_while {k : Kt} {c : Expr} {body : List Stmt} (I : Nat → List Sl → Prop) (h0 : ∃ m, I m env) (h : ∀ m e, I m e → WT X e c fun b e1 => Br b (WSs X e1 body { nx := fun e2 => ∃ m', m' < m ∧ I m' e2, rt := k.rt, bk := k.nx, ct := fun e2 => ∃ m', m' < m ∧ I m' e2 }) (k.nx e1))
    (hp : PassesOwn (model X.prog X.w) X.A X.env X.xe := by exact PassesOwn.never) : WS X env (.While c body [] pos) k :=
  ⟨fun B pins s σ H D Iv hs kd => (ps_while hp ptT pssS).run pins s σ H D Iv (by
    obtain ⟨F1, As1, S1⟩ := hs
    obtain ⟨m0, i0⟩ := h0
    refine ⟨fun m σ' H' => ∃ e, I m e ∧ SatE X.K (nowB As1 F1 H) e σ' H', ⟨m0, env, i0, F1, As1, S1.now⟩, ?_⟩
    rintro m σ' H' ⟨e, iv, s'⟩
    refine ⟨_, e, _, h m e iv, s', fun b e1 H1 q s1 => ?_⟩
    cases b with
    | true =>
      refine iteT ⟨fun σ2 H2 => ∃ m', m' < m ∧ ∃ e, I m' e ∧ SatE X.K (nowB As1 F1 H) e σ2 H2, fun σ2 H2 ⟨m', hm, q2⟩ => ⟨m', hm, q2⟩, _, e1, _, q.1 rfl, s1, ?_⟩
      exact ⟨fun e3 σ3 H4 ⟨m', hm, q⟩ s4 => ⟨m', hm, e3, q, s4⟩, fun r e3 v σ3 H4 q ⟨F4, As4, S4⟩ => kd.rt r e3 v σ3 H4 q ⟨F4, _, S1.trans S4⟩, fun e3 σ3 H4 q ⟨F4, As4, S4⟩ => kd.nx e3 σ3 H4 q ⟨F4, _, S1.trans S4⟩, fun e3 σ3 H4 ⟨m', hm, q⟩ s4 => ⟨m', hm, e3, q, s4⟩⟩
    | false =>
      obtain ⟨F4, As4, S4⟩ := s1
      exact iteF (kd.nx e1 σ' H1 (q.2 rfl) ⟨F4, _, S1.trans S4⟩))⟩
end

/-! ### comprehensions -/
def wipeE (env : List Sl) : List Nat → List Sl
  | [] => env
  | v :: vs => (wipeE env vs).set v .any
theorem wipeE_len (env : List Sl) : ∀ vs, (wipeE env vs).length = env.length
  | [] => rfl
  | v :: vs => by unfold wipeE; rw [List.length_set, wipeE_len env vs]
theorem wipeE_out {env : List Sl} {i : Nat} : ∀ {vs : List Nat}, i ∉ vs → (wipeE env vs)[i]? = env[i]?
  | [], _ => rfl
  | v :: vs, h => by
    unfold wipeE
    rw [List.getElem?_set_ne (by intro e; exact h (e ▸ List.mem_cons_self))]
    exact wipeE_out fun z => h (List.mem_cons_of_mem _ z)
theorem wipeE_in {env : List Sl} {i : Nat} : ∀ {vs : List Nat}, i ∈ vs → ∀ s, (wipeE env vs)[i]? = some s → s = .any
  | v :: vs, h, s, e => by
    unfold wipeE at e
    by_cases q : v = i
    · subst q
      by_cases l : v < (wipeE env vs).length
      · rw [List.getElem?_set_self l] at e; exact (Option.some.inj e).symm
      · rw [List.getElem?_eq_none (by simpa using Nat.le_of_not_lt l)] at e; cases e
    · rw [List.getElem?_set_ne q] at e
      exact wipeE_in ((List.mem_cons.mp h).resolve_left fun z => q z.symm) s e
theorem wipe_out' {σ : L2.St} {i : Nat} {vs : List Nat} (h : i ∉ vs) : (wipe σ vs)[i]? = σ[i]? := by
  induction vs with
  | nil => rfl
  | cons v vs ih =>
    unfold wipe
    rw [List.getElem?_set_ne (by intro e; exact h (e ▸ List.mem_cons_self))]
    exact ih fun z => h (List.mem_cons_of_mem _ z)
theorem wipe_in' {σ : L2.St} {i : Nat} {vs : List Nat} (h : i ∈ vs) (hl : i < σ.length) : (wipe σ vs)[i]? = some none := by
  induction vs with
  | nil => cases h
  | cons v vs ih =>
    unfold wipe
    by_cases q : v = i
    · subst q
      rw [List.getElem?_set_self (by rw [wipe_length]; exact hl)]
    · rw [List.getElem?_set_ne q]
      exact ih ((List.mem_cons.mp h).resolve_left fun z => q z.symm)
theorem Sat.wipe {K : Fg} {B : Bs} {env : List Sl} {σ : L2.St} {H F : Hp} {As : Nat → List Addr} (S : Sat K B env σ H F As) (vs : List Nat) : Sat K B (wipeE env vs) (L2.wipe σ vs) H F (fun i => if i ∈ vs then [] else As i) := by
  refine ⟨by rw [wipeE_len, wipe_length]; exact S.len, S.sub, fun i s e => ?_, fun i j a p q => ?_, fun i a z => ?_, fun i z => ?_, S.fro, S.frame, fun i a z => ?_, S.forig⟩
  · by_cases h : i ∈ vs
    · exact .inl ⟨wipeE_in h s e, if_pos h⟩
    · rw [wipeE_out h] at e
      rw [if_neg h, wipe_out' h]
      exact S.sl i s e
  · by_cases h : i ∈ vs
    · rw [if_pos h] at p; cases p
    · by_cases h' : j ∈ vs
      · rw [if_pos h'] at q; cases q
      · rw [if_neg h] at p; rw [if_neg h'] at q; exact S.dj i j a p q
  · by_cases h : i ∈ vs
    · rw [if_pos h] at z; cases z
    · rw [if_neg h] at z; exact S.own i a z
  · show (if i ∈ vs then [] else As i) = []
    by_cases h : i ∈ vs
    · exact if_pos h
    · rw [if_neg h]; exact S.out i (by rw [wipeE_len] at z; exact z)
  · by_cases h : i ∈ vs
    · rw [if_pos h] at z; cases z
    · rw [if_neg h] at z; exact S.orig i a z
/-- a slot's frozen value; an owned one is forgotten -/
def fzOf (env : List Sl) (i : Nat) : Sl := match env[i]? with
  | some (.fz d) => .fz d
  | _ => .any
/-- behind a block: its own slots hold again what they held ahead -/
def restE (e env : List Sl) : List Nat → List Sl
  | [] => e
  | v :: vs => (restE e env vs).set v (fzOf env v)
theorem restE_len (e env : List Sl) : ∀ vs, (restE e env vs).length = e.length
  | [] => rfl
  | v :: vs => by unfold restE; rw [List.length_set, restE_len e env vs]
theorem restE_out {e env : List Sl} {i : Nat} : ∀ {vs : List Nat}, i ∉ vs → (restE e env vs)[i]? = e[i]?
  | [], _ => rfl
  | v :: vs, h => by
    unfold restE
    rw [List.getElem?_set_ne (by intro z; exact h (z ▸ List.mem_cons_self))]
    exact restE_out fun z => h (List.mem_cons_of_mem _ z)
theorem restE_in {e env : List Sl} {i : Nat} : ∀ {vs : List Nat}, i ∈ vs → ∀ s, (restE e env vs)[i]? = some s → s = fzOf env i
  | v :: vs, h, s, q => by
    unfold restE at q
    by_cases z : v = i
    · subst z
      by_cases l : v < (restE e env vs).length
      · rw [List.getElem?_set_self l] at q; exact (Option.some.inj q).symm
      · rw [List.getElem?_eq_none (by simpa using Nat.le_of_not_lt l)] at q; cases q
    · rw [List.getElem?_set_ne z] at q
      exact restE_in ((List.mem_cons.mp h).resolve_left fun y => z y.symm) s q
theorem Sat.rest {K : Fg} {B : Bs} {e env : List Sl} {σ : L2.St} {H F H1 F1 : Hp} {As As1 : Nat → List Addr} {vs : List Nat} {B1 : Bs} (S1 : Sat K B1 env σ H1 F1 As1) (S : Sat K B e (L2.wipe σ vs) H F As) (m : Same F1 F) :
    Sat K B (restE e env vs) σ H F (fun i => if i ∈ vs then [] else As i) := by
  refine ⟨by rw [restE_len, S.len, wipe_length], S.sub, fun i s z => ?_, fun i j a p q => ?_, fun i a z => ?_, fun i z => ?_, S.fro, S.frame, fun i a z => ?_, S.forig⟩
  · by_cases h : i ∈ vs
    · have es := restE_in h s z
      rw [if_pos h]
      unfold fzOf at es
      split at es
      · rename_i d hd
        subst es
        rcases S1.sl i _ hd with ⟨y, _⟩ | ⟨v, y1, y2⟩
        · cases y
        · exact .inr ⟨v, y1, rfl, d.mono y2.2 m⟩
      · exact .inl ⟨es, rfl⟩
    · rw [restE_out h] at z
      rw [if_neg h, ← wipe_out' h]
      exact S.sl i s z
  · by_cases h : i ∈ vs
    · rw [if_pos h] at p; cases p
    · by_cases h' : j ∈ vs
      · rw [if_pos h'] at q; cases q
      · rw [if_neg h] at p; rw [if_neg h'] at q; exact S.dj i j a p q
  · by_cases h : i ∈ vs
    · rw [if_pos h] at z; cases z
    · rw [if_neg h] at z; exact S.own i a z
  · show (if i ∈ vs then [] else As i) = []
    by_cases h : i ∈ vs
    · exact if_pos h
    · rw [if_neg h]; exact S.out i (by rw [restE_len] at z; exact z)
  · by_cases h : i ∈ vs
    · rw [if_pos h] at z; cases z
    · rw [if_neg h] at z; exact S.orig i a z
/-- the tests of a comprehension -/
structure WTs (X : Cx) (env : List Sl) (ifs : List Expr) (Q : Bool → List Sl → Prop) : Prop where
  run : ∀ (B : Bs) (pins : List (Addr × Obj)) (s : Shared) (σ : L2.St) (H : Hp) (R : Bool → Hp → Prop), Inv X pins σ H s → SatE X.K B env σ H →
    (∀ b env' H', Q b env' → SatE X.K B env' σ H' → R b H') → wpAny (model X.prog X.w) X.A (forIn ifs true fun c r => if r = true then do let ok ← PySem.isTrue c X.env (eval c X.env); pure (ForInStep.yield ok) else pure (ForInStep.yield r)) (TP X pins σ R) X.xe s
section
variable {X : Cx} {env : List Sl}
theorem wts_nil {Q : Bool → List Sl → Prop} (h : Q true env) : WTs X env [] Q := ⟨fun B pins s σ H R I hs k => pts_nil.run pins s σ H R I (k _ _ _ h hs)⟩
theorem wts_one {c : Expr} {Q : Bool → List Sl → Prop} (h : WT X env c Q) : WTs X env [c] Q := ⟨fun B pins s σ H R I hs k => (pts_one ptT).run pins s σ H R I ⟨B, env, Q, h, hs, k⟩⟩
theorem ptsW {ifs : List Expr} : PTs X ifs (tT X.K fun env Q => WTs X env ifs Q) := ⟨fun pins s σ H R I ⟨B, env, Q, w, hs, k⟩ => w.run B pins s σ H R I hs k⟩
end
abbrev Blk (X : Cx) (scope : Scope) (P : Cx → Prop) : Prop := ∀ (s : Shared) (H : Hp) (C : Addr) (cl : List (Str × Addr)) (fp : List Addr), P (X.blk s H scope (compEnvC scope cl C X.env) fp)
section
variable {X : Cx} {env : List Sl} {tg iter elt : Expr} {ifs : List Expr} {scope : Scope} {own : List (Str × Nat)} {pos : Pos}
theorem Sat.set_any_same {K : Fg} {σ : L2.St} {vs : List Nat} {σ2 : L2.St} (hl : σ2.length = σ.length) (ho : ∀ j, j ∉ vs → σ2[j]? = (L2.wipe σ vs)[j]?) : L2.wipe σ2 vs = L2.wipe σ vs := by
  apply List.ext_getElem?
  intro j
  by_cases h : j ∈ vs
  · by_cases l : j < σ.length
    · rw [wipe_in' h l, wipe_in' h (by omega)]
    · rw [List.getElem?_eq_none (by rw [wipe_length]; omega), List.getElem?_eq_none (by rw [wipe_length]; omega)]
  · rw [wipe_out' h, ho j h]
/-- one turn's wish -/
def LcTurn (X : Cx) (scope : Scope) (tg elt : Expr) (ifs : List Expr) (vs : List Nat) {β : Type} [Rp β] (r : Sl) (acc : List β) (e : List Sl) (Nx : List β → List Sl → Prop) : Prop :=
  Blk X scope fun X' => WG X' e tg r (fun j => j ∈ vs) fun e2 => Blk X scope fun X' => WTs X' e2 ifs fun b e3 => Br b (Blk X scope fun X' => WE X' e3 elt fun r e4 => FzR r fun d => ∃ y : β, d = sd y ∧ acc.length < sizeLine ∧ Nx (acc ++ [y]) (wipeE e4 vs)) (Nx acc (wipeE e3 vs))
theorem Reps.snoc {α : Type} [Rp α] {K : Fg} {F : Hp} {x : α} {v : V} (r : Rp.rep K x v F) : ∀ {xs : List α} {vs : List V}, Reps K F xs vs → Reps K F (xs ++ [x]) (vs ++ [v])
  | _, _, .nil => .cons r .nil
  | _, _, .cons q t => .cons q (Reps.snoc r t)
theorem lc_read {vs : List Nat} {Q : Sl → List Sl → Prop} (h : WI X env tg iter fun n it e1 => ∃ (β : Type) (_ : Rp β) (I : Nat → List β → List Sl → Prop), I 0 [] (wipeE e1 vs) ∧ (∀ i acc e, i < n → I i acc e → LcTurn X scope tg elt ifs vs (it i) acc e (I (i + 1))) ∧ ∀ acc e, I n acc e → Q (ow acc) (restE e e1 vs))
    {B : Bs} {σ : L2.St} {H : Hp} {R : VK} (hs : SatE X.K B env σ H) (kk : ∀ r env' v H', Q r env' → SatE X.K B (r :: env') (some v :: σ) H' → R v H') :
    tLc (iW X.K fun env Q => WI X env tg iter Q) (gW X.K (fun j => j ∈ vs) fun env r Q => Blk X scope fun X' => WG X' env tg r (fun j => j ∈ vs) Q) (tT X.K fun env Q => Blk X scope fun X' => WTs X' env ifs Q)
      (tE X.K fun env Q => Blk X scope fun X' => WE X' env elt Q) vs σ H R := by
  refine ⟨B, env, _, h, hs, fun n it e1 J H1 ⟨β, _, Iv, i0, turn, fin⟩ ⟨F1, As1, S1, wk, wt⟩ D hD => ?_⟩
  have S1w := S1.now.wipe vs
  have S0 := S1w.fresh (ob := .lst []) (o := owB ([] : List β)) hD ⟨D, _, rfl, rfl, upd_same, [], rfl, .nil⟩
  refine ⟨fun i m H' => m = n - i ∧ i ≤ n ∧ ∃ acc e, Iv i acc e ∧ SatE X.K (nowB As1 F1 H1) (ow acc :: e) (some (.ref D) :: L2.wipe σ vs) H', ⟨n, by omega, Nat.zero_le _, [], _, i0, _, _, S0⟩, ?_⟩
  rintro i m H' ⟨rfl, hi, acc, e, iv, F', As', S'⟩
  have ml : Same F1 F' := S'.fro
  by_cases hlt : i < n
  · obtain ⟨go, yl⟩ := wt i hlt _ _ _ _ _ _ S'.tail.now ml
    refine .inr ⟨go, fun H' => ∃ acc e, Iv (i + 1) acc e ∧ SatE X.K (nowB As1 F1 H1) (ow acc :: e) (some (.ref D) :: L2.wipe σ vs) H', fun H2 q => ⟨n - (i + 1), by omega, rfl, hlt, q⟩, fun x H2 y => ?_⟩
    have T := turn i acc e hlt iv
    have hD2 : ∃ ws, H' D = some (.lst ws) ∧ Reps X.K F' acc ws ∧ As' 0 = [D] := by
      obtain ⟨a, o, z1, z2, z3, ws, z4, z5⟩ : (owB acc).P X.K (.ref D) (As' 0) H' F' := S'.head
      cases z1
      subst z4
      exact ⟨ws, z3, z5, z2⟩
    obtain ⟨ws, hDw, rws, hA0⟩ := hD2
    have keepD : ∀ (e2 : List Sl) (σ2 : L2.St) (H3 F3 : Hp) (As3 : Nat → List Addr), Sat X.K (nowB (fun i => As' (i + 1)) F' H') e2 σ2 H3 F3 As3 → H3 D = some (.lst ws) := fun e2 σ2 H3 F3 As3 S3 =>
      (S3.frame D _ hDw fun ⟨j, hj⟩ => by
        have := S'.dj _ _ D (by rw [hA0]; exact List.mem_cons_self) hj
        omega).1 (by intro z; cases z)
    refine ⟨nowB (fun i => As' (i + 1)) F' H', e, it i, _, T, yl x H2 y, fun e2 σ2 H3 w2 s2 o2 => ?_⟩
    have ew : L2.wipe σ2 vs = L2.wipe σ vs := Sat.set_any_same (K := X.K) (by rw [o2.len, wipe_length]) o2.out
    refine ⟨ew, nowB (fun i => As' (i + 1)) F' H', e2, _, w2, s2, fun b e3 H4 q3 s3 => ?_⟩
    cases b with
    | true =>
      refine iteT ⟨nowB (fun i => As' (i + 1)) F' H', e3, _, q3.1 rfl, s3, fun r e4 v H5 q4 s4 => ?_⟩
      obtain ⟨d, F5, As5, ⟨y', ed, hsz, nx⟩, S5, rd⟩ := Sat.frzHead s4 q4
      subst ed
      have W := S5.wipe vs
      rw [ew] at W
      have U := S'.under W
      have lw : acc.length = ws.length := rws.length
      have Wr := U.write (i := 0) (a := D) (ob := .lst (ws ++ [v])) (o := owB (acc ++ [y'])) (v := .ref D) rfl (by show D ∈ As' 0; rw [hA0]; exact List.mem_cons_self) (by
        show (owB (acc ++ [y'])).P X.K (.ref D) (As' 0) _ _
        exact ⟨D, _, rfl, hA0, upd_same, ws ++ [v], rfl, Reps.snoc rd (rws.mono S5.fro)⟩)
      exact ⟨ws, keepD _ _ _ _ _ S5, by omega, acc ++ [y'], wipeE e4 vs, nx, F5, _, Wr⟩
    | false =>
      obtain ⟨F5, As5, S5⟩ := s3
      have W := S5.wipe vs
      rw [ew] at W
      exact iteF ⟨acc, wipeE e3 vs, q3.2 rfl, F5, _, S'.under W⟩
  · have e' : i = n := by omega
    subst e'
    have R1 := S1.rest (S'.tail.now) ml
    exact .inl ⟨wk _ _ _ _ _ _ S'.tail ml, kk _ _ _ _ (fin acc e iv) ⟨F', _, S1.trans (S'.under R1)⟩⟩
theorem pgB {vs : Nat → Prop} (s : Shared) (H : Hp) (C : Addr) (cl : List (Str × Addr)) (fp : List Addr) : PG (X.blk s H scope (compEnvC scope cl C X.env) fp) tg (gW X.K vs fun env r Q => Blk X scope fun X' => WG X' env tg r vs Q) :=
  ⟨fun pins s' σ H' v u R I rv ⟨B, env, r, Q, w, hs, kk⟩ => (w s H C cl fp).run B pins s' σ H' v u R I hs rv kk⟩
theorem ptsB (s : Shared) (H : Hp) (C : Addr) (cl : List (Str × Addr)) (fp : List Addr) : PTs (X.blk s H scope (compEnvC scope cl C X.env) fp) ifs (tT X.K fun env Q => Blk X scope fun X' => WTs X' env ifs Q) :=
  ⟨fun pins s' σ H' R I ⟨B, env, Q, w, hs, k⟩ => (w s H C cl fp).run B pins s' σ H' R I hs k⟩
theorem peB (s : Shared) (H : Hp) (C : Addr) (cl : List (Str × Addr)) (fp : List Addr) : PE (X.blk s H scope (compEnvC scope cl C X.env) fp) elt (tE X.K fun env Q => Blk X scope fun X' => WE X' env elt Q) :=
  ⟨fun pins s' σ H' R I ⟨B, env, Q, w, hs, k⟩ => (w s H C cl fp).run B pins s' σ H' R I hs k⟩
/-- [elt for tg in iter if ..] -/
theorem we_lc {Q : Sl → List Sl → Prop} (own : List (Str × Nat)) (h : WI X env tg iter fun n it e1 => ∃ (β : Type) (_ : Rp β) (I : Nat → List β → List Sl → Prop), I 0 [] (wipeE e1 (own.map (·.2))) ∧ (∀ i acc e, i < n → I i acc e → LcTurn X scope tg elt ifs (own.map (·.2)) (it i) acc e (I (i + 1))) ∧ ∀ acc e, I n acc e → Q (ow acc) (restE e e1 (own.map (·.2))))
    (hN : X.N.Nodup) (ok : BlkOk X.N X.env.scope scope own) (hc : X.calm = true := by rfl) (hf : ∀ x, foldedSetIterable iter X.env x = pure x := by intro _; rfl) : WE X env (.ListComp elt [⟨tg, iter, ifs, 0⟩] scope pos) Q :=
  ⟨fun B pins s σ H R I hs k => (pe_lc hc hN piW ok pgB ptsB peB hf).run pins s σ H R I (lc_read h hs k)⟩
/-- y = [elt for tg in iter if ..] -/
theorem ws_setLc {y : Str} {py spos : Pos} {k : Kt} (i : Nat) (own : List (Str × Nat)) (h : WI X env tg iter fun n it e1 => ∃ (β : Type) (_ : Rp β) (I : Nat → List β → List Sl → Prop), I 0 [] (wipeE e1 (own.map (·.2))) ∧ (∀ i acc e, i < n → I i acc e → LcTurn X scope tg elt ifs (own.map (·.2)) (it i) acc e (I (i + 1))) ∧ ∀ acc e, I n acc e → (i < e.length ∧ k.nx ((restE e e1 (own.map (·.2))).set i (ow acc))))
    (hN : X.N.Nodup) (ok : BlkOk X.N X.env.scope scope own) (hy : X.N[i]? = some y := by rfl) (hyl : X.env.scope.names.lookup y = some .local := by rfl)
    (hsw : swapsWith (.ListComp elt [⟨tg, iter, ifs, 0⟩] scope pos) (some (.Name y py)) spos.line X.env = pure true := by exact sw_true rfl rfl rfl (by decide +kernel)) (hc : X.calm = true := by rfl) (hf : ∀ x, foldedSetIterable iter X.env x = pure x := by intro _; rfl) :
    WS X env (.Assign [.Name y py] (.ListComp elt [⟨tg, iter, ifs, 0⟩] scope pos) spos) k :=
  ⟨fun B pins s σ H D I hs kd => (ps_setLc hc hN hy hyl hsw piW ok pgB ptsB peB hf).run pins s σ H D I (lc_read (Q := fun r e => ∃ (β : Type) (_ : Rp β) (acc : List β), r = ow acc ∧ i < e.length ∧ k.nx (e.set i r)) (by
      refine ⟨fun B pins s σ H R I hs kk => h.run B pins s σ H R I hs fun n it e1 J H1 ⟨β, ib, Iv, i0, turn, fin⟩ w => kk n it e1 J H1 ⟨β, ib, Iv, i0, turn, fun acc e iv => ⟨β, ib, acc, rfl, ?_⟩⟩ w⟩
      obtain ⟨f1, f2⟩ := fin acc e iv
      exact ⟨by rw [restE_len]; exact f1, f2⟩) hs fun r e v H1 ⟨β, ib, acc, er, hl, q⟩ ⟨F, As, S⟩ => kd.nx _ _ _ q ⟨F, _, S.move hl⟩)⟩
/-- a comprehension's turns over a list -/
theorem turnL {α β : Type} [Rp α] [Rp β] {xs : List α} {vs : List Nat} {I : Nat → List β → List Sl → Prop} (hs : ∀ i x acc e, xs[i]? = some x → I i acc e → LcTurn X scope tg elt ifs vs (fz x) acc e (I (i + 1))) :
    ∀ i acc e, i < xs.length → I i acc e → LcTurn X scope tg elt ifs vs (itL xs i) acc e (I (i + 1)) := fun i acc e hi iv => by rw [itL_at (List.getElem?_eq_getElem hi)]; exact hs i _ acc e (List.getElem?_eq_getElem hi) iv
end
end S3

/-! S3: displays, lists, calls. -/
namespace S3
open PySem PySem.Spec PyProof.Rows L2

/-! ### argument lists -/
abbrev VwsOk (K : Fg) (σ : L2.St) (F : Hp) : List Vw → List V → Prop := Paired fun w v => VwOk K w v σ F
theorem VwsOk.mono {K : Fg} {σ : L2.St} {F F' : Hp} {ws : List Vw} {vs : List V} (h : VwsOk K σ F ws vs) (m : Same F F') : VwsOk K σ F' ws vs := Paired.mapP h fun _ _ r => r.mono m
structure WA (X : Cx) (env : List Sl) (es : List Expr) (Q : List Vw → List Sl → Prop) : Prop where
  run : ∀ (pos : Pos) (B : Bs) (pins : List (Addr × Obj)) (s : Shared) (σ : L2.St) (H : Hp) (R : List V → Hp → Prop), Inv X pins σ H s → SatE X.K B env σ H →
    (∀ ws env' vs H', Q ws env' → (∃ F As, Sat X.K B env' σ H' F As ∧ VwsOk X.K σ F ws vs) → R vs H') → wpAny (model X.prog X.w) X.A (spliced (backTo pos (starEach es X.env))) (AP X pins σ R) X.xe s
def tAr (K : Fg) (W : List Sl → (List Vw → List Sl → Prop) → Prop) : TA := fun σ H R => ∃ B env Q, W env Q ∧ SatE K B env σ H ∧ ∀ ws env' vs H', Q ws env' → (∃ F As, Sat K B env' σ H' F As ∧ VwsOk K σ F ws vs) → R vs H'
section
variable {X : Cx} {env : List Sl} {e : Expr} {es : List Expr} {pos : Pos}
theorem paA : PA X es (tAr X.K fun env Q => WA X env es Q) := ⟨fun pos pins s σ H R I ⟨B, env, Q, w, hs, k⟩ => w.run pos B pins s σ H R I hs k⟩
theorem wa_nil {Q : List Vw → List Sl → Prop} (h : Q [] env) : WA X env [] Q := ⟨fun pos B pins s σ H R I ⟨F, As, S⟩ k => pa_nil.run pos pins s σ H R I (k _ _ _ _ h ⟨F, As, S, .nil⟩)⟩
theorem wa_cons {Q : List Vw → List Sl → Prop} (h : WV X env e fun w e1 => WA X e1 es fun ws e2 => Q (w :: ws) e2) (hst : starEach (e :: es) X.env = (false, eval e X.env) :: starEach es X.env := by rfl) : WA X env (e :: es) Q :=
  ⟨fun pos B pins s σ H R I hs k => (pa_cons peV paA hst).run pos pins s σ H R I ⟨B, env, _, h, hs, fun w e1 x H1 q1 ⟨F1, As1, S1, v1⟩ => ⟨nowB As1 F1 H1, e1, _, q1, ⟨F1, As1, S1.now⟩, fun ws e2 vs H2 q2 ⟨F2, As2, S2, v2⟩ => k _ _ _ _ q2 ⟨F2, As2, S1.trans S2, .cons (v1.mono S2.fro) v2⟩⟩⟩⟩

/-! ### displays -/
def rawO (ob : HO) : OA := ⟨fun _ v A H _ => ∃ p, v = .ref p ∧ A = [p] ∧ H p = some ob,
  fun {K v A H F H' F'} ⟨p, e1, e2, e3⟩ k m => ⟨p, e1, e2, by rw [k p (by rw [e2]; exact List.mem_cons_self)]; exact e3⟩,
  fun {K v A H F} ⟨p, e1, e2, e3⟩ b hb => by
    rw [e2] at hb
    have : b = p := by simpa using hb
    subst this
    exact ⟨_, e3⟩⟩
/-- a new frozen object -/
theorem Sat.freshF {K : Fg} {B : Bs} {env : List Sl} {σ : L2.St} {H F : Hp} {As : Nat → List Addr} {p : Addr} {ob : HO} {d : SD} (h : Sat K B env σ H F As) (hp : H p = none) (hd : d.p K (.ref p) (upd F p ob)) :
    ∃ As', Sat K B (.fz d :: env) (some (.ref p) :: σ) (upd H p ob) (upd F p ob) As' := by
  have S := h.fresh (ob := ob) (o := rawO ob) hp ⟨p, rfl, rfl, upd_same⟩
  exact ⟨_, S.freeze (i := 0) (d := d) rfl rfl upd_same hd⟩
/-- all are frozen values of one type -/
theorem vals_of {K : Fg} {α : Type} [Rp α] {σ : L2.St} {F : Hp} : ∀ {xs : List α} {vs : List V}, VwsOk K σ F (xs.map fun x => vl x) vs → Reps K F xs vs
  | [], _, .nil => .nil
  | x :: xs, _, .cons r t => .cons r (vals_of t)
theorem we_lst {k : _} {Q : Sl → List Sl → Prop} (h : WA X env es fun ws e1 => ∃ (α : Type) (_ : Rp α) (xs : List α), ws = xs.map (fun x => vl x) ∧ xs.length ≤ sizeLine ∧ Q (ow xs) e1) : WE X env (.List es k) Q :=
  ⟨fun B pins s σ H R I hs kk => (pe_lst paA).run pins s σ H R I ⟨B, env, _, h, hs, fun ws e1 vs H1 ⟨α, _, xs, ew, hl, q⟩ ⟨F, As, S, ok⟩ => by
    subst ew
    have r := vals_of ok
    refine ⟨by rw [← r.length]; exact hl, fun p hp => kk _ _ _ _ q ⟨F, _, S.fresh (o := owB xs) hp ⟨p, _, rfl, rfl, upd_same, vs, rfl, r⟩⟩⟩⟩⟩
theorem we_nil {k : _} {α : Type} [Rp α] {Q : Sl → List Sl → Prop} (h : Q (ow ([] : List α)) env) : WE X env (.List [] k) Q := we_lst (wa_nil ⟨α, inferInstance, [], rfl, Nat.zero_le _, h⟩)
theorem we_tp {n : Nat} {Q : Sl → List Sl → Prop} (h : WA X env es fun ws e1 => ∃ (α : Type) (_ : Rp α) (xs : List α), ws = xs.map (fun x => vl x) ∧ xs.length ≤ sizeLine ∧ Q (fz (Tp.mk xs)) e1) : WE X env (.Tuple es n pos) Q :=
  ⟨fun B pins s σ H R I hs kk => (pe_tup paA).run pins s σ H R I ⟨B, env, _, h, hs, fun ws e1 vs H1 ⟨α, _, xs, ew, hl, q⟩ ⟨F, As, S, ok⟩ => by
    subst ew
    have r := vals_of ok
    refine ⟨by rw [← r.length]; exact hl, fun p hp => ?_⟩
    obtain ⟨As', S'⟩ := S.freshF (ob := .tup vs) (d := sd (Tp.mk xs)) hp ⟨p, vs, rfl, SqT.of upd_same, r.mono (same_upd (S.noF hp))⟩
    exact kk _ _ _ _ q ⟨_, As', S'⟩⟩⟩
theorem we_pair {n : Nat} {Q : Sl → List Sl → Prop} (h : WA X env es fun ws e1 => ∃ (α β : Type) (_ : Rp α) (_ : Rp β) (x : α) (y : β), ws = [vl x, vl y] ∧ Q (fz (x, y)) e1) : WE X env (.Tuple es n pos) Q :=
  ⟨fun B pins s σ H R I hs kk => (pe_tup paA).run pins s σ H R I ⟨B, env, _, h, hs, fun ws e1 vs H1 ⟨α, β, _, _, x, y, ew, q⟩ ⟨F, As, S, ok⟩ => by
    subst ew
    obtain ⟨u, w, rfl, r1, r2⟩ : ∃ u w, vs = [u, w] ∧ Rp.rep X.K x u F ∧ Rp.rep X.K y w F := by
      cases ok with
      | cons p t => cases t with
        | cons p' t' => cases t'; exact ⟨_, _, rfl, p, p'⟩
    refine ⟨by show 2 ≤ sizeLine; decide, fun p hp => ?_⟩
    have m := same_upd (o := .tup [u, w]) (S.noF hp)
    obtain ⟨As', S'⟩ := S.freshF (ob := .tup [u, w]) (d := sd (x, y)) hp ⟨p, u, w, rfl, upd_same, Rp.mono r1 m, Rp.mono r2 m⟩
    exact kk _ _ _ _ q ⟨_, As', S'⟩⟩⟩
theorem we_t3 {n : Nat} {Q : Sl → List Sl → Prop} (h : WA X env es fun ws e1 => ∃ (α β γ : Type) (_ : Rp α) (_ : Rp β) (_ : Rp γ) (x : α) (y : β) (z : γ), ws = [vl x, vl y, vl z] ∧ Q (fz (T3.mk x y z)) e1) : WE X env (.Tuple es n pos) Q :=
  ⟨fun B pins s σ H R I hs kk => (pe_tup paA).run pins s σ H R I ⟨B, env, _, h, hs, fun ws e1 vs H1 ⟨α, β, γ, _, _, _, x, y, z, ew, q⟩ ⟨F, As, S, ok⟩ => by
    subst ew
    obtain ⟨u, w, t, rfl, r1, r2, r3⟩ : ∃ u w t, vs = [u, w, t] ∧ Rp.rep X.K x u F ∧ Rp.rep X.K y w F ∧ Rp.rep X.K z t F := by
      cases ok with
      | cons p t => cases t with
        | cons p' t' => cases t' with
          | cons p2 t2 => cases t2; exact ⟨_, _, _, rfl, p, p', p2⟩
    refine ⟨by show 3 ≤ sizeLine; decide, fun p hp => ?_⟩
    have m := same_upd (o := .tup [u, w, t]) (S.noF hp)
    obtain ⟨As', S'⟩ := S.freshF (ob := .tup [u, w, t]) (d := sd (T3.mk x y z)) hp ⟨p, u, w, t, rfl, upd_same, Rp.mono r1 m, Rp.mono r2 m, Rp.mono r3 m⟩
    exact kk _ _ _ _ q ⟨_, As', S'⟩⟩⟩

/-! ### a list that is read -/
def RdL (K : Fg) {α : Type} [Rp α] (env : List Sl) (w : Vw) (xs : List α) : Prop := ∀ (B : Bs) (σ : L2.St) (H F : Hp) (As : Nat → List Addr) (v : V), Sat K B env σ H F As → VwOk K w v σ F → ∃ a vs, v = .ref a ∧ H a = some (.lst vs) ∧ Reps K F xs vs
def RdQ (K : Fg) {α : Type} [Rp α] (env : List Sl) (w : Vw) (xs : List α) : Prop := ∀ (B : Bs) (σ : L2.St) (H F : Hp) (As : Nat → List Addr) (v : V), Sat K B env σ H F As → VwOk K w v σ F → ∃ a vs, v = .ref a ∧ SqL K H a vs ∧ Reps K F xs vs
theorem RdL.q {K : Fg} {α : Type} [Rp α] {w : Vw} {xs : List α} (h : RdL K env w xs) : RdQ K env w xs := fun B σ H F As v S ok => by
  obtain ⟨a, vs, e, q, r⟩ := h B σ H F As v S ok
  exact ⟨a, vs, e, SqL.of q, r⟩
theorem rqR {K : Fg} {α : Type} [Rp α] {xs : Ro α} : RdQ K env (vl xs) xs.l := fun B σ H F As v S ⟨a, vs, e, q, r⟩ => ⟨a, vs, e, S.rdL q, r⟩
theorem rdV {K : Fg} {α : Type} [Rp α] {xs : List α} : RdL K env (vl xs) xs := fun B σ H F As v S ⟨a, vs, e, q, r⟩ => ⟨a, vs, e, S.rdX q, r⟩
theorem rdS {K : Fg} {α : Type} [Rp α] {xs : List α} {i : Nat} {m : Option V} (he : env[i]? = some (ow xs m) := by rfl) : RdL K env (.slot i) xs := fun B σ H F As v S ok => by
  have h := S.here he (by intro z; cases z) ok
  obtain ⟨_, a, o, e1, e2, e3, vs, e4, r⟩ := pin_iff.mp h
  subst e4
  exact ⟨a, vs, e1, e3, r⟩
theorem rqV {K : Fg} {α : Type} [Rp α] {xs : List α} : RdQ K env (vl xs) xs := rdV.q
theorem rqS {K : Fg} {α : Type} [Rp α] {xs : List α} {i : Nat} {m : Option V} (he : env[i]? = some (ow xs m) := by rfl) : RdQ K env (.slot i) xs := (rdS he).q
def RdT (K : Fg) {α : Type} [Rp α] (env : List Sl) (w : Vw) (xs : List α) : Prop := ∀ (B : Bs) (σ : L2.St) (H F : Hp) (As : Nat → List Addr) (v : V), Sat K B env σ H F As → VwOk K w v σ F → ∃ a vs, v = .ref a ∧ SqT K H a vs ∧ Reps K F xs vs
theorem rdTp {K : Fg} {α : Type} [Rp α] {t : Tp α} : RdT K env (vl t) t.l := fun B σ H F As v S ⟨a, vs, e, q, r⟩ => ⟨a, vs, e, S.rdT q, r⟩
theorem rdP {K : Fg} {α : Type} [Rp α] {t : α × α} : RdT K env (vl t) [t.1, t.2] := fun B σ H F As v S ⟨a, u, w, e, q, r1, r2⟩ => ⟨a, [u, w], e, SqT.of (S.rdY q), .cons r1 (.cons r2 .nil)⟩
/-- len -/
def LenW (K : Fg) (env : List Sl) (w : Vw) (n : Nat) : Prop := ∀ (B : Bs) (σ : L2.St) (H F : Hp) (As : Nat → List Addr) (v : V), Sat K B env σ H F As → VwOk K w v σ F → LenV K v H n
theorem RdQ.len {K : Fg} {α : Type} [Rp α] {w : Vw} {xs : List α} (h : RdQ K env w xs) : LenW K env w xs.length := fun B σ H F As v S ok => by
  obtain ⟨a, vs, e, q, r⟩ := h B σ H F As v S ok
  subst e
  exact .inl ⟨vs, q, r.length⟩
theorem RdT.len {K : Fg} {α : Type} [Rp α] {w : Vw} {xs : List α} (h : RdT K env w xs) : LenW K env w xs.length := fun B σ H F As v S ok => by
  obtain ⟨a, vs, e, q, r⟩ := h B σ H F As v S ok
  subst e
  exact .inr ⟨vs, q, r.length⟩
theorem we_len {a : Expr} {p : Pos} {Q : Sl → List Sl → Prop} (h : WV X env a fun w e1 => ∃ n : Nat, LenW X.K e1 w n ∧ Q (fz (n : Int)) e1) (hm : X.mg "len" = none) (hg : Gl X "len" := by rfl) (hst : starEach [a] X.env = (false, eval a X.env) :: starEach [] X.env := by rfl) (hpl : (backTo pos (starEach [] X.env)).any (·.1) = false := by rfl) : WE X env (.Call (.Name "len" p) [a] [] pos) Q :=
  ⟨fun B pins s σ H R I hs k => (pe_callB call_len hg hm PySem.boot_len (pa_cons peV pa_nil hst) (he := hst) (hpl := hpl)).run pins s σ H R I (one h hs fun w e1 x H1 F As ⟨n, hl, q⟩ S ok => ⟨x, n, rfl, hl B σ H1 F As x S ok, k _ _ _ _ q ⟨F, _, S.cons (d := sd (n : Int)) rfl⟩⟩)⟩
theorem Reps.atI {α : Type} [Rp α] {K : Fg} {F : Hp} {xs : List α} {vs : List V} {i : Int} {x : α} (r : Reps K F xs vs) (h : L2.atI xs i = some x) : ∃ v, L2.atI vs i = some v ∧ Rp.rep K x v F := by
  unfold L2.atI at h ⊢
  rw [← r.length]
  cases e : ixN xs.length i with
  | none => rw [e] at h; cases h
  | some j => rw [e] at h; exact r.get h
theorem we_ixL {a b : Expr} {Q : Sl → List Sl → Prop} (h : WV X env a fun w1 e1 => WV X e1 b fun w2 e2 => Is w2 fun i : Int => ∃ (α : Type) (_ : Rp α) (xs : List α) (x : α), RdQ X.K e2 w1 xs ∧ L2.atI xs i = some x ∧ Q (fz x) e2) (hix : PlainIx b := by exact fun _ _ => rfl) : WE X env (.Subscript a b pos) Q :=
  ⟨fun B pins s σ H R I hs k => (pe_ix ix_list peV peV hix).run pins s σ H R I (two h hs fun w1 w2 e' x y H' F As ⟨i, e2, α, _, xs, z, rd, at', q⟩ S v1 v2 => by
    subst e2
    obtain ⟨a, vs, ex, hq, r⟩ := rd B σ H' F As x S v1
    obtain ⟨v, hv, rv⟩ := r.atI at'
    exact ⟨a, vs, i, v, ex, v2, hq, hv, k _ _ _ _ q ⟨F, _, S.cons (d := sd z) rv⟩⟩)⟩
theorem we_ixT {a b : Expr} {Q : Sl → List Sl → Prop} (h : WV X env a fun w1 e1 => WV X e1 b fun w2 e2 => Is w2 fun i : Int => ∃ (α : Type) (_ : Rp α) (xs : List α) (x : α), RdT X.K e2 w1 xs ∧ L2.atI xs i = some x ∧ Q (fz x) e2) (hix : PlainIx b := by exact fun _ _ => rfl) : WE X env (.Subscript a b pos) Q :=
  ⟨fun B pins s σ H R I hs k => (pe_ix ix_tup peV peV hix).run pins s σ H R I (two h hs fun w1 w2 e' x y H' F As ⟨i, e2, α, _, xs, z, rd, at', q⟩ S v1 v2 => by
    subst e2
    obtain ⟨a, vs, ex, hq, r⟩ := rd B σ H' F As x S v1
    obtain ⟨v, hv, rv⟩ := r.atI at'
    exact ⟨a, vs, i, v, ex, v2, hq, hv, k _ _ _ _ q ⟨F, _, S.cons (d := sd z) rv⟩⟩)⟩
/-- a pair's first, second -/
theorem we_p0 {a b : Expr} {Q : Sl → List Sl → Prop} (h : WV X env a fun w1 e1 => WV X e1 b fun w2 e2 => ∃ (α β : Type) (_ : Rp α) (_ : Rp β) (z : α × β), w1 = vl z ∧ w2 = vl (0 : Int) ∧ Q (fz z.1) e2) (hix : PlainIx b := by exact fun _ _ => rfl) : WE X env (.Subscript a b pos) Q :=
  ⟨fun B pins s σ H R I hs k => (pe_ix ix_tup peV peV hix).run pins s σ H R I (two h hs fun w1 w2 e' x y H' F As ⟨α, β, _, _, z, e1, e2, q⟩ S v1 v2 => by
    subst e1; subst e2
    obtain ⟨a, u, w, ex, hq, r1, r2⟩ := v1
    exact ⟨a, [u, w], 0, u, ex, v2, SqT.of (S.rdY hq), rfl, k _ _ _ _ q ⟨F, _, S.cons (d := sd z.1) r1⟩⟩)⟩
theorem we_p1 {a b : Expr} {Q : Sl → List Sl → Prop} (h : WV X env a fun w1 e1 => WV X e1 b fun w2 e2 => ∃ (α β : Type) (_ : Rp α) (_ : Rp β) (z : α × β), w1 = vl z ∧ w2 = vl (1 : Int) ∧ Q (fz z.2) e2) (hix : PlainIx b := by exact fun _ _ => rfl) : WE X env (.Subscript a b pos) Q :=
  ⟨fun B pins s σ H R I hs k => (pe_ix ix_tup peV peV hix).run pins s σ H R I (two h hs fun w1 w2 e' x y H' F As ⟨α, β, _, _, z, e1, e2, q⟩ S v1 v2 => by
    subst e1; subst e2
    obtain ⟨a, u, w, ex, hq, r1, r2⟩ := v1
    exact ⟨a, [u, w], 1, w, ex, v2, SqT.of (S.rdY hq), rfl, k _ _ _ _ q ⟨F, _, S.cons (d := sd z.2) r2⟩⟩)⟩
theorem Reps.append {α : Type} [Rp α] {K : Fg} {F : Hp} : ∀ {xs ys : List α} {vs ws : List V}, Reps K F xs vs → Reps K F ys ws → Reps K F (xs ++ ys) (vs ++ ws)
  | _, _, _, _, .nil, s => s
  | _, _, _, _, .cons r t, s => .cons r (Reps.append t s)
theorem Reps.take {α : Type} [Rp α] {K : Fg} {F : Hp} : ∀ {xs : List α} {vs : List V} (n : Nat), Reps K F xs vs → Reps K F (xs.take n) (vs.take n)
  | _, _, 0, _ => .nil
  | _, _, _ + 1, .nil => .nil
  | _, _, n + 1, .cons r t => .cons r (Reps.take n t)
theorem Reps.drop {α : Type} [Rp α] {K : Fg} {F : Hp} : ∀ {xs : List α} {vs : List V} (n : Nat), Reps K F xs vs → Reps K F (xs.drop n) (vs.drop n)
  | _, _, 0, r => r
  | _, _, _ + 1, .nil => .nil
  | _, _, n + 1, .cons _ t => Reps.drop n t
theorem Reps.reverse {α : Type} [Rp α] {K : Fg} {F : Hp} : ∀ {xs : List α} {vs : List V}, Reps K F xs vs → Reps K F xs.reverse vs.reverse
  | _, _, .nil => .nil
  | _, _, .cons r t => by rw [List.reverse_cons, List.reverse_cons]; exact Reps.snoc r (Reps.reverse t)
theorem Reps.dropLast {α : Type} [Rp α] {K : Fg} {F : Hp} {xs : List α} {vs : List V} (r : Reps K F xs vs) : Reps K F xs.dropLast vs.dropLast := by
  rw [List.dropLast_eq_take, List.dropLast_eq_take, ← r.length]
  exact r.take _
/-- xs[lo:hi] -/
def cutL {α : Type} (xs : List α) (lo hi : Option Int) : List α := (xs.drop (HT.sIx xs.length 0 lo)).take (HT.sIx xs.length xs.length hi - HT.sIx xs.length 0 lo)
theorem Reps.cut {α : Type} [Rp α] {K : Fg} {F : Hp} {xs : List α} {vs : List V} (r : Reps K F xs vs) (lo hi : Option Int) : Reps K F (cutL xs lo hi) (cutV vs lo hi) := by
  unfold cutL cutV
  rw [← r.length]
  exact (r.drop _).take _
structure WO (X : Cx) (env : List Sl) (e : Option Expr) (Q : Option Int → List Sl → Prop) : Prop where
  run : ∀ (B : Bs) (pins : List (Addr × Obj)) (s : Shared) (σ : L2.St) (H : Hp) (R : Option Int → Hp → Prop), Inv X pins σ H s → SatE X.K B env σ H → (∀ o env' H', Q o env' → SatE X.K B env' σ H' → R o H') →
    wpAny (model X.prog X.w) X.A (evalPart e X.env) (fun u s' => ∃ o H', Inv X pins σ H' s' ∧ IsPart u o ∧ R o H') X.xe s
theorem wo_none {Q : Option Int → List Sl → Prop} (h : Q none env) : WO X env none Q := ⟨fun B pins s σ H R I hs k => po_none.run pins s σ H R I (k _ _ _ h hs)⟩
theorem wo_some {Q : Option Int → List Sl → Prop} (h : WV X env e fun w e1 => Is w fun i : Int => Q (some i) e1) : WO X env (some e) Q := ⟨fun B pins s σ H R I hs k => (po_some peV).run pins s σ H R I (one h hs fun w e1 x H1 F As ⟨i, ew, q⟩ S ok => by
  subst ew
  exact ⟨i, ok, k _ _ _ q ⟨F, As, S⟩⟩)⟩
theorem poO {o : Option Expr} : PO X o (fun σ H R => ∃ B env Q, WO X env o Q ∧ SatE X.K B env σ H ∧ ∀ l env' H', Q l env' → SatE X.K B env' σ H' → R l H') := ⟨fun pins s σ H R I ⟨B, env, Q, w, hs, k⟩ => w.run B pins s σ H R I hs k⟩
theorem we_slL {a : Expr} {lo hi : Option Expr} {p2 : Pos} {Q : Sl → List Sl → Prop} (h : WV X env a fun w e1 => WO X e1 lo fun l e2 => WO X e2 hi fun u e3 => ∃ (α : Type) (_ : Rp α) (xs : List α), RdQ X.K e3 w xs ∧ Q (ow (cutL xs l u)) e3) : WE X env (.Subscript a (.Slice lo hi none p2) pos) Q :=
  ⟨fun B pins s σ H R I hs k => (pe_slice sl_list peV poO poO).run pins s σ H R I ⟨B, env, _, h, hs, fun w e1 x H1 q1 ⟨F1, As1, S1, v1⟩ => ⟨nowB As1 F1 H1, e1, _, q1, ⟨F1, As1, S1.now⟩, fun l e2 H2 q2 ⟨F2, As2, S2⟩ => ⟨nowB As2 F2 H2, e2, _, q2, ⟨F2, As2, S2.now⟩, fun u e3 H3 ⟨α, _, xs, rd, q3⟩ ⟨F3, As3, S3⟩ => by
    obtain ⟨a, vs, ex, hq, r⟩ := rd _ σ H3 F3 As3 x S3 ((v1.mono S2.fro).mono S3.fro)
    exact ⟨a, vs, ex, hq, fun p hp => k _ _ _ _ q3 ⟨F3, _, ((S1.trans S2).trans S3).fresh (o := owB (cutL xs l u)) hp ⟨p, _, rfl, rfl, upd_same, _, rfl, r.cut l u⟩⟩⟩⟩⟩⟩⟩
theorem we_cat {a b : Expr} {Q : Sl → List Sl → Prop} (h : WV X env a fun w1 e1 => WV X e1 b fun w2 e2 => ∃ (α : Type) (_ : Rp α) (xs ys : List α), RdL X.K e2 w1 xs ∧ RdL X.K e2 w2 ys ∧ xs.length + ys.length ≤ sizeLine ∧ Q (ow (xs ++ ys)) e2) : WE X env (.BinOp a .Add b pos) Q :=
  ⟨fun B pins s σ H R I hs k => (pe_op op_cat peV peV).run pins s σ H R I (two h hs fun w1 w2 e' x y H' F As ⟨α, _, xs, ys, r1, r2, hl, q⟩ S v1 v2 => by
    obtain ⟨a, vs, ex, hq, r⟩ := r1 B σ H' F As x S v1
    obtain ⟨b, us, ey, hq', r'⟩ := r2 B σ H' F As y S v2
    refine ⟨a, b, vs, us, ex, ey, hq, hq', by rw [← r.length, ← r'.length]; exact hl, fun p hp => k _ _ _ _ q ⟨F, _, S.fresh (o := owB (xs ++ ys)) hp ⟨p, _, rfl, rfl, upd_same, _, rfl, r.append r'⟩⟩⟩)⟩

/-! ### methods of an owned list -/
theorem Sat.ownL {K : Fg} {B : Bs} {σ : L2.St} {H F : Hp} {As : Nat → List Addr} {i : Nat} {α : Type} [Rp α] {xs : List α} {m : Option V} {u : V} (S : Sat K B env σ H F As) (he : env[i]? = some (ow xs m)) (hv : σ[i]? = some (some u)) :
    ∃ a vs, u = .ref a ∧ As i = [a] ∧ H a = some (.lst vs) ∧ Reps K F xs vs ∧ ∀ v, m = some v → u = v := by
  have h := S.here he (by intro z; cases z) hv
  obtain ⟨p, a, o, e1, e2, e3, vs, e4, r⟩ := pin_iff.mp h
  subst e4
  exact ⟨a, vs, e1, e2, e3, r, p⟩
theorem Sat.setL {K : Fg} {B : Bs} {σ : L2.St} {H F : Hp} {As : Nat → List Addr} {i : Nat} {α : Type} [Rp α] {ys : List α} {m : Option V} {u : V} {a : Addr} {ws : List V} (S : Sat K B env σ H F As) (hv : σ[i]? = some (some u)) (e1 : u = .ref a) (e2 : As i = [a]) (p : ∀ v, m = some v → u = v)
    (r : Reps K F ys ws) : Sat K B (env.set i (ow ys m)) σ (upd H a (.lst ws)) F As :=
  S.write hv (by rw [e2]; exact List.mem_cons_self) (pin_iff.mpr ⟨p, a, _, e1, e2, upd_same, ws, rfl, r⟩)
section
variable {o : Expr} {name : Str} {apos cpos : Pos} {T id : String} {r : V → List V → Hp → VK → Prop}
def TyW (K : Fg) (env : List Sl) (w : Vw) (T : String) : Prop := ∀ (B : Bs) (σ : L2.St) (H F : Hp) (As : Nat → List Addr) (v : V), Sat K B env σ H F As → VwOk K w v σ F → tyV K T v H
theorem RdQ.ty {K : Fg} {α : Type} [Rp α] {w : Vw} {xs : List α} (h : RdQ K env w xs) : TyW K env w "list" := fun B σ H F As v S ok => by
  obtain ⟨a, vs, e, q, _⟩ := h B σ H F As v S ok
  subst e
  exact .inl ⟨rfl, vs, q⟩
/-- a built-in type's method, its rule by values -/
def MS (K : Fg) (r : V → List V → Hp → VK → Prop) (w : Vw) (ws : List Vw) (e : List Sl) (Q : Sl → List Sl → Prop) : Prop := ∀ (B : Bs) (σ : L2.St) (H F : Hp) (As : Nat → List Addr) (v : V) (vs : List V) (R : VK), Sat K B e σ H F As → VwOk K w v σ F → VwsOk K σ F ws vs →
  (∀ r env' v H', Q r env' → SatE K B (r :: env') (some v :: σ) H' → R v H') → r v vs H R
theorem we_bm (pa : PlainAttrs T) (slot : PySem.Slot T name id) (hty : typeOf (.builtin id) = pure (.type "method_descriptor")) (hm : MtR X id r) {Q : Sl → List Sl → Prop}
    (h : WV X env o fun w e1 => TyW X.K e1 w T ∧ WA X e1 (e :: es) fun ws e2 => MS X.K r w ws e2 Q)
    (hbase : attributeBase o name X.env (eval o X.env) = eval o X.env := by rfl)
    (hfew : ((backTo cpos (starEach (e :: es) X.env)).all (fun x => !x.1) && (backToKw cpos (keywordEach [] X.env)).all (fun x => x.1.isSome)
      && decide ((e :: es).length + ([] : List Keyword).length + (if ([] : List Keyword).isEmpty then 0 else 1) < 30)) = true := by rfl)
    (hline : (apos.endLine == cpos.line) = true := by rfl) (hs : starEach (e :: es) X.env = (false, eval e X.env) :: starEach es X.env := by rfl) (hplain : (backTo cpos (starEach es X.env)).any (·.1) = false := by rfl) :
    WE X env (.Call (.Attribute o name apos) (e :: es) [] cpos) Q :=
  ⟨fun B pins s σ H R I hs0 k => (L2.pe_bm pa slot hty hm peV paA hbase hfew hline hs hplain).run pins s σ H R I ⟨B, env, _, h, hs0, fun w e1 x H1 ⟨ty, q1⟩ ⟨F1, As1, S1, v1⟩ => ⟨ty B σ H1 F1 As1 x S1 v1, nowB As1 F1 H1, e1, _, q1, ⟨F1, As1, S1.now⟩, fun ws e2 vs H2 q2 ⟨F2, As2, S2, v2⟩ => q2 B σ H2 F2 As2 x vs R (S1.trans S2) (v1.mono S2.fro) v2 k⟩⟩⟩
theorem we_bm0 (pa : PlainAttrs T) (slot : PySem.Slot T name id) (hty : typeOf (.builtin id) = pure (.type "method_descriptor")) (hm : MtR X id r) {Q : Sl → List Sl → Prop}
    (h : WV X env o fun w e1 => TyW X.K e1 w T ∧ MS X.K r w [] e1 Q)
    (hbase : attributeBase o name X.env (eval o X.env) = eval o X.env := by rfl) (hline : (apos.endLine == cpos.line) = true := by rfl) : WE X env (.Call (.Attribute o name apos) [] [] cpos) Q :=
  ⟨fun B pins s σ H R I hs0 k => (L2.pe_bm0 pa slot hty hm peV hbase hline).run pins s σ H R I (one h hs0 fun w e1 x H1 F1 As1 ⟨ty, q1⟩ S1 v1 => ⟨ty B σ H1 F1 As1 x S1 v1, q1 B σ H1 F1 As1 x [] R S1 v1 .nil k⟩)⟩
theorem ms_append {K : Fg} {α : Type} [Rp α] {xs : List α} {y : α} {m : Option V} {i : Nat} {e : List Sl} {Q : Sl → List Sl → Prop} (he : e[i]? = some (ow xs m)) (hl : xs.length < sizeLine) (h : Q (fz ()) (e.set i (ow (xs ++ [y]) m))) : MS K rAppend (.slot i) [vl y] e Q := fun B σ H F As v vs R S hv ok k => by
  obtain ⟨a, us, e1, e2, e3, r, p⟩ := S.ownL he hv
  obtain ⟨u, rfl, ru⟩ : ∃ u, vs = [u] ∧ Rp.rep K y u F := by
    cases ok with
    | cons q t => cases t; exact ⟨_, rfl, q⟩
  exact ⟨a, us, u, e1, rfl, e3, by rw [← r.length]; exact hl, k _ _ _ _ h ⟨F, _, (S.setL hv e1 e2 p (Reps.snoc ru r)).cons (d := sd ()) rfl⟩⟩
theorem ms_pop {K : Fg} {α : Type} [Rp α] {xs : List α} {y : α} {m : Option V} {i : Nat} {e : List Sl} {Q : Sl → List Sl → Prop} (he : e[i]? = some (ow xs m)) (hy : xs[xs.length - 1]? = some y) (h : Q (fz y) (e.set i (ow xs.dropLast m))) : MS K rPop (.slot i) [] e Q := fun B σ H F As v vs R S hv ok k => by
  obtain ⟨a, us, e1, e2, e3, r, p⟩ := S.ownL he hv
  cases ok
  obtain ⟨u, hu, ru⟩ := r.get hy
  rw [r.length] at hu
  exact ⟨a, us, u, e1, rfl, e3, hu, k _ _ _ _ h ⟨F, _, (S.setL hv e1 e2 p r.dropLast).cons (d := sd y) ru⟩⟩
theorem Reps.eraseIdx {α : Type} [Rp α] {K : Fg} {F : Hp} : ∀ {xs : List α} {vs : List V} (n : Nat), Reps K F xs vs → Reps K F (xs.eraseIdx n) (vs.eraseIdx n)
  | _, _, _, .nil => .nil
  | _, _, 0, .cons _ t => t
  | _, _, n + 1, .cons r t => .cons r (Reps.eraseIdx n t)
theorem ms_popAt {K : Fg} {α : Type} [Rp α] {xs : List α} {y : α} {m : Option V} {i : Nat} {z : Int} {j : Nat} {e : List Sl} {Q : Sl → List Sl → Prop} (he : e[i]? = some (ow xs m)) (hz : -(2 ^ 63) ≤ z ∧ z < 2 ^ 63) (hj : seqIndex? z xs.length = some j) (hy : xs[j]? = some y) (h : Q (fz y) (e.set i (ow (xs.eraseIdx j) m))) : MS K rPopAt (.slot i) [vl z] e Q := fun B σ H F As v vs R S hv ok k => by
  obtain ⟨a, us, e1, e2, e3, r, p⟩ := S.ownL he hv
  obtain ⟨u, rfl, ru⟩ : ∃ u, vs = [u] ∧ u = .int z := by
    cases ok with
    | cons q t => cases t; exact ⟨_, rfl, q⟩
  subst ru
  obtain ⟨u, hu, ru⟩ := r.get hy
  exact ⟨a, us, z, j, u, e1, rfl, e3, hz.1, hz.2, by rw [← r.length]; exact hj, hu, k _ _ _ _ h ⟨F, _, (S.setL hv e1 e2 p (r.eraseIdx j)).cons (d := sd y) ru⟩⟩
theorem ms_reverse {K : Fg} {α : Type} [Rp α] {xs : List α} {m : Option V} {i : Nat} {e : List Sl} {Q : Sl → List Sl → Prop} (he : e[i]? = some (ow xs m)) (h : Q (fz ()) (e.set i (ow xs.reverse m))) : MS K rReverse (.slot i) [] e Q := fun B σ H F As v vs R S hv ok k => by
  obtain ⟨a, us, e1, e2, e3, r, p⟩ := S.ownL he hv
  cases ok
  exact ⟨a, us, e1, rfl, e3, k _ _ _ _ h ⟨F, _, (S.setL hv e1 e2 p r.reverse).cons (d := sd ()) rfl⟩⟩
/-- xs.append(e) -/
theorem we_append {Q : Sl → List Sl → Prop} (h : WV X env o fun w e1 => TyW X.K e1 w "list" ∧ WA X e1 [e] fun ws e2 => MS X.K rAppend w ws e2 Q) (hbase : attributeBase o "append" X.env (eval o X.env) = eval o X.env := by rfl)
    (hfew : ((backTo cpos (starEach [e] X.env)).all (fun x => !x.1) && (backToKw cpos (keywordEach [] X.env)).all (fun x => x.1.isSome) && decide ([e].length + ([] : List Keyword).length + (if ([] : List Keyword).isEmpty then 0 else 1) < 30)) = true := by rfl)
    (hline : (apos.endLine == cpos.line) = true := by rfl) (hs : starEach [e] X.env = (false, eval e X.env) :: starEach [] X.env := by rfl) (hplain : (backTo cpos (starEach [] X.env)).any (·.1) = false := by rfl) : WE X env (.Call (.Attribute o "append" apos) [e] [] cpos) Q :=
  we_bm PySem.F.plainAttrs_list PySem.F.slot_list_append PySem.F.type_list_append mt_append h hbase hfew hline hs hplain
theorem we_popAt {Q : Sl → List Sl → Prop} (h : WV X env o fun w e1 => TyW X.K e1 w "list" ∧ WA X e1 [e] fun ws e2 => MS X.K rPopAt w ws e2 Q) (hbase : attributeBase o "pop" X.env (eval o X.env) = eval o X.env := by rfl)
    (hfew : ((backTo cpos (starEach [e] X.env)).all (fun x => !x.1) && (backToKw cpos (keywordEach [] X.env)).all (fun x => x.1.isSome) && decide ([e].length + ([] : List Keyword).length + (if ([] : List Keyword).isEmpty then 0 else 1) < 30)) = true := by rfl)
    (hline : (apos.endLine == cpos.line) = true := by rfl) (hs : starEach [e] X.env = (false, eval e X.env) :: starEach [] X.env := by rfl) (hplain : (backTo cpos (starEach [] X.env)).any (·.1) = false := by rfl) : WE X env (.Call (.Attribute o "pop" apos) [e] [] cpos) Q :=
  we_bm PySem.F.plainAttrs_list PySem.F.slot_list_pop PySem.F.type_list_pop mt_popAt h hbase hfew hline hs hplain
theorem we_pop {Q : Sl → List Sl → Prop} (h : WV X env o fun w e1 => TyW X.K e1 w "list" ∧ MS X.K rPop w [] e1 Q) (hbase : attributeBase o "pop" X.env (eval o X.env) = eval o X.env := by rfl) (hline : (apos.endLine == cpos.line) = true := by rfl) : WE X env (.Call (.Attribute o "pop" apos) [] [] cpos) Q :=
  we_bm0 PySem.F.plainAttrs_list PySem.F.slot_list_pop PySem.F.type_list_pop mt_pop h hbase hline
theorem we_reverse {Q : Sl → List Sl → Prop} (h : WV X env o fun w e1 => TyW X.K e1 w "list" ∧ MS X.K rReverse w [] e1 Q) (hbase : attributeBase o "reverse" X.env (eval o X.env) = eval o X.env := by rfl) (hline : (apos.endLine == cpos.line) = true := by rfl) : WE X env (.Call (.Attribute o "reverse" apos) [] [] cpos) Q :=
  we_bm0 PySem.F.plainAttrs_list PySem.F.slot_list_reverse PySem.F.type_list_reverse mt_reverse h hbase hline
end
end
end S3

/-! S3: promises of defs, and their calls. -/
namespace S3
open PySem PySem.Spec PyProof.Rows L2

/-- what a def does: from its arguments, what is wanted of its result and of the arguments behind it -/
abbrev Tf := List Sl → (Sl → List Sl → Prop) → Prop
def spT (K : Fg) (T : Tf) (n : Nat) : Sp := fun vs H Q _ => ∃ (args : List Sl) (F : Hp) (As : Nat → List Addr) (Kt : Sl → List Sl → Prop), args.length = n ∧ T args Kt ∧ Sat K (nowB As F H) args (vs.map some) H F As ∧
  ∀ r args' v H', Kt r args' → SatE K (nowB As F H) (r :: args') (some v :: vs.map some) H' → Q v H'
theorem spT_len {K : Fg} {T : Tf} {n : Nat} {vs : List V} {H : Hp} {Q : VK} {E : XK} (h : spT K T n vs H Q E) : vs.length = n := by
  obtain ⟨args, F, As, Kt, hl, _, S, _⟩ := h
  have := S.len
  rw [List.length_map] at this
  omega

/-! ### a body -/
def argS (s : Sl) (v : V) : Sl := match s with
  | .ow o => .ow (o.at v)
  | .fz d => .fz d
  | .any => .any
def argE (args : List Sl) (vs : List V) (n : Nat) : List Sl := List.zipWith argS args vs ++ List.replicate n .any
inductive Back : List Sl → List V → List Sl → List Sl → Prop
  | nil {vs : List V} {e : List Sl} : Back [] vs e []
  | fz {d : SD} {as : List Sl} {v : V} {vs : List V} {s : Sl} {e as' : List Sl} : Back as vs e as' → Back (.fz d :: as) (v :: vs) (s :: e) (.fz d :: as')
  | ow {o o' : OA} {as : List Sl} {v : V} {vs : List V} {e as' : List Sl} : Back as vs e as' → Back (.ow o :: as) (v :: vs) (.ow (o'.at v) :: e) (.ow o' :: as')
theorem Back.len {args : List Sl} {vs : List V} {e args' : List Sl} (h : Back args vs e args') : args'.length = args.length := by
  induction h with
  | nil => rfl
  | fz _ ih => simp [ih]
  | ow _ ih => simp [ih]
theorem Back.at {args : List Sl} {vs : List V} {e args' : List Sl} (h : Back args vs e args') : ∀ (i : Nat) (s : Sl), args'[i]? = some s → (∃ d, s = .fz d ∧ args[i]? = some (.fz d)) ∨ ∃ o v, s = .ow o ∧ vs[i]? = some v ∧ e[i]? = some (.ow (o.at v)) := by
  induction h with
  | nil => intro i s e; simp at e
  | @fz d as v vs s0 e as' _ ih =>
    intro i s z
    cases i with
    | zero =>
      have z' : Sl.fz d = s := by simpa using z
      exact .inl ⟨d, z'.symm, rfl⟩
    | succ i => exact ih i s (by simpa using z)
  | @ow o o' as v vs e as' _ ih =>
    intro i s z
    cases i with
    | zero =>
      have z' : Sl.ow o' = s := by simpa using z
      exact .inr ⟨o', v, z'.symm, rfl, rfl⟩
    | succ i => exact ih i s (by simpa using z)
theorem Sat.start {K : Fg} {B : Bs} {args : List Sl} {vs : List V} {H F : Hp} {As : Nat → List Addr} {N : List Str} (S : Sat K B args (vs.map some) H F As) (hn : vs.length ≤ N.length) : Sat K B (argE args vs (N.length - vs.length)) (L2.start N vs) H F As := by
  have hl : args.length = vs.length := by have := S.len; rw [List.length_map] at this; exact this
  have hz : (List.zipWith argS args vs).length = vs.length := by rw [List.length_zipWith]; omega
  refine ⟨?_, S.sub, fun i s e => ?_, S.dj, S.own, fun i h => S.out i ?_, S.fro, S.frame, S.orig, S.forig⟩
  · unfold argE L2.start
    rw [List.length_append, hz, List.length_append, List.length_map, List.length_replicate, List.length_replicate]
  · unfold argE at e
    by_cases hi : i < vs.length
    · rw [List.getElem?_append_left (by omega), List.getElem?_zipWith] at e
      have ha : args[i]? = some args[i] := List.getElem?_eq_getElem (by omega)
      have hv : vs[i]? = some vs[i] := List.getElem?_eq_getElem hi
      rw [ha, hv] at e
      have es : argS args[i] vs[i] = s := by simpa using e
      have hσ : (L2.start N vs)[i]? = some (some vs[i]) := by
        unfold L2.start
        rw [List.getElem?_append_left (by simpa using hi), List.getElem?_map, hv]
        rfl
      rcases S.sl i _ ha with ⟨z1, z2⟩ | ⟨v, z1, z2⟩
      · rw [z1] at es
        exact .inl ⟨es.symm, z2⟩
      · rw [List.getElem?_map, hv] at z1
        have ev : vs[i] = v := by simpa using z1
        rw [← ev] at z2
        refine .inr ⟨vs[i], hσ, ?_⟩
        rw [← es]
        cases hs : args[i] with
        | any => rw [hs] at z2; exact z2
        | fz d => rw [hs] at z2; exact z2
        | ow o => rw [hs] at z2; exact ⟨rfl, z2⟩
    · rw [List.getElem?_append_right (by omega), List.getElem?_replicate] at e
      split at e
      · exact .inl ⟨(Option.some.inj e).symm, S.out i (by omega)⟩
      · cases e
  · unfold argE at h
    rw [List.length_append, hz, List.length_replicate] at h
    omega
theorem Sat.back {K : Fg} {args : List Sl} {vs : List V} {H F H' F' : Hp} {As As' : Nat → List Addr} {r : Sl} {v : V} {e args' : List Sl} {σ : L2.St} (S : Sat K (nowB As F H) args (vs.map some) H F As) (S' : Sat K (nowB As F H) (r :: e) (some v :: σ) H' F' As') (b : Back args vs e args') :
    SatE K (nowB As F H) (r :: args') (some v :: vs.map some) H' := by
  have hl : args.length = vs.length := by have := S.len; rw [List.length_map] at this; exact this
  have hb := b.len
  refine ⟨F', fun i => match i with | 0 => As' 0 | j + 1 => match args'[j]? with | some (.ow _) => As' (j + 1) | _ => [], ?_⟩
  have sub : ∀ j a, a ∈ (match args'[j]? with | some (.ow _) => As' (j + 1) | _ => []) → a ∈ As' (j + 1) := fun j a h => by
    split at h
    · exact h
    · cases h
  refine ⟨?_, S'.sub, fun i s z => ?_, fun i j a p q => ?_, fun i a z => ?_, fun i z => ?_, S'.fro, S'.frame, fun i a z => ?_, S'.forig⟩
  · simp; omega
  · cases i with
    | zero =>
      have z' : r = s := by simpa using z
      subst z'
      exact .inr ⟨v, rfl, S'.head⟩
    | succ i =>
      have z' : args'[i]? = some s := by simpa using z
      right
      rcases b.at i s z' with ⟨d, es, ha⟩ | ⟨o, u, es, hu, he⟩
      · subst es
        rcases S.sl i _ ha with ⟨q, _⟩ | ⟨u, q1, q2⟩
        · cases q
        · refine ⟨u, by simpa using q1, ?_⟩
          show SlOk K (.fz d) u (match args'[i]? with | some (.ow _) => As' (i + 1) | _ => []) H' F'
          rw [z']
          exact ⟨rfl, d.mono q2.2 S'.fro⟩
      · subst es
        refine ⟨u, ?_, ?_⟩
        · show (vs.map some)[i]? = some (some u)
          rw [List.getElem?_map, hu]; rfl
        · show SlOk K (.ow o) u (match args'[i]? with | some (.ow _) => As' (i + 1) | _ => []) H' F'
          rw [z']
          rcases S'.sl (i + 1) _ (by simpa using he) with ⟨q, _⟩ | ⟨u', q1, q2⟩
          · cases q
          · obtain ⟨q3, q4⟩ : u' = u ∧ o.P K u' (As' (i + 1)) H' F' := q2
            subst q3
            exact q4
  · cases i with
    | zero =>
      cases j with
      | zero => rfl
      | succ j => exact S'.dj _ _ a p (sub j a q)
    | succ i =>
      cases j with
      | zero => exact S'.dj _ _ a (sub i a p) q
      | succ j => exact S'.dj _ _ a (sub i a p) (sub j a q)
  · cases i with
    | zero => exact S'.own 0 a z
    | succ i => exact S'.own _ a (sub i a z)
  · cases i with
    | zero => simp at z
    | succ i =>
      show (match args'[i]? with | some (.ow _) => As' (i + 1) | _ => []) = []
      rw [List.getElem?_eq_none (by simpa using z)]
  · cases i with
    | zero => exact S'.orig 0 a z
    | succ i => exact S'.orig _ a (sub i a z)

section
variable {P : Program} {w : World} {K : Fg} {mg : Str → Option Value} {base : Heap}
/-- THE RULE for a def by its body -/
theorem fnT {x qual : Str} {st : Stmt} {f : Addr} {fd : FuncData} {N ps : List Str} {k : Nat} (F : Fun K x qual st f fd) (Sc : FnScope N ps (defScope st)) (T : Tf)
    (hb : ∀ (cdv : Value) (A : Around) (outer : List Env) (s : Shared) (H : Hp) (E : XK) (args : List Sl) (vs : List V) (Kt : Sl → List Sl → Prop), Room k (A.deeper (envOfC qual (defScope st) s.heap.objs.size f cdv)) → args.length = ps.length → vs.length = ps.length → T args Kt →
      WSs (cxOf CX0 P w K mg base N qual (defScope st) f cdv A outer s H E).nox (argE args vs (N.length - vs.length)) (defBody st)
        { nx := fun e => ∃ args', Back args vs e args' ∧ Kt (S3.fz ()) args', rt := fun r e => ∃ args', Back args vs e args' ∧ Kt r args' }) : FnOk P w K mg base CX0 (k + 1) f fd ps (spT K T ps.length) := by
  refine F.ok Sc (fun vs H Q E h => spT_len h) fun cdv A outer s H vs Q E hr h => ?_
  have hvl := spT_len h
  obtain ⟨args, F0, As, Kt, hl, hT, S, fin⟩ := h
  have hN : vs.length ≤ N.length := by have := congrArg List.length Sc.pre; rw [List.length_take] at this; omega
  refine ⟨_, pssS, nowB As F0 H, _, _, hb cdv A outer s H E args vs Kt hr hl hvl hT, ⟨F0, As, S.start hN⟩, ?_⟩
  refine ⟨fun e σ' H' ⟨args', b, kt⟩ ⟨F', As', S'⟩ => ?_, fun r e v σ' H' ⟨args', b, kt⟩ ⟨F', As', S'⟩ => fin _ _ _ _ kt (S.back S' b), fun _ _ _ z => z.elim, fun _ _ _ z => z.elim⟩
  exact fin _ _ _ _ kt (S.back (S'.cons (d := sd ()) (v := .non) rfl) b)
end

/-! ### a call -/
inductive Lend (e : List Sl) : List Vw → List (Option V) → List Sl → Prop
  | nil : Lend e [] [] []
  | val {d : SD} {ws : List Vw} {m : Option V} {ms : List (Option V)} {as : List Sl} : Lend e ws ms as → Lend e (.val d :: ws) (m :: ms) (.fz d :: as)
  | slot {i : Nat} {o : OA} {ws : List Vw} {m : Option V} {ms : List (Option V)} {as : List Sl} : e[i]? = some (.ow (o.pin m)) → (∀ j : Nat, ws[j]? ≠ some (.slot i)) → Lend e ws ms as → Lend e (.slot i :: ws) (m :: ms) (.ow o :: as)
/-- the lent things come back -/
def give : List Sl → List Vw → List (Option V) → List Sl → List Sl
  | e, .slot i :: ws, m :: ms, .ow o :: as => (give e ws ms as).set i (.ow (o.pin m))
  | e, .slot i :: ws, _ :: ms, _ :: as => (give e ws ms as).set i .any
  | e, .val _ :: ws, _ :: ms, _ :: as => give e ws ms as
  | e, _, _, _ => e
theorem Lend.len {e : List Sl} {ws : List Vw} {ms : List (Option V)} {as : List Sl} (h : Lend e ws ms as) : as.length = ws.length ∧ ms.length = ws.length := by
  induction h with
  | nil => exact ⟨rfl, rfl⟩
  | val _ ih => exact ⟨by simp [ih.1], by simp [ih.2]⟩
  | slot _ _ _ ih => exact ⟨by simp [ih.1], by simp [ih.2]⟩
theorem Lend.at {e : List Sl} {ws : List Vw} {ms : List (Option V)} {as : List Sl} (h : Lend e ws ms as) : ∀ (j : Nat) (s : Sl), as[j]? = some s → (∃ d, s = .fz d ∧ ws[j]? = some (.val d)) ∨ ∃ i o m, s = .ow o ∧ ws[j]? = some (.slot i) ∧ ms[j]? = some m ∧ e[i]? = some (.ow (o.pin m)) := by
  induction h with
  | nil => intro j s z; simp at z
  | @val d ws m ms as _ ih =>
    intro j s z
    cases j with
    | zero => exact .inl ⟨d, (by simpa using z : Sl.fz d = s).symm, rfl⟩
    | succ j => exact ih j s (by simpa using z)
  | @slot i o ws m ms as he hn _ ih =>
    intro j s z
    cases j with
    | zero => exact .inr ⟨i, o, m, (by simpa using z : Sl.ow o = s).symm, rfl, rfl, he⟩
    | succ j => exact ih j s (by simpa using z)
theorem Lend.inj {e : List Sl} {ws : List Vw} {ms : List (Option V)} {as : List Sl} (h : Lend e ws ms as) : ∀ (i j k : Nat), ws[j]? = some (.slot i) → ws[k]? = some (.slot i) → j = k := by
  induction h with
  | nil => intro i j k z; simp at z
  | @val d ws m ms as _ ih =>
    intro i j k p q
    cases j with
    | zero => simp at p
    | succ j => cases k with
      | zero => simp at q
      | succ k => exact congrArg (· + 1) (ih i j k (by simpa using p) (by simpa using q))
  | @slot i0 o ws m ms as he hn _ ih =>
    intro i j k p q
    cases j with
    | zero =>
      cases k with
      | zero => rfl
      | succ k =>
        have p' : i0 = i := by simpa using p
        subst p'
        exact absurd (by simpa using q) (hn k)
    | succ j =>
      cases k with
      | zero =>
        have q' : i0 = i := by simpa using q
        subst q'
        exact absurd (by simpa using p) (hn j)
      | succ k => exact congrArg (· + 1) (ih i j k (by simpa using p) (by simpa using q))
theorem give_len {e : List Sl} : ∀ {ws : List Vw} {ms : List (Option V)} {as : List Sl}, (give e ws ms as).length = e.length
  | .slot i :: ws, m :: ms, .ow o :: as => by unfold give; rw [List.length_set]; exact give_len
  | .slot i :: ws, m :: ms, .fz o :: as => by unfold give; rw [List.length_set]; exact give_len
  | .slot i :: ws, m :: ms, .any :: as => by unfold give; rw [List.length_set]; exact give_len
  | .val _ :: ws, _ :: ms, _ :: as => by unfold give; exact give_len
  | [], _, _ => by unfold give; rfl
  | .slot _ :: _, [], _ => by unfold give; rfl
  | .val _ :: _, [], _ => by unfold give; rfl
  | .slot _ :: _, _ :: _, [] => by unfold give; rfl
  | .val _ :: _, _ :: _, [] => by unfold give; rfl
theorem give_out {e : List Sl} {i : Nat} : ∀ {ws : List Vw} {ms : List (Option V)} {as : List Sl}, (∀ j : Nat, ws[j]? ≠ some (.slot i)) → (give e ws ms as)[i]? = e[i]?
  | .slot k :: ws, m :: ms, .ow o :: as, h => by
    unfold give
    have hk : k ≠ i := fun z => h 0 (by rw [z]; rfl)
    rw [List.getElem?_set_ne hk]
    exact give_out fun j => h (j + 1)
  | .slot k :: ws, m :: ms, .fz o :: as, h => by
    unfold give
    have hk : k ≠ i := fun z => h 0 (by rw [z]; rfl)
    rw [List.getElem?_set_ne hk]
    exact give_out fun j => h (j + 1)
  | .slot k :: ws, m :: ms, .any :: as, h => by
    unfold give
    have hk : k ≠ i := fun z => h 0 (by rw [z]; rfl)
    rw [List.getElem?_set_ne hk]
    exact give_out fun j => h (j + 1)
  | .val _ :: ws, _ :: ms, _ :: as, h => by unfold give; exact give_out fun j => h (j + 1)
  | [], _, _, _ => by unfold give; rfl
  | .slot _ :: _, [], _, _ => by unfold give; rfl
  | .val _ :: _, [], _, _ => by unfold give; rfl
  | .slot _ :: _, _ :: _, [], _ => by unfold give; rfl
  | .val _ :: _, _ :: _, [], _ => by unfold give; rfl
theorem give_at {e : List Sl} {i : Nat} : ∀ {ws : List Vw} {ms : List (Option V)} {as : List Sl} {j : Nat} {s : Sl}, ws[j]? = some (.slot i) → (∀ k, ws[k]? = some (.slot i) → j = k) → ws.length = ms.length → ws.length = as.length → (give e ws ms as)[i]? = some s → (s = .any ∧ ∀ o, as[j]? ≠ some (.ow o)) ∨ ∃ o m, as[j]? = some (.ow o) ∧ ms[j]? = some m ∧ s = .ow (o.pin m)
  | [], _, _, _, _, h, _, _, _, _ => by simp at h
  | w :: ws, [], _, _, _, _, _, l, _, _ => by simp at l
  | w :: ws, _ :: _, [], _, _, _, _, _, l, _ => by simp at l
  | w :: ws, m :: ms, a :: as, 0, s, h, u, l1, l2, z => by
    have hw : w = .slot i := by simpa using h
    subst hw
    have key : ∀ t, ((give e ws ms as).set i t)[i]? = some s → s = t := fun t z => by
      by_cases hl : i < (give e ws ms as).length
      · rw [List.getElem?_set_self hl] at z; exact (Option.some.inj z).symm
      · rw [List.getElem?_eq_none (by simpa using Nat.le_of_not_lt hl)] at z; cases z
    cases a with
    | ow o =>
      unfold give at z
      exact .inr ⟨o, m, rfl, rfl, key _ z⟩
    | fz o =>
      unfold give at z
      exact .inl ⟨key _ z, fun o z => by cases z⟩
    | any =>
      unfold give at z
      exact .inl ⟨key _ z, fun o z => by cases z⟩
  | w :: ws, m :: ms, a :: as, j + 1, s, h, u, l1, l2, z => by
    have h' : ws[j]? = some (.slot i) := by simpa using h
    have u' : ∀ k, ws[k]? = some (.slot i) → j = k := fun k hk => by have := u (k + 1) (by simpa using hk); omega
    have ih : ∀ {s}, (give e ws ms as)[i]? = some s → (s = .any ∧ ∀ o, as[j]? ≠ some (.ow o)) ∨ ∃ o m, as[j]? = some (.ow o) ∧ ms[j]? = some m ∧ s = .ow (o.pin m) := fun z => give_at h' u' (by simpa using l1) (by simpa using l2) z
    cases w with
    | val d =>
      unfold give at z
      exact ih z
    | slot k =>
      have hk : k ≠ i := fun q => by have := u 0 (by rw [q]; rfl); omega
      cases a with
      | ow o => unfold give at z; rw [List.getElem?_set_ne hk] at z; exact ih z
      | fz o => unfold give at z; rw [List.getElem?_set_ne hk] at z; exact ih z
      | any => unfold give at z; rw [List.getElem?_set_ne hk] at z; exact ih z
theorem VwsOk.at {K : Fg} {σ : L2.St} {F : Hp} {ws : List Vw} {vs : List V} (h : VwsOk K σ F ws vs) : ∀ (j : Nat) (w : Vw), ws[j]? = some w → ∃ v, vs[j]? = some v ∧ VwOk K w v σ F := by
  induction h with
  | nil => intro j w z; simp at z
  | cons r _ ih =>
    intro j w z
    cases j with
    | zero =>
      have z' := (by simpa using z : _ = w)
      subst z'
      exact ⟨_, rfl, r⟩
    | succ j => exact ih j w (by simpa using z)
theorem VwsOk.length {K : Fg} {σ : L2.St} {F : Hp} {ws : List Vw} {vs : List V} (h : VwsOk K σ F ws vs) : ws.length = vs.length := Paired.length h
def lendAs (ws : List Vw) (As : Nat → List Addr) (j : Nat) : List Addr := match ws[j]? with
  | some (.slot i) => As i
  | _ => []
theorem Sat.lend {K : Fg} {B : Bs} {e : List Sl} {σ : L2.St} {H F : Hp} {As : Nat → List Addr} {ws : List Vw} {ms : List (Option V)} {args : List Sl} {vs : List V} (S : Sat K B e σ H F As) (l : Lend e ws ms args) (ok : VwsOk K σ F ws vs) : Sat K (nowB (lendAs ws As) F H) args (vs.map some) H F (lendAs ws As) := by
  have hl := l.len
  have hv := ok.length
  refine ⟨by rw [List.length_map]; omega, S.sub, fun j s z => ?_, fun j k a p q => ?_, fun j a z => ?_, fun j z => ?_, Same.refl _, fun a o e _ => ⟨fun _ => e, fun z => by cases z⟩, fun j a z => .inl ⟨j, z⟩, fun a o e => .inl ⟨o, e⟩⟩
  · right
    rcases l.at j s z with ⟨d, es, hw⟩ | ⟨i, o, m, es, hw, hm, he⟩
    · obtain ⟨v, hv, r⟩ := ok.at j _ hw
      refine ⟨v, by rw [List.getElem?_map, hv]; rfl, ?_⟩
      subst es
      unfold lendAs
      rw [hw]
      exact ⟨rfl, r⟩
    · obtain ⟨v, hv, r⟩ := ok.at j _ hw
      refine ⟨v, by rw [List.getElem?_map, hv]; rfl, ?_⟩
      subst es
      unfold lendAs
      rw [hw]
      have q := S.here he (by intro z; cases z) r
      exact (pin_iff.mp q).2
  · unfold lendAs at p q
    split at p
    · rename_i i hi
      split at q
      · rename_i i' hi'
        have := S.dj _ _ a p q
        subst this
        exact l.inj _ _ _ hi hi'
      · cases q
    · cases p
  · unfold lendAs at z
    split at z
    · exact S.own _ a z
    · cases z
  · unfold lendAs
    rw [List.getElem?_eq_none (by omega)]
open Classical in
theorem Sat.given {K : Fg} {B : Bs} {e : List Sl} {σ : L2.St} {H F H2 F2 : Hp} {As As2 : Nat → List Addr} {ws : List Vw} {ms : List (Option V)} {args args' : List Sl} {vs : List V} {r : Sl} {v : V} (S : Sat K B e σ H F As) (l : Lend e ws ms args) (ok : VwsOk K σ F ws vs)
    (S2 : Sat K (nowB (lendAs ws As) F H) (r :: args') (some v :: vs.map some) H2 F2 As2) : SatE K B (r :: give e ws ms args') (some v :: σ) H2 := by
  have hl := l.len
  have hv := ok.length
  have hl' : args'.length = ws.length := by have := S2.len; simp at this; omega
  have Sa := S.lend l ok
  have orig : ∀ j a, a ∈ As2 j → (∃ i k : Nat, ws[k]? = some (.slot i) ∧ a ∈ As i) ∨ H a = none := fun j a z => by
    rcases S2.orig j a z with ⟨k, hk⟩ | z
    · left
      unfold lendAs at hk
      split at hk
      · rename_i i hi
        exact ⟨i, k, hi, hk⟩
      · cases hk
    · exact .inr z
  have nolent : ∀ (j i : Nat) (a : Addr), a ∈ As2 j → a ∈ As i → (∀ k : Nat, ws[k]? ≠ some (.slot i)) → False := fun j i a p q h => by
    rcases orig j a p with ⟨i', k, hk, z⟩ | z
    · have := S.dj _ _ a q z
      subst this
      exact h k hk
    · obtain ⟨o, e'⟩ := S.live i a q
      rw [z] at e'; cases e'
  let As3 : Nat → List Addr := fun i => match i with
    | 0 => As2 0
    | i + 1 => if h : ∃ j : Nat, ws[j]? = some (.slot i) then As2 (h.choose + 1) else As i
  have a3y : ∀ i j : Nat, ws[j]? = some (.slot i) → As3 (i + 1) = As2 (j + 1) := fun i j h => by
    have hx : ∃ j : Nat, ws[j]? = some (.slot i) := ⟨j, h⟩
    show (if h : ∃ j : Nat, ws[j]? = some (.slot i) then As2 (h.choose + 1) else As i) = _
    rw [dif_pos hx, l.inj _ _ _ hx.choose_spec h]
  have a3n : ∀ i : Nat, (∀ j : Nat, ws[j]? ≠ some (.slot i)) → As3 (i + 1) = As i := fun i h => by
    show (if h : ∃ j : Nat, ws[j]? = some (.slot i) then As2 (h.choose + 1) else As i) = _
    rw [dif_neg (fun ⟨j, hj⟩ => h j hj)]
  have dec : ∀ i : Nat, (∃ j : Nat, ws[j]? = some (.slot i)) ∨ ∀ j : Nat, ws[j]? ≠ some (.slot i) := fun i => by
    by_cases h : ∃ j : Nat, ws[j]? = some (.slot i)
    · exact .inl h
    · exact .inr fun j hj => h ⟨j, hj⟩
  have frame : ∀ a o, H a = some o → (∀ j, a ∉ lendAs ws As j) → H2 a = some o := fun a o e h => (S2.frame a o e fun ⟨j, hj⟩ => h j hj).1 (by intro z; cases z)
  have keepF : ∀ (i : Nat) (a : Addr), a ∈ As i → (∀ k : Nat, ws[k]? ≠ some (.slot i)) → H2 a = H a := fun i a ha h => by
    obtain ⟨o, e'⟩ := S.live i a ha
    rw [e']
    refine frame a o e' fun j hj => ?_
    unfold lendAs at hj
    split at hj
    · rename_i i' hi'
      have := S.dj _ _ a ha hj
      subst this
      exact h j hi'
    · cases hj
  refine ⟨F2, As3, ?_⟩
  refine ⟨by simp [give_len]; exact S.len, S2.sub, fun i s z => ?_, fun i j a p q => ?_, fun i a z => ?_, fun i z => ?_, S.fro.trans S2.fro, fun a o e' q => ?_, fun i a z => ?_, fun a o e' => ?_⟩
  · cases i with
    | zero =>
      have z' : r = s := by simpa using z
      subst z'
      exact .inr ⟨v, rfl, S2.head⟩
    | succ i =>
      have z' : (give e ws ms args')[i]? = some s := by simpa using z
      rcases dec i with ⟨j, hj⟩ | hn
      · rw [a3y i j hj]
        rcases give_at hj (fun k hk => l.inj _ _ _ hj hk) (by omega) (by omega) z' with ⟨q, q'⟩ | ⟨o, m, q1, q2, q3⟩
        · left
          refine ⟨q, ?_⟩
          have hj' : j < args'.length := by have := (List.getElem?_eq_some_iff.mp hj).1; omega
          have ea : args'[j]? = some args'[j] := List.getElem?_eq_getElem hj'
          rcases S2.sl (j + 1) args'[j] (by simpa using ea) with ⟨_, y⟩ | ⟨u, _, y⟩
          · exact y
          · cases hs : args'[j] with
            | any => rw [hs] at y; exact y
            | fz d => rw [hs] at y; exact y.1
            | ow o => rw [hs] at ea; exact absurd ea (q' o)
        · subst q3
          right
          have hjl : j < args.length := by
            have := (List.getElem?_eq_some_iff.mp hj).1; omega
          rcases l.at j _ (List.getElem?_eq_getElem hjl) with ⟨d, _, h2⟩ | ⟨i', o', m', h1, h2, h3, h4⟩
          · rw [hj] at h2; cases h2
          · rw [hj] at h2; cases h2
            rw [q2] at h3; cases h3
            obtain ⟨u, hu, ru⟩ := ok.at j _ hj
            have ru' : σ[i]? = some (some u) := ru
            have pin := (pin_iff.mp (S.here h4 (by intro z; cases z) ru')).1
            refine ⟨u, by simpa using ru', ?_⟩
            rcases S2.sl (j + 1) (.ow o) (by simpa using q1) with ⟨y, _⟩ | ⟨u', y1, y2⟩
            · cases y
            · have y1' : (vs.map some)[j]? = some (some u') := by simpa using y1
              rw [List.getElem?_map, hu] at y1'
              have eu : u = u' := by simpa using y1'
              subst eu
              exact pin_iff.mpr ⟨pin, y2⟩
      · rw [a3n i hn]
        rw [give_out hn] at z'
        rcases S.sl i s z' with q | ⟨u, q1, q2⟩
        · exact .inl q
        · exact .inr ⟨u, by simpa using q1, q2.loc (fun a ha => keepF i a ha hn) S2.fro⟩
  · cases i with
    | zero =>
      cases j with
      | zero => rfl
      | succ j =>
        exfalso
        rcases dec j with ⟨k, hk⟩ | hn
        · rw [a3y j k hk] at q
          have := S2.dj _ _ a p q; omega
        · rw [a3n j hn] at q
          exact nolent 0 j a p q hn
    | succ i =>
      cases j with
      | zero =>
        exfalso
        rcases dec i with ⟨k, hk⟩ | hn
        · rw [a3y i k hk] at p
          have := S2.dj _ _ a p q; omega
        · rw [a3n i hn] at p
          exact nolent 0 i a q p hn
      | succ j =>
        rcases dec i with ⟨k, hk⟩ | hn
        · rw [a3y i k hk] at p
          rcases dec j with ⟨k', hk'⟩ | hn'
          · rw [a3y j k' hk'] at q
            have e1 := S2.dj _ _ a p q
            have e2 : k = k' := by omega
            subst e2
            rw [hk] at hk'
            cases hk'
            rfl
          · rw [a3n j hn'] at q
            exact (nolent _ j a p q hn').elim
        · rw [a3n i hn] at p
          rcases dec j with ⟨k', hk'⟩ | hn'
          · rw [a3y j k' hk'] at q
            exact (nolent _ i a q p hn).elim
          · rw [a3n j hn'] at q
            rw [S.dj _ _ a p q]
  · cases i with
    | zero => exact S2.own 0 a z
    | succ i =>
      rcases dec i with ⟨j, hj⟩ | hn
      · rw [a3y i j hj] at z; exact S2.own _ a z
      · rw [a3n i hn] at z
        cases e' : F2 a with
        | none => rfl
        | some o =>
          rcases S2.forig a o e' with ⟨o', y⟩ | ⟨k, hk⟩ | y
          · have y' : F a = some o' := y
            rw [S.own i a z] at y'; cases y'
          · unfold lendAs at hk
            split at hk
            · rename_i i' hi'
              have := S.dj _ _ a z hk
              subst this
              exact absurd hi' (hn k)
            · cases hk
          · obtain ⟨o', y2⟩ := S.live i a z
            have y' : H a = none := y
            rw [y'] at y2; cases y2
  · cases i with
    | zero => simp at z
    | succ i =>
      have z' : e.length ≤ i := by simpa [give_len] using z
      have hn : ∀ j : Nat, ws[j]? ≠ some (.slot i) := fun j hj => by
        have hjl : j < args.length := by
          have := (List.getElem?_eq_some_iff.mp hj).1; omega
        rcases l.at j _ (List.getElem?_eq_getElem hjl) with ⟨d, _, h2⟩ | ⟨i', o', m', h1, h2, h3, h4⟩
        · rw [hj] at h2; cases h2
        · rw [hj] at h2; cases h2
          rw [List.getElem?_eq_none z'] at h4; cases h4
      rw [a3n i hn]
      exact S.out i z'
  · obtain ⟨f1, f2⟩ := S.frame a o e' q
    have nA : ∀ j, a ∉ lendAs ws As j := fun j hj => by
      unfold lendAs at hj
      split at hj
      · rename_i i hi
        rcases S.orig i a hj with y | y
        · exact q y
        · rw [e'] at y; cases y
      · cases hj
    exact ⟨fun lk => frame a o (f1 lk) nA, fun lk => let ⟨d, ob, e2⟩ := f2 lk; ⟨d, ob, frame a _ e2 nA⟩⟩
  · have go : ∀ j, a ∈ As2 j → B.A0 a ∨ B.H0 a = none := fun j h => by
      rcases orig j a h with ⟨i', k, _, y⟩ | y
      · exact S.orig i' a y
      · exact S.key y
    cases i with
    | zero => exact go 0 z
    | succ i =>
      rcases dec i with ⟨k, hk⟩ | hn
      · rw [a3y i k hk] at z; exact go _ z
      · rw [a3n i hn] at z; exact S.orig i a z
  · rcases S2.forig a o e' with ⟨o', y⟩ | ⟨k, hk⟩ | y
    · exact S.forig a o' y
    · right
      unfold lendAs at hk
      split at hk
      · rename_i i hi
        exact S.orig i a hk
      · cases hk
    · exact .inr (S.key y)

section
variable {X : Cx} {env : List Sl} {k : Nat} {f : Addr} {fd : FuncData} {ps : List Str} {x : Str} {p pos : Pos} {e : Expr} {es : List Expr}
/-- f(e, ..) -/
theorem we_call {T : Tf} {n : Nat} {Q : Sl → List Sl → Prop} (h : WA X env (e :: es) fun ws e1 => ∃ ms args, Lend e1 ws ms args ∧ args.length = n ∧ T args fun r args' => Q r (give e1 ws ms args')) (F : FnOk X.prog X.w X.K X.mg X.base CX0 k f fd ps (spT X.K T n)) (hr : Room k X.A) (hm : X.mg x = some (.ref f)) (hk : PySem.W.keepIn X.K (.ref f) = true) (hb : Binds X.K fd ps [])
    (hg : Gl X x := by rfl) (hdb : (x == ("__debug__" : Str)) = false := by decide) (he : starEach (e :: es) X.env = (false, eval e X.env) :: starEach es X.env := by rfl) (hpl : (backTo pos (starEach es X.env)).any (·.1) = false := by rfl) : WE X env (.Call (.Name x p) (e :: es) [] pos) Q :=
  ⟨fun B pins s σ H R I hs kk => (L2.pe_call F hr hg hm hk hb .nil pass0 paA hdb he hpl).run pins s σ H R I ⟨B, env, _, h, hs, fun ws e1 vs H1 ⟨ms, args, l, hl, ht⟩ ⟨F1, As1, S1, ok⟩ => by
    show spT X.K T n (vs ++ []) H1 R E0
    rw [List.append_nil]
    refine ⟨args, F1, _, _, hl, ht, S1.lend l ok, fun r args' v H2 q ⟨F2, As2, S2⟩ => kk _ _ _ _ q (S1.given l ok S2)⟩⟩⟩
end
end S3

/-! S3: data compared, built-ins, globals. -/
namespace S3
open PySem PySem.Spec PyProof.Rows L2

/-! ### data -/
/-- typed values that == compares as data; ok: what their texts must be -/
class PyD (α : Type) [Rp α] where
  toD : α → PyData
  ok : α → Prop
  dep : Nat
  dp : ∀ {K : Fg} {x : α} {v : V} {F H : Hp}, Rp.rep K x v F → (∀ (a : Addr) (xs : List V), F a = some (.lst xs) → H a = some (.lst xs)) → (∀ (a : Addr) (xs : List V), SqT K F a xs → SqT K H a xs) → Dp K H v (toD x)
  can : ∀ x, ok x → (toD x).canLay0 = true
  depth : ∀ x, (toD x).depth ≤ dep
  nn : ∀ x, toD x ≠ PyData.none ∨ True
  eqv : ∀ x y, PyData.eqv (toD x) (toD y) = true ↔ x = y
instance : PyD Int where
  toD := .int
  ok := fun _ => True
  dep := 0
  dp := fun {K x v F H} r _ _ => by
    have r' : v = .int x := r
    subst r'
    exact .int x
  can := fun _ _ => rfl
  depth := fun _ => Nat.le_refl _
  nn := fun _ => .inr trivial
  eqv := fun x y => by simp [PyData.eqv]
instance : PyD Bool where
  toD := .bool
  ok := fun _ => True
  dep := 0
  dp := fun {K x v F H} r _ _ => by
    have r' : v = .bl x := r
    subst r'
    exact .bl x
  can := fun _ _ => rfl
  depth := fun _ => Nat.le_refl _
  nn := fun _ => .inr trivial
  eqv := fun x y => by simp [PyData.eqv]
instance : PyD Str where
  toD := .str
  ok := fun x => PyData.strOk x = true
  dep := 0
  dp := fun {K x v F H} r _ _ => by
    have r' : v = .str x := r
    subst r'
    exact .str x
  can := fun x h => by simpa [PyData.canLay0] using h
  depth := fun _ => Nat.le_refl _
  nn := fun _ => .inr trivial
  eqv := fun x y => by simp [PyData.eqv]
instance : PyD Unit where
  toD := fun _ => .none
  ok := fun _ => True
  dep := 0
  dp := fun {K x v F H} r _ _ => by
    have r' : v = .non := r
    subst r'
    exact .non
  can := fun _ _ => rfl
  depth := fun _ => Nat.le_refl _
  nn := fun _ => .inr trivial
  eqv := fun x y => by simp [PyData.eqv]
/-- values that are never None -/
class PyN (α : Type) [Rp α] [PyD α] where
  ne : ∀ x : α, PyD.toD x ≠ PyData.none
instance : PyN Int := ⟨fun x h => by have h' : PyData.int x = PyData.none := h; cases h'⟩
instance : PyN Bool := ⟨fun x h => by have h' : PyData.bool x = PyData.none := h; cases h'⟩
instance : PyN Str := ⟨fun x h => by have h' : PyData.str x = PyData.none := h; cases h'⟩
def optD {α : Type} [Rp α] [PyD α] : Option α → PyData
  | none => .none
  | some x => PyD.toD x
def optOk {α : Type} [Rp α] [PyD α] : Option α → Prop
  | none => True
  | some x => PyD.ok x
theorem eqv_none_l {d : PyData} (h : PyData.eqv .none d = true) : d = .none := by cases d <;> simp [PyData.eqv] at h ⊢
theorem eqv_none_r {d : PyData} (h : PyData.eqv d .none = true) : d = .none := by cases d <;> simp [PyData.eqv] at h ⊢
instance {α : Type} [Rp α] [PyD α] [PyN α] : PyD (Option α) where
  toD := optD
  ok := optOk
  dep := PyD.dep α
  dp := fun {K x v F H} r hl ht => by
    cases x with
    | none =>
      have r' : v = .non := r
      subst r'
      exact .non
    | some y => exact PyD.dp (show Rp.rep K y v F from r) hl ht
  can := fun x h => by
    cases x with
    | none => rfl
    | some y => exact PyD.can y h
  depth := fun x => by
    cases x with
    | none => exact Nat.zero_le _
    | some y => exact PyD.depth y
  nn := fun _ => .inr trivial
  eqv := fun x y => by
    cases x with
    | none =>
      cases y with
      | none => simp [optD, PyData.eqv]
      | some y =>
        constructor
        · intro h; exact absurd (eqv_none_l h) (PyN.ne y)
        · intro h; cases h
    | some x =>
      cases y with
      | none =>
        constructor
        · intro h; exact absurd (eqv_none_r h) (PyN.ne x)
        · intro h; cases h
      | some y =>
        show PyData.eqv (PyD.toD x) (PyD.toD y) = true ↔ _
        rw [PyD.eqv]
        constructor
        · intro h; rw [h]
        · intro h; exact Option.some.inj h
theorem dpAll {α : Type} [Rp α] [PyD α] {K : Fg} {F H : Hp} (hl : ∀ (a : Addr) (xs : List V), F a = some (.lst xs) → H a = some (.lst xs)) (ht : ∀ (a : Addr) (xs : List V), SqT K F a xs → SqT K H a xs) : ∀ {xs : List α} {vs : List V}, Reps K F xs vs → DpAll K H vs (xs.map PyD.toD)
  | _, _, .nil => .nil
  | _, _, .cons r t => .cons (PyD.dp r hl ht) (dpAll hl ht t)
theorem canAll {α : Type} [Rp α] [PyD α] : ∀ {xs : List α}, (∀ x ∈ xs, PyD.ok x) → PyData.canLayAll0 (xs.map PyD.toD) = true
  | [], _ => rfl
  | x :: xs, h => by
    rw [List.map_cons]
    unfold PyData.canLayAll0
    rw [PyD.can x (h x List.mem_cons_self), canAll fun y hy => h y (List.mem_cons_of_mem _ hy)]
    rfl
theorem depthAll {α : Type} [Rp α] [PyD α] : ∀ {xs : List α}, PyData.depthAll (xs.map PyD.toD) ≤ PyD.dep α
  | [] => by simp [PyData.depthAll]
  | x :: xs => by
    rw [List.map_cons]
    unfold PyData.depthAll
    exact Nat.max_le.mpr ⟨PyD.depth x, depthAll⟩
theorem eqvAll {α : Type} [Rp α] [PyD α] : ∀ (xs ys : List α), PyData.eqvAll (xs.map PyD.toD) (ys.map PyD.toD) = true ↔ xs = ys
  | [], [] => by simp [PyData.eqvAll]
  | [], y :: ys => by simp [PyData.eqvAll]
  | x :: xs, [] => by simp [PyData.eqvAll]
  | x :: xs, y :: ys => by
    rw [List.map_cons, List.map_cons]
    unfold PyData.eqvAll
    rw [Bool.and_eq_true, PyD.eqv, eqvAll xs ys]
    simp
instance {α : Type} [Rp α] [PyD α] : PyD (List α) where
  toD := fun xs => .list (xs.map PyD.toD)
  ok := fun xs => ∀ x ∈ xs, PyD.ok x
  dep := PyD.dep α + 1
  dp := fun {K x v F H} ⟨a, vs, e, q, r⟩ hl ht => by
    subst e
    exact .lst (SqL.of (hl _ _ q)) (dpAll hl ht r)
  can := fun xs h => by
    unfold PyData.canLay0
    exact canAll h
  depth := fun xs => by
    unfold PyData.depth
    exact Nat.succ_le_succ depthAll
  nn := fun _ => .inr trivial
  eqv := fun xs ys => by
    unfold PyData.eqv
    exact eqvAll xs ys
instance {α : Type} [Rp α] [PyD α] : PyN (List α) := ⟨fun x h => by have h' : PyData.list _ = PyData.none := h; cases h'⟩
instance {α : Type} [Rp α] [PyD α] : PyD (Tp α) where
  toD := fun xs => .tuple (xs.l.map PyD.toD)
  ok := fun xs => ∀ x ∈ xs.l, PyD.ok x
  dep := PyD.dep α + 1
  dp := fun {K x v F H} ⟨a, vs, e, q, r⟩ hl ht => by
    subst e
    exact .tup (ht _ _ q) (dpAll hl ht r)
  can := fun xs h => by
    unfold PyData.canLay0
    exact canAll h
  depth := fun xs => by
    unfold PyData.depth
    exact Nat.succ_le_succ depthAll
  nn := fun _ => .inr trivial
  eqv := fun xs ys => by
    unfold PyData.eqv
    rw [eqvAll xs.l ys.l]
    cases xs; cases ys; simp
instance {α : Type} [Rp α] [PyD α] : PyN (Tp α) := ⟨fun x h => by have h' : PyData.tuple _ = PyData.none := h; cases h'⟩
instance {α β : Type} [Rp α] [Rp β] [PyD α] [PyD β] : PyD (α × β) where
  toD := fun x => .tuple [PyD.toD x.1, PyD.toD x.2]
  ok := fun x => PyD.ok x.1 ∧ PyD.ok x.2
  dep := max (PyD.dep α) (PyD.dep β) + 1
  dp := fun {K x v F H} ⟨a, u, w, e, q, r1, r2⟩ hl ht => by
    subst e
    exact .tup (ht _ _ (SqT.of q)) (.cons (PyD.dp r1 hl ht) (.cons (PyD.dp r2 hl ht) .nil))
  can := fun x h => by
    simp only [PyData.canLay0, PyData.canLayAll0]
    rw [PyD.can _ h.1, PyD.can _ h.2]
    rfl
  depth := fun x => by
    simp only [PyData.depth, PyData.depthAll]
    have h1 := PyD.depth x.1
    have h2 := PyD.depth x.2
    omega
  nn := fun _ => .inr trivial
  eqv := fun x y => by
    simp only [PyData.eqv, PyData.eqvAll, Bool.and_true, Bool.and_eq_true]
    rw [PyD.eqv, PyD.eqv]
    constructor
    · intro h; exact Prod.ext h.1 h.2
    · intro h; rw [h]; exact ⟨rfl, rfl⟩
instance {α β : Type} [Rp α] [Rp β] [PyD α] [PyD β] : PyN (α × β) := ⟨fun x h => by have h' : PyData.tuple _ = PyData.none := h; cases h'⟩
instance {α β γ : Type} [Rp α] [Rp β] [Rp γ] [PyD α] [PyD β] [PyD γ] : PyD (T3 α β γ) where
  toD := fun x => .tuple [PyD.toD x.a, PyD.toD x.b, PyD.toD x.c]
  ok := fun x => PyD.ok x.a ∧ PyD.ok x.b ∧ PyD.ok x.c
  dep := max (PyD.dep α) (max (PyD.dep β) (PyD.dep γ)) + 1
  dp := fun {K x v F H} ⟨a, u, w, z, e, q, r1, r2, r3⟩ hl ht => by
    subst e
    exact .tup (ht _ _ (SqT.of q)) (.cons (PyD.dp r1 hl ht) (.cons (PyD.dp r2 hl ht) (.cons (PyD.dp r3 hl ht) .nil)))
  can := fun x h => by
    simp only [PyData.canLay0, PyData.canLayAll0]
    rw [PyD.can _ h.1, PyD.can _ h.2.1, PyD.can _ h.2.2]
    rfl
  depth := fun x => by
    simp only [PyData.depth, PyData.depthAll]
    have h1 := PyD.depth x.a
    have h2 := PyD.depth x.b
    have h3 := PyD.depth x.c
    omega
  nn := fun _ => .inr trivial
  eqv := fun x y => by
    simp only [PyData.eqv, PyData.eqvAll, Bool.and_true, Bool.and_eq_true]
    rw [PyD.eqv, PyD.eqv, PyD.eqv]
    cases x; cases y; simp
instance {α β γ : Type} [Rp α] [Rp β] [Rp γ] [PyD α] [PyD β] [PyD γ] : PyN (T3 α β γ) := ⟨fun x h => by have h' : PyData.tuple _ = PyData.none := h; cases h'⟩

section
variable {X : Cx} {env : List Sl} {a b c : Expr} {pos : Pos}
/-- the operand reads as this data -/
def RdD (K : Fg) {α : Type} [Rp α] [PyD α] (env : List Sl) (w : Vw) (x : α) : Prop := ∀ (B : Bs) (σ : L2.St) (H F : Hp) (As : Nat → List Addr) (v : V), Sat K B env σ H F As → VwOk K w v σ F → Dp K H v (PyD.toD x)
theorem rdD {K : Fg} {α : Type} [Rp α] [PyD α] {x : α} : RdD K env (vl x) x := fun B σ H F As v S ok => PyD.dp (show Rp.rep K x v F from ok) (fun a xs q => S.rdX q) fun a xs q => S.rdT q
theorem rdDs {K : Fg} {α : Type} [Rp α] [PyD α] {xs : List α} {i : Nat} {m : Option V} (he : env[i]? = some (ow xs m) := by rfl) : RdD K env (.slot i) xs := fun B σ H F As v S ok => by
  obtain ⟨a, vs, e1, e3, r⟩ := rdS he B σ H F As v S ok
  subst e1
  exact .lst (SqL.of e3) (dpAll (fun a xs q => S.rdX q) (fun a xs q => S.rdT q) r)
theorem eqv_dec {α : Type} [Rp α] [PyD α] [DecidableEq α] (x y : α) : PyData.eqv (PyD.toD x) (PyD.toD y) = decide (x = y) := by
  rw [Bool.eq_iff_iff, PyD.eqv]
  simp
theorem shaped_of {α : Type} [Rp α] [PyD α] {x : α} (h : PyD.ok x) (hd : PyD.dep α ≤ 64) : SeqAt.shaped (PyD.toD x) = true := by
  unfold SeqAt.shaped
  rw [PyD.can x h, Bool.true_and]
  exact decide_eq_true (Nat.le_trans (PyD.depth x) hd)
/-- two operands that are data of one type -/
def EqS (K : Fg) (w1 w2 : Vw) (e : List Sl) (k : Bool → Prop) : Prop := ∃ (α : Type) (_ : Rp α) (_ : PyD α) (_ : DecidableEq α) (x y : α), RdD K e w1 x ∧ RdD K e w2 y ∧ PyD.ok x ∧ PyD.ok y ∧ PyD.dep α ≤ 64 ∧ k (decide (x = y))
theorem wt_eq {k : Nat} {Q : Bool → List Sl → Prop} (hr : Room k X.A) (h : WV X env a fun w1 e1 => WV X e1 b fun w2 e2 => EqS X.K w1 w2 e2 fun d => Q d e2) : WT X env (.Compare a [.Eq] [b] pos) Q :=
  ⟨fun B pins s σ H R I hs kk => (pt_cmpR (op_eqD hr.units) peV peV (nomark _)).run pins s σ H R I (two h hs fun w1 w2 e' x y H' F As ⟨α, _, _, _, z, t, r1, r2, o1, o2, hd, q⟩ S v1 v2 =>
    ⟨_, _, r1 B σ H' F As x S v1, r2 B σ H' F As y S v2, shaped_of o1 hd, shaped_of o2 hd, _, rfl, kk _ _ _ (by rw [eqv_dec]; exact q) ⟨F, As, S⟩⟩)⟩
theorem wt_ne {k : Nat} {Q : Bool → List Sl → Prop} (hr : Room k X.A) (h : WV X env a fun w1 e1 => WV X e1 b fun w2 e2 => EqS X.K w1 w2 e2 fun d => Q (!d) e2) : WT X env (.Compare a [.NotEq] [b] pos) Q :=
  ⟨fun B pins s σ H R I hs kk => (pt_cmpR (op_neD hr.units) peV peV (nomark _)).run pins s σ H R I (two h hs fun w1 w2 e' x y H' F As ⟨α, _, _, _, z, t, r1, r2, o1, o2, hd, q⟩ S v1 v2 =>
    ⟨_, _, r1 B σ H' F As x S v1, r2 B σ H' F As y S v2, shaped_of o1 hd, shaped_of o2 hd, _, rfl, kk _ _ _ (by rw [eqv_dec]; exact q) ⟨F, As, S⟩⟩)⟩
theorem we_eq {k : Nat} {Q : Sl → List Sl → Prop} (hr : Room k X.A) (h : WV X env a fun w1 e1 => WV X e1 b fun w2 e2 => EqS X.K w1 w2 e2 fun d => Q (fz d) e2) : WE X env (.Compare a [.Eq] [b] pos) Q :=
  ⟨fun B pins s σ H R I hs kk => (pe_cmpR (op_eqD hr.units) peV peV (nomark _)).run pins s σ H R I (two h hs fun w1 w2 e' x y H' F As ⟨α, _, _, _, z, t, r1, r2, o1, o2, hd, q⟩ S v1 v2 =>
    ⟨_, _, r1 B σ H' F As x S v1, r2 B σ H' F As y S v2, shaped_of o1 hd, shaped_of o2 hd, kk _ _ _ _ q ⟨F, _, S.cons (d := sd (decide (z = t))) (by rw [eqv_dec]; rfl)⟩⟩)⟩
theorem we_ne {k : Nat} {Q : Sl → List Sl → Prop} (hr : Room k X.A) (h : WV X env a fun w1 e1 => WV X e1 b fun w2 e2 => EqS X.K w1 w2 e2 fun d => Q (fz (!d)) e2) : WE X env (.Compare a [.NotEq] [b] pos) Q :=
  ⟨fun B pins s σ H R I hs kk => (pe_cmpR (op_neD hr.units) peV peV (nomark _)).run pins s σ H R I (two h hs fun w1 w2 e' x y H' F As ⟨α, _, _, _, z, t, r1, r2, o1, o2, hd, q⟩ S v1 v2 =>
    ⟨_, _, r1 B σ H' F As x S v1, r2 B σ H' F As y S v2, shaped_of o1 hd, shaped_of o2 hd, kk _ _ _ _ q ⟨F, _, S.cons (d := sd (!decide (z = t))) (by rw [eqv_dec]; rfl)⟩⟩)⟩
/-- is None, is not None; is True, is not True -/
theorem wt_isN {j : Nat} {p2 : Pos} {Q : Bool → List Sl → Prop} (h : WV X env a fun w e1 => ∃ (α : Type) (_ : Rp α) (x : Option α), w = vl x ∧ (∀ (y : α) (v : V) (F : Hp), Rp.rep X.K y v F → v ≠ .non) ∧ Q x.isNone e1) : WT X env (.Compare a [.Is] [.Constant .none j p2] pos) Q :=
  ⟨fun B pins s σ H R I hs kk => (pt_cmp (pc_isN peV)).run pins s σ H R I (one h hs fun w e' x H' F As ⟨α, _, o, ew, hn, q⟩ S ok => by
    subst ew
    refine ⟨_, rfl, kk _ _ _ ?_ ⟨F, As, S⟩⟩
    cases o with
    | none =>
      have ok' : x = .non := ok
      rw [decide_eq_true ok']; exact q
    | some y => rw [decide_eq_false (hn y x F ok)]; exact q)⟩
theorem wt_notN {j : Nat} {p2 : Pos} {Q : Bool → List Sl → Prop} (h : WV X env a fun w e1 => ∃ (α : Type) (_ : Rp α) (x : Option α), w = vl x ∧ (∀ (y : α) (v : V) (F : Hp), Rp.rep X.K y v F → v ≠ .non) ∧ Q x.isSome e1) : WT X env (.Compare a [.IsNot] [.Constant .none j p2] pos) Q :=
  ⟨fun B pins s σ H R I hs kk => (pt_cmp (pc_notN peV)).run pins s σ H R I (one h hs fun w e' x H' F As ⟨α, _, o, ew, hn, q⟩ S ok => by
    subst ew
    refine ⟨_, rfl, kk _ _ _ ?_ ⟨F, As, S⟩⟩
    cases o with
    | none =>
      have ok' : x = .non := ok
      rw [decide_eq_true ok']; exact q
    | some y => rw [decide_eq_false (hn y x F ok)]; exact q)⟩
theorem wt_isB {Q : Bool → List Sl → Prop} (h : WV X env a fun w1 e1 => WV X e1 b fun w2 e2 => Is2 w1 w2 fun i j : Bool => Q (decide (i = j)) e2) : WT X env (.Compare a [.Is] [b] pos) Q :=
  ⟨fun B pins s σ H R I hs k => (pt_cmpR op_isBl peV peV (nomark _)).run pins s σ H R I (two h hs fun w1 w2 e' x y H' F As ⟨i, j, e1, e2, q⟩ S v1 v2 => by
    subst e1; subst e2
    exact ⟨i, j, v1, v2, _, rfl, k _ _ _ q ⟨F, As, S⟩⟩)⟩
theorem wt_notB {Q : Bool → List Sl → Prop} (h : WV X env a fun w1 e1 => WV X e1 b fun w2 e2 => Is2 w1 w2 fun i j : Bool => Q (!decide (i = j)) e2) : WT X env (.Compare a [.IsNot] [b] pos) Q :=
  ⟨fun B pins s σ H R I hs k => (pt_cmpR op_notBl peV peV (nomark _)).run pins s σ H R I (two h hs fun w1 w2 e' x y H' F As ⟨i, j, e1, e2, q⟩ S v1 v2 => by
    subst e1; subst e2
    exact ⟨i, j, v1, v2, _, rfl, k _ _ _ q ⟨F, As, S⟩⟩)⟩

/-! ### built-ins by name -/
/-- a call of a built-in, its rule by values -/
def CS (K : Fg) (r : List V → Hp → VK → Prop) (ws : List Vw) (e : List Sl) (Q : Sl → List Sl → Prop) : Prop := ∀ (B : Bs) (σ : L2.St) (H F : Hp) (As : Nat → List Addr) (vs : List V) (R : VK), Sat K B e σ H F As → VwsOk K σ F ws vs →
  (∀ r env' v H', Q r env' → SatE K B (r :: env') (some v :: σ) H' → R v H') → r vs H R
section
variable {x : Str} {id T : String} {r : List V → Hp → VK → Prop} {e : Expr} {es : List Expr} {p : Pos}
theorem we_callB {Q : Sl → List Sl → Prop} (hc : CallR X (.builtin id) r) (hm : X.mg x = none) (hv : bootBuiltins x = some (.builtin id)) (h : WA X env (e :: es) fun ws e1 => CS X.K r ws e1 Q) (hg : Gl X x := by rfl) (hn : x ≠ "__name__" := by decide) (hdb : (x == ("__debug__" : Str)) = false := by decide)
    (he : starEach (e :: es) X.env = (false, eval e X.env) :: starEach es X.env := by rfl) (hpl : (backTo pos (starEach es X.env)).any (·.1) = false := by rfl) : WE X env (.Call (.Name x p) (e :: es) [] pos) Q :=
  ⟨fun B pins s σ H R I hs kk => (pe_callB hc hg hm hv paA hn hdb he hpl).run pins s σ H R I ⟨B, env, _, h, hs, fun ws e1 vs H1 q ⟨F, As, S, ok⟩ => q B σ H1 F As vs R S ok kk⟩⟩
theorem we_callTy {Q : Sl → List Sl → Prop} (hc : CallR X (.type T) r) (hm : X.mg x = none) (hv : bootBuiltins x = some (.type T)) (h : WA X env (e :: es) fun ws e1 => CS X.K r ws e1 Q) (hg : Gl X x := by rfl) (hn : x ≠ "__name__" := by decide) (hdb : (x == ("__debug__" : Str)) = false := by decide)
    (he : starEach (e :: es) X.env = (false, eval e X.env) :: starEach es X.env := by rfl) (hpl : (backTo pos (starEach es X.env)).any (·.1) = false := by rfl) : WE X env (.Call (.Name x p) (e :: es) [] pos) Q :=
  ⟨fun B pins s σ H R I hs kk => (pe_callTy hc hg hm hv paA hn hdb he hpl).run pins s σ H R I ⟨B, env, _, h, hs, fun ws e1 vs H1 q ⟨F, As, S, ok⟩ => q B σ H1 F As vs R S ok kk⟩⟩
end
theorem vws1 {K : Fg} {σ : L2.St} {F : Hp} {w : Vw} {vs : List V} (h : VwsOk K σ F [w] vs) : ∃ v, vs = [v] ∧ VwOk K w v σ F := by
  cases h with
  | cons r t => cases t; exact ⟨_, rfl, r⟩
theorem vws2 {K : Fg} {σ : L2.St} {F : Hp} {w w' : Vw} {vs : List V} (h : VwsOk K σ F [w, w'] vs) : ∃ v v', vs = [v, v'] ∧ VwOk K w v σ F ∧ VwOk K w' v' σ F := by
  cases h with
  | cons r t => cases t with
    | cons r' t' => cases t'; exact ⟨_, _, rfl, r, r'⟩
section
variable {e : Expr} {es : List Expr} {p : Pos} {Q : Sl → List Sl → Prop}
theorem cs_abs {i : Int} {e1 : List Sl} {K : Fg} (h : Q (fz (if i < 0 then -i else i)) e1) : CS K (fun xs H Q => ∃ i, xs = [.int i] ∧ Q (.int (if i < 0 then -i else i)) H) [vl i] e1 Q := fun B σ H F As vs R S ok k => by
  obtain ⟨v, rfl, r⟩ := vws1 ok
  have r' : v = .int i := r
  subst r'
  exact ⟨i, rfl, k _ _ _ _ h ⟨F, _, S.cons (d := sd (if i < 0 then -i else i)) rfl⟩⟩
theorem cs_max2 {i j : Int} {e1 : List Sl} {K : Fg} (h : Q (fz (max i j)) e1) : CS K (fun xs H Q => ∃ i j, xs = [.int i, .int j] ∧ Q (.int (if j > i then j else i)) H) [vl i, vl j] e1 Q := fun B σ H F As vs R S ok k => by
  obtain ⟨v, v', rfl, r1, r2⟩ := vws2 ok
  have r1' : v = .int i := r1
  have r2' : v' = .int j := r2
  subst r1'; subst r2'
  have e : (if j > i then j else i) = max i j := by split <;> omega
  refine ⟨i, j, rfl, ?_⟩
  rw [e]
  exact k _ _ _ _ h ⟨F, _, S.cons (d := sd (max i j)) rfl⟩
theorem cs_min2 {i j : Int} {e1 : List Sl} {K : Fg} (h : Q (fz (min i j)) e1) : CS K (fun xs H Q => ∃ i j, xs = [.int i, .int j] ∧ Q (.int (if j < i then j else i)) H) [vl i, vl j] e1 Q := fun B σ H F As vs R S ok k => by
  obtain ⟨v, v', rfl, r1, r2⟩ := vws2 ok
  have r1' : v = .int i := r1
  have r2' : v' = .int j := r2
  subst r1'; subst r2'
  have e : (if j < i then j else i) = min i j := by split <;> omega
  refine ⟨i, j, rfl, ?_⟩
  rw [e]
  exact k _ _ _ _ h ⟨F, _, S.cons (d := sd (min i j)) rfl⟩
theorem cs_intI {i : Int} {e1 : List Sl} {K : Fg} (h : Q (fz i) e1) : CS K (fun xs H Q => (∃ i, xs = [.int i] ∧ Q (.int i) H) ∨ ∃ k, xs = [.bl k] ∧ Q (.int (if k then 1 else 0)) H) [vl i] e1 Q := fun B σ H F As vs R S ok k => by
  obtain ⟨v, rfl, r⟩ := vws1 ok
  have r' : v = .int i := r
  subst r'
  exact .inl ⟨i, rfl, k _ _ _ _ h ⟨F, _, S.cons (d := sd i) rfl⟩⟩
theorem cs_intB {b : Bool} {e1 : List Sl} {K : Fg} (h : Q (fz (if b then (1 : Int) else 0)) e1) : CS K (fun xs H Q => (∃ i, xs = [.int i] ∧ Q (.int i) H) ∨ ∃ k, xs = [.bl k] ∧ Q (.int (if k then 1 else 0)) H) [vl b] e1 Q := fun B σ H F As vs R S ok k => by
  obtain ⟨v, rfl, r⟩ := vws1 ok
  have r' : v = .bl b := r
  subst r'
  exact .inr ⟨b, rfl, k _ _ _ _ h ⟨F, _, S.cons (d := sd (if b then (1 : Int) else 0)) rfl⟩⟩
theorem Reps.ints {K : Fg} {F : Hp} : ∀ {xs : List Int} {vs : List V}, Reps K F xs vs → vs = xs.map V.int
  | _, _, .nil => rfl
  | _, _, .cons (a := x) (b := v) r t => by
    have r' : v = .int x := r
    rw [List.map_cons, ← Reps.ints t, r']
theorem Reps.bools {K : Fg} {F : Hp} : ∀ {xs : List Bool} {vs : List V}, Reps K F xs vs → vs = xs.map V.bl
  | _, _, .nil => rfl
  | _, _, .cons (a := x) (b := v) r t => by
    have r' : v = .bl x := r
    rw [List.map_cons, ← Reps.bools t, r']
theorem cs_sum {xs : List Int} {w : Vw} {e1 : List Sl} {K : Fg} (rd : RdQ K e1 w xs) (h : Q (fz xs.sum) e1) : CS K (rSum K) [w] e1 Q := fun B σ H F As vs R S ok k => by
  obtain ⟨v, rfl, r⟩ := vws1 ok
  obtain ⟨a, us, ev, q, rr⟩ := rd B σ H F As v S r
  subst ev
  exact ⟨a, xs, rfl, by rw [← rr.ints]; exact q, k _ _ _ _ h ⟨F, _, S.cons (d := sd xs.sum) rfl⟩⟩
theorem cs_any {xs : List Bool} {w : Vw} {e1 : List Sl} {K : Fg} (rd : RdQ K e1 w xs) (h : Q (fz (xs.any id)) e1) : CS K (rAny K) [w] e1 Q := fun B σ H F As vs R S ok k => by
  obtain ⟨v, rfl, r⟩ := vws1 ok
  obtain ⟨a, us, ev, q, rr⟩ := rd B σ H F As v S r
  subst ev
  exact ⟨a, xs, rfl, by rw [← rr.bools]; exact q, k _ _ _ _ h ⟨F, _, S.cons (d := sd (xs.any id)) rfl⟩⟩
theorem cs_all {xs : List Bool} {w : Vw} {e1 : List Sl} {K : Fg} (rd : RdQ K e1 w xs) (h : Q (fz (xs.all id)) e1) : CS K (rAll K) [w] e1 Q := fun B σ H F As vs R S ok k => by
  obtain ⟨v, rfl, r⟩ := vws1 ok
  obtain ⟨a, us, ev, q, rr⟩ := rd B σ H F As v S r
  subst ev
  exact ⟨a, xs, rfl, by rw [← rr.bools]; exact q, k _ _ _ _ h ⟨F, _, S.cons (d := sd (xs.all id)) rfl⟩⟩
end

/-! ### a module's constants -/
theorem we_gI {x : Str} {i : Int} {t : Tok} {Q : Sl → List Sl → Prop} (hm : X.mg x = some (.int i t)) (h : Q (fz i) env) (hg : Gl X x := by rfl) (hd : (x == ("__debug__" : Str)) = false := by decide) : WE X env (.Name x pos) Q := we_c (pe_glob (v := .int i) hg hm ⟨t, rfl⟩ hd) i (fun _ => rfl) h
theorem wv_gI {x : Str} {i : Int} {t : Tok} {Q : Vw → List Sl → Prop} (hm : X.mg x = some (.int i t)) (h : Q (vl i) env) (hg : Gl X x := by rfl) (hd : (x == ("__debug__" : Str)) = false := by decide) : WV X env (.Name x pos) Q := wv_c (pe_glob (v := .int i) hg hm ⟨t, rfl⟩ hd) i (fun _ => rfl) h
/-- a module's tuple -/
theorem wv_gT {x : Str} {a : Addr} {α : Type} [Rp α] {xs : List α} {Q : Vw → List Sl → Prop} (hm : X.mg x = some (.ref a)) (ha : ∃ vs, (∀ H : Hp, SqT X.K H a vs) ∧ ∀ F : Hp, Reps X.K F xs vs) (h : Q (vl (Tp.mk xs)) env) (hg : Gl X x := by rfl) (hd : (x == ("__debug__" : Str)) = false := by decide) : WV X env (.Name x pos) Q :=
  wv_c (pe_glob (v := .ref a) hg hm rfl hd) (Tp.mk xs) (fun F => by obtain ⟨vs, h1, h2⟩ := ha; exact ⟨a, vs, rfl, h1 F, h2 F⟩) h

/-! ### x += e -/
theorem ws_augI {x : Str} {op : Operator} {g : Int → Int → Int} {k : Kt} {e : Expr} {pos' : Pos} (ho : OpR X (inplaceOp op) (rI0 fun i j => .int (g i j))) (i : Nat) (z : Int) (hz : env[i]? = some (fz z)) (h : WV X env e fun w e1 => Is w fun j : Int => (e1.length = env.length ∧ e1[i]? = some (fz z)) ∧ k.nx (e1.set i (fz (g z j))))
    (hN : X.N.Nodup) (hi : X.N[i]? = some x := by rfl) (hx : Loc X.env.scope x := by first | exact Or.inl rfl | exact Or.inr rfl) (hl : i < env.length := by exact of_decide_eq_true rfl) (hf : X.fn x = true ∨ X.env.scope.names.lookup x = some .local := by first | exact .inl rfl | exact .inr rfl) : WS X env (.AugAssign (.Name x pos') op e pos) k :=
  ⟨fun B pins s σ H D I ⟨F, As, S⟩ kd => (ps_aug hN hi hx peV (ti := fun x y H Q => ∃ i j, x = .int i ∧ y = .int j ∧ Q (.int (g i j)) H) (fun pins s σ H x y v u Q I r1 r2 q => ho pins s σ H x y v u Q I r1 r2 q) hf).run pins s σ H D I (by
    obtain ⟨v, hv, ok⟩ := S.there hz (by intro z; cases z)
    have ok' : v = .int z := ok.2
    subst ok'
    refine ⟨.int z, hv, one h ⟨F, As, S⟩ fun w e1 y H1 F1 As1 ⟨j, ew, ⟨hle, he1⟩, q⟩ S1 v1 => ?_⟩
    subst ew
    have v1' : y = .int j := v1
    subst v1'
    exact ⟨z, j, rfl, rfl, kd.nx _ _ _ q ⟨F1, _, (S1.cons (d := sd (g z j)) (v := .int (g z j)) rfl).move (by omega)⟩⟩)⟩
end
end S3

/-! S3: forms that one uses. -/
namespace S3
open PySem PySem.Spec PyProof.Rows L2

section
variable {K : Fg} {e : List Sl} {α : Type} [Rp α] [PyD α] [DecidableEq α]
theorem EqS.vv {x y : α} {k : Bool → Prop} (o1 : PyD.ok x) (o2 : PyD.ok y) (h : k (decide (x = y))) (hd : PyD.dep α ≤ 64 := by decide) : EqS K (vl x) (vl y) e k := ⟨α, inferInstance, inferInstance, inferInstance, x, y, rdD, rdD, o1, o2, hd, h⟩
theorem EqS.sv {xs y : List α} {i : Nat} {m : Option V} {k : Bool → Prop} (he : e[i]? = some (ow xs m)) (o1 : PyD.ok xs) (o2 : PyD.ok y) (h : k (decide (xs = y))) (hd : PyD.dep (List α) ≤ 64 := by decide) : EqS K (.slot i) (vl y) e k := ⟨List α, inferInstance, inferInstance, inferInstance, xs, y, rdDs he, rdD, o1, o2, hd, h⟩
theorem EqS.vs {x ys : List α} {i : Nat} {m : Option V} {k : Bool → Prop} (he : e[i]? = some (ow ys m)) (o1 : PyD.ok x) (o2 : PyD.ok ys) (h : k (decide (x = ys))) (hd : PyD.dep (List α) ≤ 64 := by decide) : EqS K (vl x) (.slot i) e k := ⟨List α, inferInstance, inferInstance, inferInstance, x, ys, rdD, rdDs he, o1, o2, hd, h⟩
end

/-! ### what is walked, as a list -/
def IsW {α : Type} [Rp α] (n : Nat) (it : Nat → Sl) (xs : List α) : Prop := n = xs.length ∧ ∀ (i : Nat) (x : α), xs[i]? = some x → it i = fz x
theorem isW_list {α : Type} [Rp α] {xs : List α} : IsW xs.length (itL xs) xs := ⟨rfl, fun i x h => itL_at h⟩
def rangeL (lo : Int) (n : Nat) : List Int := (List.range n).map fun i : Nat => lo + (i : Int)
theorem rangeL_len {lo : Int} {n : Nat} : (rangeL lo n).length = n := by simp [rangeL]
theorem rangeL_at {lo : Int} {n i : Nat} {x : Int} (h : (rangeL lo n)[i]? = some x) : x = lo + (i : Int) ∧ i < n := by
  unfold rangeL at h
  rw [List.getElem?_map] at h
  by_cases hi : i < n
  · rw [List.getElem?_range hi] at h
    exact ⟨(Option.some.inj h).symm, hi⟩
  · rw [List.getElem?_eq_none (by simpa using Nat.le_of_not_lt hi)] at h
    cases h
theorem mem_rangeL {lo x : Int} {n : Nat} : x ∈ rangeL lo n ↔ lo ≤ x ∧ x < lo + (n : Int) := by
  unfold rangeL
  rw [List.mem_map]
  constructor
  · rintro ⟨i, hi, rfl⟩
    have := List.mem_range.mp hi
    omega
  · intro h
    exact ⟨(x - lo).toNat, List.mem_range.mpr (by omega), by omega⟩
theorem isW_range {lo : Int} {n : Nat} : IsW n (fun i => fz (lo + (i : Int))) (rangeL lo n) := ⟨rangeL_len.symm, fun i x h => by rw [(rangeL_at h).1]⟩

/-! ### environments that say less -/
inductive Ref : List Sl → List Sl → Prop
  | nil : Ref [] []
  | any {s : Sl} {e e' : List Sl} : Ref e e' → Ref (s :: e) (.any :: e')
  | same {s : Sl} {e e' : List Sl} : Ref e e' → Ref (s :: e) (s :: e')
theorem Ref.refl : ∀ e : List Sl, Ref e e
  | [] => .nil
  | _ :: e => .same (Ref.refl e)
theorem Ref.trans {a b c : List Sl} (h : Ref a b) (k : Ref b c) : Ref a c := by
  induction h generalizing c with
  | nil => exact k
  | any _ ih => cases k with
    | any k => exact .any (ih k)
    | same k => exact .any (ih k)
  | same _ ih => cases k with
    | any k => exact .any (ih k)
    | same k => exact .same (ih k)
theorem Ref.len {a b : List Sl} (h : Ref a b) : a.length = b.length := by
  induction h with
  | nil => rfl
  | any _ ih => simp [ih]
  | same _ ih => simp [ih]
theorem Ref.at {a b : List Sl} (h : Ref a b) : ∀ (i : Nat) (s : Sl), b[i]? = some s → s = .any ∨ a[i]? = some s := by
  induction h with
  | nil => intro i s e; simp at e
  | any _ ih =>
    intro i s e
    cases i with
    | zero => exact .inl (by simpa using e.symm)
    | succ i => exact ih i s (by simpa using e)
  | same _ ih =>
    intro i s e
    cases i with
    | zero => exact .inr e
    | succ i => exact ih i s (by simpa using e)
open Classical in
theorem Sat.ref {K : Fg} {B : Bs} {e e' : List Sl} {σ : L2.St} {H F : Hp} {As : Nat → List Addr} (S : Sat K B e σ H F As) (r : Ref e e') : SatE K B e' σ H := by
  refine ⟨F, fun i => if e'[i]? = some .any then [] else As i, ?_⟩
  have sub : ∀ i a, a ∈ (if e'[i]? = some .any then [] else As i) → a ∈ As i := fun i a h => by
    split at h
    · cases h
    · exact h
  refine ⟨by rw [← r.len]; exact S.len, S.sub, fun i s h => ?_, fun i j a p q => S.dj i j a (sub i a p) (sub j a q), fun i a z => S.own i a (sub i a z), fun i z => ?_, S.fro, S.frame, fun i a z => S.orig i a (sub i a z), S.forig⟩
  · by_cases hs : s = .any
    · subst hs
      exact .inl ⟨rfl, if_pos h⟩
    · rcases r.at i s h with z | z
      · exact absurd z hs
      · rcases S.sl i s z with ⟨y, _⟩ | ⟨v, y1, y2⟩
        · exact absurd y hs
        · refine .inr ⟨v, y1, ?_⟩
          rw [if_neg (by rw [h]; intro y; exact hs (Option.some.inj y))]
          exact y2
  · show (if e'[i]? = some .any then [] else As i) = []
    split
    · rfl
    · exact S.out i (by rw [r.len]; exact z)
theorem SatE.ref {K : Fg} {B : Bs} {e e' : List Sl} {σ : L2.St} {H : Hp} (S : SatE K B e σ H) (r : Ref e e') : SatE K B e' σ H := let ⟨_, _, S⟩ := S; S.ref r
section
variable {X : Cx} {env env' : List Sl}
theorem WSs.ref {st : List Stmt} {k : Kt} (h : WSs X env' st k) (r : Ref env env') : WSs X env st k := ⟨fun B pins s σ H D I hs kd => h.run B pins s σ H D I (hs.ref r) kd⟩
theorem WS.ref {st : Stmt} {k : Kt} (h : WS X env' st k) (r : Ref env env') : WS X env st k := ⟨fun B pins s σ H D I hs kd => h.run B pins s σ H D I (hs.ref r) kd⟩
/-- what follows, from less -/
theorem WSs.post {st : List Stmt} {k : Kt} {nx : List Sl → Prop} (h : WSs X env st { k with nx := fun e => ∃ e', Ref e e' ∧ nx e' }) (hn : ∀ e e', Ref e e' → nx e' → k.nx e) : WSs X env st k :=
  ⟨fun B pins s σ H D I hs kd => h.run B pins s σ H D I hs ⟨fun e σ H ⟨e', r, q⟩ s1 => kd.nx e σ H (hn e e' r q) s1, kd.rt, kd.bk, kd.ct⟩⟩
variable {tg iter elt : Expr} {ifs : List Expr} {scope : Scope} {pos : Pos}

/-! ### for, as a fold -/
/-- st: what the slots say of the state -/
theorem forS {α S : Type} [Rp α] {xs : List α} {n : Nat} {it : Nat → Sl} {k : Kt} {body : List Stmt} {e1 : List Sl} (hw : IsW n it xs) (st : S → List Sl) (I : Nat → S → Prop) (s0 : S) (h0 : Ref e1 (st s0)) (i0 : I 0 s0)
    (hs : ∀ i x s, xs[i]? = some x → I i s → WG X (st s) tg (fz x) All fun e2 => WSs X e2 body { nx := fun e => ∃ s', Ref e (st s') ∧ I (i + 1) s', rt := k.rt, bk := k.nx, ct := fun e => ∃ s', Ref e (st s') ∧ I (i + 1) s' })
    (hd : ∀ s, I xs.length s → k.nx (st s)) (hk : ∀ e e', Ref e e' → k.nx e' → k.nx e) :
    ∃ I : Nat → List Sl → Prop, I 0 e1 ∧ (∀ i e, i < n → I i e → WG X e tg (it i) All fun e2 => WSs X e2 body { nx := I (i + 1), rt := k.rt, bk := k.nx, ct := I (i + 1) }) ∧ ∀ e, I n e → k.nx e := by
  obtain ⟨hn, hi⟩ := hw
  subst hn
  refine ⟨fun i e => ∃ s, Ref e (st s) ∧ I i s, ⟨s0, h0, i0⟩, fun i e hl ⟨s, r, iv⟩ => ?_, fun e ⟨s, r, iv⟩ => hk e _ r (hd s iv)⟩
  rw [hi i _ (List.getElem?_eq_getElem hl)]
  have w := hs i _ s (List.getElem?_eq_getElem hl) iv
  exact ⟨fun B pins s' σ H v u R I' hs' rv kk => w.run B pins s' σ H v u R I' (hs'.ref (.same r)) rv kk⟩

/-! ### comprehensions without effect -/
def LcPure (X : Cx) (scope : Scope) (tg elt : Expr) (ifs : List Expr) (vs : List Nat) {α β : Type} [Rp α] [Rp β] (e0 : List Sl) (x : α) (p : Bool) (f : β) : Prop :=
  Blk X scope fun X' => WG X' e0 tg (fz x) (fun j => j ∈ vs) fun e2 => Blk X scope fun X' => WTs X' e2 ifs fun b e3 => b = p ∧ (p = true → Blk X scope fun X' => WE X' e3 elt fun r e4 => FzR r fun d => d = sd f ∧ wipeE e4 vs = e0) ∧ (p = false → wipeE e3 vs = e0)
theorem lcPure {α β : Type} [Rp α] [Rp β] {xs : List α} {n : Nat} {it : Nat → Sl} {vs : List Nat} {e1 : List Sl} {Qf : List β → List Sl → Prop} (hw : IsW n it xs) (hz : xs.length ≤ sizeLine) (p : α → Bool) (f : α → β)
    (hs : ∀ x ∈ xs, LcPure X scope tg elt ifs vs (wipeE e1 vs) x (p x) (f x)) (hq : Qf ((xs.filter p).map f) (wipeE e1 vs)) :
    ∃ I : Nat → List β → List Sl → Prop, I 0 [] (wipeE e1 vs) ∧ (∀ i acc e, i < n → I i acc e → LcTurn X scope tg elt ifs vs (it i) acc e (I (i + 1))) ∧ ∀ acc e, I n acc e → Qf acc e := by
  obtain ⟨hn, hi⟩ := hw
  subst hn
  refine ⟨fun i acc e => acc = ((xs.take i).filter p).map f ∧ e = wipeE e1 vs, ⟨rfl, rfl⟩, fun i acc e hl ⟨ea, ee⟩ => ?_, fun acc e ⟨ea, ee⟩ => ?_⟩
  · subst ea; subst ee
    rw [hi i _ (List.getElem?_eq_getElem hl)]
    have hx := hs xs[i] (List.getElem_mem hl)
    have ht : xs.take (i + 1) = xs.take i ++ [xs[i]] := by rw [List.take_add_one, List.getElem?_eq_getElem hl]; rfl
    have hlen : (((xs.take i).filter p).map f).length < sizeLine := by
      rw [List.length_map]
      have h1 := List.length_filter_le p (xs.take i)
      have h2 : (xs.take i).length ≤ i := by rw [List.length_take]; omega
      omega
    intro s H C cl fp
    have w1 := hx s H C cl fp
    refine ⟨fun B pins s' σ H v u R I' hs' rv kk => w1.run B pins s' σ H v u R I' hs' rv fun e2 σ1 H1 q s1 t1 => kk e2 σ1 H1 ?_ s1 t1⟩
    intro s H C cl fp
    have w2 := q s H C cl fp
    refine ⟨fun B pins s' σ H R I' hs' kk => w2.run B pins s' σ H R I' hs' fun b e3 H3 ⟨eb, q1, q2⟩ s3 => kk b e3 H3 ?_ s3⟩
    subst eb
    refine ⟨fun hb => ?_, fun hb => ?_⟩
    · intro s H C cl fp
      have w3 := q1 hb s H C cl fp
      refine ⟨fun B pins s' σ H R I' hs' kk => w3.run B pins s' σ H R I' hs' fun r e4 v H4 q4 s4 => kk r e4 v H4 ?_ s4⟩
      have fin : ∀ d, (d = sd (f xs[i]) ∧ wipeE e4 vs = wipeE e1 vs) → ∃ y : β, d = sd y ∧ (((xs.take i).filter p).map f).length < sizeLine ∧ ((((xs.take i).filter p).map f) ++ [y] = ((xs.take (i + 1)).filter p).map f ∧ wipeE e4 vs = wipeE e1 vs) := fun d ⟨ed, ew⟩ =>
        ⟨f xs[i], ed, hlen, by rw [ht, List.filter_append, List.map_append]; simp [hb], ew⟩
      rcases q4 with ⟨d, er, kd⟩ | ⟨γ, ig, y, er, kd⟩
      · exact .inl ⟨d, er, fin d kd⟩
      · exact .inr ⟨γ, ig, y, er, fin _ kd⟩
    · exact ⟨by rw [ht, List.filter_append, List.map_append]; simp [hb], q2 hb⟩
  · subst ea; subst ee
    rw [List.take_length]
    exact hq
/-- [f x for x in xs] -/
def LcMap (X : Cx) (scope : Scope) (tg elt : Expr) (vs : List Nat) {α β : Type} [Rp α] [Rp β] (e0 : List Sl) (x : α) (f : β) : Prop :=
  Blk X scope fun X' => WG X' e0 tg (fz x) (fun j => j ∈ vs) fun e2 => Blk X scope fun X' => WE X' e2 elt fun r e4 => FzR r fun d => d = sd f ∧ wipeE e4 vs = e0
theorem LcMap.pure {vs : List Nat} {α β : Type} [Rp α] [Rp β] {e0 : List Sl} {x : α} {f : β} (h : LcMap X scope tg elt vs e0 x f) : LcPure X scope tg elt [] vs e0 x true f := fun s H C cl fp => by
  have w := h s H C cl fp
  exact ⟨fun B pins s' σ H v u R I' hs' rv kk => w.run B pins s' σ H v u R I' hs' rv fun e2 σ1 H1 q s1 t1 => kk e2 σ1 H1 (fun s H C cl fp => wts_nil ⟨rfl, fun _ => q, fun z => nomatch z⟩) s1 t1⟩
theorem lcMap {α β : Type} [Rp α] [Rp β] {xs : List α} {n : Nat} {it : Nat → Sl} {vs : List Nat} {e1 : List Sl} {Qf : List β → List Sl → Prop} (hw : IsW n it xs) (hz : xs.length ≤ sizeLine) (f : α → β)
    (hs : ∀ x ∈ xs, LcMap X scope tg elt vs (wipeE e1 vs) x (f x)) (hq : Qf (xs.map f) (wipeE e1 vs)) :
    ∃ I : Nat → List β → List Sl → Prop, I 0 [] (wipeE e1 vs) ∧ (∀ i acc e, i < n → I i acc e → LcTurn X scope tg elt [] vs (it i) acc e (I (i + 1))) ∧ ∀ acc e, I n acc e → Qf acc e :=
  lcPure hw hz (fun _ => true) f (fun x hx => (hs x hx).pure) (by rw [List.filter_eq_self.mpr (fun _ _ => rfl)]; exact hq)
end
end S3

/-! S3: and, or, a if c else b without a second way. -/
namespace S3
open PySem PySem.Spec PyProof.Rows L2

section
variable {X : Cx} {env : List Sl} {a b c : Expr} {pos : Pos}
theorem WE.imp {e : Expr} {Q Q' : Sl → List Sl → Prop} (h : WE X env e Q) (hq : ∀ r e1, Q r e1 → Q' r e1) : WE X env e Q' := ⟨fun B pins s σ H R I hs k => h.run B pins s σ H R I hs fun r e1 v H1 q => k r e1 v H1 (hq _ _ q)⟩
theorem WT.imp {e : Expr} {Q Q' : Bool → List Sl → Prop} (h : WT X env e Q) (hq : ∀ r e1, Q r e1 → Q' r e1) : WT X env e Q' := ⟨fun B pins s σ H R I hs k => h.run B pins s σ H R I hs fun r e1 H1 q => k r e1 H1 (hq _ _ q)⟩
theorem WTw.imp {e : Expr} {Q Q' : Bool → List Sl → Prop} (h : WTw X env e Q) (hq : ∀ r e1, Q r e1 → Q' r e1) : WTw X env e Q' := ⟨fun wh B pins s σ H R I hs k => h.run wh B pins s σ H R I hs fun r e1 H1 q => k r e1 H1 (hq _ _ q)⟩
theorem WV.imp {e : Expr} {Q Q' : Vw → List Sl → Prop} (h : WV X env e Q) (hq : ∀ r e1, Q r e1 → Q' r e1) : WV X env e Q' := ⟨fun B pins s σ H R I hs k => h.run B pins s σ H R I hs fun r e1 v H1 q => k r e1 v H1 (hq _ _ q)⟩
theorem we_andP {rest : List Expr} {Q : Sl → List Sl → Prop} (h : WV X env a fun w e1 => Is w fun k : Bool => ∃ m : Bool, (k = true → WE X e1 (.BoolOp .And (b :: rest) pos) fun r e2 => r = fz m ∧ e2 = e1) ∧ Q (fz (k && m)) e1) : WE X env (.BoolOp .And (a :: b :: rest) pos) Q :=
  we_and (h.imp fun w e1 ⟨k, ew, m, h1, q⟩ => by
    subst ew
    refine ⟨k, rfl, fun ek => ?_, fun ek => ?_⟩
    · exact (h1 ek).imp fun r e2 ⟨er, ee⟩ => by
        subst er; subst ee; subst ek; exact q
    · subst ek; exact q)
theorem we_orP {rest : List Expr} {Q : Sl → List Sl → Prop} (h : WV X env a fun w e1 => Is w fun k : Bool => ∃ m : Bool, (k = false → WE X e1 (.BoolOp .Or (b :: rest) pos) fun r e2 => r = fz m ∧ e2 = e1) ∧ Q (fz (k || m)) e1) : WE X env (.BoolOp .Or (a :: b :: rest) pos) Q :=
  we_or (h.imp fun w e1 ⟨k, ew, m, h1, q⟩ => by
    subst ew
    refine ⟨k, rfl, fun ek => ?_, fun ek => ?_⟩
    · subst ek; exact q
    · exact (h1 ek).imp fun r e2 ⟨er, ee⟩ => by
        subst er; subst ee; subst ek; exact q)
theorem wtw_andP {rest : List Expr} {Q : Bool → List Sl → Prop} (h : WT X env a fun k e1 => ∃ m : Bool, (k = true → WTw X e1 (.BoolOp .And (b :: rest) pos) fun r e2 => r = m ∧ e2 = e1) ∧ Q (k && m) e1) : WTw X env (.BoolOp .And (a :: b :: rest) pos) Q :=
  wtw_and (h.imp fun k e1 ⟨m, h1, q⟩ => by
    refine ⟨fun ek => ?_, fun ek => ?_⟩
    · exact (h1 ek).imp fun r e2 ⟨er, ee⟩ => by
        subst er; subst ee; subst ek; exact q
    · subst ek; exact q)
theorem wtw_orP {rest : List Expr} {Q : Bool → List Sl → Prop} (h : WT X env a fun k e1 => ∃ m : Bool, (k = false → WTw X e1 (.BoolOp .Or (b :: rest) pos) fun r e2 => r = m ∧ e2 = e1) ∧ Q (k || m) e1) : WTw X env (.BoolOp .Or (a :: b :: rest) pos) Q :=
  wtw_or (h.imp fun k e1 ⟨m, h1, q⟩ => by
    refine ⟨fun ek => ?_, fun ek => ?_⟩
    · subst ek; exact q
    · exact (h1 ek).imp fun r e2 ⟨er, ee⟩ => by
        subst er; subst ee; subst ek; exact q)
/-- as wtw_orP: the conditions one by one are known to be false -/
theorem wtw_orF {rest : List Expr} {Q : Bool → List Sl → Prop} (h : WT X env a fun k e1 => k = false ∧ WTw X e1 (.BoolOp .Or (b :: rest) pos) Q) : WTw X env (.BoolOp .Or (a :: b :: rest) pos) Q :=
  wtw_or (h.imp fun k e1 ⟨ek, q⟩ => by subst ek; exact Br.f q)
theorem wtw_or1F {Q : Bool → List Sl → Prop} (h : WT X env a fun k e1 => k = false ∧ Q false e1) : WTw X env (.BoolOp .Or [a] pos) Q := wtw_or1 (h.imp fun k e1 ⟨ek, q⟩ => by subst ek; exact q)
theorem wt_F {e : Expr} {Q : Bool → List Sl → Prop} (h : WT X env e fun k e1 => k = false ∧ Q false e1) : WT X env e Q := h.imp fun k e1 ⟨ek, q⟩ => by subst ek; exact q
theorem wt_T {e : Expr} {Q : Bool → List Sl → Prop} (h : WT X env e fun k e1 => k = true ∧ Q true e1) : WT X env e Q := h.imp fun k e1 ⟨ek, q⟩ => by subst ek; exact q
theorem we_ifP {Q : Sl → List Sl → Prop} (h : WT X env c fun k e1 => ∃ (α : Type) (_ : Rp α) (x y : α), (k = true → WE X e1 a fun r e2 => r = fz x ∧ e2 = e1) ∧ (k = false → WE X e1 b fun r e2 => r = fz y ∧ e2 = e1) ∧ Q (fz (if k then x else y)) e1) : WE X env (.IfExp c a b pos) Q :=
  we_if (h.imp fun k e1 ⟨α, _, x, y, h1, h2, q⟩ => by
    refine ⟨fun ek => ?_, fun ek => ?_⟩
    · exact (h1 ek).imp fun r e2 ⟨er, ee⟩ => by
        subst er; subst ee; subst ek; exact q
    · exact (h2 ek).imp fun r e2 ⟨er, ee⟩ => by
        subst er; subst ee; subst ek; exact q)
theorem wt_chainP {op op' : CmpOp} {g g' : Int → Int → Bool} (ho : OpR X (compareOp op) (rI0 fun i j => .bl (g i j))) (ho' : OpR X (compareOp op') (rI0 fun i j => .bl (g' i j))) {Q : Bool → List Sl → Prop}
    (h : WV X env a fun w1 e1 => WV X e1 b fun w2 e2 => Is2 w1 w2 fun i j : Int => ∃ l : Int, (g i j = true → WV X e2 c fun w3 e3 => Is w3 fun l' : Int => l' = l ∧ e3 = e2) ∧ Q (g i j && g' j l) e2) (hm : lastMarks [op, op'] [b, c] = false := by with_unfolding_all rfl) : WT X env (.Compare a [op, op'] [b, c] pos) Q :=
  wt_chainI ho ho' (h.imp fun w1 e1 h2 => h2.imp fun w2 e2 ⟨i, j, ei, ej, l, h3, q⟩ => ⟨i, j, ei, ej, by
    refine ⟨fun ek => ?_, fun ek => ?_⟩
    · exact (h3 ek).imp fun w3 e3 ⟨l', el, ell, ee⟩ => ⟨l', el, by
        subst ell; subst ee; rw [ek] at q; exact q⟩
    · rw [ek] at q; exact q⟩) hm
end

theorem exP {α : Sort _} {A B : α → Prop} (m : α) (h1 : A m) (h2 : B m) : ∃ m, A m ∧ B m := ⟨m, h1, h2⟩
theorem exIf {A B C : (α : Type) → Rp α → α → α → Prop} (α : Type) (i : Rp α) (x y : α) (h1 : A α i x y) (h2 : B α i x y) (h3 : C α i x y) : ∃ (α : Type) (i : Rp α) (x y : α), A α i x y ∧ B α i x y ∧ C α i x y := ⟨α, i, x, y, h1, h2, h3⟩
/-- a result that is known by another word -/
theorem conv {α : Type} [Rp α] {x y : α} {K : Sl → List Sl → Prop} {as : List Sl} (e : x = y) (h : K (fz y) as) : K (fz x) as := e ▸ h

theorem WT.ref {X : Cx} {env env' : List Sl} {e : Expr} {Q : Bool → List Sl → Prop} (h : WT X env' e Q) (r : Ref env env') : WT X env e Q := ⟨fun B pins s σ H R I hs k => h.run B pins s σ H R I (hs.ref r) k⟩
/-- while, its state typed -/
theorem whileS {X : Cx} {env : List Sl} {k : Kt} {c : Expr} {body : List Stmt} {pos : Pos} {S : Type} (st : S → List Sl) (mea : S → Nat) (I : S → Prop) (s0 : S) (h0 : Ref env (st s0)) (i0 : I s0)
    (hs : ∀ s, I s → WT X (st s) c fun b e1 => Br b (WSs X e1 body { nx := fun e => ∃ s', Ref e (st s') ∧ I s' ∧ mea s' < mea s, rt := k.rt, bk := k.nx, ct := fun e => ∃ s', Ref e (st s') ∧ I s' ∧ mea s' < mea s }) (k.nx e1)) (hp : PassesOwn (model X.prog X.w) X.A X.env X.xe := by exact PassesOwn.never) : WS X env (.While c body [] pos) k := by
  refine ws_while (fun m e => ∃ s, Ref e (st s) ∧ I s ∧ mea s = m) ⟨_, s0, h0, i0, rfl⟩ (fun m e ⟨s, r, i, em⟩ => ?_) hp
  refine ((hs s i).imp fun b e1 ⟨h1, h2⟩ => ⟨fun eb => ?_, h2⟩).ref r
  have go : ∀ e σ H K B, (∃ s', Ref e (st s') ∧ I s' ∧ mea s' < mea s) → SatE K B e σ H → ∃ m', m' < m ∧ ∃ s, Ref e (st s) ∧ I s ∧ mea s = m' := fun e σ H K B ⟨s', r', i', l⟩ _ => ⟨mea s', by omega, s', r', i', rfl⟩
  exact ⟨fun B pins s σ H D I' hs' kd => (h1 eb).run B pins s σ H D I' hs' ⟨fun e σ H q s1 => kd.nx e σ H (go e σ H X.K B q s1) s1, kd.rt, kd.bk, fun e σ H q s1 => kd.ct e σ H (go e σ H X.K B q s1) s1⟩⟩

theorem rdT3 {K : Fg} {env : List Sl} {α : Type} [Rp α] {t : T3 α α α} : RdT K env (vl t) [t.a, t.b, t.c] := fun B σ H F As v S ⟨a, u, w, z, e, q, r1, r2, r3⟩ => ⟨a, [u, w, z], e, SqT.of (S.rdY q), .cons r1 (.cons r2 (.cons r3 .nil))⟩
/-! ### a, b = x, y with plain local names -/
section
variable {X : Cx} {env : List Sl} {k : Kt} {pos : Pos}
theorem ws_par2 (i j : Nat) {x y : Str} {a b : Expr} {px py pt : Pos} {kt k2 pt2} (h : WE X env a fun r1 e1 => WE X e1 b fun r2 e2 => e2.length = env.length ∧ k.nx ((e2.set i r1).set j r2)) (hN : X.N.Nodup) (hc : X.calm = true := by rfl) (hi : X.N[i]? = some x := by rfl) (hj : X.N[j]? = some y := by rfl) (hij : i ≠ j := by decide)
    (hx : X.env.scope.names.lookup x = some .local := by rfl) (hy : X.env.scope.names.lookup y = some .local := by rfl) (hil : i < env.length := by exact of_decide_eq_true rfl) (hjl : j < env.length := by exact of_decide_eq_true rfl)
    (hw : swappedStores [.Tuple [.Name x px, .Name y py] kt pt] (.Tuple [a, b] k2 pt2) X.env = pure (some [x, y]) := by rfl)
    (hs : swapsWithSole [.Tuple [.Name x px, .Name y py] kt pt] (.Tuple [a, b] k2 pt2) pos.line X.env = pure false := by rfl)
    (ha : starEach [a, b] X.env = (false, eval a X.env) :: starEach [b] X.env := by rfl) (hb : starEach [b] X.env = (false, eval b X.env) :: starEach [] X.env := by rfl) : WS X env (.Assign [.Tuple [.Name x px, .Name y py] kt pt] (.Tuple [a, b] k2 pt2) pos) k :=
  ⟨fun B pins s σ H D I hs' kd => (ps_par hc hN hi hj hij hx hy (pa_cons (peE (e := a)) (pa_cons (peE (e := b)) pa_nil hb) ha) hw hs).run pins s σ H D I ⟨B, env, _, h, hs', fun r1 e1 v1 H1 w ⟨F, As, S⟩ => ⟨nowB (fun i => As (i + 1)) F H1, e1, _, w, ⟨F, _, S.tail.now⟩, fun r2 e2 v2 H2 ⟨hle, q⟩ ⟨F2, As2, S2⟩ => by
    refine ⟨v1, v2, rfl, kd.nx _ _ _ q ?_⟩
    have U := S.under S2
    have U1 := U.move (i := i + 1) (by simp only [List.length_cons]; omega)
    exact ⟨F2, _, Sat.move (i := j) U1 (by rw [List.length_set]; omega)⟩⟩⟩⟩
theorem ws_par3 (i j l : Nat) {x y z : Str} {a b c : Expr} {px py pz pt : Pos} {kt k2 pt2} (h : WE X env a fun r1 e1 => WE X e1 b fun r2 e2 => WE X e2 c fun r3 e3 => e3.length = env.length ∧ k.nx (((e3.set i r1).set j r2).set l r3)) (hN : X.N.Nodup) (hc : X.calm = true := by rfl) (hi : X.N[i]? = some x := by rfl) (hj : X.N[j]? = some y := by rfl) (hl : X.N[l]? = some z := by rfl)
    (hij : i ≠ j := by decide) (hil' : i ≠ l := by decide) (hjl' : j ≠ l := by decide)
    (hx : X.env.scope.names.lookup x = some .local := by rfl) (hy : X.env.scope.names.lookup y = some .local := by rfl) (hz : X.env.scope.names.lookup z = some .local := by rfl) (hil : i < env.length := by exact of_decide_eq_true rfl) (hjl : j < env.length := by exact of_decide_eq_true rfl) (hll : l < env.length := by exact of_decide_eq_true rfl)
    (hw : swappedStores [.Tuple [.Name x px, .Name y py, .Name z pz] kt pt] (.Tuple [a, b, c] k2 pt2) X.env = pure (some [x, y, z]) := by rfl)
    (hs : swapsWithSole [.Tuple [.Name x px, .Name y py, .Name z pz] kt pt] (.Tuple [a, b, c] k2 pt2) pos.line X.env = pure false := by rfl)
    (ha : starEach [a, b, c] X.env = (false, eval a X.env) :: starEach [b, c] X.env := by rfl) (hb : starEach [b, c] X.env = (false, eval b X.env) :: starEach [c] X.env := by rfl) (hcc : starEach [c] X.env = (false, eval c X.env) :: starEach [] X.env := by rfl) : WS X env (.Assign [.Tuple [.Name x px, .Name y py, .Name z pz] kt pt] (.Tuple [a, b, c] k2 pt2) pos) k :=
  ⟨fun B pins s σ H D I hs' kd => (ps_par3 hc hN hi hj hl hij hil' hjl' hx hy hz (pa_cons (peE (e := a)) (pa_cons (peE (e := b)) (pa_cons (peE (e := c)) pa_nil hcc) hb) ha) hw hs).run pins s σ H D I ⟨B, env, _, h, hs', fun r1 e1 v1 H1 w ⟨F, As, S⟩ => ⟨nowB (fun i => As (i + 1)) F H1, e1, _, w, ⟨F, _, S.tail.now⟩, fun r2 e2 v2 H2 w2 ⟨F2, As2, S2⟩ => ⟨nowB (fun i => As2 (i + 1)) F2 H2, e2, _, w2, ⟨F2, _, S2.tail.now⟩, fun r3 e3 v3 H3 ⟨hle, q⟩ ⟨F3, As3, S3⟩ => by
    refine ⟨v1, v2, v3, rfl, kd.nx _ _ _ q ?_⟩
    have U := S.under (S2.under S3)
    have U1 := U.move (i := i + 2) (by simp only [List.length_cons]; omega)
    have U2 := Sat.move (i := j + 1) U1 (by simp only [List.length_cons, List.length_set, List.set_cons_succ]; omega)
    exact ⟨F3, _, Sat.move (i := l) U2 (by simp only [List.length_set]; omega)⟩⟩⟩⟩⟩
end
theorem atI_of {α : Type} {xs : List α} {k : Int} (h0 : 0 ≤ k) (h1 : k < (xs.length : Int)) : L2.atI xs k = some (xs[k.toNat]'(by omega)) := by
  have h2 : k.toNat < xs.length := by omega
  have e : ((k.toNat : Nat) : Int) = k := by omega
  have q := L2.atI_nat (List.getElem?_eq_getElem h2)
  rwa [e] at q
theorem last_of {α : Type} {xs : List α} (h : xs.length ≠ 0) : xs[xs.length - 1]? = some (xs[xs.length - 1]'(by omega)) := List.getElem?_eq_getElem (by omega)
theorem WSs.eqv {X : Cx} {env env' : List Sl} {st : List Stmt} {k : Kt} (e : env = env') (h : WSs X env' st k) : WSs X env st k := e ▸ h
/-! ### forms for apply -/
theorem lendP {e : List Sl} {ws : List Vw} {n : Nat} {C : List Sl → List (Option V) → Prop} (ms : List (Option V)) (args : List Sl) (l : Lend e ws ms args) (hl : args.length = n) (h : C args ms) : ∃ ms args, Lend e ws ms args ∧ args.length = n ∧ C args ms := ⟨ms, args, l, hl, h⟩
section
variable {X : Cx} {tg iter elt : Expr} {ifs : List Expr} {scope : Scope} {pos : Pos}
theorem lcMapE {α β : Type} (ia : Rp α) (i : Rp β) {xs : List α} {n : Nat} {it : Nat → Sl} {vs : List Nat} {e1 : List Sl} {Qf : (β : Type) → Rp β → List β → List Sl → Prop} (f : α → β) (hw : IsW n it xs) (hz : xs.length ≤ sizeLine)
    (hs : ∀ x ∈ xs, LcMap X scope tg elt vs (wipeE e1 vs) x (f x)) (hq : Qf β i (xs.map f) (wipeE e1 vs)) :
    ∃ (β : Type) (i : Rp β) (I : Nat → List β → List Sl → Prop), I 0 [] (wipeE e1 vs) ∧ (∀ i acc e, i < n → I i acc e → LcTurn X scope tg elt [] vs (it i) acc e (I (i + 1))) ∧ ∀ acc e, I n acc e → Qf β i acc e := ⟨β, i, lcMap hw hz f hs hq⟩
theorem lcPureE {α β : Type} (ia : Rp α) (i : Rp β) {xs : List α} {n : Nat} {it : Nat → Sl} {vs : List Nat} {e1 : List Sl} {Qf : (β : Type) → Rp β → List β → List Sl → Prop} (p : α → Bool) (f : α → β) (hw : IsW n it xs) (hz : xs.length ≤ sizeLine)
    (hs : ∀ x ∈ xs, LcPure X scope tg elt ifs vs (wipeE e1 vs) x (p x) (f x)) (hq : Qf β i ((xs.filter p).map f) (wipeE e1 vs)) :
    ∃ (β : Type) (i : Rp β) (I : Nat → List β → List Sl → Prop), I 0 [] (wipeE e1 vs) ∧ (∀ i acc e, i < n → I i acc e → LcTurn X scope tg elt ifs vs (it i) acc e (I (i + 1))) ∧ ∀ acc e, I n acc e → Qf β i acc e := ⟨β, i, lcPure hw hz p f hs hq⟩
end

theorem ixE {i : Int} {Q : (α : Type) → Rp α → α → Prop} {R : (α : Type) → Rp α → List α → Prop} (α : Type) (ia : Rp α) (xs : List α) (x : α) (h1 : R α ia xs) (h2 : L2.atI xs i = some x) (h3 : Q α ia x) : ∃ (α : Type) (ia : Rp α) (xs : List α) (x : α), R α ia xs ∧ L2.atI xs i = some x ∧ Q α ia x := ⟨α, ia, xs, x, h1, h2, h3⟩

/-! ### defs of the text -/
section
variable (P : Program) (w : World) (K : PySem.W.Frag) (mg : Str → Option Value) (base : Heap)
structure Here (x : Str) (st : Stmt) (ps : List Str) : Prop where
  ex : ∃ f fd, L2.Fun K x x st f fd ∧ mg x = some (.ref f) ∧ Binds K fd ps []
structure Callee (x : Str) (k : Nat) (ps : List Str) (T : Tf) : Prop where
  ex : ∃ f fd, FnOk P w K mg base CX0 k f fd ps (spT K T ps.length) ∧ mg x = some (.ref f) ∧ PySem.W.keepIn K (.ref f) = true ∧ Binds K fd ps [] ∧ ∃ oc od osl, K.lookup f = some ⟨oc, od, .func fd, osl⟩
end
section
variable {P : Program} {w : World} {K : PySem.W.Frag} {mg : Str → Option Value} {base : Heap}
theorem callee_of {x : Str} {st : Stmt} {N ps : List Str} {k : Nat} (h : Here K mg x st ps) (Sc : FnScope N ps (defScope st)) (T : Tf)
    (hb : ∀ (cdv : Value) (A : Around) (outer : List Env) (s : Shared) (H : Hp) (E : XK) (f : Addr) (args : List Sl) (vs : List V) (Kt : Sl → List Sl → Prop), Room k (A.deeper (envOfC x (defScope st) s.heap.objs.size f cdv)) → args.length = ps.length → vs.length = ps.length → T args Kt →
      WSs (cxOf CX0 P w K mg base N x (defScope st) f cdv A outer s H E).nox (argE args vs (N.length - vs.length)) (defBody st)
        { nx := fun e => ∃ args', Back args vs e args' ∧ Kt (S3.fz ()) args', rt := fun r e => ∃ args', Back args vs e args' ∧ Kt r args' }) : Callee P w K mg base x (k + 1) ps T := by
  obtain ⟨f, fd, F, m, b⟩ := h.ex
  exact ⟨f, fd, fnT F Sc T fun cdv A outer s H E args vs Kt hr hl hv hT => hb cdv A outer s H E f args vs Kt hr hl hv hT, m, F.kp, b, by obtain ⟨oc, od, kV, doc, pm, an, cdv, ct, osl, _, lk, _⟩ := F.ex; exact ⟨oc, od, osl, lk⟩⟩
end
theorem Callee.fn {P : Program} {w : World} {K : PySem.W.Frag} {mg : Str → Option Value} {base : Heap} {x qual : Str} {k : Nat} {ps : List Str} {T : Tf} (C : Callee P w K mg base x k ps T) {st : Stmt} {f : Addr} {fd : FuncData} (F : L2.Fun K x qual st f fd) (m : mg x = some (.ref f)) : FnOk P w K mg base CX0 k f fd ps (spT K T ps.length) := by
  obtain ⟨f', fd', G, m', _, _, oc, od, osl, lk⟩ := C.ex
  rw [m] at m'
  cases m'
  obtain ⟨oc2, od2, _, _, _, _, _, _, osl2, _, lk2, _⟩ := F.ex
  rw [lk] at lk2
  cases lk2
  exact G
section
variable {X : Cx} {env : List Sl} {x : Str} {p pos : Pos} {e : Expr} {es : List Expr} {k j : Nat} {ps : List Str} {T : Tf}
/-- f(e, ..), f a def of the text -/
theorem we_callC {Q : Sl → List Sl → Prop} (C : Callee X.prog X.w X.K X.mg X.base x k ps T) (hr : Room j X.A) (h : WA X env (e :: es) fun ws e1 => ∃ ms args, Lend e1 ws ms args ∧ args.length = ps.length ∧ T args fun r args' => Q r (give e1 ws ms args')) (hj : k ≤ j := by decide)
    (hg : Gl X x := by rfl) (hdb : (x == ("__debug__" : Str)) = false := by decide) (he : starEach (e :: es) X.env = (false, eval e X.env) :: starEach es X.env := by rfl) (hpl : (backTo pos (starEach es X.env)).any (·.1) = false := by rfl) : WE X env (.Call (.Name x p) (e :: es) [] pos) Q := by
  obtain ⟨f, fd, F, m, kp, b, _⟩ := C.ex
  exact we_call h F (hr.mono hj) m kp b hg hdb he hpl
end

/-! ### promises -/
def det1 {α β : Type} [Rp α] [Rp β] (pre : α → Prop) (f : α → β) : Tf := fun args K => ∃ x, args = [fz x] ∧ pre x ∧ K (fz (f x)) [fz x]
def det2 {α β γ : Type} [Rp α] [Rp β] [Rp γ] (pre : α → β → Prop) (f : α → β → γ) : Tf := fun args K => ∃ x y, args = [fz x, fz y] ∧ pre x y ∧ K (fz (f x y)) [fz x, fz y]
def det3 {α β γ δ : Type} [Rp α] [Rp β] [Rp γ] [Rp δ] (pre : α → β → γ → Prop) (f : α → β → γ → δ) : Tf := fun args K => ∃ x y z, args = [fz x, fz y, fz z] ∧ pre x y z ∧ K (fz (f x y z)) [fz x, fz y, fz z]
def det4 {α β γ δ ε : Type} [Rp α] [Rp β] [Rp γ] [Rp δ] [Rp ε] (pre : α → β → γ → δ → Prop) (f : α → β → γ → δ → ε) : Tf := fun args K => ∃ x y z u, args = [fz x, fz y, fz z, fz u] ∧ pre x y z u ∧ K (fz (f x y z u)) [fz x, fz y, fz z, fz u]
/-- a draw -/
def takeT : Tf := fun args K => ∃ (ds : List Int) (many : Int), args = [ow ds, fz many] ∧ 0 < many ∧ ∀ (x : Int) (ds' : List Int), 0 ≤ x → x < many → K (fz x) [ow ds', fz many]
def signedT : Tf := fun args K => ∃ (ds : List Int) (most : Int), args = [ow ds, fz most] ∧ 0 ≤ most ∧ ∀ (x : Int) (ds' : List Int), -most ≤ x → x ≤ most → K (fz x) [ow ds', fz most]
def deckT : Tf := fun args K => ∃ (sc : Ro Int) (cells each : Int), args = [fz sc, fz cells, fz each] ∧ sc.l.length ≤ 63 ∧ (0 ≤ cells ∧ cells ≤ 100) ∧ (0 ≤ each ∧ each ≤ 100) ∧ ∀ ds : List Int, K (ow ds) [fz sc, fz cells, fz each]

/-! ### what the top has left -/
def intOf : Value → Option Int
  | .int i _ => some i
  | _ => none
def intsOf : List Value → Option (List Int)
  | [] => some []
  | v :: vs => match intOf v, intsOf vs with
    | some i, some is => some (i :: is)
    | _, _ => none
/-- a tuple of ints -/
def tupInts (o : Obj) : Option (List Int) := match o.cls, o.data with
  | .type t, .seq its _ => if t = "tuple" ∧ its.size ≤ 1000 then intsOf its.toList else none
  | _, _ => none
theorem intsOf_vals : ∀ {vs : List Value} {is : List Int}, intsOf vs = some is → Vals (is.map V.int) vs
  | [], is, h => by
    have e : is = [] := (Option.some.inj h).symm
    subst e
    exact .nil
  | v :: vs, is, h => by
    unfold intsOf at h
    split at h
    · rename_i i js h1 h2
      have e : is = i :: js := (Option.some.inj h).symm
      subst e
      refine .cons ?_ (intsOf_vals h2)
      cases v <;> simp [intOf] at h1
      subst h1
      exact ⟨_, rfl⟩
    · cases h
theorem tupInts_at {K : Fg} {a : Addr} {o : Obj} {xs : List Int} (h : tupInts o = some xs) (l : K.lookup a = some o) : ∃ vs, (∀ H : Hp, SqT K H a vs) ∧ ∀ F : Hp, Reps K F xs vs := by
  unfold tupInts at h
  split at h
  · rename_i t its n ec ed
    split at h
    · rename_i ht
      refine ⟨xs.map V.int, fun H => .inr ⟨o, its, n, l, by rw [ec, ht.1], ed, Nat.le_of_lt (small1000 ht.2), intsOf_vals h⟩, fun F => ?_⟩
      clear h l ec ed ht
      induction xs with
      | nil => exact .nil
      | cons x xs ih => exact .cons rfl ih
    · cases h
  · cases h
theorem here_mk {K : Fg} {h : Heap} {mg : Str → Option Value} {x : Str} {st : Stmt} {ps : List Str} {f : Addr} {od an : Option Addr} {osl : Array (Option Value)} {oc kV doc pm cdv ct : Value} (X : K.In h) (G : h.Ns mainGlobals mg)
    (a : PySem.W.nsIn K mainGlobals x = some (some (.ref f))) (l : K.lookup f = some ⟨oc, od, .func (PySem.W.fnOf x x (defArgs st) (defBody st) (defScope st) .none kV doc pm an cdv ct), osl⟩) (c : PySem.W.codeIn K cdv x = true) (k : PySem.W.keepIn K (.ref f) = true)
    (hb : ∀ (kV doc pm : Value) (an : Option Addr) (cdv ct : Value) (us : List Value), us.length = ps.length → bindArgs (PySem.W.fnOf x x (defArgs st) (defBody st) (defScope st) .none kV doc pm an cdv ct) ⟨us, []⟩ = pure (ps.zip us)) : Here K mg x st ps :=
  ⟨f, _, fun_mk l c k, PySem.W.mg_of X G a, (fun_mk l c k).binds hb⟩
/-- the law's promise -/
def lawT : Tf := fun args K => ∃ sc : Ro Int, args = [fz sc] ∧ sc.l.length ≤ 63 ∧ K (fz true) [fz sc]
theorem ints_reps {K : Fg} {F : Hp} : ∀ ns : List Int, Reps K F ns (ns.map V.int)
  | [] => .nil
  | _ :: ns => .cons rfl (ints_reps ns)
theorem law_sp {K : Fg} {H : Hp} {a : Addr} {ns : List Int} {E : XK} (hl : ns.length ≤ 63) (hS : SqL K H a (ns.map V.int)) : spT K lawT 1 [.ref a] H (fun v _ => v = .bl true) E := by
  refine ⟨[fz (Ro.mk ns)], H, fun _ => [], fun r _ => r = fz true, rfl, ⟨⟨ns⟩, rfl, hl, rfl⟩, ?_, fun r args' v H' er ⟨F, As, S⟩ => by subst er; exact S.head.2⟩
  refine ⟨rfl, fun a o e => .inl e, fun i s e => ?_, fun i j a p => (nomatch p), fun i a p => (nomatch p), fun i z => rfl, Same.refl _, fun a o e _ => ⟨fun _ => e, fun z => (nomatch z)⟩, fun i a p => (nomatch p), fun a o e => .inl ⟨o, e⟩⟩
  match i, e with
  | 0, e =>
    have e' := (Option.some.inj e).symm
    subst e'
    exact .inr ⟨.ref a, rfl, rfl, a, _, rfl, hS, ints_reps ns⟩
end S3

/-! S3: defs that raise an own error with a text, by the hand layer; what they keep. -/
namespace S3
open PySem PySem.Spec PyProof.Rows L2

/-! ### promises joined -/
section
variable {P : Program} {w : World} {K : PySem.W.Frag} {mg : Str → Option Value} {base : Heap} {k : Nat} {f : Addr} {fd : FuncData} {ps : List Str}
theorem fn_up {sp : Sp} (F : FnOk P w K mg base CX0 k f fd ps sp) : FnOk P w K mg base (L2.CX P w) k f fd ps sp :=
  ⟨F.len, fun A outer s H args us vs Q E hr he hb hv hs => codeAny_mono (F.run A outer s H args us vs Q E hr he hb hv hs) fun r s' h => by
    cases r with
    | error e => exact h.elim
    | ok fl => cases fl <;> exact h⟩
theorem fn_or {CX : CXT} {sp sp' : Sp} (F : FnOk P w K mg base CX k f fd ps sp) (F' : FnOk P w K mg base CX k f fd ps sp') : FnOk P w K mg base CX k f fd ps (fun vs H Q E => sp vs H Q E ∨ sp' vs H Q E) :=
  ⟨fun vs H Q E h => h.elim (F.len vs H Q E) (F'.len vs H Q E), fun A outer s H args us vs Q E hr he hb hv hs => hs.elim (F.run A outer s H args us vs Q E hr he hb hv) (F'.run A outer s H args us vs Q E hr he hb hv)⟩
end
/-- all that stands, frozen -/
theorem Sat.all {K : Fg} {H : Hp} : ∀ {args : List Sl} {vs : List V}, args.length = vs.length → (∀ (i : Nat) (s : Sl), args[i]? = some s → ∃ d v, s = .fz d ∧ vs[i]? = some v ∧ d.p K v H) → Sat K (nowB (fun _ => []) H H) args (vs.map some) H H (fun _ => []) := fun {args vs} hl h =>
  ⟨by simpa using hl, fun a o e => .inl e, fun i s e => by
    obtain ⟨d, v, es, ev, hd⟩ := h i s e
    subst es
    exact .inr ⟨v, by rw [List.getElem?_map, ev]; rfl, rfl, hd⟩, fun i j a p => (nomatch p), fun i a p => (nomatch p), fun i z => rfl, Same.refl _, fun a o e _ => ⟨fun _ => e, fun z => (nomatch z)⟩, fun i a p => (nomatch p), fun a o e => .inl ⟨o, e⟩⟩
theorem Sat.kept {K : Fg} {H H' : Hp} {env : List Sl} {σ : L2.St} (h : SatE K (nowB (fun _ => []) H H) env σ H') : Same H H' := fun a o e => by
  obtain ⟨F, As, S⟩ := h
  exact (S.frame a o e fun ⟨i, z⟩ => (nomatch z)).1 fun z => (nomatch z)
theorem Sat.grow {K : Fg} {B : Bs} {env : List Sl} {σ : L2.St} {H H' F : Hp} {As : Nat → List Addr} (S : Sat K B env σ H F As) (m : Same H H') : Sat K B env σ H' F As :=
  ⟨S.len, fun a o e => (S.sub a o e).elim (fun z => .inl (m _ _ z)) (fun ⟨d, ob, z⟩ => .inr ⟨d, ob, m _ _ z⟩), fun i s e => (S.sl i s e).elim .inl (fun ⟨v, h1, h2⟩ => .inr ⟨v, h1, h2.loc (fun a ha => by
      obtain ⟨o, eo⟩ := h2.live a ha
      rw [eo, m _ _ eo]) (Same.refl _)⟩), S.dj, S.own, S.out, S.fro, fun a o e q => ⟨fun l => m _ _ ((S.frame a o e q).1 l), fun l => let ⟨d, ob, z⟩ := (S.frame a o e q).2 l; ⟨d, ob, m _ _ z⟩⟩, S.orig, S.forig⟩

/-! ### C.__init__(self, ..), C a class that inherits ValueError's -/
section
variable {X : Cx} {e : Expr} {es : List Expr} {ta : TA} {p1 p2 pos : Pos} {x : Str} {S : Addr} {mc : Value}
theorem pe_clsinit {pl : Sem Bool} (hg : Gl X x) (hm : X.mg x = some (.ref S)) (hdb : (x == ("__debug__" : Str)) = false) (r : ClX.CRead X.K S mc) (at_ : PySem.W.findCls X.K (.ref S) mc "__init__" = some (.val (.builtin "ValueError.__init__"))) (ha : PA X (e :: es) ta)
    (hc : eval (.Call (.Attribute (.Name x p1) "__init__" p2) (e :: es) [] pos) X.env = (do
      let ov ← eval (.Name x p1) X.env
      standAt p2.atName
      let (f, first) ← holding [ov] (getMethod ov "__init__" pl)
      callWith pos f first (backTo pos (starEach (e :: es) X.env)) (backToKw pos (keywordEach [] X.env))) := by rfl)
    (he : starEach (e :: es) X.env = (false, eval e X.env) :: starEach es X.env := by rfl) (hpl : (backTo pos (starEach es X.env)).any (·.1) = false := by rfl) :
    PE X (.Call (.Attribute (.Name x p1) "__init__" p2) (e :: es) [] pos) (tVeI X.K ta) := by
  refine ⟨fun pins s σ H Q I h => ?_⟩
  refine PySem.W.methodCall_KW (ld_glob I hg hm ?_ hdb) hc
  refine PySem.W.method_cls I.kIn r.ga (PySem.W.cls_value I.kIn r.rd at_ (by decide +kernel) ?_)
  show wpAny _ _ (callWith pos (Value.builtin "ValueError.__init__") [] (backTo pos (starEach (e :: es) X.env)) []) _ _ _
  refine PyProof.Rows.callWith_method1 (thn (ha.run pos pins _ σ H _ (I.tok _) h) fun us s1 ⟨vs, H1, I1, r1, a, C, ws, ev, hl, T, ea, q⟩ => ?_) he hpl
  subst ev
  cases r1 with
  | @cons _ u0 _ ur ra rw' =>
    obtain rfl : u0 = Value.ref a := ra
    have hlen : ur.length ≤ sizeLine := by
      rw [← Paired.length rw', sizeLine_eq]
      omega
    exact oinit_ok T I1 ea hlen fun s' J => ⟨.non, H1, J, rfl, q⟩
end

/-! ### an own error with the text «what» -/
/-- what the text says of the class C (named x) and its __init__ -/
structure ErrTxt (K : PySem.W.Frag) (mg : Str → Option Value) (x qual : Str) (st : Stmt) (C fI : Addr) (fdI : FuncData) : Prop where
  gC : mg x = some (.ref C)
  T : OexC K C
  iC : PySem.W.findIn K (.ref C) "__init__" = some (some (.ref fI))
  tI : PySem.W.typeIn K (.ref fI) = some (.type "function")
  F : L2.Fun K "__init__" qual st fI fdI
  b : Binds K fdI ["self", "what"] []
  gS : ∃ S, mg "SlotError" = some (.ref S) ∧ ClX.CRead K S (.type "type") ∧ PySem.W.findCls K (.ref S) (.type "type") "__init__" = some (.val (.builtin "ValueError.__init__"))
  noW : PySem.W.findIn K (.ref C) "what" = some none
  xf : XfC K C
  te : PySem.W.exmOne K (.ref C) (.ref C) = some true
def spInit (K : PySem.W.Frag) (C : Addr) : Sp := fun vs H Q _ => ∃ (a : Addr) (m : Str), vs = [.ref a, .str m] ∧ m.length ≤ 1000 ∧ OexC K C ∧ PySem.W.findIn K (.ref C) "what" = some none ∧ H a = some (exo a C none) ∧
  ∀ dx, H dx = none → dx ≠ a → Q .non (upd (upd H dx (exd dx [("what", .str m)])) a (exo a C (some dx)))
/-- E is wished: an error of C with this text, all else as it was -/
def spErr (C : Addr) (m : Str) (H : Hp) (E : XK) : Prop := ∀ (d : Addr) (H' : Hp), Same H H' → H' d = some (.xd [("what", .str m)]) → E (.ref C) (some d) H'
/-- the reading of C(text) -/
theorem mk_read {K : PySem.W.Frag} {C : Addr} {m : Str} {H : Hp} {σ : L2.St} {Q : XK} (hl : m.length ≤ 1000) (T : OexC K C) (noW : PySem.W.findIn K (.ref C) "what" = some none) (q : spErr C m H Q) : tMkO C (spInit K C) [] (tCons (tC (.str m)) tNil) σ H Q := by
  refine ⟨by show (1 : Nat) ≤ 1000; decide, fun a na => ?_⟩
  refine ⟨a, m, rfl, hl, T, noW, upd_same, fun dx nd ne => ?_⟩
  have nd' : H dx = none := by rwa [upd_ne ne] at nd
  refine ⟨rfl, dx, _, upd_same, ?_, nd', q dx _ (fun b o e => ?_) upd_same⟩
  · rw [upd_ne ne, upd_same]
  · have nb : b ≠ dx := ne_of_none e nd'
    have na' : b ≠ a := ne_of_none e na
    rw [upd_ne nb, del_ne na', upd_ne na', upd_ne nb, upd_ne na']
    exact e
theorem vac {X : Cx} {sts : List Stmt} : PSs X sts (fun _ _ _ => False) := ⟨fun _ _ _ _ _ _ h => h.elim⟩
theorem spErr.on {C : Addr} {m : Str} {H H' : Hp} {E : XK} (h : spErr C m H E) (s : Same H H') : spErr C m H' E := fun d H2 s2 e => h d H2 (s.trans s2) e
/-- a def that takes frozen values, called on what stands -/
theorem spT_at {K : Fg} {T : Tf} {n : Nat} {vs : List V} {H : Hp} {Q : VK} {E : XK} (args : List Sl) (Kt : Sl → List Sl → Prop) (hn : args.length = n) (hl : args.length = vs.length) (hT : T args Kt) (ha : ∀ (i : Nat) (s : Sl), args[i]? = some s → ∃ d v, s = .fz d ∧ vs[i]? = some v ∧ d.p K v H)
    (fin : ∀ r args' v H' F As, Kt r args' → Same H H' → Sat K (nowB (fun _ => []) H H) (r :: args') (some v :: vs.map some) H' F As → Q v H') : spT K T n vs H Q E :=
  ⟨args, H, fun _ => [], Kt, hn, hT, Sat.all hl ha, fun r args' v H' k ⟨F, As, S⟩ => by
    refine fin r args' v H' F As k (fun a o e => ?_) S
    exact (S.frame a o e fun ⟨i, z⟩ => (nomatch z)).1 fun z => (nomatch z)⟩
end S3

namespace K00
open PySem PySem.Spec PyProof.Rows L2 S3
local macro_rules | `(tactic| walk_at "mod") => `(tactic| first | decide | assumption | omega)
local macro_rules | `(tactic| walk_at "div") => `(tactic| exact ⟨by decide, by decide⟩)
local macro_rules | `(tactic| walk_at "mul") => `(tactic| first | exact Or.inl ⟨by decide, by decide⟩ | exact Or.inr ⟨by decide, by decide⟩ | (unfold CMul; omega))
local macro_rules | `(tactic| walk_at "ok") => `(tactic| first | exact trivial | exact ⟨trivial, trivial⟩ | exact ⟨trivial, trivial, trivial⟩ | (show PyData.strOk _ = true; (try dsimp only); decide +kernel))
local macro_rules | `(tactic| walk_at "lend") => `(tactic| repeat (first | exact Lend.nil | apply Lend.val | (apply Lend.slot; (first | rfl | exact rfl); (intro j; match j with | 0 => simp | 1 => simp | 2 => simp | _ + 3 => simp))))
local macro_rules | `(tactic| walk_at "ref") => `(tactic| repeat (first | exact Ref.nil | refine Ref.same ?_ | refine Ref.any ?_))
local macro_rules | `(tactic| walk_at "pre") => `(tactic| first | trivial | assumption | omega | (simp_all; done) | (simp_all; omega))
local macro_rules | `(tactic| walk_at "noraise") => `(tactic| first | (simp; omega) | (simp; done) | (simp_all; omega))
local macro_rules | `(tactic| walk_at "rng") => `(tactic| omega)
local macro_rules | `(tactic| walk_at "sz") => `(tactic| (rw [rangeL_len]; exact Nat.le_of_lt (small1000 (by omega))))
local macro_rules | `(tactic| walk_at "pow") => `(tactic| exact ⟨by decide, by decide, by decide⟩)
local macro_rules | `(tactic| walk_at "app") => `(tactic| (refine Nat.lt_of_lt_of_le (m := 20001) ?_ (by decide); omega))
local macro_rules | `(tactic| walk_at "nonempty") => `(tactic| (have hne := of_decide_eq_false h; omega))
local macro_rules | `(tactic| walk_at "norm") => `(tactic| (apply WSs.eqv; (· (try simp only [give, wipeE, restE, fzOf, List.set_cons_zero, List.set_cons_succ, List.map_cons, List.map_nil, List.getElem?_cons_zero, List.getElem?_cons_succ]); exact rfl)))
def topS (i : Nat) : Stmt := PySem.Challenge.pw_slotwork_k00_whole_dates_there_and_back.main.body.getD i (.Pass ⟨0, 0, 0, 0⟩)
/-! ### the mathematics -/
def leapB (y : Int) : Bool := decide (y % 4 = 0) && (!decide (y % 100 = 0) || decide (y % 400 = 0))
def LENS : List Int := [31, 28, 31, 30, 31, 30, 31, 31, 30, 31, 30, 31]
def mlen (y m : Int) : Int := if m = 2 then (if leapB y = true then 29 else 28) else if m = 4 ∨ m = 6 ∨ m = 9 ∨ m = 11 then 30 else 31
theorem m_cases {m : Int} (h : 1 ≤ m ∧ m ≤ 12) : m = 1 ∨ m = 2 ∨ m = 3 ∨ m = 4 ∨ m = 5 ∨ m = 6 ∨ m = 7 ∨ m = 8 ∨ m = 9 ∨ m = 10 ∨ m = 11 ∨ m = 12 := by omega
theorem lens_at {m : Int} (h : 1 ≤ m ∧ m ≤ 12) : atI LENS (m - 1) = some (if m = 2 then 28 else if m = 4 ∨ m = 6 ∨ m = 9 ∨ m = 11 then 30 else 31) := by
  rcases m_cases h with e | e | e | e | e | e | e | e | e | e | e | e <;> subst e <;> rfl
theorem mlen_of {y m : Int} (h : 1 ≤ m ∧ m ≤ 12) : (if m = 2 then 28 else if m = 4 ∨ m = 6 ∨ m = 9 ∨ m = 11 then 30 else 31) + (if (decide (m = 2) && leapB y) = true then (1 : Int) else 0) = mlen y m := by
  unfold mlen
  by_cases e : m = 2
  · cases leapB y <;> simp [e]
  · simp [e]
def dby (y : Int) : Int := 365 * (y - 1) + (y - 1) / 4 - (y - 1) / 100 + (y - 1) / 400
def cum (y m : Int) : Int := (if m = 1 then 0 else if m = 2 then 31 else if m = 3 then 59 else if m = 4 then 90 else if m = 5 then 120 else if m = 6 then 151 else if m = 7 then 181 else if m = 8 then 212 else if m = 9 then 243 else if m = 10 then 273 else if m = 11 then 304 else if m = 12 then 334 else 365) + (if leapB y = true ∧ 2 < m then 1 else 0)
def dayOf (y m d : Int) : Int := dby y + cum y m + d - 1 - 738885
def validD (y m d : Int) : Prop := (1 ≤ y ∧ y ≤ 9999) ∧ (1 ≤ m ∧ m ≤ 12) ∧ (1 ≤ d ∧ d ≤ mlen y m)
def okDay (d : Int) : Prop := -738885 ≤ d ∧ d ≤ 2913173
theorem mlen_le {y m : Int} : 28 ≤ mlen y m ∧ mlen y m ≤ 31 := by
  unfold mlen; split <;> (try split) <;> omega
theorem cum_sum {y m : Int} (h : 1 ≤ m ∧ m ≤ 12) : ((rangeL 1 (m - 1).toNat).map (mlen y)).sum = cum y m := by
  rcases m_cases h with e | e | e | e | e | e | e | e | e | e | e | e <;> subst e <;> (cases hl : leapB y <;> simp [rangeL, List.range, List.range.loop, mlen, cum, hl])
theorem dayOf_of {y m d : Int} (h : validD y m d) : dby y + ((rangeL 1 (m - 1).toNat).map (mlen y)).sum + d - 1 - 738885 = dayOf y m d := by
  rw [cum_sum h.2.1]; rfl
theorem dby_step (y : Int) : dby y + (if leapB y = true then 366 else 365) = dby (y + 1) := by
  unfold dby leapB
  split
  · rename_i h
    simp at h
    omega
  · rename_i h
    simp at h
    omega
theorem dby_step365 (y : Int) : dby y + 365 ≤ dby (y + 1) ∧ dby (y + 1) ≤ dby y + 366 := by
  have := dby_step y
  split at this <;> omega
theorem dby_mono_nat (y : Int) : ∀ n : Nat, dby y + 365 * n ≤ dby (y + n)
  | 0 => by simp
  | n + 1 => by
    have h := dby_mono_nat y n
    have h2 := dby_step365 (y + n)
    have e : y + ((n + 1 : Nat) : Int) = y + n + 1 := by omega
    rw [e]; omega
theorem dby_mono {y z : Int} (h : y ≤ z) : dby y + 365 * (z - y) ≤ dby z := by
  have := dby_mono_nat y (z - y).toNat
  rw [show y + ((z - y).toNat : Int) = z by omega] at this
  omega
theorem cum_one {y : Int} : cum y 1 = 0 := by simp [cum]
theorem cum_step {y m : Int} (h : 1 ≤ m ∧ m ≤ 12) : cum y m + mlen y m = cum y (m + 1) := by
  rcases m_cases h with e | e | e | e | e | e | e | e | e | e | e | e <;> subst e <;> (cases hl : leapB y <;> simp [mlen, cum, hl])
theorem cum_13 {y : Int} : cum y 13 = (if leapB y = true then 366 else 365) := by
  cases hl : leapB y <;> simp [cum, hl]
theorem loop2 {s day : Int} (hi : 1 ≤ s ∧ day + 738885 < dby (s + 1)) (h : day + 738885 < dby s) (p : -738885 ≤ day) : (1 ≤ s - 1 ∧ day + 738885 < dby (s - 1 + 1)) ∧ (s - 1).toNat < s.toNat := by
  have e : s - 1 + 1 = s := by omega
  rw [e]
  by_cases h1 : s = 1
  · subst h1
    have : dby 1 = 0 := by decide
    omega
  · omega
theorem year_in {s day : Int} (h : 1 ≤ s) (h2 : dby s ≤ day + 738885) (p : day ≤ 2913173) : 1 ≤ s ∧ s ≤ 9999 := by
  refine ⟨h, ?_⟩
  have e : dby 10000 = 3652059 := by decide
  by_cases hs : s ≤ 9999
  · exact hs
  · have := dby_mono (show (10000 : Int) ≤ s by omega)
    omega
theorem loop3 {s : Int × Int} {day y : Int} (hi : (1 ≤ s.2 ∧ s.2 ≤ 12) ∧ (0 ≤ s.1 ∧ s.1 + cum y s.2 = day + 738885 - dby y)) (h3 : day + 738885 < dby (y + 1)) (h : mlen y s.2 ≤ s.1) :
    ((1 ≤ s.2 + 1 ∧ s.2 + 1 ≤ 12) ∧ (0 ≤ s.1 - mlen y s.2 ∧ s.1 - mlen y s.2 + cum y (s.2 + 1) = day + 738885 - dby y)) ∧ (13 - (s.2 + 1)).toNat < (13 - s.2).toNat := by
  have c := cum_step (y := y) hi.1
  have d := dby_step y
  have c13 := cum_13 (y := y)
  by_cases e : s.2 = 12
  · rw [e] at c h hi
    rw [show (12 : Int) + 1 = 13 from rfl] at c
    omega
  · omega
def dayT (t : T3 Int Int Int) : Int := dayOf t.a t.b t.c
def validT (t : T3 Int Int Int) : Prop := validD t.a t.b t.c
open Classical in
noncomputable def dateF (d : Int) : T3 Int Int Int := if h : ∃ t, validT t ∧ dayT t = d then Classical.choose h else ⟨0, 0, 0⟩
theorem cum_bounds {y m m' : Int} (h : 1 ≤ m ∧ m ≤ 12) (h' : 1 ≤ m' ∧ m' ≤ 12) (l : m < m') : cum y m + mlen y m ≤ cum y m' := by
  rcases m_cases h with e | e | e | e | e | e | e | e | e | e | e | e <;> subst e <;> rcases m_cases h' with e | e | e | e | e | e | e | e | e | e | e | e <;> subst e <;> first | omega | (cases hl : leapB y <;> simp [mlen, cum, hl])
theorem cum_top {y m : Int} (h : 1 ≤ m ∧ m ≤ 12) : 0 ≤ cum y m ∧ cum y m + mlen y m ≤ (if leapB y = true then 366 else 365) := by
  rcases m_cases h with e | e | e | e | e | e | e | e | e | e | e | e <;> subst e <;> (cases hl : leapB y <;> simp [mlen, cum, hl])
theorem day_year {y m d : Int} (h : validD y m d) : dby y ≤ dayOf y m d + 738885 ∧ dayOf y m d + 738885 < dby (y + 1) := by
  obtain ⟨h1, h2, h3⟩ := h
  have := cum_top (y := y) h2
  have := dby_step y
  unfold dayOf
  omega
theorem date_inj {y m d y' m' d' : Int} (h : validD y m d) (h' : validD y' m' d') (e : dayOf y m d = dayOf y' m' d') : y = y' ∧ m = m' ∧ d = d' := by
  have a := day_year h
  have b := day_year h'
  rw [e] at a
  have ey : y = y' := by
    rcases Int.lt_trichotomy y y' with l | l | l
    · have := dby_mono (show y + 1 ≤ y' by omega); omega
    · exact l
    · have := dby_mono (show y' + 1 ≤ y by omega); omega
  subst ey
  obtain ⟨_, h2, h3⟩ := h
  obtain ⟨_, h2', h3'⟩ := h'
  unfold dayOf at e
  have em : m = m' := by
    rcases Int.lt_trichotomy m m' with l | l | l
    · have := cum_bounds (y := y) h2 h2' l; omega
    · exact l
    · have := cum_bounds (y := y) h2' h2 l; omega
  subst em
  exact ⟨rfl, rfl, by omega⟩
theorem dateF_eq {y m d : Int} (h : validD y m d) : dateF (dayOf y m d) = ⟨y, m, d⟩ := by
  have hx : ∃ t, validT t ∧ dayT t = dayOf y m d := ⟨⟨y, m, d⟩, h, rfl⟩
  unfold dateF
  rw [dif_pos hx]
  have := Classical.choose_spec hx
  generalize Classical.choose hx = t at this ⊢
  obtain ⟨a, b, c⟩ := t
  obtain ⟨e1, e2, e3⟩ := date_inj this.1 h this.2
  have e1 : a = y := e1
  have e2 : b = m := e2
  have e3 : c = d := e3
  subst e1; subst e2; subst e3; rfl
theorem date_fin {s : Int × Int} {day y : Int} (hi : (1 ≤ s.2 ∧ s.2 ≤ 12) ∧ (0 ≤ s.1 ∧ s.1 + cum y s.2 = day + 738885 - dby y)) (h : s.1 < mlen y s.2) (hy : 1 ≤ y ∧ y ≤ 9999) : T3.mk y s.2 (s.1 + 1) = dateF day := by
  have v : validD y s.2 (s.1 + 1) := ⟨hy, hi.1, by omega⟩
  have e : dayOf y s.2 (s.1 + 1) = day := by unfold dayOf; omega
  rw [← e, dateF_eq v]
theorem year_ex {c : Int} (h0 : 0 ≤ c) : ∀ n : Nat, c < dby (1 + n) → ∃ y, 1 ≤ y ∧ dby y ≤ c ∧ c < dby (y + 1)
  | 0, h => by
    have e : dby (1 + (0 : Nat)) = 0 := by decide
    omega
  | n + 1, h => by
    by_cases l : c < dby (1 + n)
    · exact year_ex h0 n l
    · refine ⟨1 + n, by omega, by omega, ?_⟩
      rw [show (1 + (n : Int) + 1) = 1 + ((n + 1 : Nat) : Int) by omega]
      exact h
theorem month_ex {y r : Int} (h0 : 0 ≤ r) : ∀ n : Nat, n ≤ 12 → r < cum y (1 + n) → ∃ m, (1 ≤ m ∧ m ≤ 12) ∧ cum y m ≤ r ∧ r < cum y m + mlen y m
  | 0, _, h => by
    rw [show (1 + ((0 : Nat) : Int)) = 1 from rfl, cum_one] at h
    omega
  | n + 1, hn, h => by
    by_cases l : r < cum y (1 + n)
    · exact month_ex h0 n (by omega) l
    · refine ⟨1 + n, by omega, by omega, ?_⟩
      rw [cum_step (by omega), show (1 + (n : Int) + 1) = 1 + ((n + 1 : Nat) : Int) by omega]
      exact h
theorem dateF_spec {d : Int} (h : okDay d) : validT (dateF d) ∧ dayT (dateF d) = d := by
  have hx : ∃ t, validT t ∧ dayT t = d := by
    obtain ⟨h1, h2⟩ := h
    obtain ⟨y, a, b, c⟩ := year_ex (c := d + 738885) (by omega) 9999 (by
      have e : dby (1 + (9999 : Nat)) = 3652059 := by decide
      omega)
    have hy := year_in a b h2
    obtain ⟨m, hm, p, q⟩ := month_ex (y := y) (r := d + 738885 - dby y) (by omega) 12 (Nat.le_refl _) (by
      have := dby_step y
      rw [show (1 + ((12 : Nat) : Int)) = 13 from rfl, cum_13]
      omega)
    exact ⟨⟨y, m, d + 738885 - dby y - cum y m + 1⟩, ⟨hy, hm, by dsimp only; omega⟩, by show dayOf y m (d + 738885 - dby y - cum y m + 1) = _; unfold dayOf; omega⟩
  unfold dateF
  rw [dif_pos hx]
  exact Classical.choose_spec hx
theorem mlen_pos {y m : Int} : 1 ≤ mlen y m := by have := mlen_le (y := y) (m := m); omega
theorem valid_first {y m : Int} (h : 1 ≤ y ∧ y ≤ 9999) (h' : 1 ≤ m ∧ m ≤ 12) : validD y m 1 := ⟨h, h', by omega, mlen_pos⟩
def okWeek (d : Int) : Prop := okDay d ∧ okDay (d - d % 7 + 3)
noncomputable def weekF (d : Int) : Int × Int := ((dateF (d - d % 7 + 3)).a, (d - d % 7 + 3 - dayOf (dateF (d - d % 7 + 3)).a 1 1) / 7 + 1)
theorem valid_11 {d : Int} (h : okDay d) : validD (dateF d).a 1 1 := valid_first (dateF_spec h).1.1 (by decide)
noncomputable def countF (d n : Int) : Int := 12 * (dateF d).a + (dateF d).b - 1 + n
def okMove (d n : Int) : Prop := okDay d ∧ (1 ≤ (12 * (dateF d).a + (dateF d).b - 1 + n) / 12 ∧ (12 * (dateF d).a + (dateF d).b - 1 + n) / 12 ≤ 9999)
noncomputable def movedF (d n : Int) : Int := dayOf ((12 * (dateF d).a + (dateF d).b - 1 + n) / 12) ((12 * (dateF d).a + (dateF d).b - 1 + n) % 12 + 1) (min (dateF d).c (mlen ((12 * (dateF d).a + (dateF d).b - 1 + n) / 12) ((12 * (dateF d).a + (dateF d).b - 1 + n) % 12 + 1)))
theorem move_ym {d n : Int} (h : okMove d n) : 1 ≤ (12 * (dateF d).a + (dateF d).b - 1 + n) % 12 + 1 ∧ (12 * (dateF d).a + (dateF d).b - 1 + n) % 12 + 1 ≤ 12 := by omega
theorem move_valid {d n : Int} (h : okMove d n) : validD ((12 * (dateF d).a + (dateF d).b - 1 + n) / 12) ((12 * (dateF d).a + (dateF d).b - 1 + n) % 12 + 1) (min (dateF d).c (mlen ((12 * (dateF d).a + (dateF d).b - 1 + n) / 12) ((12 * (dateF d).a + (dateF d).b - 1 + n) % 12 + 1))) := by
  refine ⟨h.2, move_ym h, ?_⟩
  have := (dateF_spec h.1).1.2.2.1
  have := mlen_pos (y := (12 * (dateF d).a + (dateF d).b - 1 + n) / 12) (m := (12 * (dateF d).a + (dateF d).b - 1 + n) % 12 + 1)
  omega
def foundF (y m wh : Int) : List Int := ((rangeL 0 (mlen y m).toNat).filter fun a => decide ((dayOf y m 1 + a) % 7 = wh)).map fun a => dayOf y m 1 + a
def wimT : Tf := fun args K => ∃ y m wh no x : Int, args = [fz y, fz m, fz wh, fz no] ∧ ((1 ≤ y ∧ y ≤ 9999) ∧ (1 ≤ m ∧ m ≤ 12) ∧ (0 ≤ wh ∧ wh ≤ 6) ∧ no ≠ 0 ∧ (-(((foundF y m wh).length : Nat) : Int) ≤ no ∧ no ≤ (((foundF y m wh).length : Nat) : Int))) ∧ atI (foundF y m wh) (if 0 < no then no - 1 else no) = some x ∧ K (fz x) [fz y, fz m, fz wh, fz no]
def easterC (y : Int) : Int :=
  let golden := y % 19
  let century := y / 100
  let rest := y % 100
  let shift := (century - (century + 8) / 25 + 1) / 3
  let moon := (19 * golden + century - century / 4 - shift + 15) % 30
  let turn := (32 + 2 * (century % 4) + 2 * (rest / 4) - moon - rest % 4) % 7
  let late := (golden + 11 * moon + 22 * turn) / 451
  moon + turn - 7 * late + 114
def easterF (y : Int) : Int := dayOf y (easterC y / 31) (easterC y % 31 + 1)
theorem easterC_in {y : Int} : 107 ≤ easterC y ∧ easterC y ≤ 149 := by
  have key : ∀ g m t : Int, 0 ≤ g → g ≤ 18 → 0 ≤ m → m ≤ 29 → 0 ≤ t → t ≤ 6 → 107 ≤ m + t - 7 * ((g + 11 * m + 22 * t) / 451) + 114 ∧ m + t - 7 * ((g + 11 * m + 22 * t) / 451) + 114 ≤ 149 := by
    intros; omega
  exact key (y % 19) _ _ (by omega) (by omega) (Int.emod_nonneg _ (by decide)) (by have := Int.emod_lt_of_pos (19 * (y % 19) + y / 100 - y / 100 / 4 - (y / 100 - (y / 100 + 8) / 25 + 1) / 3 + 15) (show (0 : Int) < 30 by decide); omega) (Int.emod_nonneg _ (by decide)) (by omega)
theorem easter_valid {y : Int} (h : 1 ≤ y ∧ y ≤ 9999) : validD y (easterC y / 31) (easterC y % 31 + 1) := by
  have := easterC_in (y := y)
  refine ⟨h, by omega, by omega, ?_⟩
  rcases (show easterC y / 31 = 3 ∨ easterC y / 31 = 4 by omega) with e | e
  · rw [e]; unfold mlen; simp; omega
  · rw [e]; unfold mlen; simp; omega
theorem mlens_at {y m : Int} (h : 1 ≤ m ∧ m ≤ 12) : atI [31, if leapB y = true then 29 else 28, 31, 30, 31, 30, 31, 31, 30, 31, 30, 31] (m - 1) = some (mlen y m) := by
  rcases m_cases h with e | e | e | e | e | e | e | e | e | e | e | e <;> subst e <;> rfl
theorem lawday_of {y m d : Int} (h : 1 ≤ m ∧ m ≤ 12) : 365 * (y - 1) + (y - 1) / 4 - (y - 1) / 100 + (y - 1) / 400 + ((rangeL 1 (m - 1).toNat).map (mlen y)).sum + d - 1 - 738885 = dayOf y m d := by
  rw [cum_sum h]; rfl
theorem easter_m {y : Int} : 1 ≤ easterC y / 31 ∧ easterC y / 31 ≤ 12 := by
  have := easterC_in (y := y)
  omega
theorem ok_valid {y m d : Int} (h : validD y m d) : okDay (dayOf y m d) := by
  have a := day_year h
  obtain ⟨h1, _⟩ := h
  have e1 : dby 1 = 0 := by decide
  have e2 : dby 10000 = 3652059 := by decide
  have := dby_mono (show 1 ≤ y by omega)
  have := dby_mono (show y + 1 ≤ 10000 by omega)
  constructor <;> omega
def wrongD (y m d : Int) : Prop := (1 ≤ y ∧ y ≤ 9999) ∧ (((1 ≤ m ∧ m ≤ 12) ∧ (d < 1 ∨ mlen y m < d)) ∨ (m = 13 ∧ d = 1))
theorem wrong1 {y m : Int} (h : 1 ≤ y ∧ y ≤ 9999) (h' : 1 ≤ m ∧ m ≤ 12) : wrongD y m (mlen y m + 1) := ⟨h, .inl ⟨h', .inr (by omega)⟩⟩
theorem wrong2 {y : Int} (h : 1 ≤ y ∧ y ≤ 9999) : wrongD y 13 1 := ⟨h, .inr ⟨rfl, rfl⟩⟩
theorem wrong3 {y m : Int} (h : 1 ≤ y ∧ y ≤ 9999) (h' : 1 ≤ m ∧ m ≤ 12) : wrongD y m 0 := ⟨h, .inl ⟨h', .inl (by decide)⟩⟩
theorem year_of {d : Int} (h : okDay d) : dby (dateF d).a ≤ d + 738885 ∧ d + 738885 < dby ((dateF d).a + 1) := by
  have := dateF_spec h
  have q := day_year this.1
  have e := this.2
  unfold dayT at e
  rw [e] at q
  exact q
theorem weeks_ok {y m d : Int} (hv : validD y m d) (hy : 3 < y ∧ y < 9990) : okDay (dayOf y m d - dayOf y m d % 7 + 3) ∧ okWeek (dayOf y m d) ∧ okWeek (dayOf y m d - dayOf y m d % 7) ∧ okWeek (dayOf y m d - dayOf y m d % 7 + 6) ∧ okWeek (dayOf y m d + 7) := by
  have a := day_year hv
  have e1 : dby 2 = 365 := by decide
  have e2 : dby 9999 = 3651694 := by decide
  have := dby_mono (show 2 ≤ y by omega)
  have := dby_mono (show y + 1 ≤ 9999 by omega)
  generalize dayOf y m d = t at *
  unfold okWeek okDay
  omega
theorem week_same {t t' : Int} (h : t' - t' % 7 = t - t % 7) : weekF t' = ((dateF (t - t % 7 + 3)).a, (t - t % 7 + 3 - dayOf (dateF (t - t % 7 + 3)).a 1 1) / 7 + 1) := by
  unfold weekF; rw [h]
theorem dayOf_11 {y : Int} : dayOf y 1 1 = dby y - 738885 := by unfold dayOf; rw [cum_one]; omega
theorem week_next {t : Int} : weekF (t + 7) ≠ weekF t := by
  unfold weekF
  intro h
  have h1 := congrArg Prod.fst h
  have h2 := congrArg Prod.snd h
  dsimp only at h1 h2
  rw [h1] at h2
  omega
theorem week_num {t : Int} (h : okDay t) : 1 ≤ (t - dayOf (dateF t).a 1 1) / 7 + 1 ∧ (t - dayOf (dateF t).a 1 1) / 7 + 1 ≤ 53 := by
  have := year_of h
  have := dby_step365 (dateF t).a
  rw [dayOf_11]
  omega
theorem moves_ok {y m d n : Int} (hv : validD y m d) (hy : 3 < y ∧ y < 9990) (h1 : -30 ≤ n) (h2 : n ≤ 30) :
    (okMove (dayOf y m d) n ∧ movedF (dayOf y m d) n = dayOf ((12 * y + m - 1 + n) / 12) ((12 * y + m - 1 + n) % 12 + 1) (min d (mlen ((12 * y + m - 1 + n) / 12) ((12 * y + m - 1 + n) % 12 + 1)))) ∧ (okMove (dayOf y m d) 0 ∧ movedF (dayOf y m d) 0 = dayOf y m d) ∧
    (1 ≤ (12 * y + m - 1 + n) % 12 + 1 ∧ (12 * y + m - 1 + n) % 12 + 1 ≤ 12) ∧
    (okMove (dayOf ((12 * y + m - 1 + n) / 12) ((12 * y + m - 1 + n) % 12 + 1) (min d (mlen ((12 * y + m - 1 + n) / 12) ((12 * y + m - 1 + n) % 12 + 1)))) (0 - n) ∧ (d < 29 → movedF (dayOf ((12 * y + m - 1 + n) / 12) ((12 * y + m - 1 + n) % 12 + 1) (min d (mlen ((12 * y + m - 1 + n) / 12) ((12 * y + m - 1 + n) % 12 + 1)))) (0 - n) = dayOf y m d)) := by
  have hd := dateF_eq hv
  have ho := ok_valid hv
  obtain ⟨v1, v2, v3⟩ := hv
  refine ⟨⟨⟨ho, ?_⟩, ?_⟩, ⟨⟨ho, ?_⟩, ?_⟩, by omega, ?_⟩
  · rw [hd]; dsimp only; omega
  · unfold movedF; rw [hd]
  · rw [hd]; dsimp only; omega
  · unfold movedF; rw [hd]; dsimp only
    rw [show (12 * y + m - 1 + 0) / 12 = y by omega, show (12 * y + m - 1 + 0) % 12 + 1 = m by omega, show min d (mlen y m) = d by omega]
  · generalize hq : (12 * y + m - 1 + n) / 12 = y'
    generalize hr : (12 * y + m - 1 + n) % 12 + 1 = m'
    have hm := mlen_le (y := y') (m := m')
    have hv' : validD y' m' (min d (mlen y' m')) := ⟨by omega, by omega, by omega⟩
    have hd' := dateF_eq hv'
    refine ⟨⟨ok_valid hv', ?_⟩, fun h => ?_⟩
    · rw [hd']; dsimp only; omega
    · unfold movedF; rw [hd']; dsimp only
      rw [show (12 * y' + m' - 1 + (0 - n)) / 12 = y by omega, show (12 * y' + m' - 1 + (0 - n)) % 12 + 1 = m by omega, show min (min d (mlen y' m')) (mlen y m) = d by omega]
def lotF (y m wh : Int) : List Int := ((rangeL (dayOf y m 1) (dayOf y m 1 + mlen y m - dayOf y m 1).toNat).filter fun a => decide (a % 7 = wh)).map fun a => a
theorem lot_found {y m wh : Int} : lotF y m wh = foundF y m wh := by
  unfold lotF foundF
  rw [List.map_id', show dayOf y m 1 + mlen y m - dayOf y m 1 = mlen y m by omega]
  generalize dayOf y m 1 = a
  generalize (mlen y m).toNat = n
  unfold rangeL
  rw [List.filter_map, List.filter_map, List.map_map]
  congr 1
  · funext i; simp
  · congr 1
    funext i; simp
theorem lot_len {y m wh : Int} : (lotF y m wh).length ≤ 31 := by
  unfold lotF
  rw [List.length_map]
  have := List.length_filter_le (fun a : Int => decide (a % 7 = wh)) (rangeL (dayOf y m 1) (dayOf y m 1 + mlen y m - dayOf y m 1).toNat)
  rw [rangeL_len] at this
  have := mlen_le (y := y) (m := m)
  omega
theorem dby_leap (y : Int) : dby y + (if leapB y = true then 1 else 0) = 365 * (y - 1) + y / 4 - y / 100 + y / 400 := by
  unfold dby leapB
  split
  · rename_i h
    simp at h
    omega
  · rename_i h
    simp at h
    omega
theorem easter_sunday {y : Int} (h : 1 ≤ y ∧ y ≤ 9999) : easterF y % 7 = 6 := by
  have hc := easterC_in (y := y)
  have hl := dby_leap y
  have e : easterF y = 365 * (y - 1) + y / 4 - y / 100 + y / 400 + 59 + (easterC y - 93) - 738885 := by
    unfold easterF dayOf
    rw [← hl]
    have hc2 : easterC y / 31 = 3 ∨ easterC y / 31 = 4 := by omega
    rcases hc2 with e | e
    · rw [e]; unfold cum; cases leapB y <;> simp <;> omega
    · rw [e]; unfold cum; cases leapB y <;> simp <;> omega
  rw [e]
  unfold easterC
  dsimp only
  generalize (19 * (y % 19) + y / 100 - y / 100 / 4 - (y / 100 - (y / 100 + 8) / 25 + 1) / 3 + 15) % 30 = mo
  have e4 : y / 400 = y / 100 / 4 := by omega
  rw [e4]
  have ey : y = 100 * (y / 100) + y % 100 := by omega
  have e5 : y / 4 = 25 * (y / 100) + y % 100 / 4 := by omega
  rw [e5]
  generalize (y % 19 + 11 * mo + 22 * _) / 451 = la
  generalize y / 100 = c at *
  generalize y % 100 = r at *
  subst ey
  omega
theorem lot_rng {y m wh : Int} : -(2 ^ 62) ≤ (((lotF y m wh).length : Nat) : Int) ∧ (((lotF y m wh).length : Nat) : Int) < 2 ^ 62 := by
  have := lot_len (y := y) (m := m) (wh := wh)
  omega
theorem atI_back {α : Type} {xs : List α} {i : Nat} (h : i < xs.length) : atI xs (0 + (i : Int) - (xs.length : Int)) = some xs[i] := by
  unfold atI ixN
  rw [if_neg (by omega), if_pos (by omega)]
  have e : (0 + (i : Int) - (xs.length : Int) + (xs.length : Int)).toNat = i := by omega
  show xs[(0 + (i : Int) - (xs.length : Int) + (xs.length : Int)).toNat]? = some xs[i]
  rw [e]
  exact List.getElem?_eq_getElem h
theorem wim_ok {y m wh : Int} {i : Nat} (h1 : 1 ≤ y ∧ y ≤ 9999) (h2 : 1 ≤ m ∧ m ≤ 12) (h3 : 0 ≤ wh) (h4 : wh < 7) (h : i < (((lotF y m wh).length : Nat) : Int).toNat) :
    ∃ q, atI (lotF y m wh) (0 + (i : Int)) = some q ∧
    ((1 ≤ y ∧ y ≤ 9999) ∧ (1 ≤ m ∧ m ≤ 12) ∧ (0 ≤ wh ∧ wh ≤ 6) ∧ (0 + (i : Int) + 1) ≠ 0 ∧ (-(((foundF y m wh).length : Nat) : Int) ≤ (0 + (i : Int) + 1) ∧ (0 + (i : Int) + 1) ≤ (((foundF y m wh).length : Nat) : Int))) ∧
    ((1 ≤ y ∧ y ≤ 9999) ∧ (1 ≤ m ∧ m ≤ 12) ∧ (0 ≤ wh ∧ wh ≤ 6) ∧ (0 + (i : Int) - (((lotF y m wh).length : Nat) : Int)) ≠ 0 ∧ (-(((foundF y m wh).length : Nat) : Int) ≤ (0 + (i : Int) - (((lotF y m wh).length : Nat) : Int)) ∧ (0 + (i : Int) - (((lotF y m wh).length : Nat) : Int)) ≤ (((foundF y m wh).length : Nat) : Int))) ∧
    atI (foundF y m wh) (if 0 < (0 + (i : Int) + 1) then (0 + (i : Int) + 1) - 1 else (0 + (i : Int) + 1)) = some q ∧
    atI (foundF y m wh) (if 0 < (0 + (i : Int) - (((lotF y m wh).length : Nat) : Int)) then (0 + (i : Int) - (((lotF y m wh).length : Nat) : Int)) - 1 else (0 + (i : Int) - (((lotF y m wh).length : Nat) : Int))) = some q := by
  rw [← lot_found]
  generalize lotF y m wh = xs at *
  have hi : i < xs.length := by omega
  refine ⟨xs[i], ?_, ⟨h1, h2, by omega, by omega, by omega, by omega⟩, ⟨h1, h2, by omega, by omega, by omega, by omega⟩, ?_, ?_⟩
  · rw [Int.zero_add]; exact atI_nat (List.getElem?_eq_getElem hi)
  · rw [if_pos (by omega), show (0 + (i : Int) + 1) - 1 = (i : Int) by omega]; exact atI_nat (List.getElem?_eq_getElem hi)
  · rw [if_neg (by omega)]; exact atI_back hi
theorem law_end : (decide (dayOf 2024 1 1 = 0) && (decide (dateF (-1) = T3.mk 2023 12 31) && (decide (easterF 2024 = dayOf 2024 3 31) && decide (weekF 0 = (2024, 1))))) = true := by
  have e1 : dateF (-1) = T3.mk 2023 12 31 := by
    rw [show (-1 : Int) = dayOf 2023 12 31 from by decide]
    exact dateF_eq ⟨by decide, by decide, by decide⟩
  have e2 : dateF (0 - 0 % 7 + 3) = T3.mk 2024 1 4 := by
    rw [show (0 - 0 % 7 + 3 : Int) = dayOf 2024 1 4 from by decide]
    exact dateF_eq ⟨by decide, by decide, by decide⟩
  rw [e1]
  unfold weekF
  rw [e2]
  decide
/-! ### what the module holds -/
structure Gs (K : PySem.W.Frag) (mg : Str → Option Value) : Prop where
  mlen : mg "len" = none
  mrange : mg "range" = none
  mabs : mg "abs" = none
  mmax : mg "max" = none
  mmin : mg "min" = none
  mint : mg "int" = none
  msum : mg "sum" = none
  gFIRST_YEAR : ∃ t, mg "FIRST_YEAR" = some (.int 1 t)
  gLAST_YEAR : ∃ t, mg "LAST_YEAR" = some (.int 9999 t)
  gDAYS_BEFORE : ∃ t, mg "DAYS_BEFORE" = some (.int 738885 t)
  gLENGTHS : ∃ a, mg "LENGTHS" = some (.ref a)
  tLENGTHS : ∀ a, mg "LENGTHS" = some (.ref a) → ∃ vs, (∀ H : Hp, SqT K H a vs) ∧ ∀ F : Hp, Reps K F LENS vs
section
variable {P : Program} {w : World} {K : PySem.W.Frag} {mg : Str → Option Value} {base : Heap}

abbrev s_is_leap : Stmt := topS 8
theorem sc_is_leap : FnScope ["year"] ["year"] (defScope s_is_leap) := ⟨rfl, rfl, rfl, by decide +kernel, rfl, by decide +kernel, by decide +kernel⟩
abbrev T_is_leap : Tf := det1 (fun _ : Int => True) leapB
theorem ok_is_leap (G : Gs K mg) (Hr : Here K mg "is_leap" s_is_leap ["year"]) : Callee P w K mg base "is_leap" 1 ["year"] T_is_leap := by
  refine callee_of Hr sc_is_leap _ ?_
  intro cdv A outer s H E fa args vs Kt hr hl hvl ⟨y, ea, pre, hK⟩
  subst ea
  obtain ⟨v0, ev⟩ : ∃ v0, vs = [v0] := by match vs, hvl with | [v0], _ => exact ⟨v0, rfl⟩
  subst ev
  show WSs _ [fz y] _ _
  have nd := sc_is_leap.nd
  refine wss_cons (ws_ret ?_)
  refine we_andP ?_
  refine wv_of ?_
  refine we_eq hr ?_
  refine wv_of ?_
  refine we_mod ?_
  first | refine wv_nameF 0 ?_ | refine wv_nameO 0 ?_
  refine wv_int ?_
  refine Is2.i ⟨by walk_at "mod", ?_⟩
  first | refine FzR.f ?_ | refine FzR.o ?_
  refine wv_int ?_
  first | refine EqS.vv (by walk_at "ok") (by walk_at "ok") ?_ | refine EqS.sv rfl (by walk_at "ok") (by walk_at "ok") ?_ | refine EqS.vs rfl (by walk_at "ok") (by walk_at "ok") ?_
  first | refine FzR.f ?_ | refine FzR.o ?_
  refine Is.i ?_
  apply exP
  · intro h
    refine we_one ?_
    refine we_orP ?_
    refine wv_of ?_
    refine we_ne hr ?_
    refine wv_of ?_
    refine we_mod ?_
    first | refine wv_nameF 0 ?_ | refine wv_nameO 0 ?_
    refine wv_int ?_
    refine Is2.i ⟨by walk_at "mod", ?_⟩
    first | refine FzR.f ?_ | refine FzR.o ?_
    refine wv_int ?_
    first | refine EqS.vv (by walk_at "ok") (by walk_at "ok") ?_ | refine EqS.sv rfl (by walk_at "ok") (by walk_at "ok") ?_ | refine EqS.vs rfl (by walk_at "ok") (by walk_at "ok") ?_
    first | refine FzR.f ?_ | refine FzR.o ?_
    refine Is.i ?_
    apply exP
    · intro h
      refine we_one ?_
      refine we_eq hr ?_
      refine wv_of ?_
      refine we_mod ?_
      first | refine wv_nameF 0 ?_ | refine wv_nameO 0 ?_
      refine wv_int ?_
      refine Is2.i ⟨by walk_at "mod", ?_⟩
      first | refine FzR.f ?_ | refine FzR.o ?_
      refine wv_int ?_
      first | refine EqS.vv (by walk_at "ok") (by walk_at "ok") ?_ | refine EqS.sv rfl (by walk_at "ok") (by walk_at "ok") ?_ | refine EqS.vs rfl (by walk_at "ok") (by walk_at "ok") ?_
      exact ⟨rfl, rfl⟩
    exact ⟨rfl, rfl⟩
  exact ⟨_, (.fz .nil), hK⟩

abbrev s_check_year : Stmt := topS 9
theorem sc_check_year : FnScope ["year"] ["year"] (defScope s_check_year) := ⟨rfl, rfl, rfl, by decide +kernel, rfl, by decide +kernel, by decide +kernel⟩
abbrev T_check_year : Tf := det1 (fun y : Int => 1 ≤ y ∧ y ≤ 9999) (fun _ => ())
theorem ok_check_year (G : Gs K mg) (Hr : Here K mg "check_year" s_check_year ["year"]) : Callee P w K mg base "check_year" 1 ["year"] T_check_year := by
  obtain ⟨_, gFIRST_YEAR⟩ := G.gFIRST_YEAR
  obtain ⟨_, gLAST_YEAR⟩ := G.gLAST_YEAR
  refine callee_of Hr sc_check_year _ ?_
  intro cdv A outer s H E fa args vs Kt hr hl hvl ⟨y, ea, pre, hK⟩
  subst ea
  obtain ⟨v0, ev⟩ : ∃ v0, vs = [v0] := by match vs, hvl with | [v0], _ => exact ⟨v0, rfl⟩
  subst ev
  show WSs _ [fz y] _ _
  have nd := sc_check_year.nd
  refine wss_cons (ws_if ?_)
  refine wt_not ?_
  refine wt_chainP op_le op_le ?_
  refine wv_gI gFIRST_YEAR ?_
  first | refine wv_nameF 0 ?_ | refine wv_nameO 0 ?_
  refine Is2.i ?_
  apply exP
  · intro h
    refine wv_gI gLAST_YEAR ?_
    exact Is.i ⟨rfl, rfl⟩
  refine Br.F (by walk_at "noraise") (wss_nil ?_)
  refine wss_nil ?_
  exact ⟨_, (.fz .nil), hK⟩

abbrev s_month_length : Stmt := topS 10
theorem sc_month_length : FnScope ["year", "month"] ["year", "month"] (defScope s_month_length) := ⟨rfl, rfl, rfl, by decide +kernel, rfl, by decide +kernel, by decide +kernel⟩
abbrev T_month_length : Tf := det2 (fun y m : Int => (1 ≤ y ∧ y ≤ 9999) ∧ (1 ≤ m ∧ m ≤ 12)) mlen
theorem ok_month_length (G : Gs K mg) (Hr : Here K mg "month_length" s_month_length ["year", "month"]) (Cis_leap : Callee P w K mg base "is_leap" 1 ["year"] T_is_leap) (Ccheck_year : Callee P w K mg base "check_year" 1 ["year"] T_check_year) : Callee P w K mg base "month_length" 2 ["year", "month"] T_month_length := by
  obtain ⟨_, gLENGTHS⟩ := G.gLENGTHS
  refine callee_of Hr sc_month_length _ ?_
  intro cdv A outer s H E fa args vs Kt hr hl hvl ⟨y, m, ea, pre, hK⟩
  subst ea
  obtain ⟨v0, v1, ev⟩ : ∃ v0 v1, vs = [v0, v1] := by match vs, hvl with | [v0, v1], _ => exact ⟨v0, v1, rfl⟩
  subst ev
  show WSs _ [fz y, fz m] _ _
  have nd := sc_month_length.nd
  refine wss_cons (ws_expr ?_)
  refine we_callC Ccheck_year hr ?_
  refine wa_cons ?_
  first | refine wv_nameF 0 ?_ | refine wv_nameO 0 ?_
  refine wa_nil ?_
  apply lendP [none]
  · walk_at "lend"
  · rfl
  refine ⟨_, rfl, (by walk_at "pre"), ?_⟩
  walk_at "norm"
  refine wss_cons (ws_if ?_)
  refine wt_not ?_
  refine wt_chainP op_le op_le ?_
  refine wv_int ?_
  first | refine wv_nameF 1 ?_ | refine wv_nameO 1 ?_
  refine Is2.i ?_
  apply exP
  · intro h
    refine wv_int ?_
    exact Is.i ⟨rfl, rfl⟩
  refine Br.F (by walk_at "noraise") (wss_nil ?_)
  walk_at "norm"
  refine wss_cons (ws_ret ?_)
  refine we_add ?_
  refine wv_of ?_
  refine we_ixT ?_
  refine wv_gT gLENGTHS (G.tLENGTHS _ gLENGTHS) ?_
  refine wv_of ?_
  refine we_sub ?_
  first | refine wv_nameF 1 ?_ | refine wv_nameO 1 ?_
  refine wv_int ?_
  refine Is2.i ?_
  first | refine FzR.f ?_ | refine FzR.o ?_
  refine Is.i ?_
  apply ixE
  · first | exact rdTp | exact rdT3 | exact rdP
  · exact lens_at pre.2
  first | refine FzR.f ?_ | refine FzR.o ?_
  refine wv_of ?_
  refine we_callTy call_int1 G.mint (by decide +kernel) ?_
  refine wa_cons ?_
  refine wv_of ?_
  refine we_andP ?_
  refine wv_of ?_
  refine we_eq hr ?_
  first | refine wv_nameF 1 ?_ | refine wv_nameO 1 ?_
  refine wv_int ?_
  first | refine EqS.vv (by walk_at "ok") (by walk_at "ok") ?_ | refine EqS.sv rfl (by walk_at "ok") (by walk_at "ok") ?_ | refine EqS.vs rfl (by walk_at "ok") (by walk_at "ok") ?_
  first | refine FzR.f ?_ | refine FzR.o ?_
  refine Is.i ?_
  apply exP
  · intro h
    refine we_one ?_
    refine we_callC Cis_leap hr ?_
    refine wa_cons ?_
    first | refine wv_nameF 0 ?_ | refine wv_nameO 0 ?_
    refine wa_nil ?_
    apply lendP [none]
    · walk_at "lend"
    · rfl
    refine ⟨_, rfl, (by walk_at "pre"), ?_⟩
    exact ⟨rfl, rfl⟩
  first | refine FzR.f ?_ | refine FzR.o ?_
  refine wa_nil ?_
  first | refine cs_intI ?_ | refine cs_intB ?_
  first | refine FzR.f ?_ | refine FzR.o ?_
  refine Is2.i ?_
  exact ⟨_, .fz (.fz .nil), conv (mlen_of pre.2) hK⟩

abbrev s_days_before_year : Stmt := topS 11
theorem sc_days_before_year : FnScope ["year", "past"] ["year"] (defScope s_days_before_year) := ⟨rfl, rfl, rfl, by decide +kernel, rfl, by decide +kernel, by decide +kernel⟩
abbrev T_days_before_year : Tf := det1 (fun _ : Int => True) dby
theorem ok_days_before_year (G : Gs K mg) (Hr : Here K mg "days_before_year" s_days_before_year ["year"]) : Callee P w K mg base "days_before_year" 1 ["year"] T_days_before_year := by
  refine callee_of Hr sc_days_before_year _ ?_
  intro cdv A outer s H E fa args vs Kt hr hl hvl ⟨y, ea, pre, hK⟩
  subst ea
  obtain ⟨v0, ev⟩ : ∃ v0, vs = [v0] := by match vs, hvl with | [v0], _ => exact ⟨v0, rfl⟩
  subst ev
  show WSs _ [fz y, .any] _ _
  have nd := sc_days_before_year.nd
  refine wss_cons (ws_set 1 ?_ nd)
  refine we_sub ?_
  first | refine wv_nameF 0 ?_ | refine wv_nameO 0 ?_
  refine wv_int ?_
  refine Is2.i ?_
  refine ⟨rfl, ?_⟩
  walk_at "norm"
  refine wss_cons (ws_ret ?_)
  refine we_add ?_
  refine wv_of ?_
  refine we_sub ?_
  refine wv_of ?_
  refine we_add ?_
  refine wv_of ?_
  refine we_mul ?_
  refine wv_int ?_
  first | refine wv_nameF 1 ?_ | refine wv_nameO 1 ?_
  refine Is2.i ⟨by walk_at "mul", ?_⟩
  first | refine FzR.f ?_ | refine FzR.o ?_
  refine wv_of ?_
  refine we_div ?_
  first | refine wv_nameF 1 ?_ | refine wv_nameO 1 ?_
  refine wv_int ?_
  refine Is2.i ⟨by walk_at "div", ?_⟩
  first | refine FzR.f ?_ | refine FzR.o ?_
  refine Is2.i ?_
  first | refine FzR.f ?_ | refine FzR.o ?_
  refine wv_of ?_
  refine we_div ?_
  first | refine wv_nameF 1 ?_ | refine wv_nameO 1 ?_
  refine wv_int ?_
  refine Is2.i ⟨by walk_at "div", ?_⟩
  first | refine FzR.f ?_ | refine FzR.o ?_
  refine Is2.i ?_
  first | refine FzR.f ?_ | refine FzR.o ?_
  refine wv_of ?_
  refine we_div ?_
  first | refine wv_nameF 1 ?_ | refine wv_nameO 1 ?_
  refine wv_int ?_
  refine Is2.i ⟨by walk_at "div", ?_⟩
  first | refine FzR.f ?_ | refine FzR.o ?_
  refine Is2.i ?_
  exact ⟨_, (.fz .nil), hK⟩

abbrev s_day_of : Stmt := topS 12
theorem sc_day_of : FnScope ["year", "month", "day", "months", "other"] ["year", "month", "day"] (defScope s_day_of) := ⟨rfl, rfl, rfl, by decide +kernel, rfl, by decide +kernel, by decide +kernel⟩
abbrev T_day_of : Tf := det3 validD dayOf
theorem ok_day_of (G : Gs K mg) (Hr : Here K mg "day_of" s_day_of ["year", "month", "day"]) (Cmonth_length : Callee P w K mg base "month_length" 2 ["year", "month"] T_month_length) (Cdays_before_year : Callee P w K mg base "days_before_year" 1 ["year"] T_days_before_year) : Callee P w K mg base "day_of" 3 ["year", "month", "day"] T_day_of := by
  obtain ⟨_, gDAYS_BEFORE⟩ := G.gDAYS_BEFORE
  refine callee_of Hr sc_day_of _ ?_
  intro cdv A outer s H E fa args vs Kt hr hl hvl ⟨y, m, d, ea, pre, hK⟩
  subst ea
  obtain ⟨v0, v1, v2, ev⟩ : ∃ v0 v1 v2, vs = [v0, v1, v2] := by match vs, hvl with | [v0, v1, v2], _ => exact ⟨v0, v1, v2, rfl⟩
  subst ev
  show WSs _ [fz y, fz m, fz d, .any, .any] _ _
  have nd := sc_day_of.nd
  have pre1 := pre.1; have pre2 := pre.2.1; have pre3 := pre.2.2
  refine wss_cons (ws_if ?_)
  refine wt_not ?_
  refine wt_chainP op_le op_le ?_
  refine wv_int ?_
  first | refine wv_nameF 2 ?_ | refine wv_nameO 2 ?_
  refine Is2.i ?_
  apply exP
  · intro h
    refine wv_of ?_
    refine we_callC Cmonth_length hr ?_
    refine wa_cons ?_
    first | refine wv_nameF 0 ?_ | refine wv_nameO 0 ?_
    refine wa_cons ?_
    first | refine wv_nameF 1 ?_ | refine wv_nameO 1 ?_
    refine wa_nil ?_
    apply lendP [none, none]
    · walk_at "lend"
    · rfl
    refine ⟨_, _, rfl, (by walk_at "pre"), ?_⟩
    first | refine FzR.f ?_ | refine FzR.o ?_
    exact Is.i ⟨rfl, rfl⟩
  refine Br.F (by walk_at "noraise") (wss_nil ?_)
  walk_at "norm"
  refine wss_cons (ws_set 3 ?_ nd)
  refine we_callB (cr_sum rfl) G.msum (by decide +kernel) ?_
  refine wa_cons ?_
  refine wv_of ?_
  refine we_lc [("other", 4)] ?_ nd (blkOk_by (by rfl))
  refine wi_range2 ?_ G.mrange
  refine wv_int ?_
  first | refine wv_nameF 1 ?_ | refine wv_nameO 1 ?_
  refine Is2.i ⟨by walk_at "rng", ?_⟩
  apply lcMapE
  · exact isW_range
  · walk_at "sz"
  · intro x hx _ _ _ _ _
    have hx2 := mem_rangeL.mp hx
    refine wg_name 4 ?_ nd
    intro _ _ _ _ _
    refine we_callC Cmonth_length hr ?_
    refine wa_cons ?_
    first | refine wv_nameF 0 ?_ | refine wv_nameO 0 ?_
    refine wa_cons ?_
    first | refine wv_nameF 4 ?_ | refine wv_nameO 4 ?_
    refine wa_nil ?_
    apply lendP [none, none]
    · walk_at "lend"
    · rfl
    refine ⟨_, _, rfl, (by walk_at "pre"), ?_⟩
    first | exact FzR.f ⟨rfl, rfl⟩ | exact FzR.o ⟨rfl, rfl⟩
  first | refine FzR.f ?_ | refine FzR.o ?_
  refine wa_nil ?_
  refine cs_sum (by first | exact rqV | exact rqS) ?_
  refine ⟨rfl, ?_⟩
  walk_at "norm"
  refine wss_cons (ws_ret ?_)
  refine we_sub ?_
  refine wv_of ?_
  refine we_sub ?_
  refine wv_of ?_
  refine we_add ?_
  refine wv_of ?_
  refine we_add ?_
  refine wv_of ?_
  refine we_callC Cdays_before_year hr ?_
  refine wa_cons ?_
  first | refine wv_nameF 0 ?_ | refine wv_nameO 0 ?_
  refine wa_nil ?_
  apply lendP [none]
  · walk_at "lend"
  · rfl
  refine ⟨_, rfl, (by walk_at "pre"), ?_⟩
  first | refine FzR.f ?_ | refine FzR.o ?_
  first | refine wv_nameF 3 ?_ | refine wv_nameO 3 ?_
  refine Is2.i ?_
  first | refine FzR.f ?_ | refine FzR.o ?_
  first | refine wv_nameF 2 ?_ | refine wv_nameO 2 ?_
  refine Is2.i ?_
  first | refine FzR.f ?_ | refine FzR.o ?_
  refine wv_int ?_
  refine Is2.i ?_
  first | refine FzR.f ?_ | refine FzR.o ?_
  refine wv_gI gDAYS_BEFORE ?_
  refine Is2.i ?_
  exact ⟨_, .fz (.fz (.fz .nil)), conv (dayOf_of pre) hK⟩

abbrev s_check_day : Stmt := topS 13
theorem sc_check_day : FnScope ["day"] ["day"] (defScope s_check_day) := ⟨rfl, rfl, rfl, by decide +kernel, rfl, by decide +kernel, by decide +kernel⟩
abbrev T_check_day : Tf := det1 okDay (fun _ => ())
theorem ok_check_day (G : Gs K mg) (Hr : Here K mg "check_day" s_check_day ["day"]) (Cdays_before_year : Callee P w K mg base "days_before_year" 1 ["year"] T_days_before_year) : Callee P w K mg base "check_day" 2 ["day"] T_check_day := by
  obtain ⟨_, gDAYS_BEFORE⟩ := G.gDAYS_BEFORE
  obtain ⟨_, gLAST_YEAR⟩ := G.gLAST_YEAR
  refine callee_of Hr sc_check_day _ ?_
  intro cdv A outer s H E fa args vs Kt hr hl hvl ⟨d, ea, pre, hK⟩
  subst ea
  obtain ⟨v0, ev⟩ : ∃ v0, vs = [v0] := by match vs, hvl with | [v0], _ => exact ⟨v0, rfl⟩
  subst ev
  show WSs _ [fz d] _ _
  have nd := sc_check_day.nd
  have pre1 : -738885 ≤ d := pre.1; have pre2 : d ≤ 2913173 := pre.2
  refine wss_cons (ws_if ?_)
  refine wt_not ?_
  refine wt_chainP op_le op_le ?_
  refine wv_of ?_
  refine we_neg ?_
  refine wv_gI gDAYS_BEFORE ?_
  refine Is.i ?_
  first | refine FzR.f ?_ | refine FzR.o ?_
  first | refine wv_nameF 0 ?_ | refine wv_nameO 0 ?_
  refine Is2.i ?_
  apply exP
  · intro h
    refine wv_of ?_
    refine we_sub ?_
    refine wv_of ?_
    refine we_sub ?_
    refine wv_of ?_
    refine we_callC Cdays_before_year hr ?_
    refine wa_cons ?_
    refine wv_of ?_
    refine we_add ?_
    refine wv_gI gLAST_YEAR ?_
    refine wv_int ?_
    refine Is2.i ?_
    first | refine FzR.f ?_ | refine FzR.o ?_
    refine wa_nil ?_
    apply lendP [none]
    · walk_at "lend"
    · rfl
    refine ⟨_, rfl, (by walk_at "pre"), ?_⟩
    first | refine FzR.f ?_ | refine FzR.o ?_
    refine wv_int ?_
    refine Is2.i ?_
    first | refine FzR.f ?_ | refine FzR.o ?_
    refine wv_gI gDAYS_BEFORE ?_
    refine Is2.i ?_
    first | refine FzR.f ?_ | refine FzR.o ?_
    exact Is.i ⟨rfl, rfl⟩
  refine Br.F (by rw [show dby (9999 + 1) = 3652059 from rfl]; simp; omega) (wss_nil ?_)
  refine wss_nil ?_
  exact ⟨_, (.fz .nil), hK⟩

abbrev s_date_of : Stmt := topS 14
theorem sc_date_of : FnScope ["day", "count", "year", "rest", "month"] ["day"] (defScope s_date_of) := ⟨rfl, rfl, rfl, by decide +kernel, rfl, by decide +kernel, by decide +kernel⟩
abbrev T_date_of : Tf := det1 okDay dateF
theorem ok_date_of (G : Gs K mg) (Hr : Here K mg "date_of" s_date_of ["day"]) (Cmonth_length : Callee P w K mg base "month_length" 2 ["year", "month"] T_month_length) (Cdays_before_year : Callee P w K mg base "days_before_year" 1 ["year"] T_days_before_year) (Ccheck_day : Callee P w K mg base "check_day" 2 ["day"] T_check_day) : Callee P w K mg base "date_of" 3 ["day"] T_date_of := by
  obtain ⟨_, gDAYS_BEFORE⟩ := G.gDAYS_BEFORE
  refine callee_of Hr sc_date_of _ ?_
  intro cdv A outer s H E fa args vs Kt hr hl hvl ⟨day, ea, pre, hK⟩
  subst ea
  obtain ⟨v0, ev⟩ : ∃ v0, vs = [v0] := by match vs, hvl with | [v0], _ => exact ⟨v0, rfl⟩
  subst ev
  show WSs _ [fz day, .any, .any, .any, .any] _ _
  have nd := sc_date_of.nd
  have pre1 : -738885 ≤ day := pre.1; have pre2 : day ≤ 2913173 := pre.2
  refine wss_cons (ws_expr ?_)
  refine we_callC Ccheck_day hr ?_
  refine wa_cons ?_
  first | refine wv_nameF 0 ?_ | refine wv_nameO 0 ?_
  refine wa_nil ?_
  apply lendP [none]
  · walk_at "lend"
  · rfl
  refine ⟨_, rfl, (by walk_at "pre"), ?_⟩
  walk_at "norm"
  refine wss_cons (ws_set 1 ?_ nd)
  refine we_add ?_
  first | refine wv_nameF 0 ?_ | refine wv_nameO 0 ?_
  refine wv_gI gDAYS_BEFORE ?_
  refine Is2.i ?_
  refine ⟨rfl, ?_⟩
  walk_at "norm"
  refine wss_cons (ws_set 2 ?_ nd)
  refine we_callB (call_max2 rfl) G.mmax (by decide +kernel) ?_
  refine wa_cons ?_
  refine wv_int ?_
  refine wa_cons ?_
  refine wv_of ?_
  refine we_div ?_
  refine wv_of ?_
  refine we_mul ?_
  first | refine wv_nameF 1 ?_ | refine wv_nameO 1 ?_
  refine wv_int ?_
  refine Is2.i ⟨by walk_at "mul", ?_⟩
  first | refine FzR.f ?_ | refine FzR.o ?_
  refine wv_int ?_
  refine Is2.i ⟨by walk_at "div", ?_⟩
  first | refine FzR.f ?_ | refine FzR.o ?_
  refine wa_nil ?_
  refine cs_max2 ?_
  refine ⟨rfl, ?_⟩
  walk_at "norm"
  refine wss_cons (whileS (fun s => [fz day, fz (day + 738885), fz s, .any, .any]) (fun s => (day + 738885 - dby s).toNat) (fun s => 1 ≤ s) (max 1 ((day + 738885) * 400 / 146097)) (by walk_at "ref") ?_ (fun s hi => ?_))
  · omega
  skip
  refine wt_le ?_
  refine wv_of ?_
  refine we_callC Cdays_before_year hr ?_
  refine wa_cons ?_
  refine wv_of ?_
  refine we_add ?_
  first | refine wv_nameF 2 ?_ | refine wv_nameO 2 ?_
  refine wv_int ?_
  refine Is2.i ?_
  first | refine FzR.f ?_ | refine FzR.o ?_
  refine wa_nil ?_
  apply lendP [none]
  · walk_at "lend"
  · rfl
  refine ⟨_, rfl, (by walk_at "pre"), ?_⟩
  first | refine FzR.f ?_ | refine FzR.o ?_
  first | refine wv_nameF 1 ?_ | refine wv_nameO 1 ?_
  refine Is2.i ?_
  refine Br.b (fun h => ?_) (fun h => ?_)
  · skip
    refine wss_cons (ws_augI iop_add 2 _ rfl ?_ nd)
    refine wv_int ?_
    refine Is.i ⟨⟨rfl, rfl⟩, ?_⟩
    exact wss_nil ⟨s + 1, (by walk_at "ref"), by omega, by have := of_decide_eq_true h; have := dby_step s; omega⟩
  have h1 : day + 738885 < dby (s + 1) := by have := of_decide_eq_false h; omega
  walk_at "norm"
  refine wss_cons (whileS (fun y => [fz day, fz (day + 738885), fz y, .any, .any]) (fun y => y.toNat) (fun y => 1 ≤ y ∧ day + 738885 < dby (y + 1)) s (by walk_at "ref") ?_ (fun y hi => ?_))
  · exact ⟨hi, h1⟩
  skip
  refine wt_gt ?_
  refine wv_of ?_
  refine we_callC Cdays_before_year hr ?_
  refine wa_cons ?_
  first | refine wv_nameF 2 ?_ | refine wv_nameO 2 ?_
  refine wa_nil ?_
  apply lendP [none]
  · walk_at "lend"
  · rfl
  refine ⟨_, rfl, (by walk_at "pre"), ?_⟩
  first | refine FzR.f ?_ | refine FzR.o ?_
  first | refine wv_nameF 1 ?_ | refine wv_nameO 1 ?_
  refine Is2.i ?_
  refine Br.b (fun h => ?_) (fun h => ?_)
  · skip
    refine wss_cons (ws_augI iop_sub 2 _ rfl ?_ nd)
    refine wv_int ?_
    refine Is.i ⟨⟨rfl, rfl⟩, ?_⟩
    exact wss_nil ⟨y - 1, (by walk_at "ref"), loop2 hi (of_decide_eq_true h) pre1⟩
  have h2 : dby y ≤ day + 738885 := by have := of_decide_eq_false h; omega
  have hy : 1 ≤ y ∧ y ≤ 9999 := year_in hi.1 h2 pre2
  have h3 := hi.2
  clear hi
  walk_at "norm"
  refine wss_cons (ws_set 3 ?_ nd)
  refine we_sub ?_
  first | refine wv_nameF 1 ?_ | refine wv_nameO 1 ?_
  refine wv_of ?_
  refine we_callC Cdays_before_year hr ?_
  refine wa_cons ?_
  first | refine wv_nameF 2 ?_ | refine wv_nameO 2 ?_
  refine wa_nil ?_
  apply lendP [none]
  · walk_at "lend"
  · rfl
  refine ⟨_, rfl, (by walk_at "pre"), ?_⟩
  first | refine FzR.f ?_ | refine FzR.o ?_
  refine Is2.i ?_
  refine ⟨rfl, ?_⟩
  walk_at "norm"
  refine wss_cons (ws_set 4 ?_ nd)
  refine we_int ?_
  refine ⟨rfl, ?_⟩
  walk_at "norm"
  refine wss_cons (whileS (fun s => [fz day, fz (day + 738885), fz y, fz s.1, fz s.2]) (fun s => (13 - s.2).toNat) (fun s => (1 ≤ s.2 ∧ s.2 ≤ 12) ∧ (0 ≤ s.1 ∧ s.1 + cum y s.2 = day + 738885 - dby y)) (day + 738885 - dby y, (1 : Int)) (by walk_at "ref") ?_ (fun s hi => ?_))
  · refine ⟨⟨Int.le_refl _, by show (1 : Int) ≤ 12; decide⟩, by show 0 ≤ day + 738885 - dby y; omega, ?_⟩; show _ + cum y 1 = _; rw [cum_one]; omega
  have hm := hi.1
  refine wt_ge ?_
  first | refine wv_nameF 3 ?_ | refine wv_nameO 3 ?_
  refine wv_of ?_
  refine we_callC Cmonth_length hr ?_
  refine wa_cons ?_
  first | refine wv_nameF 2 ?_ | refine wv_nameO 2 ?_
  refine wa_cons ?_
  first | refine wv_nameF 4 ?_ | refine wv_nameO 4 ?_
  refine wa_nil ?_
  apply lendP [none, none]
  · walk_at "lend"
  · rfl
  refine ⟨_, _, rfl, (by walk_at "pre"), ?_⟩
  first | refine FzR.f ?_ | refine FzR.o ?_
  refine Is2.i ?_
  refine Br.b (fun h => ?_) (fun h => ?_)
  · skip
    refine wss_cons (ws_augI iop_sub 3 _ rfl ?_ nd)
    refine wv_of ?_
    refine we_callC Cmonth_length hr ?_
    refine wa_cons ?_
    first | refine wv_nameF 2 ?_ | refine wv_nameO 2 ?_
    refine wa_cons ?_
    first | refine wv_nameF 4 ?_ | refine wv_nameO 4 ?_
    refine wa_nil ?_
    apply lendP [none, none]
    · walk_at "lend"
    · rfl
    refine ⟨_, _, rfl, (by walk_at "pre"), ?_⟩
    first | refine FzR.f ?_ | refine FzR.o ?_
    refine Is.i ⟨⟨rfl, rfl⟩, ?_⟩
    walk_at "norm"
    refine wss_cons (ws_augI iop_add 4 _ rfl ?_ nd)
    refine wv_int ?_
    refine Is.i ⟨⟨rfl, rfl⟩, ?_⟩
    exact wss_nil ⟨(s.1 - mlen y s.2, s.2 + 1), (by walk_at "ref"), loop3 hi h3 (of_decide_eq_true h)⟩
  have hr2 : s.1 < mlen y s.2 := by have := of_decide_eq_false h; omega
  walk_at "norm"
  refine wss_cons (ws_ret ?_)
  refine we_t3 ?_
  refine wa_cons ?_
  first | refine wv_nameF 2 ?_ | refine wv_nameO 2 ?_
  refine wa_cons ?_
  first | refine wv_nameF 4 ?_ | refine wv_nameO 4 ?_
  refine wa_cons ?_
  refine wv_of ?_
  refine we_add ?_
  first | refine wv_nameF 3 ?_ | refine wv_nameO 3 ?_
  refine wv_int ?_
  refine Is2.i ?_
  first | refine FzR.f ?_ | refine FzR.o ?_
  refine wa_nil ?_
  refine ⟨_, _, _, inferInstance, inferInstance, inferInstance, _, _, _, rfl, ?_⟩
  exact ⟨_, .fz .nil, conv (date_fin hi hr2 hy) hK⟩

abbrev s_weekday : Stmt := topS 15
theorem sc_weekday : FnScope ["day"] ["day"] (defScope s_weekday) := ⟨rfl, rfl, rfl, by decide +kernel, rfl, by decide +kernel, by decide +kernel⟩
abbrev T_weekday : Tf := det1 (fun _ : Int => True) (fun d => d % 7)
theorem ok_weekday (G : Gs K mg) (Hr : Here K mg "weekday" s_weekday ["day"]) : Callee P w K mg base "weekday" 1 ["day"] T_weekday := by
  refine callee_of Hr sc_weekday _ ?_
  intro cdv A outer s H E fa args vs Kt hr hl hvl ⟨d, ea, pre, hK⟩
  subst ea
  obtain ⟨v0, ev⟩ : ∃ v0, vs = [v0] := by match vs, hvl with | [v0], _ => exact ⟨v0, rfl⟩
  subst ev
  show WSs _ [fz d] _ _
  have nd := sc_weekday.nd
  refine wss_cons (ws_ret ?_)
  refine we_mod ?_
  first | refine wv_nameF 0 ?_ | refine wv_nameO 0 ?_
  refine wv_int ?_
  refine Is2.i ⟨by walk_at "mod", ?_⟩
  exact ⟨_, (.fz .nil), hK⟩

abbrev s_week_of : Stmt := topS 16
theorem sc_week_of : FnScope ["day", "thursday", "year"] ["day"] (defScope s_week_of) := ⟨rfl, rfl, rfl, by decide +kernel, rfl, by decide +kernel, by decide +kernel⟩
abbrev T_week_of : Tf := det1 okWeek weekF
theorem ok_week_of (G : Gs K mg) (Hr : Here K mg "week_of" s_week_of ["day"]) (Cday_of : Callee P w K mg base "day_of" 3 ["year", "month", "day"] T_day_of) (Ccheck_day : Callee P w K mg base "check_day" 2 ["day"] T_check_day) (Cdate_of : Callee P w K mg base "date_of" 3 ["day"] T_date_of) (Cweekday : Callee P w K mg base "weekday" 1 ["day"] T_weekday) : Callee P w K mg base "week_of" 4 ["day"] T_week_of := by
  refine callee_of Hr sc_week_of _ ?_
  intro cdv A outer s H E fa args vs Kt hr hl hvl ⟨day, ea, pre, hK⟩
  subst ea
  obtain ⟨v0, ev⟩ : ∃ v0, vs = [v0] := by match vs, hvl with | [v0], _ => exact ⟨v0, rfl⟩
  subst ev
  show WSs _ [fz day, .any, .any] _ _
  have nd := sc_week_of.nd
  have pre1 : okDay day := pre.1; have pre2 : okDay (day - day % 7 + 3) := pre.2; have pre3 := valid_11 pre2
  refine wss_cons (ws_expr ?_)
  refine we_callC Ccheck_day hr ?_
  refine wa_cons ?_
  first | refine wv_nameF 0 ?_ | refine wv_nameO 0 ?_
  refine wa_nil ?_
  apply lendP [none]
  · walk_at "lend"
  · rfl
  refine ⟨_, rfl, (by walk_at "pre"), ?_⟩
  walk_at "norm"
  refine wss_cons (ws_set 1 ?_ nd)
  refine we_add ?_
  refine wv_of ?_
  refine we_sub ?_
  first | refine wv_nameF 0 ?_ | refine wv_nameO 0 ?_
  refine wv_of ?_
  refine we_callC Cweekday hr ?_
  refine wa_cons ?_
  first | refine wv_nameF 0 ?_ | refine wv_nameO 0 ?_
  refine wa_nil ?_
  apply lendP [none]
  · walk_at "lend"
  · rfl
  refine ⟨_, rfl, (by walk_at "pre"), ?_⟩
  first | refine FzR.f ?_ | refine FzR.o ?_
  refine Is2.i ?_
  first | refine FzR.f ?_ | refine FzR.o ?_
  refine wv_int ?_
  refine Is2.i ?_
  refine ⟨rfl, ?_⟩
  walk_at "norm"
  refine wss_cons (ws_set 2 ?_ nd)
  refine we_ixT ?_
  refine wv_of ?_
  refine we_callC Cdate_of hr ?_
  refine wa_cons ?_
  first | refine wv_nameF 1 ?_ | refine wv_nameO 1 ?_
  refine wa_nil ?_
  apply lendP [none]
  · walk_at "lend"
  · rfl
  refine ⟨_, rfl, (by walk_at "pre"), ?_⟩
  first | refine FzR.f ?_ | refine FzR.o ?_
  refine wv_int ?_
  refine Is.i ?_
  apply ixE
  · first | exact rdTp | exact rdT3 | exact rdP
  · rfl
  refine ⟨rfl, ?_⟩
  walk_at "norm"
  refine wss_cons (ws_ret ?_)
  refine we_pair ?_
  refine wa_cons ?_
  first | refine wv_nameF 2 ?_ | refine wv_nameO 2 ?_
  refine wa_cons ?_
  refine wv_of ?_
  refine we_add ?_
  refine wv_of ?_
  refine we_div ?_
  refine wv_of ?_
  refine we_sub ?_
  first | refine wv_nameF 1 ?_ | refine wv_nameO 1 ?_
  refine wv_of ?_
  refine we_callC Cday_of hr ?_
  refine wa_cons ?_
  first | refine wv_nameF 2 ?_ | refine wv_nameO 2 ?_
  refine wa_cons ?_
  refine wv_int ?_
  refine wa_cons ?_
  refine wv_int ?_
  refine wa_nil ?_
  apply lendP [none, none, none]
  · walk_at "lend"
  · rfl
  refine ⟨_, _, _, rfl, (by walk_at "pre"), ?_⟩
  first | refine FzR.f ?_ | refine FzR.o ?_
  refine Is2.i ?_
  first | refine FzR.f ?_ | refine FzR.o ?_
  refine wv_int ?_
  refine Is2.i ⟨by walk_at "div", ?_⟩
  first | refine FzR.f ?_ | refine FzR.o ?_
  refine wv_int ?_
  refine Is2.i ?_
  first | refine FzR.f ?_ | refine FzR.o ?_
  refine wa_nil ?_
  refine ⟨_, _, inferInstance, inferInstance, _, _, rfl, ?_⟩
  exact ⟨_, (.fz .nil), hK⟩

abbrev s_moved_months : Stmt := topS 17
theorem sc_moved_months : FnScope ["day", "months", "year", "month", "place", "count"] ["day", "months"] (defScope s_moved_months) := ⟨rfl, rfl, rfl, by decide +kernel, rfl, by decide +kernel, by decide +kernel⟩
abbrev T_moved_months : Tf := det2 okMove movedF
theorem ok_moved_months (G : Gs K mg) (Hr : Here K mg "moved_months" s_moved_months ["day", "months"]) (Ccheck_year : Callee P w K mg base "check_year" 1 ["year"] T_check_year) (Cmonth_length : Callee P w K mg base "month_length" 2 ["year", "month"] T_month_length) (Cday_of : Callee P w K mg base "day_of" 3 ["year", "month", "day"] T_day_of) (Cdate_of : Callee P w K mg base "date_of" 3 ["day"] T_date_of) : Callee P w K mg base "moved_months" 4 ["day", "months"] T_moved_months := by
  refine callee_of Hr sc_moved_months _ ?_
  intro cdv A outer s H E fa args vs Kt hr hl hvl ⟨day, months, ea, pre, hK⟩
  subst ea
  obtain ⟨v0, v1, ev⟩ : ∃ v0 v1, vs = [v0, v1] := by match vs, hvl with | [v0, v1], _ => exact ⟨v0, v1, rfl⟩
  subst ev
  show WSs _ [fz day, fz months, .any, .any, .any, .any] _ _
  have nd := sc_moved_months.nd
  have pre1 : okDay day := pre.1; have pre2 := pre.2; have pre3 := move_ym pre; have pre4 := move_valid pre
  refine wss_cons (ws_asg ?_)
  refine we_callC Cdate_of hr ?_
  refine wa_cons ?_
  first | refine wv_nameF 0 ?_ | refine wv_nameO 0 ?_
  refine wa_nil ?_
  apply lendP [none]
  · walk_at "lend"
  · rfl
  refine ⟨_, rfl, (by walk_at "pre"), ?_⟩
  refine wg_t3 ?_
  refine wg_name 2 ?_ nd
  refine wg_name 3 ?_ nd
  refine wg_name 4 ?_ nd
  walk_at "norm"
  refine wss_cons (ws_set 5 ?_ nd)
  refine we_add ?_
  refine wv_of ?_
  refine we_sub ?_
  refine wv_of ?_
  refine we_add ?_
  refine wv_of ?_
  refine we_mul ?_
  refine wv_int ?_
  first | refine wv_nameF 2 ?_ | refine wv_nameO 2 ?_
  refine Is2.i ⟨by walk_at "mul", ?_⟩
  first | refine FzR.f ?_ | refine FzR.o ?_
  first | refine wv_nameF 3 ?_ | refine wv_nameO 3 ?_
  refine Is2.i ?_
  first | refine FzR.f ?_ | refine FzR.o ?_
  refine wv_int ?_
  refine Is2.i ?_
  first | refine FzR.f ?_ | refine FzR.o ?_
  first | refine wv_nameF 1 ?_ | refine wv_nameO 1 ?_
  refine Is2.i ?_
  refine ⟨rfl, ?_⟩
  walk_at "norm"
  refine wss_cons (ws_expr ?_)
  refine we_callC Ccheck_year hr ?_
  refine wa_cons ?_
  refine wv_of ?_
  refine we_div ?_
  first | refine wv_nameF 5 ?_ | refine wv_nameO 5 ?_
  refine wv_int ?_
  refine Is2.i ⟨by walk_at "div", ?_⟩
  first | refine FzR.f ?_ | refine FzR.o ?_
  refine wa_nil ?_
  apply lendP [none]
  · walk_at "lend"
  · rfl
  refine ⟨_, rfl, (by walk_at "pre"), ?_⟩
  walk_at "norm"
  refine wss_cons (ws_par2 2 3 ?_ nd)
  refine we_div ?_
  first | refine wv_nameF 5 ?_ | refine wv_nameO 5 ?_
  refine wv_int ?_
  refine Is2.i ⟨by walk_at "div", ?_⟩
  refine we_add ?_
  refine wv_of ?_
  refine we_mod ?_
  first | refine wv_nameF 5 ?_ | refine wv_nameO 5 ?_
  refine wv_int ?_
  refine Is2.i ⟨by walk_at "mod", ?_⟩
  first | refine FzR.f ?_ | refine FzR.o ?_
  refine wv_int ?_
  refine Is2.i ?_
  refine ⟨rfl, ?_⟩
  walk_at "norm"
  refine wss_cons (ws_ret ?_)
  refine we_callC Cday_of hr ?_
  refine wa_cons ?_
  first | refine wv_nameF 2 ?_ | refine wv_nameO 2 ?_
  refine wa_cons ?_
  first | refine wv_nameF 3 ?_ | refine wv_nameO 3 ?_
  refine wa_cons ?_
  refine wv_of ?_
  refine we_callB (call_min2 rfl) G.mmin (by decide +kernel) ?_
  refine wa_cons ?_
  first | refine wv_nameF 4 ?_ | refine wv_nameO 4 ?_
  refine wa_cons ?_
  refine wv_of ?_
  refine we_callC Cmonth_length hr ?_
  refine wa_cons ?_
  first | refine wv_nameF 2 ?_ | refine wv_nameO 2 ?_
  refine wa_cons ?_
  first | refine wv_nameF 3 ?_ | refine wv_nameO 3 ?_
  refine wa_nil ?_
  apply lendP [none, none]
  · walk_at "lend"
  · rfl
  refine ⟨_, _, rfl, (by walk_at "pre"), ?_⟩
  first | refine FzR.f ?_ | refine FzR.o ?_
  refine wa_nil ?_
  refine cs_min2 ?_
  first | refine FzR.f ?_ | refine FzR.o ?_
  refine wa_nil ?_
  apply lendP [none, none, none]
  · walk_at "lend"
  · rfl
  refine ⟨_, _, _, rfl, (by walk_at "pre"), ?_⟩
  exact ⟨_, (.fz (.fz .nil)), hK⟩

abbrev s_weekday_in_month : Stmt := topS 18
theorem sc_weekday_in_month : FnScope ["year", "month", "which", "number", "length", "first", "found", "at"] ["year", "month", "which", "number"] (defScope s_weekday_in_month) := ⟨rfl, rfl, rfl, by decide +kernel, rfl, by decide +kernel, by decide +kernel⟩
abbrev T_weekday_in_month : Tf := wimT
theorem ok_weekday_in_month (G : Gs K mg) (Hr : Here K mg "weekday_in_month" s_weekday_in_month ["year", "month", "which", "number"]) (Cmonth_length : Callee P w K mg base "month_length" 2 ["year", "month"] T_month_length) (Cday_of : Callee P w K mg base "day_of" 3 ["year", "month", "day"] T_day_of) (Cweekday : Callee P w K mg base "weekday" 1 ["day"] T_weekday) : Callee P w K mg base "weekday_in_month" 4 ["year", "month", "which", "number"] T_weekday_in_month := by
  refine callee_of Hr sc_weekday_in_month _ ?_
  intro cdv A outer s H E fa args vs Kt hr hl hvl ⟨y, m, wh, no, x, ea, pre, hx0, hK⟩
  subst ea
  obtain ⟨v0, v1, v2, v3, ev⟩ : ∃ v0 v1 v2 v3, vs = [v0, v1, v2, v3] := by match vs, hvl with | [v0, v1, v2, v3], _ => exact ⟨v0, v1, v2, v3, rfl⟩
  subst ev
  show WSs _ [fz y, fz m, fz wh, fz no, .any, .any, .any, .any] _ _
  have nd := sc_weekday_in_month.nd
  obtain ⟨pre1, pre2, pre3, pre4, pre5⟩ := pre; have pre6 := valid_first pre1 pre2; have pre7 := mlen_le (y := y) (m := m)
  refine wss_cons (ws_set 4 ?_ nd)
  refine we_callC Cmonth_length hr ?_
  refine wa_cons ?_
  first | refine wv_nameF 0 ?_ | refine wv_nameO 0 ?_
  refine wa_cons ?_
  first | refine wv_nameF 1 ?_ | refine wv_nameO 1 ?_
  refine wa_nil ?_
  apply lendP [none, none]
  · walk_at "lend"
  · rfl
  refine ⟨_, _, rfl, (by walk_at "pre"), ?_⟩
  refine ⟨rfl, ?_⟩
  walk_at "norm"
  refine wss_cons (ws_if ?_)
  refine WTw.wt ?_
  refine wtw_orP ?_
  refine wt_not ?_
  refine wt_chainP op_le op_le ?_
  refine wv_int ?_
  first | refine wv_nameF 2 ?_ | refine wv_nameO 2 ?_
  refine Is2.i ?_
  apply exP
  · intro h
    refine wv_int ?_
    exact Is.i ⟨rfl, rfl⟩
  apply exP
  · intro h
    refine wtw_or1 ?_
    refine wt_eq hr ?_
    first | refine wv_nameF 3 ?_ | refine wv_nameO 3 ?_
    refine wv_int ?_
    first | refine EqS.vv (by walk_at "ok") (by walk_at "ok") ?_ | refine EqS.sv rfl (by walk_at "ok") (by walk_at "ok") ?_ | refine EqS.vs rfl (by walk_at "ok") (by walk_at "ok") ?_
    exact ⟨rfl, rfl⟩
  refine Br.F (by (simp; omega)) (wss_nil ?_)
  walk_at "norm"
  refine wss_cons (ws_set 5 ?_ nd)
  refine we_callC Cday_of hr ?_
  refine wa_cons ?_
  first | refine wv_nameF 0 ?_ | refine wv_nameO 0 ?_
  refine wa_cons ?_
  first | refine wv_nameF 1 ?_ | refine wv_nameO 1 ?_
  refine wa_cons ?_
  refine wv_int ?_
  refine wa_nil ?_
  apply lendP [none, none, none]
  · walk_at "lend"
  · rfl
  refine ⟨_, _, _, rfl, (by walk_at "pre"), ?_⟩
  refine ⟨rfl, ?_⟩
  walk_at "norm"
  refine wss_cons (ws_setLc 6 [("at", 7)] ?_ nd (blkOk_by (by rfl)))
  refine wi_range1 ?_ G.mrange
  first | refine wv_nameF 4 ?_ | refine wv_nameO 4 ?_
  refine Is.i ⟨by walk_at "rng", ?_⟩
  apply lcPureE
  · exact isW_range
  · walk_at "sz"
  · intro x hx _ _ _ _ _
    refine wg_name 7 ?_ nd
    intro _ _ _ _ _
    refine wts_one ?_
    refine wt_eq hr ?_
    refine wv_of ?_
    refine we_callC Cweekday hr ?_
    refine wa_cons ?_
    refine wv_of ?_
    refine we_add ?_
    first | refine wv_nameF 5 ?_ | refine wv_nameO 5 ?_
    first | refine wv_nameF 7 ?_ | refine wv_nameO 7 ?_
    refine Is2.i ?_
    first | refine FzR.f ?_ | refine FzR.o ?_
    refine wa_nil ?_
    apply lendP [none]
    · walk_at "lend"
    · rfl
    refine ⟨_, rfl, (by walk_at "pre"), ?_⟩
    first | refine FzR.f ?_ | refine FzR.o ?_
    first | refine wv_nameF 2 ?_ | refine wv_nameO 2 ?_
    first | refine EqS.vv (by walk_at "ok") (by walk_at "ok") ?_ | refine EqS.sv rfl (by walk_at "ok") (by walk_at "ok") ?_ | refine EqS.vs rfl (by walk_at "ok") (by walk_at "ok") ?_
    refine ⟨rfl, fun h => ?_, fun h => rfl⟩
    intro _ _ _ _ _
    refine we_add ?_
    first | refine wv_nameF 5 ?_ | refine wv_nameO 5 ?_
    first | refine wv_nameF 7 ?_ | refine wv_nameO 7 ?_
    refine Is2.i ?_
    first | exact FzR.f ⟨rfl, rfl⟩ | exact FzR.o ⟨rfl, rfl⟩
  refine ⟨by exact of_decide_eq_true rfl, ?_⟩
  walk_at "norm"
  refine wss_cons (ws_if ?_)
  refine wt_not ?_
  refine wt_chainP op_le op_le ?_
  refine wv_of ?_
  refine we_neg ?_
  refine wv_of ?_
  refine we_len ?_ G.mlen
  first | refine wv_nameF 6 ?_ | refine wv_nameO 6 ?_
  apply exP
  · first | exact rqV.len | exact (rqS rfl).len | exact rqR.len | exact rdTp.len
  first | refine FzR.f ?_ | refine FzR.o ?_
  refine Is.i ?_
  first | refine FzR.f ?_ | refine FzR.o ?_
  first | refine wv_nameF 3 ?_ | refine wv_nameO 3 ?_
  refine Is2.i ?_
  apply exP
  · intro h
    refine wv_of ?_
    refine we_len ?_ G.mlen
    first | refine wv_nameF 6 ?_ | refine wv_nameO 6 ?_
    apply exP
    · first | exact rqV.len | exact (rqS rfl).len | exact rqR.len | exact rdTp.len
    first | refine FzR.f ?_ | refine FzR.o ?_
    exact Is.i ⟨rfl, rfl⟩
  refine Br.F (by (rw [show ((rangeL 0 (mlen y m).toNat).filter _).map _ = foundF y m wh from rfl]; simp; omega)) (wss_nil ?_)
  walk_at "norm"
  refine wss_cons (ws_if ?_)
  refine wt_gt ?_
  first | refine wv_nameF 3 ?_ | refine wv_nameO 3 ?_
  refine wv_int ?_
  refine Is2.i ?_
  refine Br.b (fun h => ?_) (fun h => ?_)
  · skip
    refine wss_cons (ws_ret ?_)
    refine we_ixL ?_
    first | refine wv_nameF 6 ?_ | refine wv_nameO 6 ?_
    refine wv_of ?_
    refine we_sub ?_
    first | refine wv_nameF 3 ?_ | refine wv_nameO 3 ?_
    refine wv_int ?_
    refine Is2.i ?_
    first | refine FzR.f ?_ | refine FzR.o ?_
    refine Is.i ?_
    apply ixE
    · first | exact rqV | exact rqS (by rfl) | exact rqR
    · exact (by rw [if_pos (of_decide_eq_true h)] at hx0; exact hx0)
    exact ⟨_, .fz (.fz (.fz (.fz .nil))), hK⟩
  refine wss_nil ?_
  walk_at "norm"
  refine wss_cons (ws_ret ?_)
  refine we_ixL ?_
  first | refine wv_nameF 6 ?_ | refine wv_nameO 6 ?_
  first | refine wv_nameF 3 ?_ | refine wv_nameO 3 ?_
  refine Is.i ?_
  apply ixE
  · first | exact rqV | exact rqS (by rfl) | exact rqR
  · exact (by rw [if_neg (of_decide_eq_false h)] at hx0; exact hx0)
  exact ⟨_, .fz (.fz (.fz (.fz .nil))), hK⟩

abbrev s_easter : Stmt := topS 19
theorem sc_easter : FnScope ["year", "golden", "century", "rest", "shift", "moon", "turn", "late", "count"] ["year"] (defScope s_easter) := ⟨rfl, rfl, rfl, by decide +kernel, rfl, by decide +kernel, by decide +kernel⟩
abbrev T_easter : Tf := det1 (fun y : Int => 1 ≤ y ∧ y ≤ 9999) easterF
theorem ok_easter (G : Gs K mg) (Hr : Here K mg "easter" s_easter ["year"]) (Ccheck_year : Callee P w K mg base "check_year" 1 ["year"] T_check_year) (Cday_of : Callee P w K mg base "day_of" 3 ["year", "month", "day"] T_day_of) : Callee P w K mg base "easter" 4 ["year"] T_easter := by
  refine callee_of Hr sc_easter _ ?_
  intro cdv A outer s H E fa args vs Kt hr hl hvl ⟨y, ea, pre, hK⟩
  subst ea
  obtain ⟨v0, ev⟩ : ∃ v0, vs = [v0] := by match vs, hvl with | [v0], _ => exact ⟨v0, rfl⟩
  subst ev
  show WSs _ [fz y, .any, .any, .any, .any, .any, .any, .any, .any] _ _
  have nd := sc_easter.nd
  have pre1 := easter_valid pre
  refine wss_cons (ws_expr ?_)
  refine we_callC Ccheck_year hr ?_
  refine wa_cons ?_
  first | refine wv_nameF 0 ?_ | refine wv_nameO 0 ?_
  refine wa_nil ?_
  apply lendP [none]
  · walk_at "lend"
  · rfl
  refine ⟨_, rfl, (by walk_at "pre"), ?_⟩
  walk_at "norm"
  refine wss_cons (ws_set 1 ?_ nd)
  refine we_mod ?_
  first | refine wv_nameF 0 ?_ | refine wv_nameO 0 ?_
  refine wv_int ?_
  refine Is2.i ⟨by walk_at "mod", ?_⟩
  refine ⟨rfl, ?_⟩
  walk_at "norm"
  refine wss_cons (ws_par2 2 3 ?_ nd)
  refine we_div ?_
  first | refine wv_nameF 0 ?_ | refine wv_nameO 0 ?_
  refine wv_int ?_
  refine Is2.i ⟨by walk_at "div", ?_⟩
  refine we_mod ?_
  first | refine wv_nameF 0 ?_ | refine wv_nameO 0 ?_
  refine wv_int ?_
  refine Is2.i ⟨by walk_at "mod", ?_⟩
  refine ⟨rfl, ?_⟩
  walk_at "norm"
  refine wss_cons (ws_set 4 ?_ nd)
  refine we_div ?_
  refine wv_of ?_
  refine we_add ?_
  refine wv_of ?_
  refine we_sub ?_
  first | refine wv_nameF 2 ?_ | refine wv_nameO 2 ?_
  refine wv_of ?_
  refine we_div ?_
  refine wv_of ?_
  refine we_add ?_
  first | refine wv_nameF 2 ?_ | refine wv_nameO 2 ?_
  refine wv_int ?_
  refine Is2.i ?_
  first | refine FzR.f ?_ | refine FzR.o ?_
  refine wv_int ?_
  refine Is2.i ⟨by walk_at "div", ?_⟩
  first | refine FzR.f ?_ | refine FzR.o ?_
  refine Is2.i ?_
  first | refine FzR.f ?_ | refine FzR.o ?_
  refine wv_int ?_
  refine Is2.i ?_
  first | refine FzR.f ?_ | refine FzR.o ?_
  refine wv_int ?_
  refine Is2.i ⟨by walk_at "div", ?_⟩
  refine ⟨rfl, ?_⟩
  walk_at "norm"
  refine wss_cons (ws_set 5 ?_ nd)
  refine we_mod ?_
  refine wv_of ?_
  refine we_add ?_
  refine wv_of ?_
  refine we_sub ?_
  refine wv_of ?_
  refine we_sub ?_
  refine wv_of ?_
  refine we_add ?_
  refine wv_of ?_
  refine we_mul ?_
  refine wv_int ?_
  first | refine wv_nameF 1 ?_ | refine wv_nameO 1 ?_
  refine Is2.i ⟨by walk_at "mul", ?_⟩
  first | refine FzR.f ?_ | refine FzR.o ?_
  first | refine wv_nameF 2 ?_ | refine wv_nameO 2 ?_
  refine Is2.i ?_
  first | refine FzR.f ?_ | refine FzR.o ?_
  refine wv_of ?_
  refine we_div ?_
  first | refine wv_nameF 2 ?_ | refine wv_nameO 2 ?_
  refine wv_int ?_
  refine Is2.i ⟨by walk_at "div", ?_⟩
  first | refine FzR.f ?_ | refine FzR.o ?_
  refine Is2.i ?_
  first | refine FzR.f ?_ | refine FzR.o ?_
  first | refine wv_nameF 4 ?_ | refine wv_nameO 4 ?_
  refine Is2.i ?_
  first | refine FzR.f ?_ | refine FzR.o ?_
  refine wv_int ?_
  refine Is2.i ?_
  first | refine FzR.f ?_ | refine FzR.o ?_
  refine wv_int ?_
  refine Is2.i ⟨by walk_at "mod", ?_⟩
  refine ⟨rfl, ?_⟩
  walk_at "norm"
  refine wss_cons (ws_set 6 ?_ nd)
  refine we_mod ?_
  refine wv_of ?_
  refine we_sub ?_
  refine wv_of ?_
  refine we_sub ?_
  refine wv_of ?_
  refine we_add ?_
  refine wv_of ?_
  refine we_add ?_
  refine wv_int ?_
  refine wv_of ?_
  refine we_mul ?_
  refine wv_int ?_
  refine wv_of ?_
  refine we_mod ?_
  first | refine wv_nameF 2 ?_ | refine wv_nameO 2 ?_
  refine wv_int ?_
  refine Is2.i ⟨by walk_at "mod", ?_⟩
  first | refine FzR.f ?_ | refine FzR.o ?_
  refine Is2.i ⟨by walk_at "mul", ?_⟩
  first | refine FzR.f ?_ | refine FzR.o ?_
  refine Is2.i ?_
  first | refine FzR.f ?_ | refine FzR.o ?_
  refine wv_of ?_
  refine we_mul ?_
  refine wv_int ?_
  refine wv_of ?_
  refine we_div ?_
  first | refine wv_nameF 3 ?_ | refine wv_nameO 3 ?_
  refine wv_int ?_
  refine Is2.i ⟨by walk_at "div", ?_⟩
  first | refine FzR.f ?_ | refine FzR.o ?_
  refine Is2.i ⟨by walk_at "mul", ?_⟩
  first | refine FzR.f ?_ | refine FzR.o ?_
  refine Is2.i ?_
  first | refine FzR.f ?_ | refine FzR.o ?_
  first | refine wv_nameF 5 ?_ | refine wv_nameO 5 ?_
  refine Is2.i ?_
  first | refine FzR.f ?_ | refine FzR.o ?_
  refine wv_of ?_
  refine we_mod ?_
  first | refine wv_nameF 3 ?_ | refine wv_nameO 3 ?_
  refine wv_int ?_
  refine Is2.i ⟨by walk_at "mod", ?_⟩
  first | refine FzR.f ?_ | refine FzR.o ?_
  refine Is2.i ?_
  first | refine FzR.f ?_ | refine FzR.o ?_
  refine wv_int ?_
  refine Is2.i ⟨by walk_at "mod", ?_⟩
  refine ⟨rfl, ?_⟩
  walk_at "norm"
  refine wss_cons (ws_set 7 ?_ nd)
  refine we_div ?_
  refine wv_of ?_
  refine we_add ?_
  refine wv_of ?_
  refine we_add ?_
  first | refine wv_nameF 1 ?_ | refine wv_nameO 1 ?_
  refine wv_of ?_
  refine we_mul ?_
  refine wv_int ?_
  first | refine wv_nameF 5 ?_ | refine wv_nameO 5 ?_
  refine Is2.i ⟨by walk_at "mul", ?_⟩
  first | refine FzR.f ?_ | refine FzR.o ?_
  refine Is2.i ?_
  first | refine FzR.f ?_ | refine FzR.o ?_
  refine wv_of ?_
  refine we_mul ?_
  refine wv_int ?_
  first | refine wv_nameF 6 ?_ | refine wv_nameO 6 ?_
  refine Is2.i ⟨by walk_at "mul", ?_⟩
  first | refine FzR.f ?_ | refine FzR.o ?_
  refine Is2.i ?_
  first | refine FzR.f ?_ | refine FzR.o ?_
  refine wv_int ?_
  refine Is2.i ⟨by walk_at "div", ?_⟩
  refine ⟨rfl, ?_⟩
  walk_at "norm"
  refine wss_cons (ws_set 8 ?_ nd)
  refine we_add ?_
  refine wv_of ?_
  refine we_sub ?_
  refine wv_of ?_
  refine we_add ?_
  first | refine wv_nameF 5 ?_ | refine wv_nameO 5 ?_
  first | refine wv_nameF 6 ?_ | refine wv_nameO 6 ?_
  refine Is2.i ?_
  first | refine FzR.f ?_ | refine FzR.o ?_
  refine wv_of ?_
  refine we_mul ?_
  refine wv_int ?_
  first | refine wv_nameF 7 ?_ | refine wv_nameO 7 ?_
  refine Is2.i ⟨by walk_at "mul", ?_⟩
  first | refine FzR.f ?_ | refine FzR.o ?_
  refine Is2.i ?_
  first | refine FzR.f ?_ | refine FzR.o ?_
  refine wv_int ?_
  refine Is2.i ?_
  refine ⟨rfl, ?_⟩
  walk_at "norm"
  refine wss_cons (ws_ret ?_)
  refine we_callC Cday_of hr ?_
  refine wa_cons ?_
  first | refine wv_nameF 0 ?_ | refine wv_nameO 0 ?_
  refine wa_cons ?_
  refine wv_of ?_
  refine we_div ?_
  first | refine wv_nameF 8 ?_ | refine wv_nameO 8 ?_
  refine wv_int ?_
  refine Is2.i ⟨by walk_at "div", ?_⟩
  first | refine FzR.f ?_ | refine FzR.o ?_
  refine wa_cons ?_
  refine wv_of ?_
  refine we_add ?_
  refine wv_of ?_
  refine we_mod ?_
  first | refine wv_nameF 8 ?_ | refine wv_nameO 8 ?_
  refine wv_int ?_
  refine Is2.i ⟨by walk_at "mod", ?_⟩
  first | refine FzR.f ?_ | refine FzR.o ?_
  refine wv_int ?_
  refine Is2.i ?_
  first | refine FzR.f ?_ | refine FzR.o ?_
  refine wa_nil ?_
  apply lendP [none, none, none]
  · walk_at "lend"
  · rfl
  refine ⟨_, _, _, rfl, (by walk_at "pre"), ?_⟩
  exact ⟨_, (.fz .nil), hK⟩

abbrev s_law_deck : Stmt := topS 21
theorem sc_law_deck : FnScope ["script", "cells", "each", "deck", "seed", "k", "cell", "rest", "at"] ["script", "cells", "each"] (defScope s_law_deck) := ⟨rfl, rfl, rfl, by decide +kernel, rfl, by decide +kernel, by decide +kernel⟩
abbrev T_law_deck : Tf := deckT
theorem ok_law_deck (G : Gs K mg) (Hr : Here K mg "_law_deck" s_law_deck ["script", "cells", "each"]) : Callee P w K mg base "_law_deck" 1 ["script", "cells", "each"] T_law_deck := by
  refine callee_of Hr sc_law_deck _ ?_
  intro cdv A outer s H E fa args vs Kt hr hl hvl ⟨sc, cells, each, ea, hlen, hc, he, hK⟩
  subst ea
  obtain ⟨v0, v1, v2, ev⟩ : ∃ v0 v1 v2, vs = [v0, v1, v2] := by match vs, hvl with | [v0, v1, v2], _ => exact ⟨v0, v1, v2, rfl⟩
  subst ev
  show WSs _ [fz sc, fz cells, fz each, .any, .any, .any, .any, .any, .any] _ _
  have nd := sc_law_deck.nd
  refine wss_cons (ws_set 3 ?_ nd)
  refine we_nil (α := Int) ?_
  refine ⟨rfl, ?_⟩
  walk_at "norm"
  refine wss_cons (ws_set 4 ?_ nd)
  refine we_add ?_
  refine wv_int ?_
  refine wv_of ?_
  refine we_len ?_ G.mlen
  first | refine wv_nameF 0 ?_ | refine wv_nameO 0 ?_
  apply exP
  · first | exact rqV.len | exact (rqS rfl).len | exact rqR.len | exact rdTp.len
  first | refine FzR.f ?_ | refine FzR.o ?_
  refine Is2.i ?_
  refine ⟨rfl, ?_⟩
  walk_at "norm"
  refine wss_cons (ws_for ?_)
  refine wi_range1 ?_ G.mrange
  first | refine wv_nameF 1 ?_ | refine wv_nameO 1 ?_
  refine Is.i ⟨by walk_at "rng", ?_⟩
  refine forS isW_range (fun s => [fz sc, fz cells, fz each, ow s.1, fz s.2, .any, .any, .any, .any]) (fun i s => (s.1.length : Int) ≤ i * 100 ∧ 0 ≤ s.2 ∧ s.2 < 2147483648) (([] : List Int), 7 + (sc.l.length : Int)) (by walk_at "ref") ?_ (fun i x s hx hi => ?_) (fun s hi => ?_) (fun _ _ r q => q.ref r)
  · refine ⟨by simp, ?_, ?_⟩ <;> (show (_ : Int) ≤ _ <;> skip) <;> omega
  · have hx2 := rangeL_at hx; have h0 := hi.1; have h1 := hi.2.1; have h2 := hi.2.2
    refine wg_name 5 ?_ nd
    refine wss_cons (ws_set 6 ?_ nd)
    refine we_int ?_
    refine ⟨rfl, ?_⟩
    walk_at "norm"
    refine wss_cut (Mid := fun e => ∃ c : Int, Ref e ([fz sc, fz cells, fz each, ow s.1, fz s.2, fz x, fz c, .any, .any]) ∧ (True)) (ws_if ?_) (fun e1 ⟨c, r, hj⟩ => WSs.ref (env' := [fz sc, fz cells, fz each, ow s.1, fz s.2, fz x, fz c, .any, .any]) ?_ r)
    refine wt_lt ?_
    first | refine wv_nameF 5 ?_ | refine wv_nameO 5 ?_
    refine wv_of ?_
    refine we_len ?_ G.mlen
    first | refine wv_nameF 0 ?_ | refine wv_nameO 0 ?_
    apply exP
    · first | exact rqV.len | exact (rqS rfl).len | exact rqR.len | exact rdTp.len
    first | refine FzR.f ?_ | refine FzR.o ?_
    refine Is2.i ?_
    refine Br.b (fun h => ?_) (fun h => ?_)
    · skip
      refine wss_cons (ws_set 6 ?_ nd)
      refine we_ixL ?_
      first | refine wv_nameF 0 ?_ | refine wv_nameO 0 ?_
      first | refine wv_nameF 5 ?_ | refine wv_nameO 5 ?_
      refine Is.i ?_
      apply ixE
      · first | exact rqV | exact rqS (by rfl) | exact rqR
      · exact atI_of (by omega) (of_decide_eq_true h)
      refine ⟨rfl, ?_⟩
      exact wss_nil ⟨_, (by walk_at "ref"), trivial⟩
    · skip
      exact wss_nil ⟨_, (by walk_at "ref"), trivial⟩
    skip
    walk_at "norm"
    refine wss_cons (ws_set 7 ?_ nd)
    refine we_callB call_abs G.mabs (by decide +kernel) ?_
    refine wa_cons ?_
    first | refine wv_nameF 6 ?_ | refine wv_nameO 6 ?_
    refine wa_nil ?_
    refine cs_abs ?_
    refine ⟨rfl, ?_⟩
    walk_at "norm"
    refine wss_cons (ws_if ?_)
    refine wt_ge ?_
    first | refine wv_nameF 7 ?_ | refine wv_nameO 7 ?_
    refine wv_of ?_
    refine we_pow ?_
    refine wv_int ?_
    refine wv_int ?_
    refine Is2.i ⟨by walk_at "pow", ?_⟩
    first | refine FzR.f ?_ | refine FzR.o ?_
    refine Is2.i ?_
    refine Br.b (fun h => ?_) (fun h => ?_)
    · skip
      refine wss_cons (ws_for ?_)
      refine wi_range1 ?_ G.mrange
      first | refine wv_nameF 2 ?_ | refine wv_nameO 2 ?_
      refine Is.i ⟨by walk_at "rng", ?_⟩
      refine forS isW_range (fun t => [fz sc, fz cells, fz each, ow t.1, fz s.2, fz x, fz c, fz t.2, .any]) (fun j t => (t.1.length : Int) ≤ i * 100 + j) (s.1, if c < 0 then -c else c) (by walk_at "ref") ?_ (fun j z t hz hj2 => ?_) (fun t hj2 => ?_) (fun _ _ r q => q.ref r)
      · show (s.1.length : Int) ≤ _; omega
      · have hz2 := rangeL_at hz
        refine wg_name 8 ?_ nd
        refine wss_cons (ws_expr ?_)
        refine we_append ?_
        first | refine wv_nameF 3 ?_ | refine wv_nameO 3 ?_
        refine ⟨(rqS rfl).ty, ?_⟩
        refine wa_cons ?_
        refine wv_of ?_
        refine we_mod ?_
        refine wv_of ?_
        refine we_callTy call_int1 G.mint (by decide +kernel) ?_
        refine wa_cons ?_
        first | refine wv_nameF 7 ?_ | refine wv_nameO 7 ?_
        refine wa_nil ?_
        first | refine cs_intI ?_ | refine cs_intB ?_
        first | refine FzR.f ?_ | refine FzR.o ?_
        refine wv_int ?_
        refine Is2.i ⟨by walk_at "mod", ?_⟩
        first | refine FzR.f ?_ | refine FzR.o ?_
        refine wa_nil ?_
        refine ms_append rfl (by walk_at "app") ?_
        walk_at "norm"
        refine wss_cons (ws_set 7 ?_ nd)
        refine we_div ?_
        first | refine wv_nameF 7 ?_ | refine wv_nameO 7 ?_
        refine wv_int ?_
        refine Is2.i ⟨by walk_at "div", ?_⟩
        refine ⟨rfl, ?_⟩
        exact wss_nil ⟨(t.1 ++ [_], t.2 / 1000003), (by walk_at "ref"), by simp; omega⟩
      exact wss_nil (wss_nil ⟨(t.1, s.2), (by walk_at "ref"), by have := rangeL_len (lo := 0) (n := each.toNat); (try dsimp only); omega⟩)
      skip
    · skip
      refine wss_cons (ws_set 4 ?_ nd)
      refine we_mod ?_
      refine wv_of ?_
      refine we_callTy call_int1 G.mint (by decide +kernel) ?_
      refine wa_cons ?_
      refine wv_of ?_
      refine we_add ?_
      refine wv_of ?_
      refine we_add ?_
      refine wv_of ?_
      refine we_add ?_
      refine wv_of ?_
      refine we_mul ?_
      first | refine wv_nameF 4 ?_ | refine wv_nameO 4 ?_
      refine wv_int ?_
      refine Is2.i ⟨by walk_at "mul", ?_⟩
      first | refine FzR.f ?_ | refine FzR.o ?_
      refine wv_of ?_
      refine we_mul ?_
      refine wv_int ?_
      first | refine wv_nameF 7 ?_ | refine wv_nameO 7 ?_
      refine Is2.i ⟨by walk_at "mul", ?_⟩
      first | refine FzR.f ?_ | refine FzR.o ?_
      refine Is2.i ?_
      first | refine FzR.f ?_ | refine FzR.o ?_
      refine wv_of ?_
      refine we_callTy call_int1 G.mint (by decide +kernel) ?_
      refine wa_cons ?_
      refine wv_of ?_
      refine we_lt ?_
      first | refine wv_nameF 6 ?_ | refine wv_nameO 6 ?_
      refine wv_int ?_
      refine Is2.i ?_
      first | refine FzR.f ?_ | refine FzR.o ?_
      refine wa_nil ?_
      first | refine cs_intI ?_ | refine cs_intB ?_
      first | refine FzR.f ?_ | refine FzR.o ?_
      refine Is2.i ?_
      first | refine FzR.f ?_ | refine FzR.o ?_
      first | refine wv_nameF 5 ?_ | refine wv_nameO 5 ?_
      refine Is2.i ?_
      first | refine FzR.f ?_ | refine FzR.o ?_
      refine wa_nil ?_
      first | refine cs_intI ?_ | refine cs_intB ?_
      first | refine FzR.f ?_ | refine FzR.o ?_
      refine wv_int ?_
      refine Is2.i ⟨by walk_at "mod", ?_⟩
      refine ⟨rfl, ?_⟩
      walk_at "norm"
      refine wss_cons (ws_for ?_)
      refine wi_range1 ?_ G.mrange
      first | refine wv_nameF 2 ?_ | refine wv_nameO 2 ?_
      refine Is.i ⟨by walk_at "rng", ?_⟩
      refine forS isW_range (fun t => [fz sc, fz cells, fz each, ow t.1, fz t.2, fz x, fz c, fz (if c < 0 then -c else c), .any]) (fun j t => (t.1.length : Int) ≤ i * 100 + j ∧ 0 ≤ t.2 ∧ t.2 < 2147483648) (s.1, (s.2 * 48271 + 2 * (if c < 0 then -c else c) + (if (decide (c < 0)) = true then (1 : Int) else 0) + x) % 2147483647) (by walk_at "ref") ?_ (fun j z t hz hj2 => ?_) (fun t hj2 => ?_) (fun _ _ r q => q.ref r)
      · refine ⟨by show (s.1.length : Int) ≤ _; omega, ?_, ?_⟩ <;> dsimp only <;> omega
      · have hz2 := rangeL_at hz
        refine wg_name 8 ?_ nd
        refine wss_cons (ws_set 4 ?_ nd)
        refine we_mod ?_
        refine wv_of ?_
        refine we_callTy call_int1 G.mint (by decide +kernel) ?_
        refine wa_cons ?_
        refine wv_of ?_
        refine we_add ?_
        refine wv_of ?_
        refine we_add ?_
        refine wv_of ?_
        refine we_mul ?_
        first | refine wv_nameF 4 ?_ | refine wv_nameO 4 ?_
        refine wv_int ?_
        refine Is2.i ⟨by walk_at "mul", ?_⟩
        first | refine FzR.f ?_ | refine FzR.o ?_
        first | refine wv_nameF 8 ?_ | refine wv_nameO 8 ?_
        refine Is2.i ?_
        first | refine FzR.f ?_ | refine FzR.o ?_
        refine wv_int ?_
        refine Is2.i ?_
        first | refine FzR.f ?_ | refine FzR.o ?_
        refine wa_nil ?_
        first | refine cs_intI ?_ | refine cs_intB ?_
        first | refine FzR.f ?_ | refine FzR.o ?_
        refine wv_int ?_
        refine Is2.i ⟨by walk_at "mod", ?_⟩
        refine ⟨rfl, ?_⟩
        walk_at "norm"
        refine wss_cons (ws_expr ?_)
        refine we_append ?_
        first | refine wv_nameF 3 ?_ | refine wv_nameO 3 ?_
        refine ⟨(rqS rfl).ty, ?_⟩
        refine wa_cons ?_
        refine wv_of ?_
        refine we_mod ?_
        refine wv_of ?_
        refine we_callTy call_int1 G.mint (by decide +kernel) ?_
        refine wa_cons ?_
        refine wv_of ?_
        refine we_div ?_
        first | refine wv_nameF 4 ?_ | refine wv_nameO 4 ?_
        refine wv_int ?_
        refine Is2.i ⟨by walk_at "div", ?_⟩
        first | refine FzR.f ?_ | refine FzR.o ?_
        refine wa_nil ?_
        first | refine cs_intI ?_ | refine cs_intB ?_
        first | refine FzR.f ?_ | refine FzR.o ?_
        refine wv_int ?_
        refine Is2.i ⟨by walk_at "mod", ?_⟩
        first | refine FzR.f ?_ | refine FzR.o ?_
        refine wa_nil ?_
        refine ms_append rfl (by walk_at "app") ?_
        exact wss_nil ⟨(t.1 ++ [_], _), (by walk_at "ref"), by refine ⟨by simp; omega, ?_, ?_⟩ <;> dsimp only <;> omega⟩
      exact wss_nil (wss_nil ⟨t, (by walk_at "ref"), by have := rangeL_len (lo := 0) (n := each.toNat); (try dsimp only); omega⟩)
      skip
    skip
    skip
  skip
  walk_at "norm"
  refine wss_cons (ws_expr ?_)
  refine we_reverse ?_
  first | refine wv_nameF 3 ?_ | refine wv_nameO 3 ?_
  refine ⟨(rqS rfl).ty, ?_⟩
  refine ms_reverse rfl ?_
  walk_at "norm"
  refine wss_cons (ws_ret ?_)
  first | refine we_nameF 3 ?_ | refine we_nameM 3 ?_
  exact ⟨_, .fz (.fz (.fz .nil)), hK _⟩

abbrev s_law_take : Stmt := topS 22
theorem sc_law_take : FnScope ["deck", "many"] ["deck", "many"] (defScope s_law_take) := ⟨rfl, rfl, rfl, by decide +kernel, rfl, by decide +kernel, by decide +kernel⟩
abbrev T_law_take : Tf := takeT
theorem ok_law_take (G : Gs K mg) (Hr : Here K mg "_law_take" s_law_take ["deck", "many"]) : Callee P w K mg base "_law_take" 1 ["deck", "many"] T_law_take := by
  refine callee_of Hr sc_law_take _ ?_
  intro cdv A outer s H E fa args vs Kt hr hl hvl ⟨ds, many, ea, pre, hK⟩
  subst ea
  obtain ⟨v0, v1, ev⟩ : ∃ v0 v1, vs = [v0, v1] := by match vs, hvl with | [v0, v1], _ => exact ⟨v0, v1, rfl⟩
  subst ev
  show WSs _ [ow ds (some v0), fz many] _ _
  have nd := sc_law_take.nd
  refine wss_cons (ws_if ?_)
  refine wt_eq hr ?_
  refine wv_of ?_
  refine we_len ?_ G.mlen
  first | refine wv_nameF 0 ?_ | refine wv_nameO 0 ?_
  apply exP
  · first | exact rqV.len | exact (rqS rfl).len | exact rqR.len | exact rdTp.len
  first | refine FzR.f ?_ | refine FzR.o ?_
  refine wv_int ?_
  first | refine EqS.vv (by walk_at "ok") (by walk_at "ok") ?_ | refine EqS.sv rfl (by walk_at "ok") (by walk_at "ok") ?_ | refine EqS.vs rfl (by walk_at "ok") (by walk_at "ok") ?_
  refine Br.b (fun h => ?_) (fun h => ?_)
  · skip
    refine wss_cons (ws_ret ?_)
    refine we_int ?_
    exact ⟨_, .ow (.fz .nil), hK 0 ds (Int.le_refl _) pre⟩
  refine wss_nil ?_
  walk_at "norm"
  refine wss_cons (ws_ret ?_)
  refine we_mod ?_
  refine wv_of ?_
  refine we_callTy call_int1 G.mint (by decide +kernel) ?_
  refine wa_cons ?_
  refine wv_of ?_
  refine we_pop ?_
  first | refine wv_nameF 0 ?_ | refine wv_nameO 0 ?_
  refine ⟨(rqS rfl).ty, ?_⟩
  apply ms_pop rfl
  · exact last_of (by have hne := of_decide_eq_false h; omega)
  first | refine FzR.f ?_ | refine FzR.o ?_
  refine wa_nil ?_
  first | refine cs_intI ?_ | refine cs_intB ?_
  first | refine FzR.f ?_ | refine FzR.o ?_
  first | refine wv_nameF 1 ?_ | refine wv_nameO 1 ?_
  refine Is2.i ⟨by walk_at "mod", ?_⟩
  exact ⟨_, .ow (.fz .nil), hK _ _ (Int.emod_nonneg _ (by omega)) (Int.emod_lt_of_pos _ pre)⟩

abbrev s_law_signed : Stmt := topS 23
theorem sc_law_signed : FnScope ["deck", "most"] ["deck", "most"] (defScope s_law_signed) := ⟨rfl, rfl, rfl, by decide +kernel, rfl, by decide +kernel, by decide +kernel⟩
abbrev T_law_signed : Tf := signedT
theorem ok_law_signed (G : Gs K mg) (Hr : Here K mg "_law_signed" s_law_signed ["deck", "most"]) (Claw_take : Callee P w K mg base "_law_take" 1 ["deck", "many"] T_law_take) : Callee P w K mg base "_law_signed" 2 ["deck", "most"] T_law_signed := by
  refine callee_of Hr sc_law_signed _ ?_
  intro cdv A outer s H E fa args vs Kt hr hl hvl ⟨ds, most, ea, pre, hK⟩
  subst ea
  obtain ⟨v0, v1, ev⟩ : ∃ v0 v1, vs = [v0, v1] := by match vs, hvl with | [v0, v1], _ => exact ⟨v0, v1, rfl⟩
  subst ev
  show WSs _ [ow ds (some v0), fz most] _ _
  have nd := sc_law_signed.nd
  refine wss_cons (ws_ret ?_)
  refine we_sub ?_
  refine wv_of ?_
  refine we_callC Claw_take hr ?_
  refine wa_cons ?_
  first | refine wv_nameF 0 ?_ | refine wv_nameO 0 ?_
  refine wa_cons ?_
  refine wv_of ?_
  refine we_add ?_
  refine wv_of ?_
  refine we_mul ?_
  refine wv_int ?_
  first | refine wv_nameF 1 ?_ | refine wv_nameO 1 ?_
  refine Is2.i ⟨by walk_at "mul", ?_⟩
  first | refine FzR.f ?_ | refine FzR.o ?_
  refine wv_int ?_
  refine Is2.i ?_
  first | refine FzR.f ?_ | refine FzR.o ?_
  refine wa_nil ?_
  apply lendP [some v0, none]
  · walk_at "lend"
  · rfl
  refine ⟨_, _, rfl, (by walk_at "pre"), fun x1 d1 lo1 hi1 => ?_⟩
  first | refine FzR.f ?_ | refine FzR.o ?_
  first | refine wv_nameF 1 ?_ | refine wv_nameO 1 ?_
  refine Is2.i ?_
  exact ⟨_, .ow (.fz .nil), hK _ _ (by omega) (by omega)⟩

abbrev s_law_leap : Stmt := topS 24
theorem sc_law_leap : FnScope ["year"] ["year"] (defScope s_law_leap) := ⟨rfl, rfl, rfl, by decide +kernel, rfl, by decide +kernel, by decide +kernel⟩
abbrev T_law_leap : Tf := det1 (fun _ : Int => True) leapB
theorem ok_law_leap (G : Gs K mg) (Hr : Here K mg "_law_leap" s_law_leap ["year"]) : Callee P w K mg base "_law_leap" 1 ["year"] T_law_leap := by
  refine callee_of Hr sc_law_leap _ ?_
  intro cdv A outer s H E fa args vs Kt hr hl hvl ⟨y, ea, pre, hK⟩
  subst ea
  obtain ⟨v0, ev⟩ : ∃ v0, vs = [v0] := by match vs, hvl with | [v0], _ => exact ⟨v0, rfl⟩
  subst ev
  show WSs _ [fz y] _ _
  have nd := sc_law_leap.nd
  refine wss_cons (ws_ret ?_)
  refine we_andP ?_
  refine wv_of ?_
  refine we_eq hr ?_
  refine wv_of ?_
  refine we_mod ?_
  first | refine wv_nameF 0 ?_ | refine wv_nameO 0 ?_
  refine wv_int ?_
  refine Is2.i ⟨by walk_at "mod", ?_⟩
  first | refine FzR.f ?_ | refine FzR.o ?_
  refine wv_int ?_
  first | refine EqS.vv (by walk_at "ok") (by walk_at "ok") ?_ | refine EqS.sv rfl (by walk_at "ok") (by walk_at "ok") ?_ | refine EqS.vs rfl (by walk_at "ok") (by walk_at "ok") ?_
  first | refine FzR.f ?_ | refine FzR.o ?_
  refine Is.i ?_
  apply exP
  · intro h
    refine we_one ?_
    refine we_orP ?_
    refine wv_of ?_
    refine we_ne hr ?_
    refine wv_of ?_
    refine we_mod ?_
    first | refine wv_nameF 0 ?_ | refine wv_nameO 0 ?_
    refine wv_int ?_
    refine Is2.i ⟨by walk_at "mod", ?_⟩
    first | refine FzR.f ?_ | refine FzR.o ?_
    refine wv_int ?_
    first | refine EqS.vv (by walk_at "ok") (by walk_at "ok") ?_ | refine EqS.sv rfl (by walk_at "ok") (by walk_at "ok") ?_ | refine EqS.vs rfl (by walk_at "ok") (by walk_at "ok") ?_
    first | refine FzR.f ?_ | refine FzR.o ?_
    refine Is.i ?_
    apply exP
    · intro h
      refine we_one ?_
      refine we_eq hr ?_
      refine wv_of ?_
      refine we_mod ?_
      first | refine wv_nameF 0 ?_ | refine wv_nameO 0 ?_
      refine wv_int ?_
      refine Is2.i ⟨by walk_at "mod", ?_⟩
      first | refine FzR.f ?_ | refine FzR.o ?_
      refine wv_int ?_
      first | refine EqS.vv (by walk_at "ok") (by walk_at "ok") ?_ | refine EqS.sv rfl (by walk_at "ok") (by walk_at "ok") ?_ | refine EqS.vs rfl (by walk_at "ok") (by walk_at "ok") ?_
      exact ⟨rfl, rfl⟩
    exact ⟨rfl, rfl⟩
  exact ⟨_, (.fz .nil), hK⟩

abbrev s_law_month : Stmt := topS 25
theorem sc_law_month : FnScope ["year", "month"] ["year", "month"] (defScope s_law_month) := ⟨rfl, rfl, rfl, by decide +kernel, rfl, by decide +kernel, by decide +kernel⟩
abbrev T_law_month : Tf := det2 (fun _ m : Int => 1 ≤ m ∧ m ≤ 12) mlen
theorem ok_law_month (G : Gs K mg) (Hr : Here K mg "_law_month" s_law_month ["year", "month"]) (Claw_leap : Callee P w K mg base "_law_leap" 1 ["year"] T_law_leap) : Callee P w K mg base "_law_month" 2 ["year", "month"] T_law_month := by
  refine callee_of Hr sc_law_month _ ?_
  intro cdv A outer s H E fa args vs Kt hr hl hvl ⟨y, m, ea, pre, hK⟩
  subst ea
  obtain ⟨v0, v1, ev⟩ : ∃ v0 v1, vs = [v0, v1] := by match vs, hvl with | [v0, v1], _ => exact ⟨v0, v1, rfl⟩
  subst ev
  show WSs _ [fz y, fz m] _ _
  have nd := sc_law_month.nd
  refine wss_cons (ws_ret ?_)
  refine we_ixL ?_
  refine wv_of ?_
  refine we_lst ?_
  refine wa_cons ?_
  refine wv_int ?_
  refine wa_cons ?_
  refine wv_of ?_
  refine we_ifP ?_
  refine wt_val ?_
  refine wv_of ?_
  refine we_callC Claw_leap hr ?_
  refine wa_cons ?_
  first | refine wv_nameF 0 ?_ | refine wv_nameO 0 ?_
  refine wa_nil ?_
  apply lendP [none]
  · walk_at "lend"
  · rfl
  refine ⟨_, rfl, (by walk_at "pre"), ?_⟩
  first | refine FzR.f ?_ | refine FzR.o ?_
  refine Is.i ?_
  apply exIf
  · intro h
    refine we_int ?_
    exact ⟨rfl, rfl⟩
  · intro h
    refine we_int ?_
    exact ⟨rfl, rfl⟩
  first | refine FzR.f ?_ | refine FzR.o ?_
  refine wa_cons ?_
  refine wv_int ?_
  refine wa_cons ?_
  refine wv_int ?_
  refine wa_cons ?_
  refine wv_int ?_
  refine wa_cons ?_
  refine wv_int ?_
  refine wa_cons ?_
  refine wv_int ?_
  refine wa_cons ?_
  refine wv_int ?_
  refine wa_cons ?_
  refine wv_int ?_
  refine wa_cons ?_
  refine wv_int ?_
  refine wa_cons ?_
  refine wv_int ?_
  refine wa_cons ?_
  refine wv_int ?_
  refine wa_nil ?_
  refine ⟨_, inferInstance, [_, _, _, _, _, _, _, _, _, _, _, _], rfl, (by exact of_decide_eq_true rfl), ?_⟩
  first | refine FzR.f ?_ | refine FzR.o ?_
  refine wv_of ?_
  refine we_sub ?_
  first | refine wv_nameF 1 ?_ | refine wv_nameO 1 ?_
  refine wv_int ?_
  refine Is2.i ?_
  first | refine FzR.f ?_ | refine FzR.o ?_
  refine Is.i ?_
  apply ixE
  · first | exact rqV | exact rqS (by rfl) | exact rqR
  · exact mlens_at pre
  exact ⟨_, .fz (.fz .nil), hK⟩

abbrev s_law_day : Stmt := topS 26
theorem sc_law_day : FnScope ["year", "month", "day", "before", "total", "other"] ["year", "month", "day"] (defScope s_law_day) := ⟨rfl, rfl, rfl, by decide +kernel, rfl, by decide +kernel, by decide +kernel⟩
abbrev T_law_day : Tf := det3 (fun _ m _ : Int => 1 ≤ m ∧ m ≤ 12) dayOf
theorem ok_law_day (G : Gs K mg) (Hr : Here K mg "_law_day" s_law_day ["year", "month", "day"]) (Claw_month : Callee P w K mg base "_law_month" 2 ["year", "month"] T_law_month) : Callee P w K mg base "_law_day" 3 ["year", "month", "day"] T_law_day := by
  refine callee_of Hr sc_law_day _ ?_
  intro cdv A outer s H E fa args vs Kt hr hl hvl ⟨y, m, d, ea, pre, hK⟩
  subst ea
  obtain ⟨v0, v1, v2, ev⟩ : ∃ v0 v1 v2, vs = [v0, v1, v2] := by match vs, hvl with | [v0, v1, v2], _ => exact ⟨v0, v1, v2, rfl⟩
  subst ev
  show WSs _ [fz y, fz m, fz d, .any, .any, .any] _ _
  have nd := sc_law_day.nd
  have pre1 : 1 ≤ m ∧ m ≤ 12 := pre
  refine wss_cons (ws_set 3 ?_ nd)
  refine we_sub ?_
  first | refine wv_nameF 0 ?_ | refine wv_nameO 0 ?_
  refine wv_int ?_
  refine Is2.i ?_
  refine ⟨rfl, ?_⟩
  walk_at "norm"
  refine wss_cons (ws_set 4 ?_ nd)
  refine we_add ?_
  refine wv_of ?_
  refine we_sub ?_
  refine wv_of ?_
  refine we_add ?_
  refine wv_of ?_
  refine we_mul ?_
  refine wv_int ?_
  first | refine wv_nameF 3 ?_ | refine wv_nameO 3 ?_
  refine Is2.i ⟨by walk_at "mul", ?_⟩
  first | refine FzR.f ?_ | refine FzR.o ?_
  refine wv_of ?_
  refine we_div ?_
  first | refine wv_nameF 3 ?_ | refine wv_nameO 3 ?_
  refine wv_int ?_
  refine Is2.i ⟨by walk_at "div", ?_⟩
  first | refine FzR.f ?_ | refine FzR.o ?_
  refine Is2.i ?_
  first | refine FzR.f ?_ | refine FzR.o ?_
  refine wv_of ?_
  refine we_div ?_
  first | refine wv_nameF 3 ?_ | refine wv_nameO 3 ?_
  refine wv_int ?_
  refine Is2.i ⟨by walk_at "div", ?_⟩
  first | refine FzR.f ?_ | refine FzR.o ?_
  refine Is2.i ?_
  first | refine FzR.f ?_ | refine FzR.o ?_
  refine wv_of ?_
  refine we_div ?_
  first | refine wv_nameF 3 ?_ | refine wv_nameO 3 ?_
  refine wv_int ?_
  refine Is2.i ⟨by walk_at "div", ?_⟩
  first | refine FzR.f ?_ | refine FzR.o ?_
  refine Is2.i ?_
  refine ⟨rfl, ?_⟩
  walk_at "norm"
  refine wss_cons (ws_set 4 ?_ nd)
  refine we_sub ?_
  refine wv_of ?_
  refine we_add ?_
  refine wv_of ?_
  refine we_add ?_
  first | refine wv_nameF 4 ?_ | refine wv_nameO 4 ?_
  refine wv_of ?_
  refine we_callB (cr_sum rfl) G.msum (by decide +kernel) ?_
  refine wa_cons ?_
  refine wv_of ?_
  refine we_lc [("other", 5)] ?_ nd (blkOk_by (by rfl))
  refine wi_range2 ?_ G.mrange
  refine wv_int ?_
  first | refine wv_nameF 1 ?_ | refine wv_nameO 1 ?_
  refine Is2.i ⟨by walk_at "rng", ?_⟩
  apply lcMapE
  · exact isW_range
  · walk_at "sz"
  · intro x hx _ _ _ _ _
    have hx2 := mem_rangeL.mp hx
    refine wg_name 5 ?_ nd
    intro _ _ _ _ _
    refine we_callC Claw_month hr ?_
    refine wa_cons ?_
    first | refine wv_nameF 0 ?_ | refine wv_nameO 0 ?_
    refine wa_cons ?_
    first | refine wv_nameF 5 ?_ | refine wv_nameO 5 ?_
    refine wa_nil ?_
    apply lendP [none, none]
    · walk_at "lend"
    · rfl
    refine ⟨_, _, rfl, (by walk_at "pre"), ?_⟩
    first | exact FzR.f ⟨rfl, rfl⟩ | exact FzR.o ⟨rfl, rfl⟩
  first | refine FzR.f ?_ | refine FzR.o ?_
  refine wa_nil ?_
  refine cs_sum (by first | exact rqV | exact rqS) ?_
  first | refine FzR.f ?_ | refine FzR.o ?_
  refine Is2.i ?_
  first | refine FzR.f ?_ | refine FzR.o ?_
  first | refine wv_nameF 2 ?_ | refine wv_nameO 2 ?_
  refine Is2.i ?_
  first | refine FzR.f ?_ | refine FzR.o ?_
  refine wv_int ?_
  refine Is2.i ?_
  refine ⟨rfl, ?_⟩
  walk_at "norm"
  refine wss_cons (ws_ret ?_)
  refine we_sub ?_
  first | refine wv_nameF 4 ?_ | refine wv_nameO 4 ?_
  refine wv_int ?_
  refine Is2.i ?_
  exact ⟨_, .fz (.fz (.fz .nil)), conv (lawday_of pre) hK⟩

abbrev s_law_easter : Stmt := topS 28
theorem sc_law_easter : FnScope ["year", "a", "b", "c", "d", "e", "f"] ["year"] (defScope s_law_easter) := ⟨rfl, rfl, rfl, by decide +kernel, rfl, by decide +kernel, by decide +kernel⟩
abbrev T_law_easter : Tf := det1 (fun _ : Int => True) easterF
theorem ok_law_easter (G : Gs K mg) (Hr : Here K mg "_law_easter" s_law_easter ["year"]) (Claw_day : Callee P w K mg base "_law_day" 3 ["year", "month", "day"] T_law_day) : Callee P w K mg base "_law_easter" 4 ["year"] T_law_easter := by
  refine callee_of Hr sc_law_easter _ ?_
  intro cdv A outer s H E fa args vs Kt hr hl hvl ⟨y, ea, pre, hK⟩
  subst ea
  obtain ⟨v0, ev⟩ : ∃ v0, vs = [v0] := by match vs, hvl with | [v0], _ => exact ⟨v0, rfl⟩
  subst ev
  show WSs _ [fz y, .any, .any, .any, .any, .any, .any] _ _
  have nd := sc_law_easter.nd
  have pre1 := easter_m (y := y)
  refine wss_cons (ws_par3 1 2 3 ?_ nd)
  refine we_mod ?_
  first | refine wv_nameF 0 ?_ | refine wv_nameO 0 ?_
  refine wv_int ?_
  refine Is2.i ⟨by walk_at "mod", ?_⟩
  refine we_div ?_
  first | refine wv_nameF 0 ?_ | refine wv_nameO 0 ?_
  refine wv_int ?_
  refine Is2.i ⟨by walk_at "div", ?_⟩
  refine we_mod ?_
  first | refine wv_nameF 0 ?_ | refine wv_nameO 0 ?_
  refine wv_int ?_
  refine Is2.i ⟨by walk_at "mod", ?_⟩
  refine ⟨rfl, ?_⟩
  walk_at "norm"
  refine wss_cons (ws_set 4 ?_ nd)
  refine we_mod ?_
  refine wv_of ?_
  refine we_add ?_
  refine wv_of ?_
  refine we_sub ?_
  refine wv_of ?_
  refine we_sub ?_
  refine wv_of ?_
  refine we_add ?_
  refine wv_of ?_
  refine we_mul ?_
  refine wv_int ?_
  first | refine wv_nameF 1 ?_ | refine wv_nameO 1 ?_
  refine Is2.i ⟨by walk_at "mul", ?_⟩
  first | refine FzR.f ?_ | refine FzR.o ?_
  first | refine wv_nameF 2 ?_ | refine wv_nameO 2 ?_
  refine Is2.i ?_
  first | refine FzR.f ?_ | refine FzR.o ?_
  refine wv_of ?_
  refine we_div ?_
  first | refine wv_nameF 2 ?_ | refine wv_nameO 2 ?_
  refine wv_int ?_
  refine Is2.i ⟨by walk_at "div", ?_⟩
  first | refine FzR.f ?_ | refine FzR.o ?_
  refine Is2.i ?_
  first | refine FzR.f ?_ | refine FzR.o ?_
  refine wv_of ?_
  refine we_div ?_
  refine wv_of ?_
  refine we_add ?_
  refine wv_of ?_
  refine we_sub ?_
  first | refine wv_nameF 2 ?_ | refine wv_nameO 2 ?_
  refine wv_of ?_
  refine we_div ?_
  refine wv_of ?_
  refine we_add ?_
  first | refine wv_nameF 2 ?_ | refine wv_nameO 2 ?_
  refine wv_int ?_
  refine Is2.i ?_
  first | refine FzR.f ?_ | refine FzR.o ?_
  refine wv_int ?_
  refine Is2.i ⟨by walk_at "div", ?_⟩
  first | refine FzR.f ?_ | refine FzR.o ?_
  refine Is2.i ?_
  first | refine FzR.f ?_ | refine FzR.o ?_
  refine wv_int ?_
  refine Is2.i ?_
  first | refine FzR.f ?_ | refine FzR.o ?_
  refine wv_int ?_
  refine Is2.i ⟨by walk_at "div", ?_⟩
  first | refine FzR.f ?_ | refine FzR.o ?_
  refine Is2.i ?_
  first | refine FzR.f ?_ | refine FzR.o ?_
  refine wv_int ?_
  refine Is2.i ?_
  first | refine FzR.f ?_ | refine FzR.o ?_
  refine wv_int ?_
  refine Is2.i ⟨by walk_at "mod", ?_⟩
  refine ⟨rfl, ?_⟩
  walk_at "norm"
  refine wss_cons (ws_set 5 ?_ nd)
  refine we_mod ?_
  refine wv_of ?_
  refine we_sub ?_
  refine wv_of ?_
  refine we_sub ?_
  refine wv_of ?_
  refine we_add ?_
  refine wv_of ?_
  refine we_add ?_
  refine wv_int ?_
  refine wv_of ?_
  refine we_mul ?_
  refine wv_int ?_
  refine wv_of ?_
  refine we_mod ?_
  first | refine wv_nameF 2 ?_ | refine wv_nameO 2 ?_
  refine wv_int ?_
  refine Is2.i ⟨by walk_at "mod", ?_⟩
  first | refine FzR.f ?_ | refine FzR.o ?_
  refine Is2.i ⟨by walk_at "mul", ?_⟩
  first | refine FzR.f ?_ | refine FzR.o ?_
  refine Is2.i ?_
  first | refine FzR.f ?_ | refine FzR.o ?_
  refine wv_of ?_
  refine we_mul ?_
  refine wv_int ?_
  refine wv_of ?_
  refine we_div ?_
  first | refine wv_nameF 3 ?_ | refine wv_nameO 3 ?_
  refine wv_int ?_
  refine Is2.i ⟨by walk_at "div", ?_⟩
  first | refine FzR.f ?_ | refine FzR.o ?_
  refine Is2.i ⟨by walk_at "mul", ?_⟩
  first | refine FzR.f ?_ | refine FzR.o ?_
  refine Is2.i ?_
  first | refine FzR.f ?_ | refine FzR.o ?_
  first | refine wv_nameF 4 ?_ | refine wv_nameO 4 ?_
  refine Is2.i ?_
  first | refine FzR.f ?_ | refine FzR.o ?_
  refine wv_of ?_
  refine we_mod ?_
  first | refine wv_nameF 3 ?_ | refine wv_nameO 3 ?_
  refine wv_int ?_
  refine Is2.i ⟨by walk_at "mod", ?_⟩
  first | refine FzR.f ?_ | refine FzR.o ?_
  refine Is2.i ?_
  first | refine FzR.f ?_ | refine FzR.o ?_
  refine wv_int ?_
  refine Is2.i ⟨by walk_at "mod", ?_⟩
  refine ⟨rfl, ?_⟩
  walk_at "norm"
  refine wss_cons (ws_set 6 ?_ nd)
  refine we_add ?_
  refine wv_of ?_
  refine we_sub ?_
  refine wv_of ?_
  refine we_add ?_
  first | refine wv_nameF 4 ?_ | refine wv_nameO 4 ?_
  first | refine wv_nameF 5 ?_ | refine wv_nameO 5 ?_
  refine Is2.i ?_
  first | refine FzR.f ?_ | refine FzR.o ?_
  refine wv_of ?_
  refine we_mul ?_
  refine wv_int ?_
  refine wv_of ?_
  refine we_div ?_
  refine wv_of ?_
  refine we_add ?_
  refine wv_of ?_
  refine we_add ?_
  first | refine wv_nameF 1 ?_ | refine wv_nameO 1 ?_
  refine wv_of ?_
  refine we_mul ?_
  refine wv_int ?_
  first | refine wv_nameF 4 ?_ | refine wv_nameO 4 ?_
  refine Is2.i ⟨by walk_at "mul", ?_⟩
  first | refine FzR.f ?_ | refine FzR.o ?_
  refine Is2.i ?_
  first | refine FzR.f ?_ | refine FzR.o ?_
  refine wv_of ?_
  refine we_mul ?_
  refine wv_int ?_
  first | refine wv_nameF 5 ?_ | refine wv_nameO 5 ?_
  refine Is2.i ⟨by walk_at "mul", ?_⟩
  first | refine FzR.f ?_ | refine FzR.o ?_
  refine Is2.i ?_
  first | refine FzR.f ?_ | refine FzR.o ?_
  refine wv_int ?_
  refine Is2.i ⟨by walk_at "div", ?_⟩
  first | refine FzR.f ?_ | refine FzR.o ?_
  refine Is2.i ⟨by walk_at "mul", ?_⟩
  first | refine FzR.f ?_ | refine FzR.o ?_
  refine Is2.i ?_
  first | refine FzR.f ?_ | refine FzR.o ?_
  refine wv_int ?_
  refine Is2.i ?_
  refine ⟨rfl, ?_⟩
  walk_at "norm"
  refine wss_cons (ws_ret ?_)
  refine we_callC Claw_day hr ?_
  refine wa_cons ?_
  first | refine wv_nameF 0 ?_ | refine wv_nameO 0 ?_
  refine wa_cons ?_
  refine wv_of ?_
  refine we_div ?_
  first | refine wv_nameF 6 ?_ | refine wv_nameO 6 ?_
  refine wv_int ?_
  refine Is2.i ⟨by walk_at "div", ?_⟩
  first | refine FzR.f ?_ | refine FzR.o ?_
  refine wa_cons ?_
  refine wv_of ?_
  refine we_add ?_
  refine wv_of ?_
  refine we_mod ?_
  first | refine wv_nameF 6 ?_ | refine wv_nameO 6 ?_
  refine wv_int ?_
  refine Is2.i ⟨by walk_at "mod", ?_⟩
  first | refine FzR.f ?_ | refine FzR.o ?_
  refine wv_int ?_
  refine Is2.i ?_
  first | refine FzR.f ?_ | refine FzR.o ?_
  refine wa_nil ?_
  apply lendP [none, none, none]
  · walk_at "lend"
  · rfl
  refine ⟨_, _, _, rfl, (by walk_at "pre"), ?_⟩
  exact ⟨_, (.fz .nil), hK⟩

abbrev T_law_wrong_date : Tf := det3 wrongD (fun _ _ _ => ("date" : Str))

abbrev s_law : Stmt := topS 29
theorem sc_law : FnScope ["script", "deck", "turn", "year", "month", "day", "told", "thursday", "of_year", "number", "months", "total", "there", "due", "which", "lot", "one", "k"] ["script"] (defScope s_law) := ⟨rfl, rfl, rfl, by decide +kernel, rfl, by decide +kernel, by decide +kernel⟩
abbrev T_law : Tf := lawT
theorem ok_law (G : Gs K mg) (Hr : Here K mg "law" s_law ["script"]) (Cis_leap : Callee P w K mg base "is_leap" 1 ["year"] T_is_leap) (Cmonth_length : Callee P w K mg base "month_length" 2 ["year", "month"] T_month_length) (Cday_of : Callee P w K mg base "day_of" 3 ["year", "month", "day"] T_day_of) (Cdate_of : Callee P w K mg base "date_of" 3 ["day"] T_date_of) (Cweekday : Callee P w K mg base "weekday" 1 ["day"] T_weekday) (Cweek_of : Callee P w K mg base "week_of" 4 ["day"] T_week_of) (Cmoved_months : Callee P w K mg base "moved_months" 4 ["day", "months"] T_moved_months) (Cweekday_in_month : Callee P w K mg base "weekday_in_month" 4 ["year", "month", "which", "number"] T_weekday_in_month) (Ceaster : Callee P w K mg base "easter" 4 ["year"] T_easter) (Claw_deck : Callee P w K mg base "_law_deck" 1 ["script", "cells", "each"] T_law_deck) (Claw_take : Callee P w K mg base "_law_take" 1 ["deck", "many"] T_law_take) (Claw_signed : Callee P w K mg base "_law_signed" 2 ["deck", "most"] T_law_signed) (Claw_leap : Callee P w K mg base "_law_leap" 1 ["year"] T_law_leap) (Claw_month : Callee P w K mg base "_law_month" 2 ["year", "month"] T_law_month) (Claw_day : Callee P w K mg base "_law_day" 3 ["year", "month", "day"] T_law_day) (Claw_easter : Callee P w K mg base "_law_easter" 4 ["year"] T_law_easter) (Claw_wrong_date : Callee P w K mg base "_law_wrong_date" 6 ["year", "month", "day"] T_law_wrong_date) : Callee P w K mg base "law" 7 ["script"] T_law := by
  refine callee_of Hr sc_law _ ?_
  intro cdv A outer s H E fa args vs Kt hr hl hvl ⟨sc, ea, pre, hK⟩
  subst ea
  obtain ⟨v0, ev⟩ : ∃ v0, vs = [v0] := by match vs, hvl with | [v0], _ => exact ⟨v0, rfl⟩
  subst ev
  show WSs _ [fz sc, .any, .any, .any, .any, .any, .any, .any, .any, .any, .any, .any, .any, .any, .any, .any, .any, .any] _ _
  have nd := sc_law.nd
  refine wss_cons (ws_set 1 ?_ nd)
  refine we_callC Claw_deck hr ?_
  refine wa_cons ?_
  first | refine wv_nameF 0 ?_ | refine wv_nameO 0 ?_
  refine wa_cons ?_
  refine wv_int ?_
  refine wa_cons ?_
  refine wv_int ?_
  refine wa_nil ?_
  apply lendP [none, none, none]
  · walk_at "lend"
  · rfl
  refine ⟨_, _, _, rfl, (by walk_at "pre"), (by walk_at "pre"), (by walk_at "pre"), fun d1 => ?_⟩
  refine ⟨rfl, ?_⟩
  walk_at "norm"
  refine wss_cons (ws_for ?_)
  refine wi_range1 ?_ G.mrange
  refine wv_int ?_
  refine Is.i ⟨by walk_at "rng", ?_⟩
  refine forS isW_range (fun ds => [fz sc, ow ds, .any, .any, .any, .any, .any, .any, .any, .any, .any, .any, .any, .any, .any, .any, .any, .any]) (fun i ds => True) d1 (by walk_at "ref") ?_ (fun i x ds hx hi => ?_) (fun ds hi => ?_) (fun _ _ r q => q.ref r)
  · trivial
  · skip
    refine wg_name 2 ?_ nd
    refine wss_cons (ws_par2 3 4 ?_ nd)
    refine we_add ?_
    refine wv_int ?_
    refine wv_of ?_
    refine we_callC Claw_take hr ?_
    refine wa_cons ?_
    first | refine wv_nameF 1 ?_ | refine wv_nameO 1 ?_
    refine wa_cons ?_
    refine wv_int ?_
    refine wa_nil ?_
    apply lendP [none, none]
    · walk_at "lend"
    · rfl
    refine ⟨_, _, rfl, (by walk_at "pre"), fun x2 d2 lo2 hi2 => ?_⟩
    first | refine FzR.f ?_ | refine FzR.o ?_
    refine Is2.i ?_
    refine we_add ?_
    refine wv_int ?_
    refine wv_of ?_
    refine we_callC Claw_take hr ?_
    refine wa_cons ?_
    first | refine wv_nameF 1 ?_ | refine wv_nameO 1 ?_
    refine wa_cons ?_
    refine wv_int ?_
    refine wa_nil ?_
    apply lendP [none, none]
    · walk_at "lend"
    · rfl
    refine ⟨_, _, rfl, (by walk_at "pre"), fun x3 d3 lo3 hi3 => ?_⟩
    first | refine FzR.f ?_ | refine FzR.o ?_
    refine Is2.i ?_
    refine ⟨rfl, ?_⟩
    walk_at "norm"
    refine wss_cut (Mid := fun e => ∃ (y m : Int) (dd : List Int), Ref e ([fz sc, ow dd, .any, fz y, fz m, .any, .any, .any, .any, .any, .any, .any, .any, .any, .any, .any, .any, .any]) ∧ ((1 ≤ y ∧ y ≤ 9999) ∧ (1 ≤ m ∧ m ≤ 12))) (ws_if ?_) (fun e1 ⟨y, m, dd, r, hj⟩ => WSs.ref (env' := [fz sc, ow dd, .any, fz y, fz m, .any, .any, .any, .any, .any, .any, .any, .any, .any, .any, .any, .any, .any]) ?_ r)
    refine wt_eq hr ?_
    refine wv_of ?_
    refine we_callC Claw_take hr ?_
    refine wa_cons ?_
    first | refine wv_nameF 1 ?_ | refine wv_nameO 1 ?_
    refine wa_cons ?_
    refine wv_int ?_
    refine wa_nil ?_
    apply lendP [none, none]
    · walk_at "lend"
    · rfl
    refine ⟨_, _, rfl, (by walk_at "pre"), fun x4 d4 lo4 hi4 => ?_⟩
    first | refine FzR.f ?_ | refine FzR.o ?_
    refine wv_int ?_
    first | refine EqS.vv (by walk_at "ok") (by walk_at "ok") ?_ | refine EqS.sv rfl (by walk_at "ok") (by walk_at "ok") ?_ | refine EqS.vs rfl (by walk_at "ok") (by walk_at "ok") ?_
    refine Br.b (fun h => ?_) (fun h => ?_)
    · skip
      refine wss_cons (ws_set 3 ?_ nd)
      refine we_add ?_
      refine wv_int ?_
      refine wv_of ?_
      refine we_callC Claw_take hr ?_
      refine wa_cons ?_
      first | refine wv_nameF 1 ?_ | refine wv_nameO 1 ?_
      refine wa_cons ?_
      refine wv_int ?_
      refine wa_nil ?_
      apply lendP [none, none]
      · walk_at "lend"
      · rfl
      refine ⟨_, _, rfl, (by walk_at "pre"), fun x5 d5 lo5 hi5 => ?_⟩
      first | refine FzR.f ?_ | refine FzR.o ?_
      refine Is2.i ?_
      refine ⟨rfl, ?_⟩
      exact wss_nil ⟨_, _, _, (by walk_at "ref"), by omega⟩
    · skip
      exact wss_nil ⟨_, _, _, (by walk_at "ref"), by omega⟩
    have hm0 : 0 < mlen y m := mlen_pos; have hm31 : mlen y m ≤ 31 := mlen_le.2
    walk_at "norm"
    refine wss_cons (ws_set 5 ?_ nd)
    refine we_add ?_
    refine wv_int ?_
    refine wv_of ?_
    refine we_callC Claw_take hr ?_
    refine wa_cons ?_
    first | refine wv_nameF 1 ?_ | refine wv_nameO 1 ?_
    refine wa_cons ?_
    refine wv_of ?_
    refine we_callC Claw_month hr ?_
    refine wa_cons ?_
    first | refine wv_nameF 3 ?_ | refine wv_nameO 3 ?_
    refine wa_cons ?_
    first | refine wv_nameF 4 ?_ | refine wv_nameO 4 ?_
    refine wa_nil ?_
    apply lendP [none, none]
    · walk_at "lend"
    · rfl
    refine ⟨_, _, rfl, (by walk_at "pre"), ?_⟩
    first | refine FzR.f ?_ | refine FzR.o ?_
    refine wa_nil ?_
    apply lendP [none, none]
    · walk_at "lend"
    · rfl
    refine ⟨_, _, rfl, (by walk_at "pre"), fun x6 d6 lo6 hi6 => ?_⟩
    first | refine FzR.f ?_ | refine FzR.o ?_
    refine Is2.i ?_
    refine ⟨rfl, ?_⟩
    walk_at "norm"
    have hv : validD y m (1 + x6) := ⟨hj.1, hj.2, by omega⟩; have ho : okDay (dayOf y m (1 + x6)) := ok_valid hv; have hw1 := wrong1 hj.1 hj.2; have hw2 := wrong2 hj.1; have hw3 := wrong3 hj.1 hj.2
    refine wss_cons (ws_set 6 ?_ nd)
    refine we_callC Cday_of hr ?_
    refine wa_cons ?_
    first | refine wv_nameF 3 ?_ | refine wv_nameO 3 ?_
    refine wa_cons ?_
    first | refine wv_nameF 4 ?_ | refine wv_nameO 4 ?_
    refine wa_cons ?_
    first | refine wv_nameF 5 ?_ | refine wv_nameO 5 ?_
    refine wa_nil ?_
    apply lendP [none, none, none]
    · walk_at "lend"
    · rfl
    refine ⟨_, _, _, rfl, (by walk_at "pre"), ?_⟩
    refine ⟨rfl, ?_⟩
    walk_at "norm"
    refine wss_cons (ws_if ?_)
    refine WTw.wt ?_
    refine wtw_orF ?_
    refine wt_ne hr ?_
    first | refine wv_nameF 6 ?_ | refine wv_nameO 6 ?_
    refine wv_of ?_
    refine we_callC Claw_day hr ?_
    refine wa_cons ?_
    first | refine wv_nameF 3 ?_ | refine wv_nameO 3 ?_
    refine wa_cons ?_
    first | refine wv_nameF 4 ?_ | refine wv_nameO 4 ?_
    refine wa_cons ?_
    first | refine wv_nameF 5 ?_ | refine wv_nameO 5 ?_
    refine wa_nil ?_
    apply lendP [none, none, none]
    · walk_at "lend"
    · rfl
    refine ⟨_, _, _, rfl, (by walk_at "pre"), ?_⟩
    first | refine FzR.f ?_ | refine FzR.o ?_
    first | refine EqS.vv (by walk_at "ok") (by walk_at "ok") ?_ | refine EqS.sv rfl (by walk_at "ok") (by walk_at "ok") ?_ | refine EqS.vs rfl (by walk_at "ok") (by walk_at "ok") ?_
    refine ⟨by simp, ?_⟩
    refine wtw_orF ?_
    refine wt_ne hr ?_
    refine wv_of ?_
    refine we_callC Cdate_of hr ?_
    refine wa_cons ?_
    first | refine wv_nameF 6 ?_ | refine wv_nameO 6 ?_
    refine wa_nil ?_
    apply lendP [none]
    · walk_at "lend"
    · rfl
    refine ⟨_, rfl, (by walk_at "pre"), ?_⟩
    first | refine FzR.f ?_ | refine FzR.o ?_
    refine wv_of ?_
    refine we_t3 ?_
    refine wa_cons ?_
    first | refine wv_nameF 3 ?_ | refine wv_nameO 3 ?_
    refine wa_cons ?_
    first | refine wv_nameF 4 ?_ | refine wv_nameO 4 ?_
    refine wa_cons ?_
    first | refine wv_nameF 5 ?_ | refine wv_nameO 5 ?_
    refine wa_nil ?_
    refine ⟨_, _, _, inferInstance, inferInstance, inferInstance, _, _, _, rfl, ?_⟩
    first | refine FzR.f ?_ | refine FzR.o ?_
    first | refine EqS.vv (by walk_at "ok") (by walk_at "ok") ?_ | refine EqS.sv rfl (by walk_at "ok") (by walk_at "ok") ?_ | refine EqS.vs rfl (by walk_at "ok") (by walk_at "ok") ?_
    refine ⟨by (rw [dateF_eq hv]; simp), ?_⟩
    refine wtw_orF ?_
    refine wt_ne hr ?_
    refine wv_of ?_
    refine we_callC Cis_leap hr ?_
    refine wa_cons ?_
    first | refine wv_nameF 3 ?_ | refine wv_nameO 3 ?_
    refine wa_nil ?_
    apply lendP [none]
    · walk_at "lend"
    · rfl
    refine ⟨_, rfl, (by walk_at "pre"), ?_⟩
    first | refine FzR.f ?_ | refine FzR.o ?_
    refine wv_of ?_
    refine we_callC Claw_leap hr ?_
    refine wa_cons ?_
    first | refine wv_nameF 3 ?_ | refine wv_nameO 3 ?_
    refine wa_nil ?_
    apply lendP [none]
    · walk_at "lend"
    · rfl
    refine ⟨_, rfl, (by walk_at "pre"), ?_⟩
    first | refine FzR.f ?_ | refine FzR.o ?_
    first | refine EqS.vv (by walk_at "ok") (by walk_at "ok") ?_ | refine EqS.sv rfl (by walk_at "ok") (by walk_at "ok") ?_ | refine EqS.vs rfl (by walk_at "ok") (by walk_at "ok") ?_
    refine ⟨by simp, ?_⟩
    refine wtw_or1F ?_
    refine wt_ne hr ?_
    refine wv_of ?_
    refine we_callC Cmonth_length hr ?_
    refine wa_cons ?_
    first | refine wv_nameF 3 ?_ | refine wv_nameO 3 ?_
    refine wa_cons ?_
    first | refine wv_nameF 4 ?_ | refine wv_nameO 4 ?_
    refine wa_nil ?_
    apply lendP [none, none]
    · walk_at "lend"
    · rfl
    refine ⟨_, _, rfl, (by walk_at "pre"), ?_⟩
    first | refine FzR.f ?_ | refine FzR.o ?_
    refine wv_of ?_
    refine we_callC Claw_month hr ?_
    refine wa_cons ?_
    first | refine wv_nameF 3 ?_ | refine wv_nameO 3 ?_
    refine wa_cons ?_
    first | refine wv_nameF 4 ?_ | refine wv_nameO 4 ?_
    refine wa_nil ?_
    apply lendP [none, none]
    · walk_at "lend"
    · rfl
    refine ⟨_, _, rfl, (by walk_at "pre"), ?_⟩
    first | refine FzR.f ?_ | refine FzR.o ?_
    first | refine EqS.vv (by walk_at "ok") (by walk_at "ok") ?_ | refine EqS.sv rfl (by walk_at "ok") (by walk_at "ok") ?_ | refine EqS.vs rfl (by walk_at "ok") (by walk_at "ok") ?_
    refine ⟨by simp, ?_⟩
    refine Br.f (wss_nil ?_)
    walk_at "norm"
    refine wss_cons (ws_if ?_)
    refine WTw.wt ?_
    refine wtw_orF ?_
    refine wt_ne hr ?_
    refine wv_of ?_
    refine we_callC Cweekday hr ?_
    refine wa_cons ?_
    first | refine wv_nameF 6 ?_ | refine wv_nameO 6 ?_
    refine wa_nil ?_
    apply lendP [none]
    · walk_at "lend"
    · rfl
    refine ⟨_, rfl, (by walk_at "pre"), ?_⟩
    first | refine FzR.f ?_ | refine FzR.o ?_
    refine wv_of ?_
    refine we_mod ?_
    first | refine wv_nameF 6 ?_ | refine wv_nameO 6 ?_
    refine wv_int ?_
    refine Is2.i ⟨by walk_at "mod", ?_⟩
    first | refine FzR.f ?_ | refine FzR.o ?_
    first | refine EqS.vv (by walk_at "ok") (by walk_at "ok") ?_ | refine EqS.sv rfl (by walk_at "ok") (by walk_at "ok") ?_ | refine EqS.vs rfl (by walk_at "ok") (by walk_at "ok") ?_
    refine ⟨by simp, ?_⟩
    refine wtw_orF ?_
    refine wt_ne hr ?_
    refine wv_of ?_
    refine we_callC Cweekday hr ?_
    refine wa_cons ?_
    refine wv_of ?_
    refine we_add ?_
    first | refine wv_nameF 6 ?_ | refine wv_nameO 6 ?_
    refine wv_int ?_
    refine Is2.i ?_
    first | refine FzR.f ?_ | refine FzR.o ?_
    refine wa_nil ?_
    apply lendP [none]
    · walk_at "lend"
    · rfl
    refine ⟨_, rfl, (by walk_at "pre"), ?_⟩
    first | refine FzR.f ?_ | refine FzR.o ?_
    refine wv_of ?_
    refine we_callC Cweekday hr ?_
    refine wa_cons ?_
    first | refine wv_nameF 6 ?_ | refine wv_nameO 6 ?_
    refine wa_nil ?_
    apply lendP [none]
    · walk_at "lend"
    · rfl
    refine ⟨_, rfl, (by walk_at "pre"), ?_⟩
    first | refine FzR.f ?_ | refine FzR.o ?_
    first | refine EqS.vv (by walk_at "ok") (by walk_at "ok") ?_ | refine EqS.sv rfl (by walk_at "ok") (by walk_at "ok") ?_ | refine EqS.vs rfl (by walk_at "ok") (by walk_at "ok") ?_
    refine ⟨by simp, ?_⟩
    refine wtw_or1F ?_
    refine wt_ne hr ?_
    refine wv_of ?_
    refine we_callC Cweekday hr ?_
    refine wa_cons ?_
    refine wv_of ?_
    refine we_add ?_
    first | refine wv_nameF 6 ?_ | refine wv_nameO 6 ?_
    refine wv_int ?_
    refine Is2.i ?_
    first | refine FzR.f ?_ | refine FzR.o ?_
    refine wa_nil ?_
    apply lendP [none]
    · walk_at "lend"
    · rfl
    refine ⟨_, rfl, (by walk_at "pre"), ?_⟩
    first | refine FzR.f ?_ | refine FzR.o ?_
    refine wv_of ?_
    refine we_mod ?_
    refine wv_of ?_
    refine we_add ?_
    refine wv_of ?_
    refine we_callC Cweekday hr ?_
    refine wa_cons ?_
    first | refine wv_nameF 6 ?_ | refine wv_nameO 6 ?_
    refine wa_nil ?_
    apply lendP [none]
    · walk_at "lend"
    · rfl
    refine ⟨_, rfl, (by walk_at "pre"), ?_⟩
    first | refine FzR.f ?_ | refine FzR.o ?_
    refine wv_int ?_
    refine Is2.i ?_
    first | refine FzR.f ?_ | refine FzR.o ?_
    refine wv_int ?_
    refine Is2.i ⟨by walk_at "mod", ?_⟩
    first | refine FzR.f ?_ | refine FzR.o ?_
    first | refine EqS.vv (by walk_at "ok") (by walk_at "ok") ?_ | refine EqS.sv rfl (by walk_at "ok") (by walk_at "ok") ?_ | refine EqS.vs rfl (by walk_at "ok") (by walk_at "ok") ?_
    refine ⟨by simp, ?_⟩
    refine Br.f (wss_nil ?_)
    walk_at "norm"
    refine wss_cons (ws_if ?_)
    refine WTw.wt ?_
    refine wtw_orF ?_
    refine wt_ne hr ?_
    refine wv_of ?_
    refine we_callC Claw_wrong_date hr ?_
    refine wa_cons ?_
    first | refine wv_nameF 3 ?_ | refine wv_nameO 3 ?_
    refine wa_cons ?_
    first | refine wv_nameF 4 ?_ | refine wv_nameO 4 ?_
    refine wa_cons ?_
    refine wv_of ?_
    refine we_add ?_
    refine wv_of ?_
    refine we_callC Claw_month hr ?_
    refine wa_cons ?_
    first | refine wv_nameF 3 ?_ | refine wv_nameO 3 ?_
    refine wa_cons ?_
    first | refine wv_nameF 4 ?_ | refine wv_nameO 4 ?_
    refine wa_nil ?_
    apply lendP [none, none]
    · walk_at "lend"
    · rfl
    refine ⟨_, _, rfl, (by walk_at "pre"), ?_⟩
    first | refine FzR.f ?_ | refine FzR.o ?_
    refine wv_int ?_
    refine Is2.i ?_
    first | refine FzR.f ?_ | refine FzR.o ?_
    refine wa_nil ?_
    apply lendP [none, none, none]
    · walk_at "lend"
    · rfl
    refine ⟨_, _, _, rfl, (by walk_at "pre"), ?_⟩
    first | refine FzR.f ?_ | refine FzR.o ?_
    refine wv_str ?_
    first | refine EqS.vv (by walk_at "ok") (by walk_at "ok") ?_ | refine EqS.sv rfl (by walk_at "ok") (by walk_at "ok") ?_ | refine EqS.vs rfl (by walk_at "ok") (by walk_at "ok") ?_
    refine ⟨by simp, ?_⟩
    refine wtw_orF ?_
    refine wt_ne hr ?_
    refine wv_of ?_
    refine we_callC Claw_wrong_date hr ?_
    refine wa_cons ?_
    first | refine wv_nameF 3 ?_ | refine wv_nameO 3 ?_
    refine wa_cons ?_
    refine wv_int ?_
    refine wa_cons ?_
    refine wv_int ?_
    refine wa_nil ?_
    apply lendP [none, none, none]
    · walk_at "lend"
    · rfl
    refine ⟨_, _, _, rfl, (by walk_at "pre"), ?_⟩
    first | refine FzR.f ?_ | refine FzR.o ?_
    refine wv_str ?_
    first | refine EqS.vv (by walk_at "ok") (by walk_at "ok") ?_ | refine EqS.sv rfl (by walk_at "ok") (by walk_at "ok") ?_ | refine EqS.vs rfl (by walk_at "ok") (by walk_at "ok") ?_
    refine ⟨by simp, ?_⟩
    refine wtw_or1F ?_
    refine wt_ne hr ?_
    refine wv_of ?_
    refine we_callC Claw_wrong_date hr ?_
    refine wa_cons ?_
    first | refine wv_nameF 3 ?_ | refine wv_nameO 3 ?_
    refine wa_cons ?_
    first | refine wv_nameF 4 ?_ | refine wv_nameO 4 ?_
    refine wa_cons ?_
    refine wv_int ?_
    refine wa_nil ?_
    apply lendP [none, none, none]
    · walk_at "lend"
    · rfl
    refine ⟨_, _, _, rfl, (by walk_at "pre"), ?_⟩
    first | refine FzR.f ?_ | refine FzR.o ?_
    refine wv_str ?_
    first | refine EqS.vv (by walk_at "ok") (by walk_at "ok") ?_ | refine EqS.sv rfl (by walk_at "ok") (by walk_at "ok") ?_ | refine EqS.vs rfl (by walk_at "ok") (by walk_at "ok") ?_
    refine ⟨by simp, ?_⟩
    refine Br.f (wss_nil ?_)
    walk_at "norm"
    refine wss_cut (Mid := fun e => ∃ de : List Int, Ref e ([fz sc, ow de, .any, fz y, .any, .any, .any, .any, .any, .any, .any, .any, .any, .any, .any, .any, .any, .any]) ∧ (True)) (ws_if ?_) (fun e1 ⟨de, r, hj9⟩ => WSs.ref (env' := [fz sc, ow de, .any, fz y, .any, .any, .any, .any, .any, .any, .any, .any, .any, .any, .any, .any, .any, .any]) ?_ r)
    refine wt_chainP op_lt op_lt ?_
    refine wv_int ?_
    first | refine wv_nameF 3 ?_ | refine wv_nameO 3 ?_
    refine Is2.i ?_
    apply exP
    · intro h
      refine wv_int ?_
      exact Is.i ⟨rfl, rfl⟩
    refine Br.b (fun h => ?_) (fun h => ?_)
    · skip
      have hy : 3 < y ∧ y < 9990 := by simpa using h
      refine wss_cons (ws_set 7 ?_ nd)
      refine we_add ?_
      refine wv_of ?_
      refine we_sub ?_
      first | refine wv_nameF 6 ?_ | refine wv_nameO 6 ?_
      refine wv_of ?_
      refine we_callC Cweekday hr ?_
      refine wa_cons ?_
      first | refine wv_nameF 6 ?_ | refine wv_nameO 6 ?_
      refine wa_nil ?_
      apply lendP [none]
      · walk_at "lend"
      · rfl
      refine ⟨_, rfl, (by walk_at "pre"), ?_⟩
      first | refine FzR.f ?_ | refine FzR.o ?_
      refine Is2.i ?_
      first | refine FzR.f ?_ | refine FzR.o ?_
      refine wv_int ?_
      refine Is2.i ?_
      refine ⟨rfl, ?_⟩
      walk_at "norm"
      obtain ⟨wk1, wk2, wk3, wk4, wk5⟩ := weeks_ok hv hy
      refine wss_cons (ws_set 8 ?_ nd)
      refine we_ixT ?_
      refine wv_of ?_
      refine we_callC Cdate_of hr ?_
      refine wa_cons ?_
      first | refine wv_nameF 7 ?_ | refine wv_nameO 7 ?_
      refine wa_nil ?_
      apply lendP [none]
      · walk_at "lend"
      · rfl
      refine ⟨_, rfl, (by walk_at "pre"), ?_⟩
      first | refine FzR.f ?_ | refine FzR.o ?_
      refine wv_int ?_
      refine Is.i ?_
      apply ixE
      · first | exact rdTp | exact rdT3 | exact rdP
      · rfl
      refine ⟨rfl, ?_⟩
      walk_at "norm"
      skip
      refine wss_cons (ws_set 9 ?_ nd)
      refine we_add ?_
      refine wv_of ?_
      refine we_div ?_
      refine wv_of ?_
      refine we_sub ?_
      first | refine wv_nameF 7 ?_ | refine wv_nameO 7 ?_
      refine wv_of ?_
      refine we_callC Claw_day hr ?_
      refine wa_cons ?_
      first | refine wv_nameF 8 ?_ | refine wv_nameO 8 ?_
      refine wa_cons ?_
      refine wv_int ?_
      refine wa_cons ?_
      refine wv_int ?_
      refine wa_nil ?_
      apply lendP [none, none, none]
      · walk_at "lend"
      · rfl
      refine ⟨_, _, _, rfl, (by walk_at "pre"), ?_⟩
      first | refine FzR.f ?_ | refine FzR.o ?_
      refine Is2.i ?_
      first | refine FzR.f ?_ | refine FzR.o ?_
      refine wv_int ?_
      refine Is2.i ⟨by walk_at "div", ?_⟩
      first | refine FzR.f ?_ | refine FzR.o ?_
      refine wv_int ?_
      refine Is2.i ?_
      refine ⟨rfl, ?_⟩
      walk_at "norm"
      refine wss_cons (ws_if ?_)
      refine WTw.wt ?_
      refine wtw_orF ?_
      refine wt_ne hr ?_
      refine wv_of ?_
      refine we_callC Cweek_of hr ?_
      refine wa_cons ?_
      first | refine wv_nameF 6 ?_ | refine wv_nameO 6 ?_
      refine wa_nil ?_
      apply lendP [none]
      · walk_at "lend"
      · rfl
      refine ⟨_, rfl, (by walk_at "pre"), ?_⟩
      first | refine FzR.f ?_ | refine FzR.o ?_
      refine wv_of ?_
      refine we_pair ?_
      refine wa_cons ?_
      first | refine wv_nameF 8 ?_ | refine wv_nameO 8 ?_
      refine wa_cons ?_
      first | refine wv_nameF 9 ?_ | refine wv_nameO 9 ?_
      refine wa_nil ?_
      refine ⟨_, _, inferInstance, inferInstance, _, _, rfl, ?_⟩
      first | refine FzR.f ?_ | refine FzR.o ?_
      first | refine EqS.vv (by walk_at "ok") (by walk_at "ok") ?_ | refine EqS.sv rfl (by walk_at "ok") (by walk_at "ok") ?_ | refine EqS.vs rfl (by walk_at "ok") (by walk_at "ok") ?_
      refine ⟨by (simp; exact week_same rfl), ?_⟩
      refine wtw_orF ?_
      refine wt_ne hr ?_
      refine wv_of ?_
      refine we_callC Cweek_of hr ?_
      refine wa_cons ?_
      refine wv_of ?_
      refine we_sub ?_
      first | refine wv_nameF 6 ?_ | refine wv_nameO 6 ?_
      refine wv_of ?_
      refine we_callC Cweekday hr ?_
      refine wa_cons ?_
      first | refine wv_nameF 6 ?_ | refine wv_nameO 6 ?_
      refine wa_nil ?_
      apply lendP [none]
      · walk_at "lend"
      · rfl
      refine ⟨_, rfl, (by walk_at "pre"), ?_⟩
      first | refine FzR.f ?_ | refine FzR.o ?_
      refine Is2.i ?_
      first | refine FzR.f ?_ | refine FzR.o ?_
      refine wa_nil ?_
      apply lendP [none]
      · walk_at "lend"
      · rfl
      refine ⟨_, rfl, (by walk_at "pre"), ?_⟩
      first | refine FzR.f ?_ | refine FzR.o ?_
      refine wv_of ?_
      refine we_pair ?_
      refine wa_cons ?_
      first | refine wv_nameF 8 ?_ | refine wv_nameO 8 ?_
      refine wa_cons ?_
      first | refine wv_nameF 9 ?_ | refine wv_nameO 9 ?_
      refine wa_nil ?_
      refine ⟨_, _, inferInstance, inferInstance, _, _, rfl, ?_⟩
      first | refine FzR.f ?_ | refine FzR.o ?_
      first | refine EqS.vv (by walk_at "ok") (by walk_at "ok") ?_ | refine EqS.sv rfl (by walk_at "ok") (by walk_at "ok") ?_ | refine EqS.vs rfl (by walk_at "ok") (by walk_at "ok") ?_
      refine ⟨by (simp; exact week_same (by omega)), ?_⟩
      refine wtw_or1F ?_
      refine wt_ne hr ?_
      refine wv_of ?_
      refine we_callC Cweek_of hr ?_
      refine wa_cons ?_
      refine wv_of ?_
      refine we_add ?_
      refine wv_of ?_
      refine we_sub ?_
      first | refine wv_nameF 6 ?_ | refine wv_nameO 6 ?_
      refine wv_of ?_
      refine we_callC Cweekday hr ?_
      refine wa_cons ?_
      first | refine wv_nameF 6 ?_ | refine wv_nameO 6 ?_
      refine wa_nil ?_
      apply lendP [none]
      · walk_at "lend"
      · rfl
      refine ⟨_, rfl, (by walk_at "pre"), ?_⟩
      first | refine FzR.f ?_ | refine FzR.o ?_
      refine Is2.i ?_
      first | refine FzR.f ?_ | refine FzR.o ?_
      refine wv_int ?_
      refine Is2.i ?_
      first | refine FzR.f ?_ | refine FzR.o ?_
      refine wa_nil ?_
      apply lendP [none]
      · walk_at "lend"
      · rfl
      refine ⟨_, rfl, (by walk_at "pre"), ?_⟩
      first | refine FzR.f ?_ | refine FzR.o ?_
      refine wv_of ?_
      refine we_pair ?_
      refine wa_cons ?_
      first | refine wv_nameF 8 ?_ | refine wv_nameO 8 ?_
      refine wa_cons ?_
      first | refine wv_nameF 9 ?_ | refine wv_nameO 9 ?_
      refine wa_nil ?_
      refine ⟨_, _, inferInstance, inferInstance, _, _, rfl, ?_⟩
      first | refine FzR.f ?_ | refine FzR.o ?_
      first | refine EqS.vv (by walk_at "ok") (by walk_at "ok") ?_ | refine EqS.sv rfl (by walk_at "ok") (by walk_at "ok") ?_ | refine EqS.vs rfl (by walk_at "ok") (by walk_at "ok") ?_
      refine ⟨by (simp; exact week_same (by omega)), ?_⟩
      refine Br.f (wss_nil ?_)
      walk_at "norm"
      refine wss_cons (ws_if ?_)
      refine WTw.wt ?_
      refine wtw_orF ?_
      refine wt_eq hr ?_
      refine wv_of ?_
      refine we_callC Cweek_of hr ?_
      refine wa_cons ?_
      refine wv_of ?_
      refine we_add ?_
      first | refine wv_nameF 6 ?_ | refine wv_nameO 6 ?_
      refine wv_int ?_
      refine Is2.i ?_
      first | refine FzR.f ?_ | refine FzR.o ?_
      refine wa_nil ?_
      apply lendP [none]
      · walk_at "lend"
      · rfl
      refine ⟨_, rfl, (by walk_at "pre"), ?_⟩
      first | refine FzR.f ?_ | refine FzR.o ?_
      refine wv_of ?_
      refine we_callC Cweek_of hr ?_
      refine wa_cons ?_
      first | refine wv_nameF 6 ?_ | refine wv_nameO 6 ?_
      refine wa_nil ?_
      apply lendP [none]
      · walk_at "lend"
      · rfl
      refine ⟨_, rfl, (by walk_at "pre"), ?_⟩
      first | refine FzR.f ?_ | refine FzR.o ?_
      first | refine EqS.vv (by walk_at "ok") (by walk_at "ok") ?_ | refine EqS.sv rfl (by walk_at "ok") (by walk_at "ok") ?_ | refine EqS.vs rfl (by walk_at "ok") (by walk_at "ok") ?_
      refine ⟨by (simp; exact week_next), ?_⟩
      refine wtw_or1F ?_
      refine wt_not ?_
      refine wt_chainP op_le op_le ?_
      refine wv_int ?_
      first | refine wv_nameF 9 ?_ | refine wv_nameO 9 ?_
      refine Is2.i ?_
      apply exP
      · intro h
        refine wv_int ?_
        exact Is.i ⟨rfl, rfl⟩
      refine ⟨by (simp; exact week_num wk1), ?_⟩
      refine Br.f (wss_nil ?_)
      walk_at "norm"
      refine wss_cons (ws_set 10 ?_ nd)
      refine we_callC Claw_signed hr ?_
      refine wa_cons ?_
      first | refine wv_nameF 1 ?_ | refine wv_nameO 1 ?_
      refine wa_cons ?_
      refine wv_int ?_
      refine wa_nil ?_
      apply lendP [none, none]
      · walk_at "lend"
      · rfl
      refine ⟨_, _, rfl, (by walk_at "pre"), fun x7 d7 lo7 hi7 => ?_⟩
      refine ⟨rfl, ?_⟩
      walk_at "norm"
      obtain ⟨mv1, mv2, mv3, mv4⟩ := moves_ok hv hy lo7 hi7
      refine wss_cons (ws_set 11 ?_ nd)
      refine we_add ?_
      refine wv_of ?_
      refine we_sub ?_
      refine wv_of ?_
      refine we_add ?_
      refine wv_of ?_
      refine we_mul ?_
      refine wv_int ?_
      first | refine wv_nameF 3 ?_ | refine wv_nameO 3 ?_
      refine Is2.i ⟨by walk_at "mul", ?_⟩
      first | refine FzR.f ?_ | refine FzR.o ?_
      first | refine wv_nameF 4 ?_ | refine wv_nameO 4 ?_
      refine Is2.i ?_
      first | refine FzR.f ?_ | refine FzR.o ?_
      refine wv_int ?_
      refine Is2.i ?_
      first | refine FzR.f ?_ | refine FzR.o ?_
      first | refine wv_nameF 10 ?_ | refine wv_nameO 10 ?_
      refine Is2.i ?_
      refine ⟨rfl, ?_⟩
      walk_at "norm"
      refine wss_cons (ws_set 12 ?_ nd)
      refine we_pair ?_
      refine wa_cons ?_
      refine wv_of ?_
      refine we_div ?_
      first | refine wv_nameF 11 ?_ | refine wv_nameO 11 ?_
      refine wv_int ?_
      refine Is2.i ⟨by walk_at "div", ?_⟩
      first | refine FzR.f ?_ | refine FzR.o ?_
      refine wa_cons ?_
      refine wv_of ?_
      refine we_add ?_
      refine wv_of ?_
      refine we_mod ?_
      first | refine wv_nameF 11 ?_ | refine wv_nameO 11 ?_
      refine wv_int ?_
      refine Is2.i ⟨by walk_at "mod", ?_⟩
      first | refine FzR.f ?_ | refine FzR.o ?_
      refine wv_int ?_
      refine Is2.i ?_
      first | refine FzR.f ?_ | refine FzR.o ?_
      refine wa_nil ?_
      refine ⟨_, _, inferInstance, inferInstance, _, _, rfl, ?_⟩
      refine ⟨rfl, ?_⟩
      walk_at "norm"
      refine wss_cons (ws_set 13 ?_ nd)
      refine we_callC Claw_day hr ?_
      refine wa_cons ?_
      refine wv_of ?_
      refine we_p0 ?_
      first | refine wv_nameF 12 ?_ | refine wv_nameO 12 ?_
      refine wv_int ?_
      refine ⟨_, _, inferInstance, inferInstance, _, rfl, rfl, ?_⟩
      first | refine FzR.f ?_ | refine FzR.o ?_
      refine wa_cons ?_
      refine wv_of ?_
      refine we_p1 ?_
      first | refine wv_nameF 12 ?_ | refine wv_nameO 12 ?_
      refine wv_int ?_
      refine ⟨_, _, inferInstance, inferInstance, _, rfl, rfl, ?_⟩
      first | refine FzR.f ?_ | refine FzR.o ?_
      refine wa_cons ?_
      refine wv_of ?_
      refine we_callB (call_min2 rfl) G.mmin (by decide +kernel) ?_
      refine wa_cons ?_
      first | refine wv_nameF 5 ?_ | refine wv_nameO 5 ?_
      refine wa_cons ?_
      refine wv_of ?_
      refine we_callC Claw_month hr ?_
      refine wa_cons ?_
      refine wv_of ?_
      refine we_p0 ?_
      first | refine wv_nameF 12 ?_ | refine wv_nameO 12 ?_
      refine wv_int ?_
      refine ⟨_, _, inferInstance, inferInstance, _, rfl, rfl, ?_⟩
      first | refine FzR.f ?_ | refine FzR.o ?_
      refine wa_cons ?_
      refine wv_of ?_
      refine we_p1 ?_
      first | refine wv_nameF 12 ?_ | refine wv_nameO 12 ?_
      refine wv_int ?_
      refine ⟨_, _, inferInstance, inferInstance, _, rfl, rfl, ?_⟩
      first | refine FzR.f ?_ | refine FzR.o ?_
      refine wa_nil ?_
      apply lendP [none, none]
      · walk_at "lend"
      · rfl
      refine ⟨_, _, rfl, (by walk_at "pre"), ?_⟩
      first | refine FzR.f ?_ | refine FzR.o ?_
      refine wa_nil ?_
      refine cs_min2 ?_
      first | refine FzR.f ?_ | refine FzR.o ?_
      refine wa_nil ?_
      apply lendP [none, none, none]
      · walk_at "lend"
      · rfl
      refine ⟨_, _, _, rfl, (by walk_at "pre"), ?_⟩
      refine ⟨rfl, ?_⟩
      walk_at "norm"
      refine wss_cons (ws_if ?_)
      refine WTw.wt ?_
      refine wtw_orF ?_
      refine wt_ne hr ?_
      refine wv_of ?_
      refine we_callC Cmoved_months hr ?_
      refine wa_cons ?_
      first | refine wv_nameF 6 ?_ | refine wv_nameO 6 ?_
      refine wa_cons ?_
      first | refine wv_nameF 10 ?_ | refine wv_nameO 10 ?_
      refine wa_nil ?_
      apply lendP [none, none]
      · walk_at "lend"
      · rfl
      refine ⟨_, _, rfl, (by walk_at "pre"), ?_⟩
      first | refine FzR.f ?_ | refine FzR.o ?_
      first | refine wv_nameF 13 ?_ | refine wv_nameO 13 ?_
      first | refine EqS.vv (by walk_at "ok") (by walk_at "ok") ?_ | refine EqS.sv rfl (by walk_at "ok") (by walk_at "ok") ?_ | refine EqS.vs rfl (by walk_at "ok") (by walk_at "ok") ?_
      refine ⟨by (simp; exact mv1.2), ?_⟩
      refine wtw_orF ?_
      refine wt_ne hr ?_
      refine wv_of ?_
      refine we_callC Cmoved_months hr ?_
      refine wa_cons ?_
      first | refine wv_nameF 6 ?_ | refine wv_nameO 6 ?_
      refine wa_cons ?_
      refine wv_int ?_
      refine wa_nil ?_
      apply lendP [none, none]
      · walk_at "lend"
      · rfl
      refine ⟨_, _, rfl, (by walk_at "pre"), ?_⟩
      first | refine FzR.f ?_ | refine FzR.o ?_
      first | refine wv_nameF 6 ?_ | refine wv_nameO 6 ?_
      first | refine EqS.vv (by walk_at "ok") (by walk_at "ok") ?_ | refine EqS.sv rfl (by walk_at "ok") (by walk_at "ok") ?_ | refine EqS.vs rfl (by walk_at "ok") (by walk_at "ok") ?_
      refine ⟨by (simp; exact mv2.2), ?_⟩
      refine wtw_or1F ?_
      refine WTw.wt ?_
      refine wtw_andP ?_
      refine wt_lt ?_
      first | refine wv_nameF 5 ?_ | refine wv_nameO 5 ?_
      refine wv_int ?_
      refine Is2.i ?_
      apply exP
      · intro h
        refine wtw_and1 ?_
        refine wt_ne hr ?_
        refine wv_of ?_
        refine we_callC Cmoved_months hr ?_
        refine wa_cons ?_
        first | refine wv_nameF 13 ?_ | refine wv_nameO 13 ?_
        refine wa_cons ?_
        refine wv_of ?_
        refine we_sub ?_
        refine wv_int ?_
        first | refine wv_nameF 10 ?_ | refine wv_nameO 10 ?_
        refine Is2.i ?_
        first | refine FzR.f ?_ | refine FzR.o ?_
        refine wa_nil ?_
        apply lendP [none, none]
        · walk_at "lend"
        · rfl
        refine ⟨_, _, rfl, (by walk_at "pre"), ?_⟩
        first | refine FzR.f ?_ | refine FzR.o ?_
        first | refine wv_nameF 6 ?_ | refine wv_nameO 6 ?_
        first | refine EqS.vv (by walk_at "ok") (by walk_at "ok") ?_ | refine EqS.sv rfl (by walk_at "ok") (by walk_at "ok") ?_ | refine EqS.vs rfl (by walk_at "ok") (by walk_at "ok") ?_
        exact ⟨rfl, rfl⟩
      refine ⟨by (simp; have q := mv4.2; rw [Int.zero_sub] at q; exact q), ?_⟩
      refine Br.f (wss_nil ?_)
      walk_at "norm"
      refine wss_cons (ws_set 14 ?_ nd)
      refine we_callC Claw_take hr ?_
      refine wa_cons ?_
      first | refine wv_nameF 1 ?_ | refine wv_nameO 1 ?_
      refine wa_cons ?_
      refine wv_int ?_
      refine wa_nil ?_
      apply lendP [none, none]
      · walk_at "lend"
      · rfl
      refine ⟨_, _, rfl, (by walk_at "pre"), fun x8 d8 lo8 hi8 => ?_⟩
      refine ⟨rfl, ?_⟩
      walk_at "norm"
      refine wss_cons (ws_setLc 15 [("one", 16)] ?_ nd (blkOk_by (by rfl)))
      refine wi_range2 ?_ G.mrange
      refine wv_of ?_
      refine we_callC Claw_day hr ?_
      refine wa_cons ?_
      first | refine wv_nameF 3 ?_ | refine wv_nameO 3 ?_
      refine wa_cons ?_
      first | refine wv_nameF 4 ?_ | refine wv_nameO 4 ?_
      refine wa_cons ?_
      refine wv_int ?_
      refine wa_nil ?_
      apply lendP [none, none, none]
      · walk_at "lend"
      · rfl
      refine ⟨_, _, _, rfl, (by walk_at "pre"), ?_⟩
      first | refine FzR.f ?_ | refine FzR.o ?_
      refine wv_of ?_
      refine we_add ?_
      refine wv_of ?_
      refine we_callC Claw_day hr ?_
      refine wa_cons ?_
      first | refine wv_nameF 3 ?_ | refine wv_nameO 3 ?_
      refine wa_cons ?_
      first | refine wv_nameF 4 ?_ | refine wv_nameO 4 ?_
      refine wa_cons ?_
      refine wv_int ?_
      refine wa_nil ?_
      apply lendP [none, none, none]
      · walk_at "lend"
      · rfl
      refine ⟨_, _, _, rfl, (by walk_at "pre"), ?_⟩
      first | refine FzR.f ?_ | refine FzR.o ?_
      refine wv_of ?_
      refine we_callC Claw_month hr ?_
      refine wa_cons ?_
      first | refine wv_nameF 3 ?_ | refine wv_nameO 3 ?_
      refine wa_cons ?_
      first | refine wv_nameF 4 ?_ | refine wv_nameO 4 ?_
      refine wa_nil ?_
      apply lendP [none, none]
      · walk_at "lend"
      · rfl
      refine ⟨_, _, rfl, (by walk_at "pre"), ?_⟩
      first | refine FzR.f ?_ | refine FzR.o ?_
      refine Is2.i ?_
      first | refine FzR.f ?_ | refine FzR.o ?_
      refine Is2.i ⟨by (have hf := ok_valid (valid_first hj.1 hj.2); have hf1 := hf.1; have hf2 := hf.2; omega), ?_⟩
      apply lcPureE
      · exact isW_range
      · walk_at "sz"
      · intro x hx _ _ _ _ _
        refine wg_name 16 ?_ nd
        intro _ _ _ _ _
        refine wts_one ?_
        refine wt_eq hr ?_
        refine wv_of ?_
        refine we_mod ?_
        first | refine wv_nameF 16 ?_ | refine wv_nameO 16 ?_
        refine wv_int ?_
        refine Is2.i ⟨by walk_at "mod", ?_⟩
        first | refine FzR.f ?_ | refine FzR.o ?_
        first | refine wv_nameF 14 ?_ | refine wv_nameO 14 ?_
        first | refine EqS.vv (by walk_at "ok") (by walk_at "ok") ?_ | refine EqS.sv rfl (by walk_at "ok") (by walk_at "ok") ?_ | refine EqS.vs rfl (by walk_at "ok") (by walk_at "ok") ?_
        refine ⟨rfl, fun h => ?_, fun h => rfl⟩
        intro _ _ _ _ _
        first | refine we_nameF 16 ?_ | refine we_nameZ 16 ?_
        first | exact FzR.f ⟨rfl, rfl⟩ | exact FzR.o ⟨rfl, rfl⟩
      refine ⟨by exact of_decide_eq_true rfl, ?_⟩
      walk_at "norm"
      refine wss_cons (ws_for ?_)
      refine wi_range1 ?_ G.mrange
      refine wv_of ?_
      refine we_len ?_ G.mlen
      first | refine wv_nameF 15 ?_ | refine wv_nameO 15 ?_
      apply exP
      · first | exact rqV.len | exact (rqS rfl).len | exact rqR.len | exact rdTp.len
      first | refine FzR.f ?_ | refine FzR.o ?_
      refine Is.i ⟨by exact lot_rng, ?_⟩
      refine forS isW_range (fun u => [fz sc, ow d8, .any, fz y, fz m, .any, .any, .any, .any, .any, .any, .any, .any, .any, fz x8, ow (lotF y m x8), .any, .any]) (fun i u => True) () (by walk_at "ref") ?_ (fun i x u hx hi => ?_) (fun u hi => ?_) (fun _ _ r q => q.ref r)
      · trivial
      · obtain ⟨hx1, hx2⟩ := rangeL_at hx; subst hx1; obtain ⟨q, wq0, wq1, wq2, wq3, wq4⟩ := wim_ok hj.1 hj.2 lo8 hi8 hx2
        refine wg_name 17 ?_ nd
        refine wss_cons (ws_if ?_)
        refine WTw.wt ?_
        refine wtw_orF ?_
        refine wt_ne hr ?_
        refine wv_of ?_
        refine we_callC Cweekday_in_month hr ?_
        refine wa_cons ?_
        first | refine wv_nameF 3 ?_ | refine wv_nameO 3 ?_
        refine wa_cons ?_
        first | refine wv_nameF 4 ?_ | refine wv_nameO 4 ?_
        refine wa_cons ?_
        first | refine wv_nameF 14 ?_ | refine wv_nameO 14 ?_
        refine wa_cons ?_
        refine wv_of ?_
        refine we_add ?_
        first | refine wv_nameF 17 ?_ | refine wv_nameO 17 ?_
        refine wv_int ?_
        refine Is2.i ?_
        first | refine FzR.f ?_ | refine FzR.o ?_
        refine wa_nil ?_
        apply lendP [none, none, none, none]
        · walk_at "lend"
        · rfl
        refine ⟨_, _, _, _, q, rfl, (by first | exact wq1 | exact wq2), (by first | exact wq3 | exact wq4), ?_⟩
        first | refine FzR.f ?_ | refine FzR.o ?_
        refine wv_of ?_
        refine we_ixL ?_
        first | refine wv_nameF 15 ?_ | refine wv_nameO 15 ?_
        first | refine wv_nameF 17 ?_ | refine wv_nameO 17 ?_
        refine Is.i ?_
        apply ixE
        · first | exact rqV | exact rqS (by rfl) | exact rqR
        · exact wq0
        first | refine FzR.f ?_ | refine FzR.o ?_
        first | refine EqS.vv (by walk_at "ok") (by walk_at "ok") ?_ | refine EqS.sv rfl (by walk_at "ok") (by walk_at "ok") ?_ | refine EqS.vs rfl (by walk_at "ok") (by walk_at "ok") ?_
        refine ⟨by simp, ?_⟩
        refine wtw_or1F ?_
        refine wt_ne hr ?_
        refine wv_of ?_
        refine we_callC Cweekday_in_month hr ?_
        refine wa_cons ?_
        first | refine wv_nameF 3 ?_ | refine wv_nameO 3 ?_
        refine wa_cons ?_
        first | refine wv_nameF 4 ?_ | refine wv_nameO 4 ?_
        refine wa_cons ?_
        first | refine wv_nameF 14 ?_ | refine wv_nameO 14 ?_
        refine wa_cons ?_
        refine wv_of ?_
        refine we_sub ?_
        first | refine wv_nameF 17 ?_ | refine wv_nameO 17 ?_
        refine wv_of ?_
        refine we_len ?_ G.mlen
        first | refine wv_nameF 15 ?_ | refine wv_nameO 15 ?_
        apply exP
        · first | exact rqV.len | exact (rqS rfl).len | exact rqR.len | exact rdTp.len
        first | refine FzR.f ?_ | refine FzR.o ?_
        refine Is2.i ?_
        first | refine FzR.f ?_ | refine FzR.o ?_
        refine wa_nil ?_
        apply lendP [none, none, none, none]
        · walk_at "lend"
        · rfl
        refine ⟨_, _, _, _, q, rfl, (by first | exact wq1 | exact wq2), (by first | exact wq3 | exact wq4), ?_⟩
        first | refine FzR.f ?_ | refine FzR.o ?_
        refine wv_of ?_
        refine we_ixL ?_
        first | refine wv_nameF 15 ?_ | refine wv_nameO 15 ?_
        first | refine wv_nameF 17 ?_ | refine wv_nameO 17 ?_
        refine Is.i ?_
        apply ixE
        · first | exact rqV | exact rqS (by rfl) | exact rqR
        · exact wq0
        first | refine FzR.f ?_ | refine FzR.o ?_
        first | refine EqS.vv (by walk_at "ok") (by walk_at "ok") ?_ | refine EqS.sv rfl (by walk_at "ok") (by walk_at "ok") ?_ | refine EqS.vs rfl (by walk_at "ok") (by walk_at "ok") ?_
        refine ⟨by simp, ?_⟩
        refine Br.f (wss_nil ?_)
        exact wss_nil ⟨(), (by walk_at "ref"), trivial⟩
      skip
      exact wss_nil ⟨_, (by walk_at "ref"), trivial⟩
    · skip
      exact wss_nil ⟨_, (by walk_at "ref"), trivial⟩
    skip
    walk_at "norm"
    refine wss_cons (ws_if ?_)
    refine WTw.wt ?_
    refine wtw_orF ?_
    refine wt_ne hr ?_
    refine wv_of ?_
    refine we_callC Ceaster hr ?_
    refine wa_cons ?_
    first | refine wv_nameF 3 ?_ | refine wv_nameO 3 ?_
    refine wa_nil ?_
    apply lendP [none]
    · walk_at "lend"
    · rfl
    refine ⟨_, rfl, (by walk_at "pre"), ?_⟩
    first | refine FzR.f ?_ | refine FzR.o ?_
    refine wv_of ?_
    refine we_callC Claw_easter hr ?_
    refine wa_cons ?_
    first | refine wv_nameF 3 ?_ | refine wv_nameO 3 ?_
    refine wa_nil ?_
    apply lendP [none]
    · walk_at "lend"
    · rfl
    refine ⟨_, rfl, (by walk_at "pre"), ?_⟩
    first | refine FzR.f ?_ | refine FzR.o ?_
    first | refine EqS.vv (by walk_at "ok") (by walk_at "ok") ?_ | refine EqS.sv rfl (by walk_at "ok") (by walk_at "ok") ?_ | refine EqS.vs rfl (by walk_at "ok") (by walk_at "ok") ?_
    refine ⟨by simp, ?_⟩
    refine wtw_or1F ?_
    refine wt_ne hr ?_
    refine wv_of ?_
    refine we_callC Cweekday hr ?_
    refine wa_cons ?_
    refine wv_of ?_
    refine we_callC Ceaster hr ?_
    refine wa_cons ?_
    first | refine wv_nameF 3 ?_ | refine wv_nameO 3 ?_
    refine wa_nil ?_
    apply lendP [none]
    · walk_at "lend"
    · rfl
    refine ⟨_, rfl, (by walk_at "pre"), ?_⟩
    first | refine FzR.f ?_ | refine FzR.o ?_
    refine wa_nil ?_
    apply lendP [none]
    · walk_at "lend"
    · rfl
    refine ⟨_, rfl, (by walk_at "pre"), ?_⟩
    first | refine FzR.f ?_ | refine FzR.o ?_
    refine wv_int ?_
    first | refine EqS.vv (by walk_at "ok") (by walk_at "ok") ?_ | refine EqS.sv rfl (by walk_at "ok") (by walk_at "ok") ?_ | refine EqS.vs rfl (by walk_at "ok") (by walk_at "ok") ?_
    refine ⟨by (simp; exact easter_sunday hj.1), ?_⟩
    refine Br.f (wss_nil ?_)
    exact wss_nil ⟨_, (by walk_at "ref"), trivial⟩
  skip
  walk_at "norm"
  refine wss_cons (ws_ret ?_)
  refine we_andP ?_
  refine wv_of ?_
  refine we_eq hr ?_
  refine wv_of ?_
  refine we_callC Cday_of hr ?_
  refine wa_cons ?_
  refine wv_int ?_
  refine wa_cons ?_
  refine wv_int ?_
  refine wa_cons ?_
  refine wv_int ?_
  refine wa_nil ?_
  apply lendP [none, none, none]
  · walk_at "lend"
  · rfl
  refine ⟨_, _, _, rfl, (by walk_at "pre"), ?_⟩
  first | refine FzR.f ?_ | refine FzR.o ?_
  refine wv_int ?_
  first | refine EqS.vv (by walk_at "ok") (by walk_at "ok") ?_ | refine EqS.sv rfl (by walk_at "ok") (by walk_at "ok") ?_ | refine EqS.vs rfl (by walk_at "ok") (by walk_at "ok") ?_
  first | refine FzR.f ?_ | refine FzR.o ?_
  refine Is.i ?_
  apply exP
  · intro h
    refine we_andP ?_
    refine wv_of ?_
    refine we_eq hr ?_
    refine wv_of ?_
    refine we_callC Cdate_of hr ?_
    refine wa_cons ?_
    refine wv_of ?_
    refine we_neg ?_
    refine wv_int ?_
    refine Is.i ?_
    first | refine FzR.f ?_ | refine FzR.o ?_
    refine wa_nil ?_
    apply lendP [none]
    · walk_at "lend"
    · rfl
    refine ⟨_, rfl, (by walk_at "pre"), ?_⟩
    first | refine FzR.f ?_ | refine FzR.o ?_
    refine wv_of ?_
    refine we_t3 ?_
    refine wa_cons ?_
    refine wv_int ?_
    refine wa_cons ?_
    refine wv_int ?_
    refine wa_cons ?_
    refine wv_int ?_
    refine wa_nil ?_
    refine ⟨_, _, _, inferInstance, inferInstance, inferInstance, _, _, _, rfl, ?_⟩
    first | refine FzR.f ?_ | refine FzR.o ?_
    first | refine EqS.vv (by walk_at "ok") (by walk_at "ok") ?_ | refine EqS.sv rfl (by walk_at "ok") (by walk_at "ok") ?_ | refine EqS.vs rfl (by walk_at "ok") (by walk_at "ok") ?_
    first | refine FzR.f ?_ | refine FzR.o ?_
    refine Is.i ?_
    apply exP
    · intro h
      refine we_andP ?_
      refine wv_of ?_
      refine we_eq hr ?_
      refine wv_of ?_
      refine we_callC Ceaster hr ?_
      refine wa_cons ?_
      refine wv_int ?_
      refine wa_nil ?_
      apply lendP [none]
      · walk_at "lend"
      · rfl
      refine ⟨_, rfl, (by walk_at "pre"), ?_⟩
      first | refine FzR.f ?_ | refine FzR.o ?_
      refine wv_of ?_
      refine we_callC Cday_of hr ?_
      refine wa_cons ?_
      refine wv_int ?_
      refine wa_cons ?_
      refine wv_int ?_
      refine wa_cons ?_
      refine wv_int ?_
      refine wa_nil ?_
      apply lendP [none, none, none]
      · walk_at "lend"
      · rfl
      refine ⟨_, _, _, rfl, (by walk_at "pre"), ?_⟩
      first | refine FzR.f ?_ | refine FzR.o ?_
      first | refine EqS.vv (by walk_at "ok") (by walk_at "ok") ?_ | refine EqS.sv rfl (by walk_at "ok") (by walk_at "ok") ?_ | refine EqS.vs rfl (by walk_at "ok") (by walk_at "ok") ?_
      first | refine FzR.f ?_ | refine FzR.o ?_
      refine Is.i ?_
      apply exP
      · intro h
        refine we_one ?_
        refine we_eq hr ?_
        refine wv_of ?_
        refine we_callC Cweek_of hr ?_
        refine wa_cons ?_
        refine wv_int ?_
        refine wa_nil ?_
        apply lendP [none]
        · walk_at "lend"
        · rfl
        refine ⟨_, rfl, (by walk_at "pre"), ?_⟩
        first | refine FzR.f ?_ | refine FzR.o ?_
        refine wv_of ?_
        refine we_pair ?_
        refine wa_cons ?_
        refine wv_int ?_
        refine wa_cons ?_
        refine wv_int ?_
        refine wa_nil ?_
        refine ⟨_, _, inferInstance, inferInstance, _, _, rfl, ?_⟩
        first | refine FzR.f ?_ | refine FzR.o ?_
        first | refine EqS.vv (by walk_at "ok") (by walk_at "ok") ?_ | refine EqS.sv rfl (by walk_at "ok") (by walk_at "ok") ?_ | refine EqS.vs rfl (by walk_at "ok") (by walk_at "ok") ?_
        exact ⟨rfl, rfl⟩
      exact ⟨rfl, rfl⟩
    exact ⟨rfl, rfl⟩
  exact ⟨_, .fz .nil, conv law_end hK⟩


end
/-! ### wrong dates -/
section
variable {P : Program} {w : World} {K : PySem.W.Frag} {mg : Str → Option Value} {base : Heap}
abbrev s_init : Stmt := inClass (topS 2) 0
theorem sc_init : FnScope ["self", "what"] ["self", "what"] (defScope s_init) := ⟨rfl, rfl, rfl, by decide +kernel, rfl, by decide +kernel, by decide +kernel⟩
abbrev ErrT (K : PySem.W.Frag) (mg : Str → Option Value) (C fI : Addr) (fdI : FuncData) : Prop := ErrTxt K mg "InvalidTime" "InvalidTime.__init__" s_init C fI fdI
theorem ok_init {C fI : Addr} {fdI : FuncData} (T : ErrT K mg C fI fdI) : FnOk P w K mg base CX0 1 fI fdI ["self", "what"] (spInit K C) := by
  refine T.F.ok sc_init (fun vs H Q E h => ?_) (fun cdv A outer s H vs Q E hr h => ?_)
  · obtain ⟨a, m, rfl, _⟩ := h
    rfl
  · obtain ⟨a, m, rfl, hl, T', noW, ea, q⟩ := h
    obtain ⟨S, gS, rS, atS⟩ := T.gS
    refine ⟨_, pss_cons (ps_expr (pe_clsinit (by rfl) gS (by decide) rS atS (pa_cons (pv 0) (pa_cons (pe_op op_add_str pe_str (pv 1)) pa_nil)))) (pss_one (ps_ost (pv 0) (pv 1))), ?_⟩
    refine ⟨_, rfl, _, rfl, _, _, rfl, rfl, ?_, a, C, _, rfl, by show (1 : Nat) ≤ 1000; decide, T', ea, ?_⟩
    · have e : (("invalid time: " : Str)).length = 14 := by decide +kernel
      show (("invalid time: " : Str)).length + m.length ≤ sizeLine
      exact Nat.le_of_lt (Nat.lt_of_lt_of_le (m := 20001) (by omega) (by decide))
    refine ⟨_, rfl, _, rfl, a, C, rfl, T', noW, .inl ⟨ea, fun dx nd ne => q dx nd ne⟩⟩
/-- month_length(year, 13) -/
def spML (C : Addr) : Sp := fun vs H _ E => ∃ y : Int, vs = [.int y, .int 13] ∧ (1 ≤ y ∧ y ≤ 9999) ∧ spErr C "date" H E
theorem int1 {K : PySem.W.Frag} {H : Hp} {y : Int} : ∀ (i : Nat) (s : Sl), [fz y][i]? = some s → ∃ d v, s = .fz d ∧ [V.int y][i]? = some v ∧ d.p K v H
  | 0, s, e => ⟨_, _, (Option.some.inj e).symm, rfl, rfl⟩
  | _ + 1, s, e => by simp at e
theorem int2 {K : PySem.W.Frag} {H : Hp} {y m : Int} : ∀ (i : Nat) (s : Sl), [fz y, fz m][i]? = some s → ∃ d v, s = .fz d ∧ [V.int y, V.int m][i]? = some v ∧ d.p K v H
  | 0, s, e => ⟨_, _, (Option.some.inj e).symm, rfl, rfl⟩
  | 1, s, e => ⟨_, _, (Option.some.inj e).symm, rfl, rfl⟩
  | _ + 2, s, e => by simp at e
theorem ok_ml_x {C fI f : Addr} {fdI fd : FuncData} (T : ErrT K mg C fI fdI) (F : L2.Fun K "month_length" "month_length" s_month_length f fd) (CC : Callee P w K mg base "check_year" 1 ["year"] T_check_year) : FnOk P w K mg base (L2.CX P w) 3 f fd ["year", "month"] (spML C) := by
  obtain ⟨fc, fdc, GC, mc, kc, bc, _⟩ := CC.ex
  refine F.okX sc_month_length (fun vs H Q E h => ?_) (fun cdv A outer s H vs Q E hr h => ?_)
  · obtain ⟨y, rfl, _⟩ := h
    rfl
  · obtain ⟨y, rfl, hy, hE⟩ := h
    refine ⟨_, pss_cons (ps_expr (L2.pe_call GC (hr.mono (by decide)) (by rfl) mc kc bc .nil pass0 (pa_cons (pv 0) pa_nil)))
      (pss_cons (ps_if (pt_not (pt_chain op_le op_le pe_int (pv 1) pe_int)) (pss_one (ps_raise rfl (takes_of rfl rfl rfl rfl) (pmk_oex T.T T.iC T.tI (ok_init T) hr T.b .nil pass0 (by rfl) T.gC (pa_cons pe_str pa_nil)))) pss_nil) vac), ?_⟩
    refine ⟨_, rfl, spT_at (E := E0) [fz y] (fun _ _ => True) rfl rfl ⟨y, rfl, hy, trivial⟩ int1 fun r args' v H' F As _ sm _ => ?_⟩
    refine ⟨.int 13, rfl, _, _, rfl, rfl, _, rfl, ?_⟩
    refine iteT ⟨_, _, rfl, rfl, _, rfl, ?_⟩
    exact iteT (mk_read (by decide +kernel) T.T T.noW (hE.on sm))
/-- day_of of a wrong date -/
def spDay (C : Addr) : Sp := fun vs H _ E => ∃ y m d : Int, vs = [.int y, .int m, .int d] ∧ wrongD y m d ∧ spErr C "date" H E
theorem ok_day_x {C fI f fM : Addr} {fdI fd fdM : FuncData} (T : ErrT K mg C fI fdI) (F : L2.Fun K "day_of" "day_of" s_day_of f fd) (FM : L2.Fun K "month_length" "month_length" s_month_length fM fdM) (mM : mg "month_length" = some (.ref fM)) (bM : Binds K fdM ["year", "month"] [])
    (CC : Callee P w K mg base "check_year" 1 ["year"] T_check_year) (CM : Callee P w K mg base "month_length" 2 ["year", "month"] T_month_length) : FnOk P w K mg base (L2.CX P w) 4 f fd ["year", "month", "day"] (spDay C) := by
  have GM := fn_or (fn_up ((CM.fn FM mM).mono (by decide : 2 ≤ 3))) (ok_ml_x (base := base) T FM CC)
  refine F.okX sc_day_of (fun vs H Q E h => ?_) (fun cdv A outer s H vs Q E hr h => ?_)
  · obtain ⟨y, m, d, rfl, _⟩ := h
    rfl
  · obtain ⟨y, m, d, rfl, ⟨hy, hw⟩, hE⟩ := h
    refine ⟨_, pss_cons (ps_if (pt_not (pt_chain op_le op_le pe_int (pv 2) (pe_callS GM hr (by rfl) mM FM.kp bM (fun σ => passAt (takes_of rfl rfl rfl rfl) σ) (pa_cons (pv 0) (pa_cons (pv 1) pa_nil)))))
      (pss_one (ps_raise rfl (takes_of rfl rfl rfl rfl) (pmk_oex T.T T.iC T.tI (ok_init T) (hr.mono (by decide)) T.b .nil pass0 (by rfl) T.gC (pa_cons pe_str pa_nil)))) pss_nil) vac, ?_⟩
    refine ⟨.int d, rfl, _, _, rfl, rfl, _, rfl, ?_⟩
    by_cases h1 : 1 ≤ d
    · rw [decide_eq_true h1]
      refine iteT ⟨_, rfl, _, rfl, ?_⟩
      rcases hw with ⟨hm, hd⟩ | ⟨hm, hd⟩
      · have hd' : mlen y m < d := by omega
        refine .inl (spT_at [fz y, fz m] (fun r _ => r = fz (mlen y m)) rfl rfl ⟨y, m, rfl, ⟨hy, hm⟩, rfl⟩ int2 fun r args' v H' F As er sm S => ?_)
        subst er
        have ev : v = .int (mlen y m) := S.head.2
        subst ev
        refine ⟨_, _, rfl, rfl, _, rfl, ?_⟩
        rw [decide_eq_false (by omega : ¬ d ≤ mlen y m)]
        exact iteT (mk_read (by decide +kernel) T.T T.noW (hE.on sm))
      · subst hm
        exact .inr ⟨y, rfl, hy, fun d2 H2 sm e2 => hE d2 H2 sm e2⟩
    · rw [decide_eq_false h1]
      exact iteF ⟨_, rfl, iteT (mk_read (by decide +kernel) T.T T.noW hE)⟩
abbrev s_law_wrong_date : Stmt := topS 27
theorem sc_law_wrong_date : FnScope ["year", "month", "day", "e"] ["year", "month", "day"] (defScope s_law_wrong_date) := ⟨rfl, rfl, rfl, by decide +kernel, rfl, by decide +kernel, by decide +kernel⟩
theorem ok_law_wrong_date {C fI fD fM : Addr} {fdI fdD fdM : FuncData} (T : ErrT K mg C fI fdI) (Hr : Here K mg "_law_wrong_date" s_law_wrong_date ["year", "month", "day"]) (FD : L2.Fun K "day_of" "day_of" s_day_of fD fdD) (mD : mg "day_of" = some (.ref fD)) (bD : Binds K fdD ["year", "month", "day"] [])
    (FM : L2.Fun K "month_length" "month_length" s_month_length fM fdM) (mM : mg "month_length" = some (.ref fM)) (bM : Binds K fdM ["year", "month"] [])
    (CC : Callee P w K mg base "check_year" 1 ["year"] T_check_year) (CM : Callee P w K mg base "month_length" 2 ["year", "month"] T_month_length) : Callee P w K mg base "_law_wrong_date" 6 ["year", "month", "day"] T_law_wrong_date := by
  have GD := ok_day_x (base := base) T FD FM mM bM CC CM
  obtain ⟨f, fd, F, m, b⟩ := Hr.ex
  refine ⟨f, fd, ?_, m, F.kp, b, by obtain ⟨oc, od, kV, doc, pm, an, cdv, ct, osl, _, lk, _⟩ := F.ex; exact ⟨oc, od, osl, lk⟩⟩
  refine F.ok sc_law_wrong_date (fun vs H Q E h => spT_len h) (fun cdv A outer s H vs Q E hr h => ?_)
  obtain ⟨args, F0, As, Kt, hl, ⟨y, mo, d, ea, hw, hK⟩, S, fin⟩ := h
  subst ea
  obtain ⟨v0, v1, v2, ev⟩ : ∃ v0 v1 v2, vs = [v0, v1, v2] := by
    have hlen := S.len
    match vs, hlen with
    | [a, b, c], _ => exact ⟨a, b, c, rfl⟩
  subst ev
  have e0 : v0 = .int y := (S.here (i := 0) rfl (by intro z; cases z) rfl).2
  have e1 : v1 = .int mo := (S.here (i := 1) rfl (by intro z; cases z) rfl).2
  have e2 : v2 = .int d := (S.here (i := 2) rfl (by intro z; cases z) rfl).2
  subst e0; subst e1; subst e2
  refine ⟨_, pss_cons (ps_try_as (i := 3) (tb := fun W => tDrop (tCallS (spDay C) (L2.WE W) (tCons (tVar 0) (tCons (tVar 1) (tCons (tVar 2) tNil))))) (ts := fun a cls d => tRet (tXf a cls d C "what" (tVar 3))) (Wout := fun _ _ _ _ => False) rfl rfl sc_law_wrong_date.nd rfl rfl ⟨rfl, by decide, .inl T.gC⟩ takes0
      (fun W pn xe tk _ => pss_one (ps_expr (pe_callS GD (hr.mono (by decide)) (by rfl) mD FD.kp bD (fun σ => passAt tk σ) (pa_cons (pv 0) (pa_cons (pv 1) (pa_cons (pv 2) pa_nil))))))
      (fun a oe cls d pn hz hf => pss_one (ps_ret (pe_xf T.xf T.noW hz hf (pv 3))))) vac, ?_⟩
  refine ⟨_, rfl, _, rfl, _, rfl, y, mo, d, rfl, hw, fun dd H' sm ed => ?_⟩
  refine ⟨true, T.te, fun _ a na => ?_, fun q => nomatch q⟩
  refine ⟨_, rfl, rfl, rfl, dd, _, .str "date", rfl, ed, ?_, ?_⟩
  rotate_left
  · refine fin _ _ _ _ hK ⟨F0, _, (S.grow sm).cons (d := sd ("date" : Str)) rfl⟩
  · rfl
end
/-! ### the end -/
section
theorem exm_self {K : PySem.W.Frag} {S : Addr} (h1 : PySem.W.subIn K (.ref S) (.type "BaseException") = some true) (h2 : PySem.W.isClsIn K S = true) (h3 : PySem.W.typeIn K (.ref S) = some (.type "type")) (h4 : PySem.W.subIn K (.ref S) (.ref S) = some true) :
    PySem.W.exmOne K (.ref S) (.ref S) = some true := by
  have e1 : (PySem.W.subIn K (.ref S) (.type "BaseException") == some true) = true := by rw [h1] <;> rfl
  have e2 : ((PySem.W.clsIn K S).isSome && PySem.W.typeIn K (.ref S) == some (.type "type")) = true := by
    have h2' : (PySem.W.clsIn K S).isSome = true := h2
    rw [h2', h3] <;> rfl
  show (if (PySem.W.subIn K (.ref S) (.type "BaseException") == some true) = true then (if ((PySem.W.clsIn K S).isSome && PySem.W.typeIn K (.ref S) == some (.type "type")) = true then PySem.W.subIn K (.ref S) (.ref S) else none) else none) = some true
  rw [if_pos e1, if_pos e2]
  exact h4
theorem all_mk {l : PySem.W.OpenLaw} {w : World} {K : PySem.W.Frag} {h : Heap} {mg : Str → Option Value} {fa : Addr} (X : K.In h) (G : h.Ns mainGlobals mg) (hfa : mg "law" = some (.ref fa))
    {f0 : Addr} {od0 an0 : Option Addr} {sl0 : Array (Option Value)} {oc0 kV0 dc0 pm0 cd0 ct0 : Value}
    {f1 : Addr} {od1 an1 : Option Addr} {sl1 : Array (Option Value)} {oc1 kV1 dc1 pm1 cd1 ct1 : Value}
    {f2 : Addr} {od2 an2 : Option Addr} {sl2 : Array (Option Value)} {oc2 kV2 dc2 pm2 cd2 ct2 : Value}
    {f3 : Addr} {od3 an3 : Option Addr} {sl3 : Array (Option Value)} {oc3 kV3 dc3 pm3 cd3 ct3 : Value}
    {f4 : Addr} {od4 an4 : Option Addr} {sl4 : Array (Option Value)} {oc4 kV4 dc4 pm4 cd4 ct4 : Value}
    {f5 : Addr} {od5 an5 : Option Addr} {sl5 : Array (Option Value)} {oc5 kV5 dc5 pm5 cd5 ct5 : Value}
    {f6 : Addr} {od6 an6 : Option Addr} {sl6 : Array (Option Value)} {oc6 kV6 dc6 pm6 cd6 ct6 : Value}
    {f7 : Addr} {od7 an7 : Option Addr} {sl7 : Array (Option Value)} {oc7 kV7 dc7 pm7 cd7 ct7 : Value}
    {f8 : Addr} {od8 an8 : Option Addr} {sl8 : Array (Option Value)} {oc8 kV8 dc8 pm8 cd8 ct8 : Value}
    {f9 : Addr} {od9 an9 : Option Addr} {sl9 : Array (Option Value)} {oc9 kV9 dc9 pm9 cd9 ct9 : Value}
    {f10 : Addr} {od10 an10 : Option Addr} {sl10 : Array (Option Value)} {oc10 kV10 dc10 pm10 cd10 ct10 : Value}
    {f11 : Addr} {od11 an11 : Option Addr} {sl11 : Array (Option Value)} {oc11 kV11 dc11 pm11 cd11 ct11 : Value}
    {f12 : Addr} {od12 an12 : Option Addr} {sl12 : Array (Option Value)} {oc12 kV12 dc12 pm12 cd12 ct12 : Value}
    {f13 : Addr} {od13 an13 : Option Addr} {sl13 : Array (Option Value)} {oc13 kV13 dc13 pm13 cd13 ct13 : Value}
    {f14 : Addr} {od14 an14 : Option Addr} {sl14 : Array (Option Value)} {oc14 kV14 dc14 pm14 cd14 ct14 : Value}
    {f15 : Addr} {od15 an15 : Option Addr} {sl15 : Array (Option Value)} {oc15 kV15 dc15 pm15 cd15 ct15 : Value}
    {f16 : Addr} {od16 an16 : Option Addr} {sl16 : Array (Option Value)} {oc16 kV16 dc16 pm16 cd16 ct16 : Value}
    {f17 : Addr} {od17 an17 : Option Addr} {sl17 : Array (Option Value)} {oc17 kV17 dc17 pm17 cd17 ct17 : Value}
    {f18 : Addr} {od18 an18 : Option Addr} {sl18 : Array (Option Value)} {oc18 kV18 dc18 pm18 cd18 ct18 : Value}
    {f19 : Addr} {od19 an19 : Option Addr} {sl19 : Array (Option Value)} {oc19 kV19 dc19 pm19 cd19 ct19 : Value}
    {f20 : Addr} {od20 an20 : Option Addr} {sl20 : Array (Option Value)} {oc20 kV20 dc20 pm20 cd20 ct20 : Value}
    {t_FIRST_YEAR : Tok}
    {t_LAST_YEAR : Tok}
    {t_DAYS_BEFORE : Tok}
    {b_LENGTHS : Addr} {o_LENGTHS : Obj}
    {C S fI : Addr} {nm q : Str} {N : Addr} {bs : List Value} {sn : List Str} {sub : List Value} {ab : Bool} {col : Option Bool} {dd : Option Addr} {m0 m1 m2 m3 m5 : Option Value} {odI anI : Option Addr} {slI : Array (Option Value)} {ocI kVI dcI pmI cdI ctI : Value}
    (a0 : PySem.W.nsIn K mainGlobals "is_leap" = some (some (.ref f0)))
    (l0 : K.lookup f0 = some ⟨oc0, od0, .func (PySem.W.fnOf "is_leap" "is_leap" (defArgs s_is_leap) (defBody s_is_leap) (defScope s_is_leap) .none kV0 dc0 pm0 an0 cd0 ct0), sl0⟩)
    (c0 : PySem.W.codeIn K cd0 "is_leap" = true)
    (k0 : PySem.W.keepIn K (.ref f0) = true)
    (a1 : PySem.W.nsIn K mainGlobals "check_year" = some (some (.ref f1)))
    (l1 : K.lookup f1 = some ⟨oc1, od1, .func (PySem.W.fnOf "check_year" "check_year" (defArgs s_check_year) (defBody s_check_year) (defScope s_check_year) .none kV1 dc1 pm1 an1 cd1 ct1), sl1⟩)
    (c1 : PySem.W.codeIn K cd1 "check_year" = true)
    (k1 : PySem.W.keepIn K (.ref f1) = true)
    (a2 : PySem.W.nsIn K mainGlobals "month_length" = some (some (.ref f2)))
    (l2 : K.lookup f2 = some ⟨oc2, od2, .func (PySem.W.fnOf "month_length" "month_length" (defArgs s_month_length) (defBody s_month_length) (defScope s_month_length) .none kV2 dc2 pm2 an2 cd2 ct2), sl2⟩)
    (c2 : PySem.W.codeIn K cd2 "month_length" = true)
    (k2 : PySem.W.keepIn K (.ref f2) = true)
    (a3 : PySem.W.nsIn K mainGlobals "days_before_year" = some (some (.ref f3)))
    (l3 : K.lookup f3 = some ⟨oc3, od3, .func (PySem.W.fnOf "days_before_year" "days_before_year" (defArgs s_days_before_year) (defBody s_days_before_year) (defScope s_days_before_year) .none kV3 dc3 pm3 an3 cd3 ct3), sl3⟩)
    (c3 : PySem.W.codeIn K cd3 "days_before_year" = true)
    (k3 : PySem.W.keepIn K (.ref f3) = true)
    (a4 : PySem.W.nsIn K mainGlobals "day_of" = some (some (.ref f4)))
    (l4 : K.lookup f4 = some ⟨oc4, od4, .func (PySem.W.fnOf "day_of" "day_of" (defArgs s_day_of) (defBody s_day_of) (defScope s_day_of) .none kV4 dc4 pm4 an4 cd4 ct4), sl4⟩)
    (c4 : PySem.W.codeIn K cd4 "day_of" = true)
    (k4 : PySem.W.keepIn K (.ref f4) = true)
    (a5 : PySem.W.nsIn K mainGlobals "check_day" = some (some (.ref f5)))
    (l5 : K.lookup f5 = some ⟨oc5, od5, .func (PySem.W.fnOf "check_day" "check_day" (defArgs s_check_day) (defBody s_check_day) (defScope s_check_day) .none kV5 dc5 pm5 an5 cd5 ct5), sl5⟩)
    (c5 : PySem.W.codeIn K cd5 "check_day" = true)
    (k5 : PySem.W.keepIn K (.ref f5) = true)
    (a6 : PySem.W.nsIn K mainGlobals "date_of" = some (some (.ref f6)))
    (l6 : K.lookup f6 = some ⟨oc6, od6, .func (PySem.W.fnOf "date_of" "date_of" (defArgs s_date_of) (defBody s_date_of) (defScope s_date_of) .none kV6 dc6 pm6 an6 cd6 ct6), sl6⟩)
    (c6 : PySem.W.codeIn K cd6 "date_of" = true)
    (k6 : PySem.W.keepIn K (.ref f6) = true)
    (a7 : PySem.W.nsIn K mainGlobals "weekday" = some (some (.ref f7)))
    (l7 : K.lookup f7 = some ⟨oc7, od7, .func (PySem.W.fnOf "weekday" "weekday" (defArgs s_weekday) (defBody s_weekday) (defScope s_weekday) .none kV7 dc7 pm7 an7 cd7 ct7), sl7⟩)
    (c7 : PySem.W.codeIn K cd7 "weekday" = true)
    (k7 : PySem.W.keepIn K (.ref f7) = true)
    (a8 : PySem.W.nsIn K mainGlobals "week_of" = some (some (.ref f8)))
    (l8 : K.lookup f8 = some ⟨oc8, od8, .func (PySem.W.fnOf "week_of" "week_of" (defArgs s_week_of) (defBody s_week_of) (defScope s_week_of) .none kV8 dc8 pm8 an8 cd8 ct8), sl8⟩)
    (c8 : PySem.W.codeIn K cd8 "week_of" = true)
    (k8 : PySem.W.keepIn K (.ref f8) = true)
    (a9 : PySem.W.nsIn K mainGlobals "moved_months" = some (some (.ref f9)))
    (l9 : K.lookup f9 = some ⟨oc9, od9, .func (PySem.W.fnOf "moved_months" "moved_months" (defArgs s_moved_months) (defBody s_moved_months) (defScope s_moved_months) .none kV9 dc9 pm9 an9 cd9 ct9), sl9⟩)
    (c9 : PySem.W.codeIn K cd9 "moved_months" = true)
    (k9 : PySem.W.keepIn K (.ref f9) = true)
    (a10 : PySem.W.nsIn K mainGlobals "weekday_in_month" = some (some (.ref f10)))
    (l10 : K.lookup f10 = some ⟨oc10, od10, .func (PySem.W.fnOf "weekday_in_month" "weekday_in_month" (defArgs s_weekday_in_month) (defBody s_weekday_in_month) (defScope s_weekday_in_month) .none kV10 dc10 pm10 an10 cd10 ct10), sl10⟩)
    (c10 : PySem.W.codeIn K cd10 "weekday_in_month" = true)
    (k10 : PySem.W.keepIn K (.ref f10) = true)
    (a11 : PySem.W.nsIn K mainGlobals "easter" = some (some (.ref f11)))
    (l11 : K.lookup f11 = some ⟨oc11, od11, .func (PySem.W.fnOf "easter" "easter" (defArgs s_easter) (defBody s_easter) (defScope s_easter) .none kV11 dc11 pm11 an11 cd11 ct11), sl11⟩)
    (c11 : PySem.W.codeIn K cd11 "easter" = true)
    (k11 : PySem.W.keepIn K (.ref f11) = true)
    (a12 : PySem.W.nsIn K mainGlobals "_law_deck" = some (some (.ref f12)))
    (l12 : K.lookup f12 = some ⟨oc12, od12, .func (PySem.W.fnOf "_law_deck" "_law_deck" (defArgs s_law_deck) (defBody s_law_deck) (defScope s_law_deck) .none kV12 dc12 pm12 an12 cd12 ct12), sl12⟩)
    (c12 : PySem.W.codeIn K cd12 "_law_deck" = true)
    (k12 : PySem.W.keepIn K (.ref f12) = true)
    (a13 : PySem.W.nsIn K mainGlobals "_law_take" = some (some (.ref f13)))
    (l13 : K.lookup f13 = some ⟨oc13, od13, .func (PySem.W.fnOf "_law_take" "_law_take" (defArgs s_law_take) (defBody s_law_take) (defScope s_law_take) .none kV13 dc13 pm13 an13 cd13 ct13), sl13⟩)
    (c13 : PySem.W.codeIn K cd13 "_law_take" = true)
    (k13 : PySem.W.keepIn K (.ref f13) = true)
    (a14 : PySem.W.nsIn K mainGlobals "_law_signed" = some (some (.ref f14)))
    (l14 : K.lookup f14 = some ⟨oc14, od14, .func (PySem.W.fnOf "_law_signed" "_law_signed" (defArgs s_law_signed) (defBody s_law_signed) (defScope s_law_signed) .none kV14 dc14 pm14 an14 cd14 ct14), sl14⟩)
    (c14 : PySem.W.codeIn K cd14 "_law_signed" = true)
    (k14 : PySem.W.keepIn K (.ref f14) = true)
    (a15 : PySem.W.nsIn K mainGlobals "_law_leap" = some (some (.ref f15)))
    (l15 : K.lookup f15 = some ⟨oc15, od15, .func (PySem.W.fnOf "_law_leap" "_law_leap" (defArgs s_law_leap) (defBody s_law_leap) (defScope s_law_leap) .none kV15 dc15 pm15 an15 cd15 ct15), sl15⟩)
    (c15 : PySem.W.codeIn K cd15 "_law_leap" = true)
    (k15 : PySem.W.keepIn K (.ref f15) = true)
    (a16 : PySem.W.nsIn K mainGlobals "_law_month" = some (some (.ref f16)))
    (l16 : K.lookup f16 = some ⟨oc16, od16, .func (PySem.W.fnOf "_law_month" "_law_month" (defArgs s_law_month) (defBody s_law_month) (defScope s_law_month) .none kV16 dc16 pm16 an16 cd16 ct16), sl16⟩)
    (c16 : PySem.W.codeIn K cd16 "_law_month" = true)
    (k16 : PySem.W.keepIn K (.ref f16) = true)
    (a17 : PySem.W.nsIn K mainGlobals "_law_day" = some (some (.ref f17)))
    (l17 : K.lookup f17 = some ⟨oc17, od17, .func (PySem.W.fnOf "_law_day" "_law_day" (defArgs s_law_day) (defBody s_law_day) (defScope s_law_day) .none kV17 dc17 pm17 an17 cd17 ct17), sl17⟩)
    (c17 : PySem.W.codeIn K cd17 "_law_day" = true)
    (k17 : PySem.W.keepIn K (.ref f17) = true)
    (a18 : PySem.W.nsIn K mainGlobals "_law_easter" = some (some (.ref f18)))
    (l18 : K.lookup f18 = some ⟨oc18, od18, .func (PySem.W.fnOf "_law_easter" "_law_easter" (defArgs s_law_easter) (defBody s_law_easter) (defScope s_law_easter) .none kV18 dc18 pm18 an18 cd18 ct18), sl18⟩)
    (c18 : PySem.W.codeIn K cd18 "_law_easter" = true)
    (k18 : PySem.W.keepIn K (.ref f18) = true)
    (a19 : PySem.W.nsIn K mainGlobals "_law_wrong_date" = some (some (.ref f19)))
    (l19 : K.lookup f19 = some ⟨oc19, od19, .func (PySem.W.fnOf "_law_wrong_date" "_law_wrong_date" (defArgs s_law_wrong_date) (defBody s_law_wrong_date) (defScope s_law_wrong_date) .none kV19 dc19 pm19 an19 cd19 ct19), sl19⟩)
    (c19 : PySem.W.codeIn K cd19 "_law_wrong_date" = true)
    (k19 : PySem.W.keepIn K (.ref f19) = true)
    (a20 : PySem.W.nsIn K mainGlobals "law" = some (some (.ref f20)))
    (l20 : K.lookup f20 = some ⟨oc20, od20, .func (PySem.W.fnOf "law" "law" (defArgs s_law) (defBody s_law) (defScope s_law) .none kV20 dc20 pm20 an20 cd20 ct20), sl20⟩)
    (c20 : PySem.W.codeIn K cd20 "law" = true)
    (k20 : PySem.W.keepIn K (.ref f20) = true)
    (z_len : PySem.W.nsIn K mainGlobals "len" = some none)
    (z_range : PySem.W.nsIn K mainGlobals "range" = some none)
    (z_abs : PySem.W.nsIn K mainGlobals "abs" = some none)
    (z_max : PySem.W.nsIn K mainGlobals "max" = some none)
    (z_min : PySem.W.nsIn K mainGlobals "min" = some none)
    (z_int : PySem.W.nsIn K mainGlobals "int" = some none)
    (z_sum : PySem.W.nsIn K mainGlobals "sum" = some none)
    (g_FIRST_YEAR : PySem.W.nsIn K mainGlobals "FIRST_YEAR" = some (some (.int 1 t_FIRST_YEAR)))
    (g_LAST_YEAR : PySem.W.nsIn K mainGlobals "LAST_YEAR" = some (some (.int 9999 t_LAST_YEAR)))
    (g_DAYS_BEFORE : PySem.W.nsIn K mainGlobals "DAYS_BEFORE" = some (some (.int 738885 t_DAYS_BEFORE)))
    (g_LENGTHS : PySem.W.nsIn K mainGlobals "LENGTHS" = some (some (.ref b_LENGTHS)))
    (l_LENGTHS : K.lookup b_LENGTHS = some o_LENGTHS)
    (t_LENGTHS : tupInts o_LENGTHS = some LENS)
    (aC : PySem.W.nsIn K mainGlobals "InvalidTime" = some (some (.ref C)))
    (aS : PySem.W.nsIn K mainGlobals "SlotError" = some (some (.ref S)))
    (xL : K.lookup C = some (excClassObj nm q C N bs [.ref S, .type "ValueError", .type "Exception", .type "BaseException", .type "object"] true sn sub ab col dd m0 m1 m2 m3 m5 "ValueError.__new__"))
    (sa : PySem.W.findIn K (.ref C) "__setattr__" = some (some (.builtin "object.__setattr__")))
    (ga : PySem.W.findIn K (.ref C) "__getattribute__" = some (some (.builtin "BaseException.__getattribute__")))
    (gg : PySem.W.findIn K (.ref C) "__getattr__" = some none)
    (nb : PySem.W.findIn K (.ref C) "what" = some none)
    (aI : PySem.W.findIn K (.ref C) "__init__" = some (some (.ref fI)))
    (tI : PySem.W.typeIn K (.ref fI) = some (.type "function"))
    (lI : K.lookup fI = some ⟨ocI, odI, .func (PySem.W.fnOf "__init__" "InvalidTime.__init__" (defArgs s_init) (defBody s_init) (defScope s_init) .none kVI dcI pmI anI cdI ctI), slI⟩)
    (cI : PySem.W.codeIn K cdI "InvalidTime.__init__" = true)
    (kI : PySem.W.keepIn K (.ref fI) = true)
    (kC : PySem.W.keepIn K (.ref C) = true)
    (eC : PySem.W.subIn K (.ref C) (.type "BaseException") = some true)
    (tC : PySem.W.typeIn K (.ref C) = some (.type "type"))
    (hC : PySem.W.hasDictIn K C = true)
    (iC : PySem.W.isClsIn K C = true)
    (sC : PySem.W.subIn K (.ref C) (.ref C) = some true)
    (rS : PySem.W.readsIn K S (.type "type") = true)
    (gS : PySem.W.specialIn K (.ref S) "__getattribute__" = some (some (.builtin "type.__getattribute__")))
    (vS : PySem.W.findCls K (.ref S) (.type "type") "__init__" = some (.val (.builtin "ValueError.__init__"))) :
    ∃ fd : FuncData, (∀ (s : Shared) (v : Value), BindsTo s fd ⟨[v], []⟩ [("script", v)]) ∧ ∀ base : Heap, K.In base → base.Ns mainGlobals mg → FnOk l.prog w K mg base CX0 7 fa fd ["script"] (spT K lawT 1) := by
  have e := hfa.symm.trans (PySem.W.mg_of X G a20)
  cases e
  have H_is_leap : Here K mg "is_leap" s_is_leap ["year"] := here_mk X G a0 l0 c0 k0 fun _ _ _ _ _ _ us hl => match us, hl with | [_], _ => rfl
  have H_check_year : Here K mg "check_year" s_check_year ["year"] := here_mk X G a1 l1 c1 k1 fun _ _ _ _ _ _ us hl => match us, hl with | [_], _ => rfl
  have H_month_length : Here K mg "month_length" s_month_length ["year", "month"] := here_mk X G a2 l2 c2 k2 fun _ _ _ _ _ _ us hl => match us, hl with | [_, _], _ => rfl
  have H_days_before_year : Here K mg "days_before_year" s_days_before_year ["year"] := here_mk X G a3 l3 c3 k3 fun _ _ _ _ _ _ us hl => match us, hl with | [_], _ => rfl
  have H_day_of : Here K mg "day_of" s_day_of ["year", "month", "day"] := here_mk X G a4 l4 c4 k4 fun _ _ _ _ _ _ us hl => match us, hl with | [_, _, _], _ => rfl
  have H_check_day : Here K mg "check_day" s_check_day ["day"] := here_mk X G a5 l5 c5 k5 fun _ _ _ _ _ _ us hl => match us, hl with | [_], _ => rfl
  have H_date_of : Here K mg "date_of" s_date_of ["day"] := here_mk X G a6 l6 c6 k6 fun _ _ _ _ _ _ us hl => match us, hl with | [_], _ => rfl
  have H_weekday : Here K mg "weekday" s_weekday ["day"] := here_mk X G a7 l7 c7 k7 fun _ _ _ _ _ _ us hl => match us, hl with | [_], _ => rfl
  have H_week_of : Here K mg "week_of" s_week_of ["day"] := here_mk X G a8 l8 c8 k8 fun _ _ _ _ _ _ us hl => match us, hl with | [_], _ => rfl
  have H_moved_months : Here K mg "moved_months" s_moved_months ["day", "months"] := here_mk X G a9 l9 c9 k9 fun _ _ _ _ _ _ us hl => match us, hl with | [_, _], _ => rfl
  have H_weekday_in_month : Here K mg "weekday_in_month" s_weekday_in_month ["year", "month", "which", "number"] := here_mk X G a10 l10 c10 k10 fun _ _ _ _ _ _ us hl => match us, hl with | [_, _, _, _], _ => rfl
  have H_easter : Here K mg "easter" s_easter ["year"] := here_mk X G a11 l11 c11 k11 fun _ _ _ _ _ _ us hl => match us, hl with | [_], _ => rfl
  have H_law_deck : Here K mg "_law_deck" s_law_deck ["script", "cells", "each"] := here_mk X G a12 l12 c12 k12 fun _ _ _ _ _ _ us hl => match us, hl with | [_, _, _], _ => rfl
  have H_law_take : Here K mg "_law_take" s_law_take ["deck", "many"] := here_mk X G a13 l13 c13 k13 fun _ _ _ _ _ _ us hl => match us, hl with | [_, _], _ => rfl
  have H_law_signed : Here K mg "_law_signed" s_law_signed ["deck", "most"] := here_mk X G a14 l14 c14 k14 fun _ _ _ _ _ _ us hl => match us, hl with | [_, _], _ => rfl
  have H_law_leap : Here K mg "_law_leap" s_law_leap ["year"] := here_mk X G a15 l15 c15 k15 fun _ _ _ _ _ _ us hl => match us, hl with | [_], _ => rfl
  have H_law_month : Here K mg "_law_month" s_law_month ["year", "month"] := here_mk X G a16 l16 c16 k16 fun _ _ _ _ _ _ us hl => match us, hl with | [_, _], _ => rfl
  have H_law_day : Here K mg "_law_day" s_law_day ["year", "month", "day"] := here_mk X G a17 l17 c17 k17 fun _ _ _ _ _ _ us hl => match us, hl with | [_, _, _], _ => rfl
  have H_law_easter : Here K mg "_law_easter" s_law_easter ["year"] := here_mk X G a18 l18 c18 k18 fun _ _ _ _ _ _ us hl => match us, hl with | [_], _ => rfl
  have H_law_wrong_date : Here K mg "_law_wrong_date" s_law_wrong_date ["year", "month", "day"] := here_mk X G a19 l19 c19 k19 fun _ _ _ _ _ _ us hl => match us, hl with | [_, _, _], _ => rfl
  have H_law : Here K mg "law" s_law ["script"] := here_mk X G a20 l20 c20 k20 fun _ _ _ _ _ _ us hl => match us, hl with | [_], _ => rfl
  have GG : Gs K mg := ⟨PySem.W.mg_none_of X G z_len, PySem.W.mg_none_of X G z_range, PySem.W.mg_none_of X G z_abs, PySem.W.mg_none_of X G z_max, PySem.W.mg_none_of X G z_min, PySem.W.mg_none_of X G z_int, PySem.W.mg_none_of X G z_sum, ⟨_, PySem.W.mg_of X G g_FIRST_YEAR⟩, ⟨_, PySem.W.mg_of X G g_LAST_YEAR⟩, ⟨_, PySem.W.mg_of X G g_DAYS_BEFORE⟩, ⟨_, PySem.W.mg_of X G g_LENGTHS⟩, fun a ha => by
    have e := ha.symm.trans (PySem.W.mg_of X G g_LENGTHS)
    cases e
    exact tupInts_at t_LENGTHS l_LENGTHS⟩
  have T0 : OexC K C := ⟨⟨nm, q, N, bs, _, sn, sub, ab, col, dd, m0, m1, m2, m3, m5, xL, rfl⟩, sa, eC, tC, kC⟩
  have FI := fun_mk (st := s_init) lI cI kI
  have TT : ErrT K mg C fI _ := ⟨PySem.W.mg_of X G aC, T0, aI, tI, FI, FI.binds (ps := ["self", "what"]) fun _ _ _ _ _ _ us hl => match us, hl with | [_, _], _ => rfl, ⟨S, PySem.W.mg_of X G aS, ⟨rS, gS⟩, vS⟩, nb, ⟨ga, gg, eC, hC⟩, exm_self eC iC tC sC⟩
  refine ⟨PySem.W.fnOf "law" "law" (defArgs s_law) (defBody s_law) (defScope s_law) .none kV20 dc20 pm20 an20 cd20 ct20, fun s v => .of_eq rfl, fun base _ _ => ?_⟩
  have C_is_leap : Callee l.prog w K mg base "is_leap" 1 ["year"] T_is_leap := ok_is_leap GG H_is_leap 
  have C_check_year : Callee l.prog w K mg base "check_year" 1 ["year"] T_check_year := ok_check_year GG H_check_year 
  have C_month_length : Callee l.prog w K mg base "month_length" 2 ["year", "month"] T_month_length := ok_month_length GG H_month_length C_is_leap C_check_year
  have C_days_before_year : Callee l.prog w K mg base "days_before_year" 1 ["year"] T_days_before_year := ok_days_before_year GG H_days_before_year 
  have C_day_of : Callee l.prog w K mg base "day_of" 3 ["year", "month", "day"] T_day_of := ok_day_of GG H_day_of C_month_length C_days_before_year
  have C_check_day : Callee l.prog w K mg base "check_day" 2 ["day"] T_check_day := ok_check_day GG H_check_day C_days_before_year
  have C_date_of : Callee l.prog w K mg base "date_of" 3 ["day"] T_date_of := ok_date_of GG H_date_of C_month_length C_days_before_year C_check_day
  have C_weekday : Callee l.prog w K mg base "weekday" 1 ["day"] T_weekday := ok_weekday GG H_weekday 
  have C_week_of : Callee l.prog w K mg base "week_of" 4 ["day"] T_week_of := ok_week_of GG H_week_of C_day_of C_check_day C_date_of C_weekday
  have C_moved_months : Callee l.prog w K mg base "moved_months" 4 ["day", "months"] T_moved_months := ok_moved_months GG H_moved_months C_check_year C_month_length C_day_of C_date_of
  have C_weekday_in_month : Callee l.prog w K mg base "weekday_in_month" 4 ["year", "month", "which", "number"] T_weekday_in_month := ok_weekday_in_month GG H_weekday_in_month C_month_length C_day_of C_weekday
  have C_easter : Callee l.prog w K mg base "easter" 4 ["year"] T_easter := ok_easter GG H_easter C_check_year C_day_of
  have C_law_deck : Callee l.prog w K mg base "_law_deck" 1 ["script", "cells", "each"] T_law_deck := ok_law_deck GG H_law_deck 
  have C_law_take : Callee l.prog w K mg base "_law_take" 1 ["deck", "many"] T_law_take := ok_law_take GG H_law_take 
  have C_law_signed : Callee l.prog w K mg base "_law_signed" 2 ["deck", "most"] T_law_signed := ok_law_signed GG H_law_signed C_law_take
  have C_law_leap : Callee l.prog w K mg base "_law_leap" 1 ["year"] T_law_leap := ok_law_leap GG H_law_leap 
  have C_law_month : Callee l.prog w K mg base "_law_month" 2 ["year", "month"] T_law_month := ok_law_month GG H_law_month C_law_leap
  have C_law_day : Callee l.prog w K mg base "_law_day" 3 ["year", "month", "day"] T_law_day := ok_law_day GG H_law_day C_law_month
  have C_law_easter : Callee l.prog w K mg base "_law_easter" 4 ["year"] T_law_easter := ok_law_easter GG H_law_easter C_law_day
  have C_law_wrong_date : Callee l.prog w K mg base "_law_wrong_date" 6 ["year", "month", "day"] T_law_wrong_date := by
    obtain ⟨fD, _, FD, mD, bD⟩ := H_day_of.ex
    obtain ⟨fM, _, FM, mM, bM⟩ := H_month_length.ex
    exact ok_law_wrong_date TT H_law_wrong_date FD mD bD FM mM bM C_check_year C_month_length
  have C_law : Callee l.prog w K mg base "law" 7 ["script"] T_law := ok_law GG H_law C_is_leap C_month_length C_day_of C_date_of C_weekday C_week_of C_moved_months C_weekday_in_month C_easter C_law_deck C_law_take C_law_signed C_law_leap C_law_month C_law_day C_law_easter C_law_wrong_date
  exact C_law.fn (fun_mk (st := s_law) l20 c20 k20) (PySem.W.mg_of X G a20)
end
end K00
open PySem PySem.W PyProof.Rows
set_option maxHeartbeats 0 in
theorem PySem.Challenge.cw_slotwork_k00_whole_dates_there_and_back_holds : PySem.Challenge.rw_slotwork_k00_whole_dates_there_and_back.Holds := by
  w_on; o_law; k_head; (case hw => w_witness2)
  k_fill
  refine L2.walk_of (l := PySem.Challenge.rw_slotwork_k00_whole_dates_there_and_back) (n := 63) (k := 7) (x := "script") (CX := fun _ => L2.CX0) (sp := fun w => S3.spT _ S3.lawT 1) rfl (by decide) rfl ⟨rfl, by decide, by decide⟩ (fun w h Y => PySem.W.kIn_of Y) ?F (fun _ _ a ns hl _ hS => S3.law_sp hl hS) (fun _ _ _ _ _ h => h)
  case F =>
    intro w mg fa h KX G hmg
    refine' K00.all_mk KX G hmg ?a0 ?l0 ?c0 ?k0 ?a1 ?l1 ?c1 ?k1 ?a2 ?l2 ?c2 ?k2 ?a3 ?l3 ?c3 ?k3 ?a4 ?l4 ?c4 ?k4 ?a5 ?l5 ?c5 ?k5 ?a6 ?l6 ?c6 ?k6 ?a7 ?l7 ?c7 ?k7 ?a8 ?l8 ?c8 ?k8 ?a9 ?l9 ?c9 ?k9 ?a10 ?l10 ?c10 ?k10 ?a11 ?l11 ?c11 ?k11 ?a12 ?l12 ?c12 ?k12 ?a13 ?l13 ?c13 ?k13 ?a14 ?l14 ?c14 ?k14 ?a15 ?l15 ?c15 ?k15 ?a16 ?l16 ?c16 ?k16 ?a17 ?l17 ?c17 ?k17 ?a18 ?l18 ?c18 ?k18 ?a19 ?l19 ?c19 ?k19 ?a20 ?l20 ?c20 ?k20 ?z_len ?z_range ?z_abs ?z_max ?z_min ?z_int ?z_sum ?g_FIRST_YEAR ?g_LAST_YEAR ?g_DAYS_BEFORE ?g_LENGTHS ?l_LENGTHS ?t_LENGTHS ?aC ?aS ?xL ?sa ?ga ?gg ?nb ?aI ?tI ?lI ?cI ?kI ?kC ?eC ?tC ?hC ?iC ?sC ?rS ?gS ?vS
    (case a0 => k_is)
    (case l0 => k_is)
    (case c0 => k_is)
    (case k0 => k_is)
    (case a1 => k_is)
    (case l1 => k_is)
    (case c1 => k_is)
    (case k1 => k_is)
    (case a2 => k_is)
    (case l2 => k_is)
    (case c2 => k_is)
    (case k2 => k_is)
    (case a3 => k_is)
    (case l3 => k_is)
    (case c3 => k_is)
    (case k3 => k_is)
    (case a4 => k_is)
    (case l4 => k_is)
    (case c4 => k_is)
    (case k4 => k_is)
    (case a5 => k_is)
    (case l5 => k_is)
    (case c5 => k_is)
    (case k5 => k_is)
    (case a6 => k_is)
    (case l6 => k_is)
    (case c6 => k_is)
    (case k6 => k_is)
    (case a7 => k_is)
    (case l7 => k_is)
    (case c7 => k_is)
    (case k7 => k_is)
    (case a8 => k_is)
    (case l8 => k_is)
    (case c8 => k_is)
    (case k8 => k_is)
    (case a9 => k_is)
    (case l9 => k_is)
    (case c9 => k_is)
    (case k9 => k_is)
    (case a10 => k_is)
    (case l10 => k_is)
    (case c10 => k_is)
    (case k10 => k_is)
    (case a11 => k_is)
    (case l11 => k_is)
    (case c11 => k_is)
    (case k11 => k_is)
    (case a12 => k_is)
    (case l12 => k_is)
    (case c12 => k_is)
    (case k12 => k_is)
    (case a13 => k_is)
    (case l13 => k_is)
    (case c13 => k_is)
    (case k13 => k_is)
    (case a14 => k_is)
    (case l14 => k_is)
    (case c14 => k_is)
    (case k14 => k_is)
    (case a15 => k_is)
    (case l15 => k_is)
    (case c15 => k_is)
    (case k15 => k_is)
    (case a16 => k_is)
    (case l16 => k_is)
    (case c16 => k_is)
    (case k16 => k_is)
    (case a17 => k_is)
    (case l17 => k_is)
    (case c17 => k_is)
    (case k17 => k_is)
    (case a18 => k_is)
    (case l18 => k_is)
    (case c18 => k_is)
    (case k18 => k_is)
    (case a19 => k_is)
    (case l19 => k_is)
    (case c19 => k_is)
    (case k19 => k_is)
    (case a20 => k_is)
    (case l20 => k_is)
    (case c20 => k_is)
    (case k20 => k_is)
    (case z_len => k_is)
    (case z_range => k_is)
    (case z_abs => k_is)
    (case z_max => k_is)
    (case z_min => k_is)
    (case z_int => k_is)
    (case z_sum => k_is)
    (case g_FIRST_YEAR => k_is)
    (case g_LAST_YEAR => k_is)
    (case g_DAYS_BEFORE => k_is)
    (case g_LENGTHS => k_is)
    (case l_LENGTHS => k_is)
    (case aC => k_is)
    (case aS => k_is)
    (case xL => k_is)
    (case sa => k_is)
    (case ga => k_is)
    (case gg => k_is)
    (case nb => k_is)
    (case aI => k_is)
    (case tI => k_is)
    (case lI => k_is)
    (case cI => k_is)
    (case kI => k_is)
    (case kC => k_is)
    (case eC => k_is)
    (case tC => k_is)
    (case hC => k_is)
    (case iC => k_is)
    (case sC => first | k_is | rfl)
    (case rS => k_is)
    (case gS => k_is)
    (case vS => k_is)
    (case t_LENGTHS => rfl)
