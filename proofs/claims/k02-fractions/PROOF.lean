import PyProof.Rows.All
import Wide.All
import OpenK.AllK
import Wide.FinOn
import HandS.ForMost
import HandS.IsInst
import HandS.SortOrd
import HandS.Wide
import HandS.TupSets
import HandS.Defaults
import HandS.Exc
import HandS.ExcInit
import HandS.ExcField
import HandS.ExcCtx
import HandS.CallSlots
import HandS.HotCalls
import HandS.SuiteRaise
import HandS.WordsExc
import HandS.Gcd
import HandS.WideBits
import HandS.TupAny
import HandS.SortInts
import HandS.Rev
import HandS.Iter
import HandS.OwnEq
import HandS.SlotsOwn
import KE.GoesEnum
import HandS.DictComp
import HandS.TupLe
import HandS.MakeKw
import HandS.MakeKwOnly
import PySem.Challenge.RW_greatestnext_k02_fractions
set_option Elab.async false
set_option linter.all false
set_option maxRecDepth 100000
set_option maxHeartbeats 4000000
/-! FL: a functional layer over the hand layer: typed data, environments, and what readings do to them. -/
namespace FL
open PySem L2

abbrev LM : Nat := 100000
theorem lm_le {n : Nat} (h : n ≤ LM) : n ≤ sizeLine := Nat.le_trans h (by decide)
theorem lm_lt {n : Nat} (h : n < LM) : n < sizeLine := Nat.lt_of_lt_of_le h (by decide)

/-! ### heaps -/
def Ex (H H' : Hp) : Prop := ∀ a o, H a = some o → H' a = some o
theorem Ex.refl (H : Hp) : Ex H H := fun _ _ h => h
theorem Ex.trans {H H1 H2 : Hp} (a : Ex H H1) (b : Ex H1 H2) : Ex H H2 := fun x o h => b x o (a x o h)
theorem Ex.new {H : Hp} {p : Addr} {o : HO} (h : H p = none) : Ex H (upd H p o) := fun a u e => by
  rw [upd_ne (ne_of_none e h)]; exact e
theorem Ex.none {H H' : Hp} {p : Addr} (e : Ex H H') (h : H' p = none) : H p = none := by
  cases q : H p with
  | none => rfl
  | some o => rw [e p o q] at h; cases h
theorem ex_rd {H H' : Hp} {a : Addr} {u : HO} (e : Ex H H') (h : Rd H a u) : Rd H' a u := by
  rcases h with h | ⟨o, h⟩
  · exact Or.inl (e a _ h)
  · exact Or.inr ⟨o, e a _ h⟩
theorem ex_l {K : PySem.W.Frag} {H H' : Hp} {a : Addr} {xs : List V} (e : Ex H H') (h : SqL K H a xs) : SqL K H' a xs := by
  rcases h with h | h
  · exact Or.inl (ex_rd e h)
  · exact Or.inr h
theorem ex_t {K : PySem.W.Frag} {H H' : Hp} {a : Addr} {xs : List V} (e : Ex H H') (h : SqT K H a xs) : SqT K H' a xs := by
  rcases h with h | h
  · exact Or.inl (ex_rd e h)
  · exact Or.inr h

inductive All2 {α β : Type} (r : α → β → Prop) : List α → List β → Prop
  | nil : All2 r [] []
  | cons {a : α} {b : β} {as : List α} {bs : List β} : r a b → All2 r as bs → All2 r (a :: as) (b :: bs)
inductive All2S {α : Type} {β : Type 1} (r : α → β → Prop) : List α → List β → Prop
  | nil : All2S r [] []
  | cons {a : α} {b : β} {as : List α} {bs : List β} : r a b → All2S r as bs → All2S r (a :: as) (b :: bs)
theorem All2.len {α β : Type} {r : α → β → Prop} {xs : List α} {ys : List β} (h : All2 r xs ys) : xs.length = ys.length := by
  induction h with
  | nil => rfl
  | cons _ _ ih => simp [ih]
theorem All2.imp {α β : Type} {r q : α → β → Prop} {xs : List α} {ys : List β} (h : All2 r xs ys) (f : ∀ a b, r a b → q a b) : All2 q xs ys := by
  induction h with
  | nil => exact .nil
  | cons h _ ih => exact .cons (f _ _ h) ih
theorem All2.app {α β : Type} {r : α → β → Prop} {xs xs' : List α} {ys ys' : List β} (h : All2 r xs ys) (h' : All2 r xs' ys') : All2 r (xs ++ xs') (ys ++ ys') := by
  induction h with
  | nil => exact h'
  | cons h _ ih => exact .cons h ih
theorem All2.get {α β : Type} {r : α → β → Prop} {xs : List α} {ys : List β} (h : All2 r xs ys) {i : Nat} {y : β} (e : ys[i]? = some y) : ∃ x, xs[i]? = some x ∧ r x y := by
  induction h generalizing i with
  | nil => simp at e
  | cons h _ ih =>
    cases i with
    | zero => simp at e; subst e; exact ⟨_, rfl, h⟩
    | succ i => simp at e; obtain ⟨x, a, b⟩ := ih e; exact ⟨x, by simpa using a, b⟩
theorem All2.getL {α β : Type} {r : α → β → Prop} {xs : List α} {ys : List β} (h : All2 r xs ys) {i : Nat} {x : α} (e : xs[i]? = some x) : ∃ y, ys[i]? = some y ∧ r x y := by
  induction h generalizing i with
  | nil => simp at e
  | cons h _ ih =>
    cases i with
    | zero => simp at e; subst e; exact ⟨_, rfl, h⟩
    | succ i => simp at e; obtain ⟨x, a, b⟩ := ih e; exact ⟨x, by simpa using a, b⟩
theorem All2.set {α β : Type} {r : α → β → Prop} {xs : List α} {ys : List β} (h : All2 r xs ys) {x : α} {y : β} (e : r x y) : ∀ i, All2 r (xs.set i x) (ys.set i y) := by
  induction h with
  | nil => intro i; exact .nil
  | cons h hs ih =>
    intro i
    cases i with
    | zero => exact .cons e hs
    | succ i => exact .cons h (ih i)
theorem All2.map {α β : Type} {r : α → β → Prop} {f : β → α} : ∀ {ys : List β}, (∀ y ∈ ys, r (f y) y) → All2 r (ys.map f) ys
  | [], _ => .nil
  | _ :: _, h => .cons (h _ List.mem_cons_self) (All2.map fun y hy => h y (List.mem_cons_of_mem _ hy))
theorem All2.eq_map {α β : Type} {f : β → α} {xs : List α} {ys : List β} (h : All2 (fun x y => x = f y) xs ys) : xs = ys.map f := by
  induction h with
  | nil => rfl
  | cons h _ ih => rw [h, ih]; rfl
theorem All2.take {α β : Type} {r : α → β → Prop} {xs : List α} {ys : List β} (h : All2 r xs ys) : ∀ n, All2 r (xs.take n) (ys.take n) := by
  induction h with
  | nil => intro n; cases n <;> exact .nil
  | cons h hs ih =>
    intro n
    cases n with
    | zero => exact .nil
    | succ n => exact .cons h (ih n)
theorem All2.drop {α β : Type} {r : α → β → Prop} {xs : List α} {ys : List β} (h : All2 r xs ys) : ∀ n, All2 r (xs.drop n) (ys.drop n) := by
  induction h with
  | nil => intro n; cases n <;> exact .nil
  | cons h hs ih =>
    intro n
    cases n with
    | zero => exact .cons h hs
    | succ n => exact ih n

section
variable {K : PySem.W.Frag}

/-! ### encodings -/
structure Enc (K : PySem.W.Frag) (α : Type) where
  rep : Hp → V → α → Prop
  mono : ∀ {H H' : Hp} {v : V} {a : α}, Ex H H' → rep H v a → rep H' v a
/-- a mutable object's content -/
structure MEnc (K : PySem.W.Frag) (β : Type) where
  rep : Hp → HO → β → Prop
  mono : ∀ {H H' : Hp} {o : HO} {b : β}, Ex H H' → rep H o b → rep H' o b
def eI : Enc K Int := ⟨fun _ v a => v = .int a, fun _ h => h⟩
def eB : Enc K Bool := ⟨fun _ v a => v = .bl a, fun _ h => h⟩
def eS : Enc K Str := ⟨fun _ v a => v = .str a, fun _ h => h⟩
def eN : Enc K Unit := ⟨fun _ v _ => v = .non, fun _ h => h⟩
def eL {α : Type} (e : Enc K α) : Enc K (List α) :=
  ⟨fun H v as => ∃ p xs, v = .ref p ∧ SqL K H p xs ∧ All2 (e.rep H) xs as ∧ as.length ≤ LM,
   fun x ⟨p, xs, h1, h2, h3, h4⟩ => ⟨p, xs, h1, ex_l x h2, h3.imp fun _ _ h => e.mono x h, h4⟩⟩
def eT {α : Type} (e : Enc K α) : Enc K (List α) :=
  ⟨fun H v as => ∃ p xs, v = .ref p ∧ SqT K H p xs ∧ All2 (e.rep H) xs as ∧ as.length ≤ LM,
   fun x ⟨p, xs, h1, h2, h3, h4⟩ => ⟨p, xs, h1, ex_t x h2, h3.imp fun _ _ h => e.mono x h, h4⟩⟩
/-- a list or a tuple -/
def eQ {α : Type} (e : Enc K α) : Enc K (List α) :=
  ⟨fun H v as => (eL e).rep H v as ∨ (eT e).rep H v as, fun x h => h.imp (fun h => (eL e).mono x h) (fun h => (eT e).mono x h)⟩
def eP {α β : Type} (e : Enc K α) (f : Enc K β) : Enc K (α × β) :=
  ⟨fun H v ab => ∃ p x y, v = .ref p ∧ SqT K H p [x, y] ∧ e.rep H x ab.1 ∧ f.rep H y ab.2,
   fun x ⟨p, u, w, h1, h2, h3, h4⟩ => ⟨p, u, w, h1, ex_t x h2, e.mono x h3, f.mono x h4⟩⟩
def eO {α : Type} (e : Enc K α) : Enc K (Option α) :=
  ⟨fun H v o => match o with | none => v = .non | some a => e.rep H v a,
   fun {_ _ _ a} x h => match a, h with | none, h => h | some _, h => e.mono x h⟩

/-- its meaning does not hang on the heap -/
class Scal {α : Type} (e : Enc K α) : Prop where
  sc : ∀ H H' v a, e.rep H v a → e.rep H' v a
instance : Scal (eI (K := K)) := ⟨fun _ _ _ _ h => h⟩
instance : Scal (eB (K := K)) := ⟨fun _ _ _ _ h => h⟩
instance : Scal (eS (K := K)) := ⟨fun _ _ _ _ h => h⟩
instance : Scal (eN (K := K)) := ⟨fun _ _ _ _ h => h⟩
/-- never None -/
class NN {α : Type} (e : Enc K α) : Prop where
  nn : ∀ H a, ¬ e.rep H .non a
instance : NN (eI (K := K)) := ⟨fun _ _ h => nomatch h⟩
instance : NN (eB (K := K)) := ⟨fun _ _ h => nomatch h⟩
instance : NN (eS (K := K)) := ⟨fun _ _ h => nomatch h⟩
instance {α : Type} (e : Enc K α) : NN (eL e) := ⟨fun _ _ ⟨_, _, h, _⟩ => nomatch h⟩
instance {α : Type} (e : Enc K α) : NN (eT e) := ⟨fun _ _ ⟨_, _, h, _⟩ => nomatch h⟩
instance {α : Type} (e : Enc K α) : NN (eQ e) := ⟨fun _ _ h => by rcases h with ⟨_, _, h, _⟩ | ⟨_, _, h, _⟩ <;> exact nomatch h⟩
instance {α β : Type} (e : Enc K α) (f : Enc K β) : NN (eP e f) := ⟨fun _ _ ⟨_, _, _, h, _⟩ => nomatch h⟩

/-! ### slots -/
/-- a datum of some kind -/
structure DV (K : PySem.W.Frag) : Type 1 where
  {α : Type}
  e : Enc K α
  a : α
inductive Slot (K : PySem.W.Frag) : Type 1
  | un
  | d {α : Type} (e : Enc K α) (a : α)
  | l {α : Type} (e : Enc K α) (as : List α)
  | m {β : Type} (M : MEnc K β) (b : β)
  | i (C : Addr) (fs : List (Str × DV K))
def Slot.isM : Slot K → Bool
  | .l _ _ => true
  | .m _ _ => true
  | .i _ _ => true
  | _ => false
/-- what an object must be for a mutable slot -/
def Slot.cont (Hk : Hp) (o : HO) : Slot K → Prop
  | .l e as => ∃ xs, o = .lst xs ∧ All2 (e.rep Hk) xs as ∧ as.length ≤ LM
  | .m M b => M.rep Hk o b
  | .i C fs => ∃ dx vs, o = .ins C dx vs ∧ All2S (fun (p : Str × V) (q : Str × DV K) => p.1 = q.1 ∧ q.2.e.rep Hk p.2 q.2.a) vs fs
  | _ => False
def Slot.ok (Hk H : Hp) (v : Option V) : Slot K → Prop
  | .un => True
  | .d e a => ∃ u, v = some u ∧ e.rep Hk u a
  | .l e as => ∃ p o, v = some (.ref p) ∧ Hk p = none ∧ H p = some o ∧ (Slot.l e as).cont Hk o
  | .m M b => ∃ p o, v = some (.ref p) ∧ Hk p = none ∧ H p = some o ∧ (Slot.m M b).cont Hk o
  | .i C fs => ∃ p o, v = some (.ref p) ∧ Hk p = none ∧ H p = some o ∧ (Slot.i C fs).cont Hk o
def Slot.frz : Slot K → Slot K
  | .l e as => .d (eL e) as
  | .m _ _ => .un
  | .i _ _ => .un
  | s => s
theorem Slot.okM {s : Slot K} (m : s.isM = true) {Hk H : Hp} {v : Option V} : s.ok Hk H v ↔ ∃ p o, v = some (.ref p) ∧ Hk p = none ∧ H p = some o ∧ s.cont Hk o := by
  cases s with
  | un => cases m
  | d e a => cases m
  | l e as => exact Iff.rfl
  | m M b => exact Iff.rfl
  | i C fs => exact Iff.rfl
theorem Slot.okD {s : Slot K} (m : s.isM = false) {Hk H Hk' H' : Hp} {v : Option V} (x : Ex Hk Hk') (h : s.ok Hk H v) : s.ok Hk' H' v := by
  cases s with
  | un => trivial
  | d e a => obtain ⟨u, a1, a2⟩ := h; exact ⟨u, a1, e.mono x a2⟩
  | l e as => cases m
  | m M b => cases m
  | i C fs => cases m
theorem All2S.imp {α : Type} {β : Type 1} {r q : α → β → Prop} {xs : List α} {ys : List β} (h : All2S r xs ys) (f : ∀ a b, r a b → q a b) : All2S q xs ys := by
  induction h with
  | nil => exact .nil
  | cons h _ ih => exact .cons (f _ _ h) ih
theorem All2S.len {α : Type} {β : Type 1} {r : α → β → Prop} {xs : List α} {ys : List β} (h : All2S r xs ys) : xs.length = ys.length := by
  induction h with
  | nil => rfl
  | cons _ _ ih => simp [ih]
theorem All2S.get {α : Type} {β : Type 1} {r : α → β → Prop} {xs : List α} {ys : List β} (h : All2S r xs ys) {i : Nat} {y : β} (e : ys[i]? = some y) : ∃ x, xs[i]? = some x ∧ r x y := by
  induction h generalizing i with
  | nil => simp at e
  | cons h _ ih =>
    cases i with
    | zero => simp at e; subst e; exact ⟨_, rfl, h⟩
    | succ i => simp at e; obtain ⟨x, a, b⟩ := ih e; exact ⟨x, by simpa using a, b⟩
theorem Slot.cont_mono {s : Slot K} {Hk Hk' : Hp} {o : HO} (x : Ex Hk Hk') (h : s.cont Hk o) : s.cont Hk' o := by
  cases s with
  | un => exact h
  | d e a => exact h
  | l e as => obtain ⟨xs, h1, h2, h3⟩ := h; exact ⟨xs, h1, h2.imp fun _ _ h => e.mono x h, h3⟩
  | m M b => exact M.mono x h
  | i C fs => obtain ⟨dx, vs, h1, h2⟩ := h; exact ⟨dx, vs, h1, h2.imp fun _ q h => ⟨h.1, q.2.e.mono x h.2⟩⟩
theorem Slot.okM_step {s : Slot K} {Hk H Hk' H' : Hp} {p : Addr} (m : s.isM = true) (x : Ex Hk Hk') (hk : Hk' p = none) (hh : ∀ o, H p = some o → H' p = some o) (h : s.ok Hk H (some (.ref p))) : s.ok Hk' H' (some (.ref p)) := by
  obtain ⟨q, o, e, h1, h2, h3⟩ := (Slot.okM m).mp h
  cases e
  exact (Slot.okM m).mpr ⟨p, o, rfl, hk, hh o h2, Slot.cont_mono x h3⟩
theorem Slot.okM_ref {s : Slot K} {Hk H : Hp} {v : Option V} (m : s.isM = true) (h : s.ok Hk H v) : ∃ p o, v = some (.ref p) ∧ Hk p = none ∧ H p = some o := by
  obtain ⟨q, o, e, h1, h2, h3⟩ := (Slot.okM m).mp h
  exact ⟨q, o, e, h1, h2⟩
abbrev Env (K : PySem.W.Frag) := List (Slot K)
def isMAt (ρ : Env K) (j : Nat) : Bool := match ρ[j]? with
  | some s => s.isM
  | none => false

structure Ent where
  H0 : Hp
  K0 : Hp
  lent : Option Addr

structure Ok (c : Ent) (Hk H : Hp) (σ : List (Option V)) (ρ : Env K) : Prop where
  ex : Ex Hk H
  k0 : Ex c.K0 Hk
  fr : ∀ (a : Addr) (o : HO), c.H0 a = some o → c.lent ≠ some a → H a = some o
  nw : ∀ (a : Addr) (o : HO), Hk a = some o → c.K0 a = some o ∨ c.H0 a = none
  th : ∀ a : Addr, H a = none → c.H0 a = none
  len : σ.length = ρ.length
  sl : ∀ (i : Nat) (s : Slot K), ρ[i]? = some s → ∃ v, σ[i]? = some v ∧ s.ok Hk H v
  sep : ∀ (i j : Nat) (s s' : Slot K) (p : Addr), i ≠ j → ρ[i]? = some s → ρ[j]? = some s' → s.isM = true → s'.isM = true → σ[i]? = some (some (V.ref p)) → σ[j]? ≠ some (some (V.ref p))
  own : ∀ (i : Nat) (s : Slot K) (p : Addr), ρ[i]? = some s → s.isM = true → σ[i]? = some (some (V.ref p)) → c.H0 p = none ∨ c.lent = some p
  lv : ∀ p : Addr, c.lent = some p → σ[0]? = some (some (V.ref p)) ∧ ∃ s : Slot K, ρ[0]? = some s ∧ s.isM = true

variable {c : Ent} {Hk H Hk' H' : Hp} {σ : List (Option V)} {ρ ρ' ρ1 ρ2 ρ3 : Env K}

/-- what an expression may do: more is known, nothing but the mutable slots' objects is changed, no slot becomes mutable -/
structure Nxt (σ : List (Option V)) (ρ ρ' : Env K) (Hk H Hk' H' : Hp) : Prop where
  ex : Ex Hk Hk'
  fr : ∀ (a : Addr) (o : HO), H a = some o → (∀ (i : Nat) (s : Slot K), ρ[i]? = some s → s.isM = true → σ[i]? ≠ some (some (V.ref a))) → H' a = some o
  sub : ∀ (i : Nat) (s : Slot K), ρ'[i]? = some s → s.isM = true → ∃ s' : Slot K, ρ[i]? = some s' ∧ s'.isM = true
  nw : ∀ (a : Addr) (o : HO), Hk' a = some o → Hk a = some o ∨ H a = none ∨ ∃ (i : Nat) (s : Slot K), ρ[i]? = some s ∧ s.isM = true ∧ σ[i]? = some (some (V.ref a))
  th : ∀ a : Addr, H' a = none → H a = none
theorem Nxt.refl : Nxt σ ρ ρ Hk H Hk H := ⟨Ex.refl _, fun _ _ h _ => h, fun i s h m => ⟨s, h, m⟩, fun _ _ h => .inl h, fun _ h => h⟩
theorem Nxt.trans {Hk1 H1 Hk2 H2 : Hp} (a : Nxt σ ρ ρ1 Hk H Hk1 H1) (b : Nxt σ ρ1 ρ2 Hk1 H1 Hk2 H2) : Nxt σ ρ ρ2 Hk H Hk2 H2 :=
  ⟨a.ex.trans b.ex, fun p o h n => b.fr p o (a.fr p o h n) fun i s e m => let ⟨s', e', m'⟩ := a.sub i s e m; n i s' e' m', fun i s e m => let ⟨s', e', m'⟩ := b.sub i s e m; a.sub i s' e' m',
   fun p o h => by
    rcases b.nw p o h with z | z | ⟨i, s, z1, z2, z3⟩
    · exact a.nw p o z
    · exact .inr (.inl (a.th p z))
    · obtain ⟨s', e', m'⟩ := a.sub i s z1 z2
      exact .inr (.inr ⟨i, s', e', m', z3⟩), fun p h => a.th p (b.th p h)⟩
theorem Nxt.of (x : Ex Hk Hk') (y : Ex H H') (n : ∀ (a : Addr) (o : HO), Hk' a = some o → Hk a = some o ∨ H a = none) : Nxt σ ρ ρ Hk H Hk' H' :=
  ⟨x, fun a o h _ => y a o h, fun i s h m => ⟨s, h, m⟩, fun a o h => (n a o h).imp id .inl, fun a h => y.none h⟩
theorem Slot.ok_ext {s : Slot K} {v : Option V} (h : s.ok Hk H v) (eh : Ex H H') (ek : Ex Hk Hk') (n : ∀ a o, Hk' a = some o → Hk a = some o ∨ H a = none) : s.ok Hk' H' v := by
  cases m : s.isM with
  | false => exact Slot.okD m ek h
  | true =>
    obtain ⟨p, o, rfl, h2, h3⟩ := Slot.okM_ref m h
    refine Slot.okM_step m ek ?_ (fun o h => eh _ _ h) h
    cases q : Hk' p with
    | none => rfl
    | some o => rcases n p o q with z | z
                · rw [h2] at z; cases z
                · rw [h3] at z; cases z
/-- more objects, more known -/
theorem Ok.ext (k : Ok c Hk H σ ρ) (e : Ex H H') (ek : Ex Hk Hk') (x : Ex Hk' H') (n : ∀ a o, Hk' a = some o → Hk a = some o ∨ H a = none) : Ok c Hk' H' σ ρ where
  ex := x
  k0 := k.k0.trans ek
  fr := fun a o h l => e _ _ (k.fr a o h l)
  nw := fun a o h => (n a o h).elim (k.nw a o) fun h => .inr (k.th a h)
  th := fun a h => k.th a (e.none h)
  len := k.len
  sl := fun i s h => let ⟨v, a, b⟩ := k.sl i s h; ⟨v, a, Slot.ok_ext b e ek n⟩
  sep := k.sep
  own := k.own
  lv := k.lv
theorem Ok.new (k : Ok c Hk H σ ρ) {p : Addr} {o : HO} (h : H p = none) : Ok c (upd Hk p o) (upd H p o) σ ρ ∧ Nxt σ ρ ρ Hk H (upd Hk p o) (upd H p o) := by
  have hk : Hk p = none := k.ex.none h
  refine ⟨k.ext (Ex.new h) (Ex.new hk) (fun a u e => ?_) (fun a u e => ?_), Nxt.of (Ex.new hk) (Ex.new h) fun a u e => ?_⟩
  · by_cases q : a = p
    · subst q; rw [upd_same] at e ⊢; exact e
    · rw [upd_ne q] at e ⊢; exact k.ex _ _ e
  · by_cases q : a = p
    · subst q; exact .inr h
    · rw [upd_ne q] at e; exact .inl e
  · by_cases q : a = p
    · subst q; exact .inr h
    · rw [upd_ne q] at e; exact .inl e
/-- a new object that is not counted as known -/
theorem Ok.newU (k : Ok c Hk H σ ρ) {p : Addr} {o : HO} (h : H p = none) : Ok c Hk (upd H p o) σ ρ :=
  k.ext (Ex.new h) (Ex.refl _) (k.ex.trans (Ex.new h)) fun a u e => .inl e
theorem Ok.slot (k : Ok c Hk H σ ρ) {i : Nat} {s : Slot K} (h : ρ[i]? = some s) : ∃ v, σ[i]? = some v ∧ s.ok Hk H v := k.sl i s h
theorem Ok.var (k : Ok c Hk H σ ρ) {i : Nat} {α : Type} {e : Enc K α} {a : α} (h : ρ[i]? = some (.d e a)) : ∃ v, σ[i]? = some (some v) ∧ e.rep Hk v a := by
  obtain ⟨v, h1, u, h2, h3⟩ := k.sl i _ h
  subst h2; exact ⟨u, h1, h3⟩
/-- a fresh address is in no mutable slot -/
theorem Ok.apart (k : Ok c Hk H σ ρ) {p : Addr} (h : H p = none) {i : Nat} {s : Slot K} (hi : ρ[i]? = some s) (hm : s.isM = true) : σ[i]? ≠ some (some (V.ref p)) := by
  obtain ⟨v, h1, h2⟩ := k.sl i s hi
  intro e
  rw [h1] at e; cases e
  obtain ⟨q, o, e1, _, e2⟩ := Slot.okM_ref hm h2
  cases e1; rw [h] at e2; cases e2

/-- a name is stored -/
theorem Ok.set (k : Ok c Hk H σ ρ) {j : Nat} {s : Slot K} {v : V} (hj : isMAt ρ j = false) (hs : s.ok Hk H (some v))
    (hf : s.isM = true → ∀ p, v = .ref p → (c.H0 p = none) ∧ ∀ (i : Nat) (t : Slot K), ρ[i]? = some t → t.isM = true → σ[i]? ≠ some (some (V.ref p))) : Ok c Hk H (σ.set j (some v)) (ρ.set j s) := by
  have hm : ∀ t : Slot K, ρ[j]? = some t → t.isM = false := fun t e => by unfold isMAt at hj; rw [e] at hj; exact hj
  refine ⟨k.ex, k.k0, k.fr, k.nw, k.th, by simp [k.len], fun i t h => ?_, fun i i' t t' p ne h h' m m' e e' => ?_, fun i t p h m e => ?_, fun p h => ?_⟩
  · by_cases q : j = i
    · subst q
      by_cases lt : j < ρ.length
      · rw [List.getElem?_set_self lt] at h; cases h
        exact ⟨some v, by rw [List.getElem?_set_self (by rw [k.len]; exact lt)], hs⟩
      · rw [List.getElem?_eq_none (by simpa using lt)] at h; cases h
    · rw [List.getElem?_set_ne q] at h
      rw [List.getElem?_set_ne q]
      exact k.sl i t h
  · by_cases q : j = i
    · subst q
      have ne' : ¬ j = i' := ne
      rw [List.getElem?_set_ne ne'] at h' e'
      by_cases lt : j < ρ.length
      · rw [List.getElem?_set_self lt] at h; cases h
        rw [List.getElem?_set_self (by rw [k.len]; exact lt)] at e; cases e
        exact (hf m p rfl).2 i' t' h' m' e'
      · rw [List.getElem?_eq_none (by simpa using lt)] at h; cases h
    · rw [List.getElem?_set_ne q] at h e
      by_cases q' : j = i'
      · subst q'
        by_cases lt : j < ρ.length
        · rw [List.getElem?_set_self lt] at h'; cases h'
          rw [List.getElem?_set_self (by rw [k.len]; exact lt)] at e'; cases e'
          exact (hf m' p rfl).2 i t h m e
        · rw [List.getElem?_eq_none (by simpa using lt)] at h'; cases h'
      · rw [List.getElem?_set_ne q'] at h' e'
        exact k.sep i i' t t' p ne h h' m m' e e'
  · by_cases q : j = i
    · subst q
      by_cases lt : j < ρ.length
      · rw [List.getElem?_set_self lt] at h; cases h
        rw [List.getElem?_set_self (by rw [k.len]; exact lt)] at e; cases e
        exact .inl (hf m p rfl).1
      · rw [List.getElem?_eq_none (by simpa using lt)] at h; cases h
    · rw [List.getElem?_set_ne q] at h e
      exact k.own i t p h m e
  · obtain ⟨h1, t, h2, h3⟩ := k.lv p h
    have q : ¬ j = 0 := fun q => by subst q; rw [hm t h2] at h3; cases h3
    rw [List.getElem?_set_ne q, List.getElem?_set_ne q]
    exact ⟨h1, t, h2, h3⟩
/-- a mutable slot but the first may be dropped -/
def okSet (ρ : Env K) (j : Nat) : Bool := !(isMAt ρ j && j == 0)
theorem Ok.setX (k : Ok c Hk H σ ρ) {j : Nat} {s : Slot K} {v : V} (hj : okSet ρ j = true) (hs : s.ok Hk H (some v))
    (hf : s.isM = true → ∀ p, v = .ref p → (c.H0 p = none) ∧ ∀ (i : Nat) (t : Slot K), ρ[i]? = some t → t.isM = true → σ[i]? ≠ some (some (V.ref p))) : Ok c Hk H (σ.set j (some v)) (ρ.set j s) := by
  by_cases hm : isMAt ρ j = false
  · exact k.set hm hs hf
  · have hm : isMAt ρ j = true := by cases h : isMAt ρ j <;> simp_all
    have j0 : j ≠ 0 := fun z => by
      unfold okSet at hj
      rw [hm, z] at hj; cases hj
    have f : ∀ (i : Nat) (t : Slot K), (ρ.set j .un)[i]? = some t → t.isM = true → ρ[i]? = some t ∧ j ≠ i := fun i t h m => by
      by_cases q : j = i
      · subst q
        by_cases lt : j < ρ.length
        · rw [List.getElem?_set_self lt] at h; cases h; cases m
        · rw [List.getElem?_eq_none (by simpa using lt)] at h; cases h
      · rw [List.getElem?_set_ne q] at h; exact ⟨h, q⟩
    have k2 : Ok c Hk H σ (ρ.set j .un) := by
      refine ⟨k.ex, k.k0, k.fr, k.nw, k.th, by simp [k.len], fun i t h => ?_, fun i i' t t' p ne h h' m m' e => ?_, fun i t p h m e => ?_, fun p h => ?_⟩
      · by_cases q : j = i
        · subst q
          have lt : j < ρ.length := by
            have := (List.getElem?_eq_some_iff.mp h).1
            simpa using this
          rw [List.getElem?_set_self lt] at h; cases h
          exact ⟨_, List.getElem?_eq_getElem (by rw [k.len]; exact lt), trivial⟩
        · rw [List.getElem?_set_ne q] at h; exact k.sl i t h
      · exact k.sep i i' t t' p ne (f i t h m).1 (f i' t' h' m').1 m m' e
      · exact k.own i t p (f i t h m).1 m e
      · obtain ⟨a, t, b, d⟩ := k.lv p h
        exact ⟨a, t, by rw [List.getElem?_set_ne j0]; exact b, d⟩
    have e : (ρ.set j .un).set j s = ρ.set j s := List.set_set ..
    rw [← e]
    refine k2.set ?_ hs fun m p e => ⟨(hf m p e).1, fun i t h m' => (hf m p e).2 i t (f i t h m').1 m'⟩
    unfold isMAt
    by_cases lt : j < ρ.length
    · rw [List.getElem?_set_self lt]; rfl
    · rw [List.getElem?_eq_none (by simpa using lt)]
theorem Ok.setD (k : Ok c Hk H σ ρ) {j : Nat} {α : Type} {e : Enc K α} {a : α} {v : V} (hj : isMAt ρ j = false) (hv : e.rep Hk v a) : Ok c Hk H (σ.set j (some v)) (ρ.set j (.d e a)) :=
  k.set hj ⟨v, rfl, hv⟩ fun h => nomatch h

/-! ### forgetting -/
def WeakL : Env K → Env K → Prop
  | [], [] => True
  | s :: r, s' :: r' => (s' = s ∨ s' = .un) ∧ WeakL r r'
  | _, _ => False
def Weak : Env K → Env K → Prop
  | [], [] => True
  | s :: r, s' :: r' => (s' = s ∨ (s' = .un ∧ s.isM = false)) ∧ WeakL r r'
  | _, _ => False
theorem WeakL.at : ∀ {ρ ρ' : Env K}, WeakL ρ ρ' → ρ.length = ρ'.length ∧ ∀ (i : Nat) (s : Slot K), ρ'[i]? = some s → ρ[i]? = some s ∨ s = .un
  | [], [], _ => ⟨rfl, fun i s h => by simp at h⟩
  | s :: r, s' :: r', ⟨h, t⟩ => by
    obtain ⟨a, b⟩ := WeakL.at t
    refine ⟨by simp [a], fun i u e => ?_⟩
    cases i with
    | zero => simp at e; subst e; rcases h with h | h
              · exact .inl (by simp [h])
              · exact .inr h
    | succ i => simp at e; rcases b i u e with z | z
                · exact .inl (by simpa using z)
                · exact .inr z
theorem Weak.at : ∀ {ρ ρ' : Env K}, Weak ρ ρ' → ρ.length = ρ'.length ∧ (∀ (i : Nat) (s : Slot K), ρ'[i]? = some s → ρ[i]? = some s ∨ s = .un) ∧ ∀ s : Slot K, ρ[0]? = some s → s.isM = true → ρ'[0]? = some s
  | [], [], _ => ⟨rfl, fun i s h => by simp at h, fun s h => by simp at h⟩
  | s :: r, s' :: r', ⟨h, t⟩ => by
    obtain ⟨a, b⟩ := WeakL.at t
    refine ⟨by simp [a], fun i u e => ?_, fun u e m => ?_⟩
    · cases i with
      | zero => simp at e; subst e; rcases h with h | h
                · exact .inl (by simp [h])
                · exact .inr h.1
      | succ i => simp at e; rcases b i u e with z | z
                  · exact .inl (by simpa using z)
                  · exact .inr z
    · simp at e; subst e
      rcases h with h | h
      · simp [h]
      · rw [m] at h; cases h.2
theorem Ok.weak (k : Ok c Hk H σ ρ) (h : Weak ρ ρ') : Ok c Hk H σ ρ' := by
  obtain ⟨l, a, z⟩ := h.at
  refine ⟨k.ex, k.k0, k.fr, k.nw, k.th, k.len.trans l, fun i s e => ?_, fun i j s s' p ne e e' m m' => ?_, fun i s p e m => ?_, fun p e => ?_⟩
  · rcases a i s e with q | q
    · exact k.sl i s q
    · have lt : i < σ.length := by
        rw [k.len, l]; exact (List.getElem?_eq_some_iff.mp e).1
      exact ⟨σ[i], by simp [lt], by subst q; trivial⟩
  · have f : ∀ (i : Nat) (s : Slot K), ρ'[i]? = some s → s.isM = true → ρ[i]? = some s := fun i s e m => (a i s e).elim id fun q => by subst q; cases m
    exact k.sep i j s s' p ne (f i s e m) (f j s' e' m') m m'
  · have f : ∀ (i : Nat) (s : Slot K), ρ'[i]? = some s → s.isM = true → ρ[i]? = some s := fun i s e m => (a i s e).elim id fun q => by subst q; cases m
    exact k.own i s p (f i s e m) m
  · obtain ⟨h1, s, h2, h3⟩ := k.lv p e
    exact ⟨h1, s, z s h2 h3, h3⟩

/-- a list of one's own becomes data -/
theorem Ok.frz (k : Ok c Hk H σ ρ) {i : Nat} {α : Type} {e : Enc K α} {as : List α} (h : ρ[i]? = some (.l e as)) (h0 : i ≠ 0) :
    ∃ Hk' p, Ok c Hk' H σ (ρ.set i (.d (eL e) as)) ∧ Ex Hk Hk' ∧ σ[i]? = some (some (V.ref p)) ∧ (eL e).rep Hk' (.ref p) as ∧ ∀ a o, a ≠ p → Hk' a = some o → Hk a = some o := by
  obtain ⟨v, hv, p, o, e1, e2, e3, xs, rfl, e4, e5⟩ := k.sl i _ h
  subst e1
  have fr : c.H0 p = none := by
    rcases k.own i _ p h rfl hv with q | q
    · exact q
    · obtain ⟨q1, s, q2, q3⟩ := k.lv p q
      exact absurd q1 (k.sep i 0 _ s p h0 h q2 rfl q3 hv)
  have x : Ex Hk (upd Hk p (.lst xs)) := Ex.new e2
  have rp : (eL e).rep (upd Hk p (.lst xs)) (.ref p) as := ⟨p, xs, rfl, SqL.of upd_same, e4.imp fun _ _ h => e.mono x h, e5⟩
  have f : ∀ (j : Nat) (s : Slot K), (ρ.set i (.d (eL e) as))[j]? = some s → s.isM = true → ρ[j]? = some s := fun j s q m => by
    by_cases z : i = j
    · subst z
      rw [List.getElem?_set_self (List.getElem?_eq_some_iff.mp h).1] at q; cases q; cases m
    · rw [List.getElem?_set_ne z] at q; exact q
  refine ⟨upd Hk p (.lst xs), p, ⟨fun a o q => ?_, k.k0.trans x, k.fr, fun a o q => ?_, k.th, by simp [k.len], fun j s q => ?_, fun j j' s s' p' ne q q' m m' => k.sep j j' s s' p' ne (f _ _ q m) (f _ _ q' m') m m', fun j s p' q m => k.own j s p' (f _ _ q m) m, fun p' q => ?_⟩, x, hv, rp, fun a o n h => by rw [upd_ne n] at h; exact h⟩
  · by_cases z : a = p
    · subst z; rw [upd_same] at q; rw [e3, q]
    · rw [upd_ne z] at q; exact k.ex _ _ q
  · by_cases z : a = p
    · subst z; exact .inr fr
    · rw [upd_ne z] at q; exact k.nw _ _ q
  · by_cases z : i = j
    · subst z
      rw [List.getElem?_set_self (List.getElem?_eq_some_iff.mp h).1] at q; cases q
      exact ⟨_, hv, .ref p, rfl, rp⟩
    · rw [List.getElem?_set_ne z] at q
      obtain ⟨w, w1, w2⟩ := k.sl j s q
      refine ⟨w, w1, ?_⟩
      cases m : s.isM with
      | false => exact Slot.okD m x w2
      | true =>
        obtain ⟨p', o', rfl, a2, a3⟩ := Slot.okM_ref m w2
        refine Slot.okM_step m x ?_ (fun _ h => h) w2
        rw [upd_ne (fun ep => by subst ep; exact k.sep i j _ s p' z h q rfl m hv w1)]
        exact a2
  · obtain ⟨q1, s, q2, q3⟩ := k.lv p' q
    exact ⟨q1, s, by rw [List.getElem?_set_ne h0]; exact q2, q3⟩

/-- the object of a mutable slot is changed -/
theorem Ok.mutate (k : Ok c Hk H σ ρ) {i : Nat} {s s' : Slot K} {p : Addr} {o : HO} (h : ρ[i]? = some s) (m : s.isM = true) (m' : s'.isM = true) (hv : σ[i]? = some (some (V.ref p)))
    (hs : s'.cont Hk o) : Ok c Hk (upd H p o) σ (ρ.set i s') := by
  obtain ⟨hk, u, hu⟩ : Hk p = none ∧ ∃ u, H p = some u := by
    obtain ⟨v, a1, a2⟩ := k.sl i s h
    rw [hv] at a1; cases a1
    obtain ⟨q, xs, e1, e2, e3⟩ := Slot.okM_ref m a2
    cases e1; exact ⟨e2, _, e3⟩
  have f : ∀ (j : Nat) (t : Slot K), (ρ.set i s')[j]? = some t → t.isM = true → ∃ t' : Slot K, ρ[j]? = some t' ∧ t'.isM = true := fun j t q mt => by
    by_cases z : i = j
    · subst z; exact ⟨s, h, m⟩
    · rw [List.getElem?_set_ne z] at q; exact ⟨t, q, mt⟩
  refine ⟨fun a w q => ?_, k.k0, fun a w q l => ?_, k.nw, fun a q => ?_, by simp [k.len], fun j t q => ?_, fun j j' t t' p' ne q q' mt mt' => ?_, fun j t p' q mt => ?_, fun p' q => ?_⟩
  · rw [upd_ne (fun z => by subst z; rw [hk] at q; cases q)]; exact k.ex _ _ q
  · have np : a ≠ p := fun z => by
      subst z
      rcases k.own i s a h m hv with y | y
      · rw [y] at q; cases q
      · exact l y
    rw [upd_ne np]; exact k.fr _ _ q l
  · by_cases z : a = p
    · subst z; rw [upd_same] at q; cases q
    · rw [upd_ne z] at q; exact k.th _ q
  · by_cases z : i = j
    · subst z
      rw [List.getElem?_set_self (List.getElem?_eq_some_iff.mp h).1] at q; cases q
      exact ⟨_, hv, (Slot.okM m').mpr ⟨p, o, rfl, hk, upd_same, hs⟩⟩
    · rw [List.getElem?_set_ne z] at q
      obtain ⟨w, w1, w2⟩ := k.sl j t q
      refine ⟨w, w1, ?_⟩
      cases mt : t.isM with
      | false => exact Slot.okD mt (Ex.refl _) w2
      | true =>
        obtain ⟨p', o', rfl, a2, a3⟩ := Slot.okM_ref mt w2
        refine Slot.okM_step mt (Ex.refl _) a2 (fun o h' => ?_) w2
        rw [upd_ne (fun ep => by subst ep; exact k.sep i j _ t p' z h q m mt hv w1)]
        exact h'
  · obtain ⟨u, u1, u2⟩ := f _ _ q mt
    obtain ⟨u', u1', u2'⟩ := f _ _ q' mt'
    exact k.sep j j' u u' p' ne u1 u1' u2 u2'
  · obtain ⟨u, u1, u2⟩ := f _ _ q mt
    exact k.own j u p' u1 u2
  · obtain ⟨q1, t, q2, q3⟩ := k.lv p' q
    refine ⟨q1, ?_⟩
    by_cases z : i = 0
    · subst z; exact ⟨s', by rw [List.getElem?_set_self (List.getElem?_eq_some_iff.mp h).1], m'⟩
    · exact ⟨t, by rw [List.getElem?_set_ne z]; exact q2, q3⟩
/-- an object that is neither known nor of a slot is changed -/
theorem Ok.updU (k : Ok c Hk H σ ρ) {p : Addr} {o u : HO} (hk : Hk p = none) (h0 : c.H0 p = none) (hp : H p = some u) (hn : ∀ (i : Nat) (s : Slot K), ρ[i]? = some s → s.isM = true → σ[i]? ≠ some (some (V.ref p))) : Ok c Hk (upd H p o) σ ρ := by
  refine ⟨fun a w q => ?_, k.k0, fun a w q l => ?_, k.nw, fun a q => ?_, k.len, fun j t q => ?_, k.sep, k.own, k.lv⟩
  · rw [upd_ne (fun z => by subst z; rw [hk] at q; cases q)]; exact k.ex _ _ q
  · rw [upd_ne (fun z => by subst z; rw [h0] at q; cases q)]; exact k.fr _ _ q l
  · by_cases z : a = p
    · subst z; rw [upd_same] at q; cases q
    · rw [upd_ne z] at q; exact k.th _ q
  · obtain ⟨w, w1, w2⟩ := k.sl j t q
    refine ⟨w, w1, ?_⟩
    cases mt : t.isM with
    | false => exact Slot.okD mt (Ex.refl _) w2
    | true =>
      obtain ⟨p', o', rfl, a2, a3⟩ := Slot.okM_ref mt w2
      refine Slot.okM_step mt (Ex.refl _) a2 (fun o h' => ?_) w2
      rw [upd_ne (fun ep => by subst ep; exact hn j t q mt w1)]
      exact h'
/-- the object of a mutable slot was changed by a call -/
theorem Ok.callM (k : Ok c Hk H σ ρ) {i : Nat} {s s' : Slot K} {p : Addr} (h : ρ[i]? = some s) (m : s.isM = true) (m' : s'.isM = true) (hv : σ[i]? = some (some (V.ref p)))
    (ex : Ex Hk' H') (k0 : Ex Hk Hk') (fr : ∀ (a : Addr) (o : HO), H a = some o → p ≠ a → H' a = some o) (nw : ∀ (a : Addr) (o : HO), Hk' a = some o → Hk a = some o ∨ H a = none) (th : ∀ a : Addr, H' a = none → H a = none)
    (hs : s'.ok Hk' H' (some (V.ref p))) : Ok c Hk' H' σ (ρ.set i s') ∧ Nxt σ ρ (ρ.set i s') Hk H Hk' H' := by
  have f : ∀ (j : Nat) (t : Slot K), (ρ.set i s')[j]? = some t → t.isM = true → ∃ t' : Slot K, ρ[j]? = some t' ∧ t'.isM = true := fun j t q mt => by
    by_cases z : i = j
    · subst z; exact ⟨s, h, m⟩
    · rw [List.getElem?_set_ne z] at q; exact ⟨t, q, mt⟩
  refine ⟨⟨ex, k.k0.trans k0, fun a w q l => fr _ _ (k.fr _ _ q l) fun z => ?_, fun a o q => (nw a o q).elim (k.nw a o) fun z => .inr (k.th a z), fun a q => k.th a (th a q), by simp [k.len], fun j t q => ?_, fun j j' t t' p' ne q q' mt mt' => ?_, fun j t p' q mt => ?_, fun p' q => ?_⟩,
    ⟨k0, fun a o q n => fr a o q fun z => n i s h m (by rw [← z]; exact hv), f, fun a o q => (nw a o q).imp id .inl, th⟩⟩
  · subst z
    rcases k.own i s p h m hv with y | y
    · rw [y] at q; cases q
    · exact l y
  · by_cases z : i = j
    · subst z
      rw [List.getElem?_set_self (List.getElem?_eq_some_iff.mp h).1] at q; cases q
      exact ⟨_, hv, hs⟩
    · rw [List.getElem?_set_ne z] at q
      obtain ⟨w, w1, w2⟩ := k.sl j t q
      refine ⟨w, w1, ?_⟩
      cases mt : t.isM with
      | false => exact Slot.okD mt k0 w2
      | true =>
        obtain ⟨p', o', rfl, a2, a3⟩ := Slot.okM_ref mt w2
        have np : p ≠ p' := fun ep => by subst ep; exact k.sep i j _ t p z h q m mt hv w1
        refine Slot.okM_step mt k0 ?_ (fun o h' => fr _ _ h' np) w2
        cases y : Hk' p' with
        | none => rfl
        | some o => rcases nw p' o y with z | z
                    · rw [a2] at z; cases z
                    · rw [a3] at z; cases z
  · obtain ⟨u, u1, u2⟩ := f _ _ q mt
    obtain ⟨u', u1', u2'⟩ := f _ _ q' mt'
    exact k.sep j j' u u' p' ne u1 u1' u2 u2'
  · obtain ⟨u, u1, u2⟩ := f _ _ q mt
    exact k.own j u p' u1 u2
  · obtain ⟨q1, t, q2, q3⟩ := k.lv p' q
    refine ⟨q1, ?_⟩
    by_cases z : i = 0
    · subst z; exact ⟨s', by rw [List.getElem?_set_self (List.getElem?_eq_some_iff.mp h).1], m'⟩
    · exact ⟨t, by rw [List.getElem?_set_ne z]; exact q2, q3⟩
end
end FL

/-! FL2: judgements over data: expressions, tests, arguments, statements. -/
namespace FL
open PySem L2

inductive Out (ν lam γ : Type) | nx (t : ν) | ct (t : lam) | bk (t : lam) | rt (r : γ)
def Out.bind {ν μ lam γ : Type} : Out ν lam γ → (ν → Out μ lam γ) → Out μ lam γ
  | .nx t, g => g t
  | .ct t, _ => .ct t
  | .bk t, _ => .bk t
  | .rt r, _ => .rt r
/-- let -/
def lt {α β : Type} (a : α) (f : α → β) : β := f a
/-- a loop's run: nx where it went through, bk where it was left -/
def run {τ α γ : Type} (f : τ → α → Out τ τ γ) : τ → List α → Out τ τ γ
  | t, [] => .nx t
  | t, x :: xs => match f t x with
    | .nx t' => run f t' xs
    | .ct t' => run f t' xs
    | .bk t' => .bk t'
    | .rt r => .rt r
/-- behind a loop -/
def Out.done {τ lam γ : Type} : Out τ τ γ → Out τ lam γ
  | .nx t => .nx t
  | .ct t => .nx t
  | .bk t => .nx t
  | .rt r => .rt r

section
variable {K : PySem.W.Frag}

/-- what a def gives back: data, and what its mutable first parameter holds then -/
structure Ret (K : PySem.W.Frag) (γ : Type) where
  {α : Type}
  e : Enc K α
  val : γ → α
  ls : γ → Option (Slot K)
  /-- a new mutable object in the place of data -/
  nl : γ → Option (Slot K)
abbrev retD {α : Type} (e : Enc K α) : Ret K α := ⟨e, id, fun _ => none, fun _ => none⟩
/-- with the mutable first parameter -/
abbrev retM {α β : Type} (e : Enc K α) (M : MEnc K β) : Ret K (α × β) := ⟨e, Prod.fst, fun r => some (.m M r.2), fun _ => none⟩
/-- a new list -/
abbrev retL {α : Type} (e : Enc K α) : Ret K (List α) := ⟨eL e, id, fun _ => none, fun r => some (.l e r)⟩
abbrev retLM {α β : Type} (e : Enc K α) (M : MEnc K β) : Ret K (List α × β) := ⟨eL e, Prod.fst, fun r => some (.m M r.2), fun r => some (.l e r.1)⟩
/-- a new mutable object -/
abbrev retW {β : Type} (M : MEnc K β) : Ret K β := ⟨eN, fun _ => (), fun _ => none, fun r => some (.m M r)⟩

structure OkR {γ : Type} (c : Ent) (R : Ret K γ) (r : γ) (v : V) (Hk H : Hp) : Prop where
  ex : Ex Hk H
  k0 : Ex c.K0 Hk
  fr : ∀ (a : Addr) (o : HO), c.H0 a = some o → c.lent ≠ some a → H a = some o
  nw : ∀ (a : Addr) (o : HO), Hk a = some o → c.K0 a = some o ∨ c.H0 a = none
  th : ∀ a : Addr, H a = none → c.H0 a = none
  rv : R.nl r = none → R.e.rep Hk v (R.val r)
  nv : ∀ s : Slot K, R.nl r = some s → s.isM = true ∧ s.ok Hk H (some v) ∧ ∀ p, v = V.ref p → c.H0 p = none
  lv : ∀ (p : Addr) (s : Slot K), c.lent = some p → R.ls r = some s → s.ok Hk H (some (V.ref p))

/-! ### judgements -/
def EvD (te : TE) (ρ ρ' : Env K) {α : Type} (e : Enc K α) (a : α) : Prop :=
  ∀ (c : Ent) (σ : List (Option V)) (Hk H : Hp), Ok c Hk H σ ρ → ∀ Q : VK, (∀ v Hk' H', Ok c Hk' H' σ ρ' → Nxt σ ρ ρ' Hk H Hk' H' → e.rep Hk' v a → Q v H') → te σ H Q
/-- a new list -/
def EvN (te : TE) (ρ ρ' : Env K) {α : Type} (e : Enc K α) (as : List α) : Prop :=
  ∀ (c : Ent) (σ : List (Option V)) (Hk H : Hp), Ok c Hk H σ ρ → ∀ Q : VK, (∀ p xs Hk' H', Ok c Hk' H' σ ρ' → Nxt σ ρ ρ' Hk H Hk' H' → Hk' p = none → H' p = some (.lst xs) → All2 (e.rep Hk') xs as → as.length ≤ LM → H p = none → Q (.ref p) H') → te σ H Q
def EvT (tt : TT) (ρ ρ' : Env K) (b : Bool) : Prop :=
  ∀ (c : Ent) (σ : List (Option V)) (Hk H : Hp), Ok c Hk H σ ρ → ∀ Q : Bool → Hp → Prop, (∀ Hk' H', Ok c Hk' H' σ ρ' → Nxt σ ρ ρ' Hk H Hk' H' → Q b H') → tt σ H Q
/-- arguments, all of them data -/
def EvA (ta : TA) (ρ ρ' : Env K) (ds : List (Slot K)) : Prop :=
  ∀ (c : Ent) (σ : List (Option V)) (Hk H : Hp), Ok c Hk H σ ρ → ∀ Q : List V → Hp → Prop, (∀ vs Hk' H', Ok c Hk' H' σ ρ' → Nxt σ ρ ρ' Hk H Hk' H' → All2S (fun v s => s.ok Hk' H' (some v)) vs ds → Q vs H') → ta σ H Q
def XS (ts : TS) (ρ ρ' : Env K) : Prop :=
  ∀ (c : Ent) (σ : List (Option V)) (Hk H : Hp), Ok c Hk H σ ρ → ∀ D : Ends, (∀ σ' Hk' H', Ok c Hk' H' σ' ρ' → Ex Hk Hk' → D.nx σ' H') → ts D σ H
def Out.fin {ν lam γ : Type} (c : Ent) (Hk : Hp) (E : ν → Env K) (L : lam → Env K) (R : Ret K γ) (D : Ends) : Out ν lam γ → Prop
  | .nx t => ∀ σ' Hk' H', Ok c Hk' H' σ' (E t) → Ex Hk Hk' → D.nx σ' H'
  | .ct t => ∀ σ' Hk' H', Ok c Hk' H' σ' (L t) → Ex Hk Hk' → D.ct σ' H'
  | .bk t => ∀ σ' Hk' H', Ok c Hk' H' σ' (L t) → Ex Hk Hk' → D.bk σ' H'
  | .rt r => ∀ v Hk' H', OkR c R r v Hk' H' → D.rt v H'
def XB (ts : TS) (ρ : Env K) {ν lam γ : Type} (E : ν → Env K) (L : lam → Env K) (R : Ret K γ) (o : Out ν lam γ) : Prop :=
  ∀ (c : Ent) (σ : List (Option V)) (Hk H : Hp), Ok c Hk H σ ρ → ∀ D : Ends, o.fin c Hk E L R D → ts D σ H

variable {ρ ρ' ρ1 ρ2 ρ3 : Env K} {α β : Type} {e : Enc K α} {ta tb te tc : TE} {tt tu tw : TT} {r : R2}

/-- a new mutable object -/
def EvW (te : TE) (ρ ρ' : Env K) (s : Slot K) : Prop :=
  ∀ (c : Ent) (σ : List (Option V)) (Hk H : Hp), Ok c Hk H σ ρ → ∀ Q : VK, (∀ p Hk' H', Ok c Hk' H' σ ρ' → Nxt σ ρ ρ' Hk H Hk' H' → s.ok Hk' H' (some (V.ref p)) → H p = none → Q (.ref p) H') → te σ H Q
theorem EvN.w {as : List α} (h : EvN te ρ ρ' e as) : EvW te ρ ρ' (.l e as) := fun c σ Hk H k Q q => h c σ Hk H k Q fun p xs Hk' H' k' x hn hp ha hl hH => q p Hk' H' k' x ⟨p, _, rfl, hn, hp, xs, rfl, ha, hl⟩ hH
theorem EvW.n {as : List α} (h : EvW te ρ ρ' (.l e as)) : EvN te ρ ρ' e as := fun c σ Hk H k Q q => h c σ Hk H k Q fun p Hk' H' k' x ⟨p', o, e1, e2, e3, xs, e4, e5, e6⟩ hH => by
  cases e1; subst e4
  exact q p xs Hk' H' k' x e2 e3 e5 e6 hH
theorem EvN.d {as : List α} (h : EvN te ρ ρ' e as) : EvD te ρ ρ' (eL e) as := fun c σ Hk H k Q q => h c σ Hk H k Q fun p xs Hk' H' k' x hn hp ha hl hH => by
  have y : Ex Hk' (upd Hk' p (.lst xs)) := Ex.new hn
  have h0 : c.H0 p = none := k.th p hH
  have hs : ∀ (i : Nat) (s : Slot K), ρ'[i]? = some s → s.isM = true → σ[i]? ≠ some (some (V.ref p)) := fun i s z m => let ⟨s', e', m'⟩ := x.sub i s z m; k.apart hH e' m'
  refine q _ (upd Hk' p (.lst xs)) H' ⟨fun a o z => ?_, k'.k0.trans y, k'.fr, fun a o z => ?_, k'.th, k'.len, fun i s z => ?_, k'.sep, k'.own, k'.lv⟩ ⟨x.ex.trans y, x.fr, x.sub, fun a o z => ?_, x.th⟩ ⟨p, xs, rfl, SqL.of upd_same, ha.imp fun _ _ h => e.mono y h, hl⟩
  · by_cases w : a = p
    · subst w; rw [upd_same] at z; rw [hp, z]
    · rw [upd_ne w] at z; exact k'.ex _ _ z
  · by_cases w : a = p
    · subst w; exact .inr h0
    · rw [upd_ne w] at z; exact k'.nw _ _ z
  · obtain ⟨w, w1, w2⟩ := k'.sl i s z
    refine ⟨w, w1, ?_⟩
    cases m : s.isM with
    | false => exact Slot.okD m y w2
    | true =>
      obtain ⟨p', o', rfl, a2, a3⟩ := Slot.okM_ref m w2
      refine Slot.okM_step m y ?_ (fun _ h => h) w2
      rw [upd_ne (fun ep => by subst ep; exact hs i s z m w1)]
      exact a2
  · by_cases w : a = p
    · subst w; exact .inr (.inl hH)
    · rw [upd_ne w] at z; exact x.nw _ _ z

/-! ### expressions -/
theorem ev_var {i : Nat} {a : α} (h : ρ[i]? = some (.d e a)) : EvD (tVar i) ρ ρ e a := fun c σ Hk H k Q q => by
  obtain ⟨v, h1, h2⟩ := k.var h
  exact ⟨v, h1, q v Hk H k Nxt.refl h2⟩
/-- a list of one's own is given away -/
theorem ev_give {i : Nat} {as : List α} (h : ρ[i]? = some (.l e as)) (h0 : i ≠ 0) : EvD (tVar i) ρ (ρ.set i (.d (eL e) as)) (eL e) as := fun c σ Hk H k Q q => by
  obtain ⟨Hk', p, k', x, hv, hr, hn⟩ := k.frz h h0
  exact ⟨_, hv, q _ Hk' H k' ⟨x, fun _ _ h _ => h, fun j s z m => by
    by_cases w : i = j
    · subst w; exact ⟨_, h, rfl⟩
    · rw [List.getElem?_set_ne w] at z; exact ⟨s, z, m⟩, fun a o z => by
    by_cases w : a = p
    · subst w; exact .inr (.inr ⟨i, _, h, rfl, hv⟩)
    · exact .inl (hn a o w z), fun _ h => h⟩ hr⟩
theorem ev_c {v : V} {a : α} (h : ∀ H, e.rep H v a) : EvD (tC v) ρ ρ e a := fun c σ Hk H k Q q => q v Hk H k Nxt.refl (h _)
theorem ev_int {i : Int} : EvD (tC (.int i)) ρ ρ eI i := ev_c fun _ => rfl
theorem ev_bl {b : Bool} : EvD (tC (.bl b)) ρ ρ eB b := ev_c fun _ => rfl
theorem ev_str {x : Str} : EvD (tC (.str x)) ρ ρ eS x := ev_c fun _ => rfl
theorem ev_non : EvD (tC .non) ρ ρ eN () := ev_c fun _ => rfl
theorem ev_none : EvD (tC .non) ρ ρ (eO e) none := ev_c fun _ => rfl
theorem ev_some {a : α} (h : EvD te ρ ρ' e a) : EvD te ρ ρ' (eO e) (some a) := h
theorem ev_eq {a b : α} (h : EvD te ρ ρ' e a) (q : a = b) : EvD te ρ ρ' e b := q ▸ h
theorem et_eq {a b : Bool} (h : EvT tt ρ ρ' a) (q : a = b) : EvT tt ρ ρ' b := q ▸ h
theorem ev_LQ {as : List α} (h : EvD te ρ ρ' (eL e) as) : EvD te ρ ρ' (eQ e) as := fun c σ Hk H k Q q => h c σ Hk H k Q fun v Hk' H' k' x r => q v Hk' H' k' x (.inl r)
theorem ev_TQ {as : List α} (h : EvD te ρ ρ' (eT e) as) : EvD te ρ ρ' (eQ e) as := fun c σ Hk H k Q q => h c σ Hk H k Q fun v Hk' H' k' x r => q v Hk' H' k' x (.inr r)

/-- an operation on two data that hangs on no heap -/
theorem ev_bin {γ : Type} {f : Enc K β} {g : Enc K γ} {a : α} {b : β} {z : γ} (ha : EvD ta ρ ρ1 e a) (hb : EvD tb ρ1 ρ2 f b)
    (hr : ∀ (c : Ent) (σ : List (Option V)) (Hk H : Hp) (x y : V), Ok c Hk H σ ρ2 → e.rep Hk x a → f.rep Hk y b → ∀ Q : VK, (∀ v Hk' H', Ok c Hk' H' σ ρ2 → Nxt σ ρ2 ρ2 Hk H Hk' H' → g.rep Hk' v z → Q v H') → r x y H Q) : EvD (tOp r ta tb) ρ ρ2 g z :=
  fun c σ Hk H k Q q => ha c σ Hk H k _ fun x Hk1 H1 k1 x1 r1 => hb c σ Hk1 H1 k1 _ fun y Hk2 H2 k2 x2 r2 =>
    hr c σ Hk2 H2 x y k2 (e.mono x2.ex r1) r2 Q fun v Hk3 H3 k3 x3 r3 => q v Hk3 H3 k3 ((x1.trans x2).trans x3) r3
theorem ev_I0 {g : Int → Int → Int} {a b : Int} (ha : EvD ta ρ ρ1 eI a) (hb : EvD tb ρ1 ρ2 eI b) : EvD (tOp (rI0 fun i j => .int (g i j)) ta tb) ρ ρ2 eI (g a b) :=
  ev_bin ha hb fun c σ Hk H x y k r1 r2 Q q => ⟨a, b, r1, r2, q _ Hk H k Nxt.refl rfl⟩
theorem ev_IB {g : Int → Int → Bool} {a b : Int} (ha : EvD ta ρ ρ1 eI a) (hb : EvD tb ρ1 ρ2 eI b) : EvD (tOp (rI0 fun i j => .bl (g i j)) ta tb) ρ ρ2 eB (g a b) :=
  ev_bin ha hb fun c σ Hk H x y k r1 r2 Q q => ⟨a, b, r1, r2, q _ Hk H k Nxt.refl rfl⟩
theorem ev_I {C : Int → Int → Prop} {g : Int → Int → Int} {a b : Int} (ha : EvD ta ρ ρ1 eI a) (hb : EvD tb ρ1 ρ2 eI b) (hc : C a b) : EvD (tOp (rI C fun i j => .int (g i j)) ta tb) ρ ρ2 eI (g a b) :=
  ev_bin ha hb fun c σ Hk H x y k r1 r2 Q q => ⟨a, b, r1, r2, hc, q _ Hk H k Nxt.refl rfl⟩
theorem ev_un {g : Int → Int} {a : Int} (ha : EvD ta ρ ρ1 eI a) : EvD (tUn (rU fun i => .int (g i)) ta) ρ ρ1 eI (g a) :=
  fun c σ Hk H k Q q => ha c σ Hk H k _ fun x Hk1 H1 k1 x1 r1 => ⟨a, r1, q _ Hk1 H1 k1 x1 rfl⟩
theorem ev_eqI {a b : Int} (ha : EvD ta ρ ρ1 eI a) (hb : EvD tb ρ1 ρ2 eI b) : EvD (tOp rEq ta tb) ρ ρ2 eB (decide (a = b)) :=
  ev_bin ha hb fun c σ Hk H x y k r1 r2 Q q => by
    have r1 : x = .int a := r1
    have r2 : y = .int b := r2
    subst r1; subst r2
    refine ⟨rfl, q _ Hk H k Nxt.refl ?_⟩
    show V.bl _ = V.bl _
    congr 1; simp
theorem ev_neI {a b : Int} (ha : EvD ta ρ ρ1 eI a) (hb : EvD tb ρ1 ρ2 eI b) : EvD (tOp rNe ta tb) ρ ρ2 eB (!decide (a = b)) :=
  ev_bin ha hb fun c σ Hk H x y k r1 r2 Q q => by
    have r1 : x = .int a := r1
    have r2 : y = .int b := r2
    subst r1; subst r2
    refine ⟨rfl, q _ Hk H k Nxt.refl ?_⟩
    show V.bl _ = V.bl _
    congr 2; simp
theorem ev_eqB {a b : Bool} (ha : EvD ta ρ ρ1 eB a) (hb : EvD tb ρ1 ρ2 eB b) : EvD (tOp rEq ta tb) ρ ρ2 eB (decide (a = b)) :=
  ev_bin ha hb fun c σ Hk H x y k r1 r2 Q q => by
    have r1 : x = .bl a := r1
    have r2 : y = .bl b := r2
    subst r1; subst r2
    refine ⟨rfl, q _ Hk H k Nxt.refl ?_⟩
    show V.bl _ = V.bl _
    congr 1; simp
theorem ev_eqS {a b : Str} (ha : EvD ta ρ ρ1 eS a) (hb : EvD tb ρ1 ρ2 eS b) : EvD (tOp rEq ta tb) ρ ρ2 eB (decide (a = b)) :=
  ev_bin ha hb fun c σ Hk H x y k r1 r2 Q q => by
    have r1 : x = .str a := r1
    have r2 : y = .str b := r2
    subst r1; subst r2
    refine ⟨rfl, q _ Hk H k Nxt.refl ?_⟩
    show V.bl _ = V.bl _
    congr 1; simp
theorem ev_if {b : Bool} {x y : α} (h : EvT tt ρ ρ1 b) (h1 : b = true → EvD ta ρ1 ρ2 e x) (h2 : b = false → EvD tb ρ1 ρ2 e y) : EvD (tIf tt ta tb) ρ ρ2 e (bif b then x else y) :=
  fun c σ Hk H k Q q => h c σ Hk H k _ fun Hk1 H1 k1 x1 => by
    cases b with
    | true => rw [if_pos rfl]; exact h1 rfl c σ Hk1 H1 k1 Q fun v Hk2 H2 k2 x2 r2 => q v Hk2 H2 k2 (x1.trans x2) r2
    | false => rw [if_neg (by decide)]; exact h2 rfl c σ Hk1 H1 k1 Q fun v Hk2 H2 k2 x2 r2 => q v Hk2 H2 k2 (x1.trans x2) r2
theorem ev_andV {a b : Bool} (h1 : EvD ta ρ ρ eB a) (h2 : a = true → EvD tb ρ ρ eB b) : EvD (tAndV ta tb) ρ ρ eB (a && b) :=
  fun c σ Hk H k Q q => h1 c σ Hk H k _ fun x Hk1 H1 k1 x1 r1 => ⟨a, r1, by
    cases a with
    | true => rw [if_pos rfl]; exact h2 rfl c σ Hk1 H1 k1 Q fun v Hk2 H2 k2 x2 r2 => q v Hk2 H2 k2 (x1.trans x2) r2
    | false => rw [if_neg (by decide)]; exact q _ Hk1 H1 k1 x1 rfl⟩
theorem ev_orV {a b : Bool} (h1 : EvD ta ρ ρ eB a) (h2 : a = false → EvD tb ρ ρ eB b) : EvD (tOrV ta tb) ρ ρ eB (a || b) :=
  fun c σ Hk H k Q q => h1 c σ Hk H k _ fun x Hk1 H1 k1 x1 r1 => ⟨a, r1, by
    cases a with
    | false => rw [if_neg (by decide)]; exact h2 rfl c σ Hk1 H1 k1 Q fun v Hk2 H2 k2 x2 r2 => q v Hk2 H2 k2 (x1.trans x2) r2
    | true => rw [if_pos rfl]; exact q _ Hk1 H1 k1 x1 rfl⟩
theorem ev_notV {a : Bool} (h1 : EvD ta ρ ρ1 eB a) : EvD (tNotV ta) ρ ρ1 eB (!a) :=
  fun c σ Hk H k Q q => h1 c σ Hk H k _ fun x Hk1 H1 k1 x1 r1 => ⟨a, r1, q _ Hk1 H1 k1 x1 rfl⟩
theorem ev_isN [NN e] {o : Option α} (h : EvD ta ρ ρ1 (eO e) o) (hb : tb = tC .non) : EvD (tOp (fun x y H Q => y = .non ∧ Q (.bl (decide (x = .non))) H) ta tb) ρ ρ1 eB o.isNone := by
  subst hb
  exact fun c σ Hk H k Q q => h c σ Hk H k _ fun x Hk1 H1 k1 x1 r1 => ⟨rfl, q _ Hk1 H1 k1 x1 (by
    cases o with
    | none =>
      have r1 : x = .non := r1
      subst r1; rfl
    | some a =>
      have n : x ≠ .non := fun z => by subst z; exact NN.nn (e := e) Hk1 a r1
      show V.bl _ = V.bl _
      rw [decide_eq_false n]; rfl)⟩
theorem ev_notN [NN e] {o : Option α} (h : EvD ta ρ ρ1 (eO e) o) (hb : tb = tC .non) : EvD (tOp (fun x y H Q => y = .non ∧ Q (.bl (!decide (x = .non))) H) ta tb) ρ ρ1 eB o.isSome := by
  subst hb
  exact fun c σ Hk H k Q q => h c σ Hk H k _ fun x Hk1 H1 k1 x1 r1 => ⟨rfl, q _ Hk1 H1 k1 x1 (by
    cases o with
    | none =>
      have r1 : x = .non := r1
      subst r1; rfl
    | some a =>
      have n : x ≠ .non := fun z => by subst z; exact NN.nn (e := e) Hk1 a r1
      show V.bl _ = V.bl _
      rw [decide_eq_false n]; rfl)⟩
/-- a chain a < b < c of ints -/
theorem ev_chain {g h : Int → Int → Bool} {x y z : Int} (h1 : EvD ta ρ ρ eI x) (h2 : EvD tb ρ ρ eI y) (h3 : EvD tc ρ ρ eI z) :
    EvD (tChain (rI0 fun i j => .bl (g i j)) (rI0 fun i j => .bl (h i j)) ta tb tc) ρ ρ eB (g x y && h y z) :=
  fun c σ Hk H k Q q => h1 c σ Hk H k _ fun u Hk1 H1 k1 x1 r1 => h2 c σ Hk1 H1 k1 _ fun v Hk2 H2 k2 x2 r2 => by
    refine ⟨x, y, r1, r2, g x y, rfl, ?_⟩
    cases e : g x y with
    | false => exact q _ Hk2 H2 k2 (x1.trans x2) (by simp [e]; rfl)
    | true => exact h3 c σ Hk2 H2 k2 _ fun w Hk3 H3 k3 x3 r3 => ⟨y, z, r2, r3, q _ Hk3 H3 k3 ((x1.trans x2).trans x3) (by simp [e]; rfl)⟩

/-! ### tests -/
theorem et_test {b : Bool} (h : EvD te ρ ρ1 eB b) : EvT (tTest te) ρ ρ1 b := fun c σ Hk H k Q q => h c σ Hk H k _ fun v Hk' H' k' x r => ⟨b, r, q Hk' H' k' x⟩
theorem et_B {b : Bool} (h : EvD te ρ ρ1 eB b) : EvT (tB te) ρ ρ1 b := fun c σ Hk H k Q q => h c σ Hk H k _ fun v Hk' H' k' x r => ⟨b, r, q Hk' H' k' x⟩
theorem et_and {a b : Bool} (h1 : EvT tt ρ ρ a) (h2 : a = true → EvT tu ρ ρ b) : EvT (tAnd tt tu) ρ ρ (a && b) := fun c σ Hk H k Q q => h1 c σ Hk H k _ fun Hk1 H1 k1 x1 => by
  cases a with
  | true => rw [if_pos rfl]; exact h2 rfl c σ Hk1 H1 k1 Q fun Hk2 H2 k2 x2 => q Hk2 H2 k2 (x1.trans x2)
  | false => rw [if_neg (by decide)]; exact q Hk1 H1 k1 x1
theorem et_or {a b : Bool} (h1 : EvT tt ρ ρ a) (h2 : a = false → EvT tu ρ ρ b) : EvT (tOr tt tu) ρ ρ (a || b) := fun c σ Hk H k Q q => h1 c σ Hk H k _ fun Hk1 H1 k1 x1 => by
  cases a with
  | false => rw [if_neg (by decide)]; exact h2 rfl c σ Hk1 H1 k1 Q fun Hk2 H2 k2 x2 => q Hk2 H2 k2 (x1.trans x2)
  | true => rw [if_pos rfl]; exact q Hk1 H1 k1 x1
theorem et_not {a : Bool} (h1 : EvT tt ρ ρ1 a) : EvT (tNot tt) ρ ρ1 (!a) := fun c σ Hk H k Q q => h1 c σ Hk H k _ fun Hk1 H1 k1 x1 => q Hk1 H1 k1 x1
theorem et_yes : EvT tYes ρ ρ true := fun c σ Hk H k Q q => q Hk H k Nxt.refl

/-! ### what is mutable, read as data -/
theorem Ok.borrow {c : Ent} {Hk H : Hp} {σ : List (Option V)} (k : Ok c Hk H σ ρ) : Ok ⟨H, H, none⟩ H H σ (ρ.map Slot.frz) := by
  have g : ∀ (i : Nat) (s : Slot K), (ρ.map Slot.frz)[i]? = some s → ∃ t, ρ[i]? = some t ∧ s = t.frz := fun i s h => by
    rw [List.getElem?_map] at h
    cases q : ρ[i]? with
    | none => rw [q] at h; cases h
    | some t => rw [q] at h; exact ⟨t, rfl, (Option.some.inj h).symm⟩
  have nm : ∀ s : Slot K, s.frz.isM = false := fun s => by cases s <;> rfl
  refine ⟨Ex.refl _, Ex.refl _, fun a o h _ => h, fun a o h => .inl h, fun a h => h, by simp [k.len], fun i s h => ?_, fun i j s s' p ne h h' m => ?_, fun i s p h m => ?_, fun p h => nomatch h⟩
  · obtain ⟨t, h1, rfl⟩ := g i s h
    obtain ⟨v, h2, h3⟩ := k.sl i t h1
    refine ⟨v, h2, ?_⟩
    cases t with
    | un => trivial
    | d e a => obtain ⟨u, a1, a2⟩ := h3; exact ⟨u, a1, e.mono k.ex a2⟩
    | l e as => obtain ⟨p, o, a1, a2, a3, xs, rfl, a4, a5⟩ := h3; exact ⟨.ref p, a1, p, xs, rfl, SqL.of a3, a4.imp fun _ _ h => e.mono k.ex h, a5⟩
    | m M b => trivial
    | i C fs => trivial
  · obtain ⟨t, h1, rfl⟩ := g i s h
    rw [nm] at m; cases m
  · obtain ⟨t, h1, rfl⟩ := g i s h
    rw [nm] at m; cases m
/-- behind a stretch that was run on borrowed knowledge -/
theorem Ok.back {c : Ent} {Hk H Hk' H' : Hp} {σ σ' : List (Option V)} (k : Ok c Hk H σ ρ) (k' : Ok ⟨H, H, none⟩ Hk' H' σ' ρ') : Ok c Hk H' σ ρ :=
  k.ext (fun a o h => k'.fr a o h (fun z => nomatch z)) (Ex.refl _) (fun a o h => k'.fr a o (k.ex a o h) fun z => nomatch z) fun a o h => .inl h
theorem ev_borrow [Scal e] {a : α} (h : EvD te (ρ.map Slot.frz) (ρ.map Slot.frz) e a) : EvD te ρ ρ e a := fun c σ Hk H k Q q =>
  h _ σ H H k.borrow Q fun v Hk' H' k' x r => q v Hk H' (k.back k') (Nxt.of (Ex.refl _) (fun a o h => k'.fr a o h fun z => nomatch z) fun _ _ h => .inl h) (Scal.sc (e := e) _ _ _ _ r)
theorem en_borrow [Scal e] {as : List α} (h : EvN te (ρ.map Slot.frz) (ρ.map Slot.frz) e as) : EvN te ρ ρ e as := fun c σ Hk H k Q q =>
  h _ σ H H k.borrow Q fun p xs Hk' H' k' x hn hp ha hl hH => q p xs Hk H' (k.back k') (Nxt.of (Ex.refl _) (fun a o h => k'.fr a o h fun z => nomatch z) fun _ _ h => .inl h) (k.ex.none hH) hp (ha.imp fun _ _ r => Scal.sc (e := e) _ _ _ _ r) hl hH
theorem et_borrow {b : Bool} (h : EvT tt (ρ.map Slot.frz) (ρ.map Slot.frz) b) : EvT tt ρ ρ b := fun c σ Hk H k Q q =>
  h _ σ H H k.borrow Q fun Hk' H' k' x => q Hk H' (k.back k') (Nxt.of (Ex.refl _) (fun a o h => k'.fr a o h fun z => nomatch z) fun _ _ h => .inl h)

/-! ### arguments, displays -/
theorem ea_nil : EvA tNil ρ ρ [] := fun c σ Hk H k Q q => q [] Hk H k Nxt.refl .nil
theorem ea_cons {a : α} {tr : TA} {ds : List (Slot K)} (h : EvD te ρ ρ1 e a) (hr : EvA tr ρ1 ρ2 ds) : EvA (tCons te tr) ρ ρ2 (.d e a :: ds) := fun c σ Hk H k Q q =>
  h c σ Hk H k _ fun v Hk1 H1 k1 x1 r1 => hr c σ Hk1 H1 k1 _ fun vs Hk2 H2 k2 x2 r2 => q (v :: vs) Hk2 H2 k2 (x1.trans x2) (.cons ⟨v, rfl, e.mono x2.ex r1⟩ r2)
theorem ev_pair {f : Enc K β} {a : α} {b : β} (ha : EvD ta ρ ρ1 e a) (hb : EvD tb ρ1 ρ2 f b) : EvD (tTup (tCons ta (tCons tb tNil))) ρ ρ2 (eP e f) (a, b) := fun c σ Hk H k Q q =>
  ha c σ Hk H k _ fun x Hk1 H1 k1 x1 r1 => hb c σ Hk1 H1 k1 _ fun y Hk2 H2 k2 x2 r2 => ⟨by show 2 ≤ sizeLine; decide, fun p hp =>
    let ⟨k3, x3⟩ := k2.new (o := .tup [x, y]) hp
    q _ _ _ k3 ((x1.trans x2).trans x3) ⟨p, x, y, rfl, SqT.of upd_same, e.mono (x2.trans x3).ex r1, f.mono x3.ex r2⟩⟩
/-- items of one kind, from the left -/
def EvAs (ta : TA) (ρ ρ' : Env K) {α : Type} (e : Enc K α) (as : List α) : Prop :=
  ∀ (c : Ent) (σ : List (Option V)) (Hk H : Hp), Ok c Hk H σ ρ → ∀ Q : List V → Hp → Prop, (∀ vs Hk' H', Ok c Hk' H' σ ρ' → Nxt σ ρ ρ' Hk H Hk' H' → All2 (e.rep Hk') vs as → Q vs H') → ta σ H Q
theorem eas_nil : EvAs tNil ρ ρ e [] := fun c σ Hk H k Q q => q [] Hk H k Nxt.refl .nil
theorem eas_cons {a : α} {tr : TA} {as : List α} (h : EvD te ρ ρ1 e a) (hr : EvAs tr ρ1 ρ2 e as) : EvAs (tCons te tr) ρ ρ2 e (a :: as) := fun c σ Hk H k Q q =>
  h c σ Hk H k _ fun v Hk1 H1 k1 x1 r1 => hr c σ Hk1 H1 k1 _ fun vs Hk2 H2 k2 x2 r2 => q (v :: vs) Hk2 H2 k2 (x1.trans x2) (.cons (e.mono x2.ex r1) r2)
/-- a new list, known, from its items -/
theorem Ok.newL {c : Ent} {Hk H : Hp} {σ : List (Option V)} (k : Ok c Hk H σ ρ) {xs : List V} {p : Addr} (hp : H p = none) :
    Ok c Hk (upd H p (.lst xs)) σ ρ ∧ Nxt σ ρ ρ Hk H Hk (upd H p (.lst xs)) ∧ Hk p = none :=
  ⟨k.newU hp, Nxt.of (Ex.refl _) (Ex.new hp) (fun _ _ h => .inl h), k.ex.none hp⟩
theorem en_lst {ts : TA} {as : List α} (h : EvAs ts ρ ρ' e as) (hl : as.length ≤ LM := by decide) : EvN (tLst ts) ρ ρ' e as := fun c σ Hk H k Q q =>
  h c σ Hk H k _ fun vs Hk1 H1 k1 x1 r1 => ⟨by rw [r1.len]; exact lm_le hl, fun p hp =>
    let ⟨k2, x2, n1⟩ := k1.newL hp
    q p vs Hk1 _ k2 (x1.trans x2) n1 upd_same r1 hl (x1.th p hp)⟩
theorem ev_tup {ts : TA} {as : List α} (h : EvAs ts ρ ρ' e as) (hl : as.length ≤ LM := by decide) : EvD (tTup ts) ρ ρ' (eT e) as := fun c σ Hk H k Q q =>
  h c σ Hk H k _ fun vs Hk1 H1 k1 x1 r1 => ⟨by rw [r1.len]; exact lm_le hl, fun p hp =>
    let ⟨k2, x2⟩ := k1.new (o := .tup vs) hp
    q _ _ _ k2 (x1.trans x2) ⟨p, vs, rfl, SqT.of upd_same, r1.imp fun _ _ h => e.mono x2.ex h, hl⟩⟩

/-! ### places -/
def ixI (n : Nat) (i : Int) : Nat := if 0 ≤ i then i.toNat else (i + n).toNat
def inIx (n : Nat) (i : Int) : Prop := -(n : Int) ≤ i ∧ i < n
theorem atI_all2 {rr : V → α → Prop} {xs : List V} {as : List α} (h : All2 rr xs as) {i : Int} {a : α} (hi : inIx as.length i) (ha : as[ixI as.length i]? = some a) : ∃ x, atI xs i = some x ∧ rr x a := by
  obtain ⟨x, h1, h2⟩ := h.get ha
  refine ⟨x, ?_, h2⟩
  unfold atI ixN
  rw [h.len]
  unfold ixI at h1
  by_cases p : 0 ≤ i
  · rw [if_pos p] at h1 ⊢
    rw [if_pos hi.2]; exact h1
  · rw [if_neg p] at h1 ⊢
    rw [if_pos hi.1]; exact h1
/-- the item at a place (an int, also from behind) -/
def at_ [Inhabited α] (as : List α) (i : Int) : α := as.getD (ixI as.length i) default
theorem ixI_lt {n : Nat} {i : Int} (h : inIx n i) : ixI n i < n := by
  unfold ixI; unfold inIx at h; split <;> omega
theorem at_get [Inhabited α] {as : List α} {i : Int} (h : inIx as.length i) : as[ixI as.length i]? = some (at_ as i) := by
  have l := ixI_lt h
  unfold at_
  rw [List.getD_eq_getElem?_getD, List.getElem?_eq_getElem l]; rfl
theorem ev_ixL [Inhabited α] {as : List α} {i : Int} (ha : EvD ta ρ ρ1 (eL e) as) (hi : EvD tb ρ1 ρ2 eI i) (hc : inIx as.length i) : EvD (tOp (rIxL K) ta tb) ρ ρ2 e (at_ as i) :=
  ev_bin ha hi fun c σ Hk H x y k r1 r2 Q q => by
    obtain ⟨p, xs, e1, e2, e3, _⟩ := r1
    obtain ⟨z, h1, h2⟩ := atI_all2 e3 hc (at_get hc)
    exact ⟨p, xs, i, z, e1, r2, ex_l k.ex e2, h1, q _ Hk H k Nxt.refl h2⟩
theorem ev_ixT [Inhabited α] {as : List α} {i : Int} (ha : EvD ta ρ ρ1 (eT e) as) (hi : EvD tb ρ1 ρ2 eI i) (hc : inIx as.length i) : EvD (tOp (rIxT K) ta tb) ρ ρ2 e (at_ as i) :=
  ev_bin ha hi fun c σ Hk H x y k r1 r2 Q q => by
    obtain ⟨p, xs, e1, e2, e3, _⟩ := r1
    obtain ⟨z, h1, h2⟩ := atI_all2 e3 hc (at_get hc)
    exact ⟨p, xs, i, z, e1, r2, ex_t k.ex e2, h1, q _ Hk H k Nxt.refl h2⟩
theorem ev_ixQ [Inhabited α] {as : List α} {i : Int} (ha : EvD ta ρ ρ1 (eQ e) as) (hi : EvD tb ρ1 ρ2 eI i) (hc : inIx as.length i) : EvD (tOp (rIx K) ta tb) ρ ρ2 e (at_ as i) :=
  ev_bin ha hi fun c σ Hk H x y k r1 r2 Q q => by
    rcases r1 with ⟨p, xs, e1, e2, e3, _⟩ | ⟨p, xs, e1, e2, e3, _⟩
    · obtain ⟨z, h1, h2⟩ := atI_all2 e3 hc (at_get hc)
      exact .inl ⟨p, xs, i, z, e1, r2, ex_l k.ex e2, h1, q _ Hk H k Nxt.refl h2⟩
    · obtain ⟨z, h1, h2⟩ := atI_all2 e3 hc (at_get hc)
      exact .inr (.inl ⟨p, xs, i, z, e1, r2, ex_t k.ex e2, h1, q _ Hk H k Nxt.refl h2⟩)
/-- an item of a list of one's own -/
theorem ev_ixM [Inhabited α] {as : List α} {i : Int} {j : Nat} (ha : ρ[j]? = some (.l e as)) (hi : EvD tb ρ ρ eI i) (hc : inIx as.length i) : EvD (tOp (rIxL K) (tVar j) tb) ρ ρ e (at_ as i) := fun c σ Hk H k Q q => by
  obtain ⟨v, hv, p, o, e1, e2, e3, xs, rfl, e4, e5⟩ := k.sl j _ ha
  subst e1
  refine ⟨.ref p, hv, hi c σ Hk H k _ fun y Hk1 H1 k1 x1 r1 => ?_⟩
  obtain ⟨v', hv', p', o', e1', e2', e3', xs', rfl, e4', e5'⟩ := k1.sl j _ ha
  subst e1'
  rw [hv] at hv'; cases hv'
  obtain ⟨z, h1, h2⟩ := atI_all2 e4' hc (at_get hc)
  exact ⟨p, xs', i, z, rfl, r1, SqL.of e3', h1, q _ Hk1 H1 k1 x1 h2⟩
theorem ev_fst {f : Enc K β} {ab : α × β} (ha : EvD ta ρ ρ1 (eP e f) ab) : EvD (tOp (rIxT K) ta (tC (.int 0))) ρ ρ1 e ab.1 :=
  fun c σ Hk H k Q q => ha c σ Hk H k _ fun v Hk1 H1 k1 x1 ⟨p, x, y, e1, e2, e3, e4⟩ => ⟨p, [x, y], 0, x, e1, rfl, ex_t k1.ex e2, rfl, q _ Hk1 H1 k1 x1 e3⟩
theorem ev_snd {f : Enc K β} {ab : α × β} (ha : EvD ta ρ ρ1 (eP e f) ab) : EvD (tOp (rIxT K) ta (tC (.int 1))) ρ ρ1 f ab.2 :=
  fun c σ Hk H k Q q => ha c σ Hk H k _ fun v Hk1 H1 k1 x1 ⟨p, x, y, e1, e2, e3, e4⟩ => ⟨p, [x, y], 1, y, e1, rfl, ex_t k1.ex e2, rfl, q _ Hk1 H1 k1 x1 e4⟩

/-! ### built-in calls -/
theorem ev_cb {r : List V → Hp → VK → Prop} {γ : Type} {g : Enc K γ} {a : α} {z : γ} (ha : EvD ta ρ ρ1 e a)
    (hr : ∀ (c : Ent) (σ : List (Option V)) (Hk H : Hp) (x : V), Ok c Hk H σ ρ1 → e.rep Hk x a → ∀ Q : VK, (∀ v Hk' H', Ok c Hk' H' σ ρ1 → Nxt σ ρ1 ρ1 Hk H Hk' H' → g.rep Hk' v z → Q v H') → r [x] H Q) : EvD (tCB r (tCons ta tNil)) ρ ρ1 g z :=
  fun c σ Hk H k Q q => ha c σ Hk H k _ fun x Hk1 H1 k1 x1 r1 => hr c σ Hk1 H1 x k1 r1 Q fun v Hk2 H2 k2 x2 r2 => q v Hk2 H2 k2 (x1.trans x2) r2
def rLenS (K : PySem.W.Frag) : List V → Hp → VK → Prop := fun xs H Q => ∃ p ys, xs = [.ref p] ∧ (SqL K H p ys ∨ SqT K H p ys) ∧ Q (.int ys.length) H
theorem ev_lenL {as : List α} (ha : EvD ta ρ ρ1 (eL e) as) : EvD (tCB (rLenS K) (tCons ta tNil)) ρ ρ1 eI (as.length : Int) :=
  ev_cb ha fun c σ Hk H x k ⟨p, xs, e1, e2, e3, _⟩ Q q => ⟨p, xs, by rw [e1], .inl (ex_l k.ex e2), q _ Hk H k Nxt.refl (by rw [e3.len]; rfl)⟩
theorem ev_lenT {as : List α} (ha : EvD ta ρ ρ1 (eT e) as) : EvD (tCB (rLenS K) (tCons ta tNil)) ρ ρ1 eI (as.length : Int) :=
  ev_cb ha fun c σ Hk H x k ⟨p, xs, e1, e2, e3, _⟩ Q q => ⟨p, xs, by rw [e1], .inr (ex_t k.ex e2), q _ Hk H k Nxt.refl (by rw [e3.len]; rfl)⟩
theorem ev_lenQ {as : List α} (ha : EvD ta ρ ρ1 (eQ e) as) : EvD (tCB (rLenS K) (tCons ta tNil)) ρ ρ1 eI (as.length : Int) :=
  ev_cb ha fun c σ Hk H x k h Q q => by
    rcases h with ⟨p, xs, e1, e2, e3, _⟩ | ⟨p, xs, e1, e2, e3, _⟩
    · exact ⟨p, xs, by rw [e1], .inl (ex_l k.ex e2), q _ Hk H k Nxt.refl (by rw [e3.len]; rfl)⟩
    · exact ⟨p, xs, by rw [e1], .inr (ex_t k.ex e2), q _ Hk H k Nxt.refl (by rw [e3.len]; rfl)⟩
def rListS (K : PySem.W.Frag) : List V → Hp → VK → Prop := fun xs H Q => ∃ p ys, xs = [.ref p] ∧ (SqL K H p ys ∨ SqT K H p ys) ∧ ∀ l, H l = none → Q (.ref l) (upd H l (.lst ys))
theorem en_list {as : List α} (ha : EvD ta ρ ρ1 (eQ e) as) : EvN (tCB (rListS K) (tCons ta tNil)) ρ ρ1 e as := fun c σ Hk H k Q q =>
  ha c σ Hk H k _ fun x Hk1 H1 k1 x1 h => by
    rcases h with ⟨p, xs, e1, e2, e3, e4⟩ | ⟨p, xs, e1, e2, e3, e4⟩
    · exact ⟨p, xs, by rw [e1], .inl (ex_l k1.ex e2), fun l hl => let ⟨k2, x2, n1⟩ := k1.newL hl; q l xs Hk1 _ k2 (x1.trans x2) n1 upd_same e3 e4 (x1.th l hl)⟩
    · exact ⟨p, xs, by rw [e1], .inr (ex_t k1.ex e2), fun l hl => let ⟨k2, x2, n1⟩ := k1.newL hl; q l xs Hk1 _ k2 (x1.trans x2) n1 upd_same e3 e4 (x1.th l hl)⟩
def rTupleS (K : PySem.W.Frag) : List V → Hp → VK → Prop := fun xs H Q => ∃ p ys, xs = [.ref p] ∧ ((SqL K H p ys ∧ ∀ l, H l = none → Q (.ref l) (upd H l (.tup ys))) ∨ (SqT K H p ys ∧ Q (.ref p) H))
theorem ev_tuple {as : List α} (ha : EvD ta ρ ρ1 (eQ e) as) : EvD (tCB (rTupleS K) (tCons ta tNil)) ρ ρ1 (eT e) as :=
  ev_cb ha fun c σ Hk H x k h Q q => by
    rcases h with ⟨p, xs, e1, e2, e3, e4⟩ | ⟨p, xs, e1, e2, e3, e4⟩
    · exact ⟨p, xs, by rw [e1], .inl ⟨ex_l k.ex e2, fun l hl => let ⟨k2, x2⟩ := k.new (o := .tup xs) hl; q _ _ _ k2 x2 ⟨l, xs, rfl, SqT.of upd_same, e3.imp fun _ _ h => e.mono x2.ex h, e4⟩⟩⟩
    · subst e1; exact ⟨p, xs, rfl, .inr ⟨ex_t k.ex e2, q _ Hk H k Nxt.refl ⟨p, xs, rfl, e2, e3, e4⟩⟩⟩
theorem ev_sum {as : List Int} (ha : EvD ta ρ ρ1 (eL eI) as) : EvD (tCB (rSum K) (tCons ta tNil)) ρ ρ1 eI as.sum :=
  ev_cb ha fun c σ Hk H x k ⟨p, xs, e1, e2, e3, _⟩ Q q => by
    have z : xs = as.map V.int := All2.eq_map (f := V.int) e3
    subst z
    exact ⟨p, as, by rw [e1], ex_l k.ex e2, q _ Hk H k Nxt.refl rfl⟩
theorem ev_any {as : List Bool} (ha : EvD ta ρ ρ1 (eL eB) as) : EvD (tCB (rAny K) (tCons ta tNil)) ρ ρ1 eB (as.any id) :=
  ev_cb ha fun c σ Hk H x k ⟨p, xs, e1, e2, e3, _⟩ Q q => by
    have z : xs = as.map V.bl := All2.eq_map (f := V.bl) e3
    subst z
    exact ⟨p, as, by rw [e1], ex_l k.ex e2, q _ Hk H k Nxt.refl rfl⟩
theorem ev_all {as : List Bool} (ha : EvD ta ρ ρ1 (eL eB) as) : EvD (tCB (rAll K) (tCons ta tNil)) ρ ρ1 eB (as.all id) :=
  ev_cb ha fun c σ Hk H x k ⟨p, xs, e1, e2, e3, _⟩ Q q => by
    have z : xs = as.map V.bl := All2.eq_map (f := V.bl) e3
    subst z
    exact ⟨p, as, by rw [e1], ex_l k.ex e2, q _ Hk H k Nxt.refl rfl⟩
theorem ev_abs {a : Int} (ha : EvD ta ρ ρ1 eI a) : EvD (tCB (fun xs H Q => ∃ i, xs = [.int i] ∧ Q (.int (if i < 0 then -i else i)) H) (tCons ta tNil)) ρ ρ1 eI (if a < 0 then -a else a) :=
  ev_cb ha fun c σ Hk H x k h Q q => ⟨a, by rw [show x = .int a from h], q _ Hk H k Nxt.refl rfl⟩
theorem ev_int1 {a : Int} (ha : EvD ta ρ ρ1 eI a) : EvD (tCB (fun xs H Q => (∃ i, xs = [.int i] ∧ Q (.int i) H) ∨ ∃ k, xs = [.bl k] ∧ Q (.int (if k then 1 else 0)) H) (tCons ta tNil)) ρ ρ1 eI a :=
  ev_cb ha fun c σ Hk H x k h Q q => .inl ⟨a, by rw [show x = .int a from h], q _ Hk H k Nxt.refl rfl⟩
/-- x in xs, of ints -/
theorem inV_int {i : Int} : ∀ {as : List Int}, inV (.int i) (as.map V.int) = decide (i ∈ as)
  | [] => by simp [inV]
  | a :: as => by
    have ih := inV_int (i := i) (as := as)
    unfold inV at ih ⊢
    rw [List.map_cons, List.any_cons, ih]
    have e : eqV (V.int a) (V.int i) = decide (i = a) := by
      by_cases q : i = a
      · subst q; simp [eqV]
      · simp [eqV, q, Ne.symm q]
    rw [e]
    simp [List.mem_cons, Bool.decide_or]
theorem flat_ints (as : List Int) : (as.map V.int).all flatV = true := by
  induction as with
  | nil => rfl
  | cons a as ih => simp [flatV] at ih ⊢
theorem ev_in {neg : Bool} {i : Int} {as : List Int} (hi : EvD ta ρ ρ1 eI i) (ha : EvD tb ρ1 ρ2 (eQ eI) as) : EvD (tOp (rIn K neg) ta tb) ρ ρ2 eB (if neg then !decide (i ∈ as) else decide (i ∈ as)) :=
  ev_bin hi ha fun c σ Hk H x y k r1 r2 Q q => by
    have r1 : x = .int i := r1
    subst r1
    rcases r2 with ⟨p, xs, e1, e2, e3, e4⟩ | ⟨p, xs, e1, e2, e3, e4⟩
    · have z : xs = as.map V.int := All2.eq_map (f := V.int) e3
      subst z
      exact ⟨p, _, e1, .inl (ex_l k.ex e2), rfl, flat_ints as, q _ Hk H k Nxt.refl (by rw [inV_int]; rfl)⟩
    · have z : xs = as.map V.int := All2.eq_map (f := V.int) e3
      subst z
      exact ⟨p, _, e1, .inr (ex_t k.ex e2), rfl, flat_ints as, q _ Hk H k Nxt.refl (by rw [inV_int]; rfl)⟩
end
end FL

/-! FL3: what is walked, comprehensions, statements, loops, calls. -/
namespace FL
open PySem L2
section
variable {K : PySem.W.Frag} {ρ ρ' ρ1 ρ2 ρ3 : Env K} {α β : Type} {e : Enc K α} {ta tb te tc : TE} {tt tu tw : TT}

/-! ### what is walked -/
structure Walk (J : It) (e : Enc K α) (as : List α) (Hk : Hp) : Prop where
  len : as.length ≤ LM
  stop : ∀ H, Ex Hk H → J.stop as.length H
  go : ∀ i H, i < as.length → Ex Hk H → J.go i H
  yld : ∀ (i : Nat) (H : Hp) (x : V) (H' : Hp), J.yld i H x H' → i < as.length → ∀ (c : Ent) (σ : List (Option V)) (ρ : Env K) (Hk1 : Hp), Ok c Hk1 H σ ρ → Ex Hk Hk1 →
    ∃ a Hk2, as[i]? = some a ∧ Ok c Hk2 H' σ ρ ∧ Nxt σ ρ ρ Hk1 H Hk2 H' ∧ e.rep Hk2 x a
def EvI (wi : TI) (ρ ρ' : Env K) {α : Type} (e : Enc K α) (as : List α) : Prop :=
  ∀ (c : Ent) (σ : List (Option V)) (Hk H : Hp), Ok c Hk H σ ρ → ∀ R : It → Hp → Prop, (∀ J Hk' H', Ok c Hk' H' σ ρ' → Nxt σ ρ ρ' Hk H Hk' H' → Walk J e as Hk' → R J H') → wi σ H R
theorem ei_list {as : List α} (h : EvD te ρ ρ' (eL e) as) : EvI (iList K te) ρ ρ' e as := fun c σ Hk H k R q =>
  h c σ Hk H k _ fun v Hk1 H1 k1 x1 ⟨p, xs, e1, e2, e3, e4⟩ => ⟨p, e1, ⟨xs, ex_l k1.ex e2⟩, q _ Hk1 H1 k1 x1
    ⟨e4, fun H2 y => ⟨xs, ex_l y e2, by rw [e3.len]; exact Nat.le_refl _⟩, fun i H2 hi y => ⟨xs, xs[i]'(by rw [e3.len]; exact hi), ex_l y e2, by simp⟩,
     fun i H2 x H3 hy hi c2 σ2 ρ2 Hk2 k2 y => by
      obtain ⟨rfl, hx⟩ := hy
      obtain ⟨a, a1, a2⟩ := e3.getL (hx xs (ex_l (y.trans k2.ex) e2))
      exact ⟨a, Hk2, a1, k2, Nxt.refl, e.mono y a2⟩⟩⟩
theorem ei_tup {as : List α} (h : EvD te ρ ρ' (eT e) as) : EvI (iTup K te) ρ ρ' e as := fun c σ Hk H k R q =>
  h c σ Hk H k _ fun v Hk1 H1 k1 x1 ⟨p, xs, e1, e2, e3, e4⟩ => ⟨p, e1, ⟨xs, ex_t k1.ex e2⟩, q _ Hk1 H1 k1 x1
    ⟨e4, fun H2 y => ⟨xs, ex_t y e2, by rw [e3.len]; exact Nat.le_refl _⟩, fun i H2 hi y => ⟨xs, xs[i]'(by rw [e3.len]; exact hi), ex_t y e2, by simp⟩,
     fun i H2 x H3 hy hi c2 σ2 ρ2 Hk2 k2 y => by
      obtain ⟨rfl, hx⟩ := hy
      obtain ⟨a, a1, a2⟩ := e3.getL (hx xs (ex_t (y.trans k2.ex) e2))
      exact ⟨a, Hk2, a1, k2, Nxt.refl, e.mono y a2⟩⟩⟩
/-- lo, lo + 1, .. below hi -/
def rng (lo hi : Int) : List Int := (List.range (hi - lo).toNat).map fun (k : Nat) => lo + (k : Int)
theorem rng_len (lo hi : Int) : (rng lo hi).length = (hi - lo).toNat := by simp [rng]
theorem rng_get {lo hi : Int} {i : Nat} (h : i < (hi - lo).toNat) : (rng lo hi)[i]? = some (lo + (i : Int)) := by simp [rng, h]
theorem mem_rng {lo hi x : Int} : x ∈ rng lo hi ↔ lo ≤ x ∧ x < hi := by
  unfold rng
  constructor
  · intro h
    obtain ⟨k, hk, rfl⟩ := List.mem_map.mp h
    have := List.mem_range.mp hk
    omega
  · rintro ⟨h1, h2⟩
    exact List.mem_map.mpr ⟨(x - lo).toNat, List.mem_range.mpr (by omega), by omega⟩
theorem walk_rng {lo : Int} {n : Nat} {Hk : Hp} (hn : n ≤ LM) : Walk (Itr lo n) (eI (K := K)) ((List.range n).map fun (k : Nat) => lo + (k : Int)) Hk :=
  ⟨by simpa using hn, fun H _ => by show n ≤ _; simp, fun i H hi _ => by show i < n; simpa using hi, fun i H x H' hy hi c σ ρ Hk1 k1 y => by
    obtain ⟨rfl, rfl⟩ := hy
    have hi : i < n := by simpa using hi
    exact ⟨lo + (i : Int), Hk1, by simp [hi], k1, Nxt.refl, rfl⟩⟩
theorem ei_range1 {n : Int} (h : EvD te ρ ρ' eI n) (hn : -100000 ≤ n ∧ n ≤ 100000) : EvI (iRng1 (tCons te tNil)) ρ ρ' eI (rng 0 n) := fun c σ Hk H k R q =>
  h c σ Hk H k _ fun v Hk1 H1 k1 x1 r1 => ⟨n, by rw [show v = .int n from r1], by omega, by omega, q _ Hk1 H1 k1 x1 (by
    unfold rng
    rw [show n - 0 = n by omega]
    exact walk_rng (by show n.toNat ≤ 100000; omega))⟩
theorem ei_range2 {lo n : Int} (h0 : EvD ta ρ ρ1 eI lo) (h : EvD te ρ1 ρ' eI n) (hn : -100000 ≤ lo ∧ lo ≤ 100000 ∧ -100000 ≤ n ∧ n ≤ 100000 ∧ n - lo ≤ 100000) : EvI (iRng2 (tCons ta (tCons te tNil))) ρ ρ' eI (rng lo n) := fun c σ Hk H k R q =>
  h0 c σ Hk H k _ fun u Hk0 H0 k0 x0 r0 => h c σ Hk0 H0 k0 _ fun v Hk1 H1 k1 x1 r1 => ⟨lo, n, by rw [show v = .int n from r1, show u = .int lo from r0], ⟨by omega, by omega, by omega, by omega⟩, q _ Hk1 H1 k1 (x0.trans x1)
    (walk_rng (by show (n - lo).toNat ≤ 100000; omega))⟩
def enum (as : List α) : List (Int × α) := (List.range as.length).zip as |>.map fun p => ((p.1 : Int), p.2)
theorem enum_get {as : List α} {i : Nat} {a : α} (h : as[i]? = some a) : (enum as)[i]? = some ((i : Int), a) := by
  have l := (List.getElem?_eq_some_iff.mp h).1
  unfold enum
  rw [List.getElem?_map, List.getElem?_zip_eq_some.mpr (⟨by simp [l], h⟩ : (List.range as.length)[i]? = some ((i, a) : Nat × α).1 ∧ as[i]? = some ((i, a) : Nat × α).2)]; rfl
theorem enum_len {as : List α} : (enum as).length = as.length := by simp [enum]
theorem ei_enum {as : List α} (h : EvD te ρ ρ' (eL e) as) : EvI (iEnum K (tCons te tNil)) ρ ρ' (eP eI e) (enum as) := fun c σ Hk H k R q =>
  h c σ Hk H k _ fun v Hk1 H1 k1 x1 ⟨p, xs, e1, e2, e3, e4⟩ => ⟨p, xs, by rw [e1], ex_l k1.ex e2, q _ Hk1 H1 k1 x1
    ⟨by rw [enum_len]; exact e4, fun H2 y => ⟨xs, ex_l y e2, by rw [e3.len, enum_len]; exact Nat.le_refl _⟩, fun i H2 hi y => by
      rw [enum_len] at hi
      exact ⟨xs, xs[i]'(by rw [e3.len]; exact hi), ex_l y e2, by simp⟩,
     fun i H2 x H3 hy hi c2 σ2 ρ2 Hk2 k2 y => by
      obtain ⟨T, w, rfl, hT, rfl, hx⟩ := hy
      obtain ⟨a, a1, a2⟩ := e3.getL (hx xs (ex_l (y.trans k2.ex) e2))
      obtain ⟨k3, x3⟩ := k2.new (o := .tup [.int (i : Nat), w]) hT
      exact ⟨((i : Int), a), _, enum_get a1, k3, x3, T, _, _, rfl, SqT.of upd_same, rfl, e.mono (y.trans x3.ex) a2⟩⟩⟩
theorem ei_borrowN {wi : TI} {as : List α} (h : EvI wi ρ ρ' e as) : EvI wi ρ ρ' e as := h

/-! ### targets -/
structure EvG (g : TG) {α : Type} (e : Enc K α) (js : List Nat) (u : α → Env K → Env K) : Prop where
  run : ∀ (c : Ent) (σ : List (Option V)) (Hk H : Hp) (ρ : Env K) (x : V) (a : α), Ok c Hk H σ ρ → (∀ j ∈ js, isMAt ρ j = false) → e.rep Hk x a → ∀ Q : L2.St → Hp → Prop,
    (∀ σ', Ok c Hk H σ' (u a ρ) → σ'.length = σ.length → (∀ i, i ∉ js → σ'[i]? = σ[i]?) → Q σ' H) → g x σ H Q
  agr : ∀ a ρ i, i ∉ js → (u a ρ)[i]? = ρ[i]?
  len : ∀ a ρ, (u a ρ).length = ρ.length
  nm : ∀ a ρ j, isMAt ρ j = false → isMAt (u a ρ) j = false
theorem isM_set {ρ : Env K} {i j : Nat} {a : α} : isMAt ρ j = false → isMAt (ρ.set i (.d e a)) j = false := fun h => by
  unfold isMAt at h ⊢
  by_cases q : i = j
  · subst q
    by_cases l : i < ρ.length
    · rw [List.getElem?_set_self l]; rfl
    · rw [List.getElem?_eq_none (by simpa using l)]
  · rw [List.getElem?_set_ne q]; exact h
theorem eg_name {j : Nat} : EvG (gName j) e [j] (fun a ρ => ρ.set j (.d e a)) :=
  ⟨fun c σ Hk H ρ x a k hj r Q q => q _ (k.setD (hj j List.mem_cons_self) r) (by simp) fun i hi => by rw [List.getElem?_set_ne]; intro z; subst z; exact hi List.mem_cons_self,
   fun a ρ i hi => by rw [List.getElem?_set_ne]; intro z; subst z; exact hi List.mem_cons_self, fun a ρ => by simp, fun a ρ j h => isM_set h⟩
theorem eg_pair {i j : Nat} {f : Enc K β} : EvG (gTup K 2 (gCons (gName i) (gCons (gName j) gNil))) (eP e f) [i, j] (fun a ρ => (ρ.set i (.d e a.1)).set j (.d f a.2)) :=
  ⟨fun c σ Hk H ρ x a k hj ⟨p, y, z, e1, e2, e3, e4⟩ Q q => by
    refine ⟨p, [y, z], e1, ex_t k.ex e2, rfl, y, [z], rfl, z, [], rfl, rfl, q _ ((k.setD (hj i (by simp)) e3).setD (isM_set (hj j (by simp))) e4) (by simp) fun m hm => ?_⟩
    rw [List.getElem?_set_ne, List.getElem?_set_ne]
    · intro w; subst w; exact hm (by simp)
    · intro w; subst w; exact hm (by simp),
   fun a ρ m hm => by
    rw [List.getElem?_set_ne, List.getElem?_set_ne]
    · intro w; subst w; exact hm (by simp)
    · intro w; subst w; exact hm (by simp), fun a ρ => by simp, fun a ρ j h => isM_set (isM_set h)⟩

/-! ### list comprehensions -/
def wipeE (ρ : Env K) : List Nat → Env K
  | [] => ρ
  | v :: vs => (wipeE ρ vs).set v .un
def noMAt (ρ : Env K) (vs : List Nat) : Prop := ∀ j ∈ vs, isMAt ρ j = false
theorem noM_nil {ρ : Env K} : noMAt ρ [] := fun j h => by cases h
theorem noM_cons {ρ : Env K} {v : Nat} {vs : List Nat} (h : isMAt ρ v = false) (t : noMAt ρ vs) : noMAt ρ (v :: vs) := fun j hj => by
  rcases List.mem_cons.mp hj with z | z
  · subst z; exact h
  · exact t j z
theorem isM_un {ρ : Env K} {i j : Nat} : isMAt ρ j = false → isMAt (ρ.set i .un) j = false := fun h => by
  unfold isMAt at h ⊢
  by_cases q : i = j
  · subst q
    by_cases l : i < ρ.length
    · rw [List.getElem?_set_self l]; rfl
    · rw [List.getElem?_eq_none (by simpa using l)]
  · rw [List.getElem?_set_ne q]; exact h
theorem isM_wipe {ρ : Env K} {j : Nat} : ∀ {vs : List Nat}, isMAt ρ j = false → isMAt (wipeE ρ vs) j = false
  | [], h => h
  | _ :: vs, h => isM_un (isM_wipe (vs := vs) h)
theorem wipe_agree {σ σ' : List (Option V)} (hl : σ'.length = σ.length) : ∀ {vs : List Nat}, (∀ i, i ∉ vs → σ'[i]? = σ[i]?) → wipe σ' vs = wipe σ vs := fun {vs} h => by
  have key : ∀ (τ : List (Option V)) (vs : List Nat) (i : Nat), (wipe τ vs)[i]? = if i ∈ vs ∧ i < τ.length then some none else τ[i]? := by
    intro τ vs
    induction vs with
    | nil => intro i; simp [wipe]
    | cons v vs ih =>
      intro i
      unfold wipe
      by_cases q : v = i
      · subst q
        by_cases l : v < τ.length
        · rw [List.getElem?_set_self (by rw [wipe_length]; exact l)]; simp [l]
        · rw [List.getElem?_eq_none (by simp [wipe_length]; omega)]; simp [l]
      · rw [List.getElem?_set_ne q, ih i]
        have : (i ∈ v :: vs) ↔ i ∈ vs := by simp [Ne.symm q]
        simp only [this]
  apply List.ext_getElem?
  intro i
  rw [key, key, hl]
  split
  · rfl
  · rename_i hn
    by_cases m : i ∈ vs
    · have : ¬ i < σ.length := fun l => hn ⟨m, l⟩
      rw [List.getElem?_eq_none (by omega), List.getElem?_eq_none (by omega)]
    · exact h i m
theorem wipe_idem {σ : List (Option V)} {vs : List Nat} {σ' : List (Option V)} (hl : σ'.length = (wipe σ vs).length) (h : ∀ i, i ∉ vs → σ'[i]? = (wipe σ vs)[i]?) : wipe σ' vs = wipe σ vs := by
  refine wipe_agree (by rw [hl, wipe_length]) fun i hi => ?_
  rw [h i hi]
  clear h hl
  induction vs with
  | nil => rfl
  | cons v vs ih =>
    unfold wipe
    rw [List.getElem?_set_ne (fun z => hi (by rw [z]; exact List.mem_cons_self))]
    exact ih fun z => hi (List.mem_cons_of_mem _ z)
theorem Ok.unset {c : Ent} {Hk H : Hp} {σ : List (Option V)} (k : Ok c Hk H σ ρ) {j : Nat} (hj : isMAt ρ j = false) : Ok c Hk H (σ.set j none) (ρ.set j .un) := by
  have hm : ∀ t : Slot K, ρ[j]? = some t → t.isM = false := fun t e => by unfold isMAt at hj; rw [e] at hj; exact hj
  have f : ∀ (i : Nat) (t : Slot K), (ρ.set j .un)[i]? = some t → t.isM = true → ρ[i]? = some t ∧ j ≠ i := fun i t h m => by
    by_cases q : j = i
    · subst q
      by_cases lt : j < ρ.length
      · rw [List.getElem?_set_self lt] at h; cases h; cases m
      · rw [List.getElem?_eq_none (by simpa using lt)] at h; cases h
    · rw [List.getElem?_set_ne q] at h; exact ⟨h, q⟩
  refine ⟨k.ex, k.k0, k.fr, k.nw, k.th, by simp [k.len], fun i t h => ?_, fun i i' t t' p ne h h' m m' e e' => ?_, fun i t p h m e => ?_, fun p h => ?_⟩
  · by_cases q : j = i
    · subst q
      by_cases lt : j < ρ.length
      · rw [List.getElem?_set_self lt] at h; cases h
        exact ⟨none, by rw [List.getElem?_set_self (by rw [k.len]; exact lt)], trivial⟩
      · rw [List.getElem?_eq_none (by simpa using lt)] at h; cases h
    · rw [List.getElem?_set_ne q] at h
      rw [List.getElem?_set_ne q]
      exact k.sl i t h
  · obtain ⟨a, b⟩ := f i t h m
    obtain ⟨a', b'⟩ := f i' t' h' m'
    rw [List.getElem?_set_ne b] at e
    rw [List.getElem?_set_ne b'] at e'
    exact k.sep i i' t t' p ne a a' m m' e e'
  · obtain ⟨a, b⟩ := f i t h m
    rw [List.getElem?_set_ne b] at e
    exact k.own i t p a m e
  · obtain ⟨h1, t, h2, h3⟩ := k.lv p h
    have q : ¬ j = 0 := fun q => by subst q; rw [hm t h2] at h3; cases h3
    rw [List.getElem?_set_ne q, List.getElem?_set_ne q]
    exact ⟨h1, t, h2, h3⟩
theorem Ok.wipe {c : Ent} {Hk H : Hp} {σ : List (Option V)} (k : Ok c Hk H σ ρ) : ∀ {vs : List Nat}, noMAt ρ vs → Ok c Hk H (L2.wipe σ vs) (wipeE ρ vs)
  | [], _ => k
  | v :: vs, h => Ok.unset (Ok.wipe (vs := vs) k fun j hj => h j (List.mem_cons_of_mem _ hj)) (isM_wipe (h v List.mem_cons_self))

/-- a comprehension's run: the state threaded through, what is kept -/
def lcGo {τ : Type} (s : τ → α → τ) (p : τ → α → Bool) (v : τ → α → β) : τ → List α → τ × List β
  | t, [] => (t, [])
  | t, a :: as => bif p t a then ((lcGo s p v (s t a) as).1, v t a :: (lcGo s p v (s t a) as).2) else lcGo s p v t as
theorem lcGo_snoc {τ : Type} {s : τ → α → τ} {p : τ → α → Bool} {v : τ → α → β} {a : α} : ∀ {as : List α} {t : τ},
    lcGo s p v t (as ++ [a]) = (bif p (lcGo s p v t as).1 a then (s (lcGo s p v t as).1 a, (lcGo s p v t as).2 ++ [v (lcGo s p v t as).1 a]) else lcGo s p v t as)
  | [], t => by
    show lcGo s p v t [a] = _
    unfold lcGo
    cases h : p t a <;> simp [lcGo, h]
  | b :: as, t => by
    show lcGo s p v t (b :: (as ++ [a])) = _
    unfold lcGo
    cases h : p t b with
    | true =>
      simp only [cond_true]
      rw [lcGo_snoc (as := as) (t := s t b)]
      cases p (lcGo s p v (s t b) as).1 a <;> simp
    | false =>
      simp only [cond_false]
      exact lcGo_snoc (as := as) (t := t)
theorem lcGo_len {τ : Type} {s : τ → α → τ} {p : τ → α → Bool} {v : τ → α → β} : ∀ {as : List α} {t : τ}, (lcGo s p v t as).2.length ≤ as.length
  | [], t => Nat.le_refl _
  | b :: as, t => by
    unfold lcGo
    cases h : p t b with
    | true => simp only [cond_true, List.length_cons]; exact Nat.succ_le_succ lcGo_len
    | false => simp only [cond_false, List.length_cons]; exact Nat.le_succ_of_le lcGo_len
theorem take_snoc {as : List α} {i : Nat} {a : α} (h : as[i]? = some a) : as.take (i + 1) = as.take i ++ [a] := by
  rw [List.take_succ, h]; rfl

theorem wipeE_at {ρ : Env K} : ∀ {vs : List Nat} {i : Nat}, i ∉ vs → (wipeE ρ vs)[i]? = ρ[i]?
  | [], i, _ => rfl
  | v :: vs, i, h => by
    unfold wipeE
    rw [List.getElem?_set_ne (fun z => h (by rw [z]; exact List.mem_cons_self))]
    exact wipeE_at fun z => h (List.mem_cons_of_mem _ z)
theorem wipe_at {σ : List (Option V)} : ∀ {vs : List Nat} {i : Nat}, i ∉ vs → (L2.wipe σ vs)[i]? = σ[i]?
  | [], i, _ => rfl
  | v :: vs, i, h => by
    unfold L2.wipe
    rw [List.getElem?_set_ne (fun z => h (by rw [z]; exact List.mem_cons_self))]
    exact wipe_at fun z => h (List.mem_cons_of_mem _ z)
theorem wipeE_len {ρ : Env K} : ∀ {vs : List Nat}, (wipeE ρ vs).length = ρ.length
  | [] => rfl
  | v :: vs => by unfold wipeE; rw [List.length_set]; exact wipeE_len
theorem isM_some {ρ : Env K} {i : Nat} {s : Slot K} (h : ρ[i]? = some s) : isMAt ρ i = s.isM := by unfold isMAt; rw [h]
/-- from a comprehension's turn back -/
theorem Ok.rewipe {c : Ent} {Hk H Hk3 H3 : Hp} {σ σ2 : List (Option V)} {u : Env K → Env K} {js vs : List Nat} (k : Ok c Hk H σ ρ) (k3 : Ok c Hk3 H3 σ2 (u (wipeE ρ' vs))) (x : Ex Hk Hk3) (hw : L2.wipe σ2 vs = L2.wipe σ vs)
    (hj : ∀ j ∈ js, j ∈ vs) (agr : ∀ ρ i, i ∉ js → (u ρ)[i]? = ρ[i]?) (len : ∀ ρ, (u ρ).length = ρ.length) (hm : noMAt ρ' vs) (hag : ∀ i, i ∈ vs → ρ'[i]? = ρ[i]?) : Ok c Hk3 H3 σ ρ' := by
  have hσ : ∀ i, i ∉ vs → σ2[i]? = σ[i]? := fun i h => by rw [← wipe_at h, hw, wipe_at h]
  have hρ : ∀ i, i ∉ vs → (u (wipeE ρ' vs))[i]? = ρ'[i]? := fun i h => by rw [agr _ _ fun z => h (hj i z), wipeE_at h]
  have hl : σ2.length = σ.length := by have := congrArg List.length hw; rw [wipe_length, wipe_length] at this; exact this
  have nv : ∀ (i : Nat) (s : Slot K), ρ'[i]? = some s → s.isM = true → i ∉ vs := fun i s h m z => by
    have := hm i z
    rw [isM_some h, m] at this; cases this
  refine ⟨k3.ex, k3.k0, k3.fr, k3.nw, k3.th, by rw [← hl, k3.len, len, wipeE_len], fun i s h => ?_, fun i j s s' p ne h h' m m' e => ?_, fun i s p h m e => ?_, fun p h => ?_⟩
  · by_cases z : i ∈ vs
    · rw [hag i z] at h
      obtain ⟨v, h1, h2⟩ := k.sl i s h
      have : s.isM = false := by
        have := hm i z
        rw [isM_some (by rw [hag i z]; exact h)] at this; exact this
      exact ⟨v, h1, Slot.okD this x h2⟩
    · rw [← hσ i z]
      exact k3.sl i s (by rw [hρ i z]; exact h)
  · have a := nv i s h m
    have b := nv j s' h' m'
    rw [← hσ j b]
    rw [← hσ i a] at e
    exact k3.sep i j s s' p ne (by rw [hρ i a]; exact h) (by rw [hρ j b]; exact h') m m' e
  · have a := nv i s h m
    rw [← hσ i a] at e
    exact k3.own i s p (by rw [hρ i a]; exact h) m e
  · obtain ⟨h1, s, h2, h3⟩ := k3.lv p h
    have z : (0 : Nat) ∉ vs := fun z => by
      have a : isMAt (u (wipeE ρ' vs)) 0 = true := by rw [isM_some h2]; exact h3
      by_cases q : (0 : Nat) ∈ js
      · -- the target stores data there: the lent slot would be gone
        have b := (L2.wipe_some (σ := σ2) (i := 0) (x := V.ref p) (vs := vs))
        have w1 : (L2.wipe σ vs)[0]? = (L2.wipe σ2 vs)[0]? := by rw [hw]
        obtain ⟨g1, t, g2, g3⟩ := k.lv p h
        have := hm 0 z
        rw [isM_some (s := t) (by rw [hag 0 z]; exact g2), g3] at this; cases this
      · obtain ⟨g1, t, g2, g3⟩ := k.lv p h
        have := hm 0 z
        rw [isM_some (s := t) (by rw [hag 0 z]; exact g2), g3] at this; cases this
    exact ⟨by rw [← hσ 0 z]; exact h1, s, by rw [← hρ 0 z]; exact h2, h3⟩
theorem Nxt.rewipe {Hk H Hk3 H3 : Hp} {σ σ2 : List (Option V)} {u u' : Env K → Env K} {js vs : List Nat} (x : Nxt σ2 (u (wipeE ρ vs)) (u' (wipeE ρ' vs)) Hk H Hk3 H3) (hw : L2.wipe σ2 vs = L2.wipe σ vs)
    (hj : ∀ j ∈ js, j ∈ vs) (agr : ∀ ρ i, i ∉ js → (u ρ)[i]? = ρ[i]?) (agr' : ∀ ρ i, i ∉ js → (u' ρ)[i]? = ρ[i]?) (nm : ∀ ρ j, isMAt ρ j = false → isMAt (u ρ) j = false) (hm : noMAt ρ vs) (hm' : noMAt ρ' vs) : Nxt σ ρ ρ' Hk H Hk3 H3 := by
  have hσ : ∀ i, i ∉ vs → σ2[i]? = σ[i]? := fun i h => by rw [← wipe_at h, hw, wipe_at h]
  have hρ : ∀ i, i ∉ vs → (u (wipeE ρ vs))[i]? = ρ[i]? := fun i h => by rw [agr _ _ fun z => h (hj i z), wipeE_at h]
  have hρ' : ∀ i, i ∉ vs → (u' (wipeE ρ' vs))[i]? = ρ'[i]? := fun i h => by rw [agr' _ _ fun z => h (hj i z), wipeE_at h]
  have inner : ∀ (i : Nat) (s : Slot K), (u (wipeE ρ vs))[i]? = some s → s.isM = true → i ∉ vs := fun i s h m z => by
    have := nm (wipeE ρ vs) i (isM_wipe (hm i z))
    rw [isM_some h, m] at this; cases this
  refine ⟨x.ex, fun a o h n => x.fr a o h fun i s h' m => ?_, fun i s h m => ?_, fun a o h => ?_, x.th⟩
  · have z := inner i s h' m
    rw [hσ i z]
    exact n i s (by rw [← hρ i z]; exact h') m
  · have z : i ∉ vs := fun z => by
      have := hm' i z
      rw [isM_some h, m] at this; cases this
    obtain ⟨s', h', m'⟩ := x.sub i s (by rw [hρ' i z]; exact h) m
    exact ⟨s', by rw [← hρ i z]; exact h', m'⟩
  · rcases x.nw a o h with z | z | ⟨i, s, z1, z2, z3⟩
    · exact .inl z
    · exact .inr (.inl z)
    · have w := inner i s z1 z2
      exact .inr (.inr ⟨i, s, by rw [← hρ i w]; exact z1, z2, by rw [← hσ i w]; exact z3⟩)

theorem Nxt.updU {σ : List (Option V)} {Hk H Hk' H' : Hp} (x : Nxt σ ρ ρ' Hk H Hk' H') {D : Addr} {o : HO} (hD : H D = none) : Nxt σ ρ ρ' Hk H Hk' (upd H' D o) :=
  ⟨x.ex, fun a u h n => by rw [upd_ne (ne_of_none h hD)]; exact x.fr a u h n, x.sub, x.nw, fun a h => by
    by_cases w : a = D
    · subst w; rw [upd_same] at h; cases h
    · rw [upd_ne w] at h; exact x.th a h⟩
/-- a list comprehension; the element may change mutable slots: E by the state t -/
theorem en_lcS {τ : Type} {wi : TI} {g : TG} {ex : Enc K α} {f : Enc K β} {as : List α} {js vs : List Nat} {u : α → Env K → Env K} (E : τ → Env K) (t0 : τ) {s : τ → α → τ} {p : τ → α → Bool} {v : τ → α → β}
    (hi : EvI wi ρ (E t0) ex as) (hg : EvG g ex js u) (hj : ∀ j ∈ js, j ∈ vs) (hm : ∀ t, noMAt (E t) vs) (hag : ∀ t t' i, i ∈ vs → (E t)[i]? = (E t')[i]?)
    (ht : ∀ i a t, as[i]? = some a → t = (lcGo s p v t0 (as.take i)).1 → EvT tt (u a (wipeE (E t) vs)) (u a (wipeE (E t) vs)) (p t a))
    (he : ∀ i a t, as[i]? = some a → t = (lcGo s p v t0 (as.take i)).1 → p t a = true → EvD te (u a (wipeE (E t) vs)) (u a (wipeE (E (s t a)) vs)) f (v t a)) :
    EvN (tLc wi g tt te vs) ρ (E (lcGo s p v t0 as).1) f (lcGo s p v t0 as).2 := fun c σ Hk H k Q q =>
  hi c σ Hk H k _ fun J Hk1 H1 k1 x1 W => fun D hD => by
    refine ⟨fun i m H' => m = as.length - i ∧ i ≤ as.length ∧ ∃ Hk', Ok c Hk' H' σ (E (lcGo s p v t0 (as.take i)).1) ∧ Nxt σ (E t0) (E (lcGo s p v t0 (as.take i)).1) Hk1 H1 Hk' H' ∧ Hk' D = none ∧
      ∃ xs, H' D = some (.lst xs) ∧ All2 (f.rep Hk') xs (lcGo s p v t0 (as.take i)).2, ⟨as.length, rfl, Nat.zero_le _, Hk1, ?_⟩, ?_⟩
    · obtain ⟨k2, x2, n2⟩ := k1.newL (xs := []) hD
      exact ⟨k2, x2, n2, [], upd_same, .nil⟩
    · rintro i m H' ⟨rfl, hi', Hk', k', x', hDk, xs, hDx, hxs⟩
      have hnD : ∀ (j : Nat) (z : Slot K), (E (lcGo s p v t0 (as.take i)).1)[j]? = some z → z.isM = true → σ[j]? ≠ some (some (V.ref D)) := fun j z h m =>
        let ⟨z', h', m'⟩ := x'.sub j z h m
        k1.apart hD h' m'
      by_cases lt : i < as.length
      · refine .inr ⟨W.go i H' lt (x'.ex.trans k'.ex), fun H' => (i + 1 ≤ as.length ∧ ∃ Hk', Ok c Hk' H' σ (E (lcGo s p v t0 (as.take (i + 1))).1) ∧ Nxt σ (E t0) (E (lcGo s p v t0 (as.take (i + 1))).1) Hk1 H1 Hk' H' ∧ Hk' D = none ∧
          ∃ xs, H' D = some (.lst xs) ∧ All2 (f.rep Hk') xs (lcGo s p v t0 (as.take (i + 1))).2), fun H'' n => ⟨as.length - (i + 1), by omega, rfl, n.1, n.2⟩, fun x H'' hy => ?_⟩
        obtain ⟨a, Hk2, ha, k2, x2, r2⟩ := W.yld i H' x H'' hy lt c σ _ Hk' k' x'.ex
        have tk := take_snoc ha
        have hD2 : H'' D = some (.lst xs) := x2.fr D _ hDx hnD
        refine hg.run c (L2.wipe σ vs) Hk2 H'' _ x a (k2.wipe (hm _)) (fun j h => isM_wipe (hm _ j (hj j h))) r2 _ fun σ2 ko hl hσ => ?_
        have hw : L2.wipe σ2 vs = L2.wipe σ vs := wipe_idem hl fun i hi => hσ i fun h => hi (hj i h)
        refine ⟨hw, ht i a _ ha rfl c σ2 Hk2 H'' ko _ fun Hk3 H3 k3 x3 => ?_⟩
        have x3' : Nxt σ (E (lcGo s p v t0 (as.take i)).1) (E (lcGo s p v t0 (as.take i)).1) Hk2 H'' Hk3 H3 := x3.rewipe hw hj (hg.agr a) (hg.agr a) (hg.nm a) (hm _) (hm _)
        have hD3 : H3 D = some (.lst xs) := x3'.fr D _ hD2 hnD
        have nk : ∀ {Hk0 H0 Hk4 H4 : Hp} {ρ4 : Env K}, Nxt σ (E (lcGo s p v t0 (as.take i)).1) ρ4 Hk0 H0 Hk4 H4 → Hk0 D = none → (∃ o, H0 D = some o) → Hk4 D = none := fun {Hk0 H0 Hk4 H4 ρ4} x h0 h1 => by
          cases z : Hk4 D with
          | none => rfl
          | some o =>
            obtain ⟨o', h1⟩ := h1
            rcases x.nw D o z with y | y | ⟨j, w, y1, y2, y3⟩
            · rw [h0] at y; cases y
            · rw [h1] at y; cases y
            · exact absurd y3 (hnD j w y1 y2)
        have hDk2 : Hk2 D = none := nk x2 hDk ⟨_, hDx⟩
        have hDk3 : Hk3 D = none := nk x3' hDk2 ⟨_, hD2⟩
        cases hp : p (lcGo s p v t0 (as.take i)).1 a with
        | false =>
          rw [if_neg (by decide)]
          have e : lcGo s p v t0 (as.take (i + 1)) = lcGo s p v t0 (as.take i) := by rw [tk, lcGo_snoc, hp]; rfl
          refine ⟨lt, Hk3, ?_⟩
          rw [e]
          exact ⟨k'.rewipe k3 (x2.ex.trans x3.ex) hw hj (hg.agr a) (hg.len a) (hm _) (fun _ _ => rfl), (x'.trans x2).trans x3', hDk3, xs, hD3, hxs.imp fun _ _ h => f.mono (x2.ex.trans x3.ex) h⟩
        | true =>
          rw [if_pos rfl]
          refine he i a _ ha rfl hp c σ2 Hk3 H3 k3 _ fun y Hk4 H4 k4 x4 r4 => ?_
          have e : lcGo s p v t0 (as.take (i + 1)) = (s (lcGo s p v t0 (as.take i)).1 a, (lcGo s p v t0 (as.take i)).2 ++ [v (lcGo s p v t0 (as.take i)).1 a]) := by rw [tk, lcGo_snoc, hp]; rfl
          have x4' : Nxt σ (E (lcGo s p v t0 (as.take i)).1) (E (s (lcGo s p v t0 (as.take i)).1 a)) Hk3 H3 Hk4 H4 := x4.rewipe hw hj (hg.agr a) (hg.agr a) (hg.nm a) (hm _) (hm _)
          have hD4 : H4 D = some (.lst xs) := x4'.fr D _ hD3 hnD
          have hDk4 : Hk4 D = none := nk x4' hDk3 ⟨_, hD3⟩
          have k5 : Ok c Hk4 H4 σ (E (s (lcGo s p v t0 (as.take i)).1 a)) := k'.rewipe k4 (x2.ex.trans (x3.ex.trans x4.ex)) hw hj (hg.agr a) (hg.len a) (hm _) (hag _ _)
          have x5 := ((x'.trans x2).trans x3').trans x4'
          have ll : xs.length < LM := by
            have a1 := hxs.len
            have a2 := lcGo_len (s := s) (p := p) (v := v) (as := as.take i) (t := t0)
            have a3 := List.length_take_le i as
            have a4 := W.len
            omega
          refine ⟨xs, hD4, lm_lt ll, lt, Hk4, ?_⟩
          rw [e]
          refine ⟨k5.updU hDk4 (k1.th D hD) hD4 fun j z h m => ?_, x5.updU hD, hDk4, xs ++ [y], upd_same, (hxs.imp fun _ _ h => f.mono (x2.ex.trans (x3.ex.trans x4.ex)) h).app (.cons r4 .nil)⟩
          · obtain ⟨z', h', m'⟩ := x5.sub j z h m
            exact k1.apart hD h' m'
      · have e : i = as.length := by omega
        subst e
        rw [List.take_length] at k' x' hxs
        exact .inl ⟨W.stop H' (x'.ex.trans k'.ex), q D xs Hk' H' k' (x1.trans x') hDk hDx hxs (Nat.le_trans lcGo_len W.len) (x1.th D hD)⟩
/-- .. that changes nothing -/
theorem en_lc {wi : TI} {g : TG} {ex : Enc K α} {f : Enc K β} {as : List α} {js vs : List Nat} {u : α → Env K → Env K} {p : α → Bool} {v : α → β}
    (hi : EvI wi ρ ρ1 ex as) (hg : EvG g ex js u) (hj : ∀ j ∈ js, j ∈ vs) (hm : noMAt ρ1 vs)
    (ht : ∀ a, a ∈ as → EvT tt (u a (wipeE ρ1 vs)) (u a (wipeE ρ1 vs)) (p a)) (he : ∀ a, a ∈ as → p a = true → EvD te (u a (wipeE ρ1 vs)) (u a (wipeE ρ1 vs)) f (v a)) :
    EvN (tLc wi g tt te vs) ρ ρ1 f ((as.filter p).map v) := by
  have key : ∀ as : List α, lcGo (fun (t : Unit) (_ : α) => t) (fun _ a => p a) (fun _ a => v a) () as = ((), (as.filter p).map v) := by
    intro as
    induction as with
    | nil => rfl
    | cons a as ih =>
      unfold lcGo
      rw [ih]
      cases h : p a <;> simp [h]
  have q := en_lcS (tt := tt) (te := te) (f := f) (p := fun (_ : Unit) a => p a) (v := fun _ a => v a) (s := fun t _ => t) (fun _ => ρ1) () hi hg hj (fun _ => hm) (fun _ _ _ _ => rfl)
    (fun i a t h _ => ht a (List.mem_of_getElem? h)) (fun i a t h _ hp => he a (List.mem_of_getElem? h) hp)
  rw [key] at q
  exact q
/-- .. without a test -/
theorem en_lcY {wi : TI} {g : TG} {ex : Enc K α} {f : Enc K β} {as : List α} {js vs : List Nat} {u : α → Env K → Env K} {v : α → β}
    (hi : EvI wi ρ ρ1 ex as) (hg : EvG g ex js u) (hj : ∀ j ∈ js, j ∈ vs) (hm : noMAt ρ1 vs)
    (he : ∀ a, a ∈ as → EvD te (u a (wipeE ρ1 vs)) (u a (wipeE ρ1 vs)) f (v a)) : EvN (tLc wi g tYes te vs) ρ ρ1 f (as.map v) := by
  have q := en_lc (tt := tYes) (p := fun _ => true) (v := v) (te := te) (f := f) hi hg hj hm (fun _ _ => et_yes) (fun a h _ => he a h)
  rw [List.filter_eq_self.mpr fun _ _ => rfl] at q
  exact q

/-! ### statements -/
theorem Ok.nox {c : Ent} {Hk H : Hp} {σ : List (Option V)} (k : Ok c Hk H σ ρ) : Ex Hk Hk := Ex.refl _
theorem xs_set {j : Nat} {a : α} (h : EvD te ρ ρ1 e a) (hj : okSet ρ1 j = true) : XS (tAsg te (gName j)) ρ (ρ1.set j (.d e a)) := fun c σ Hk H k D q =>
  h c σ Hk H k _ fun v Hk1 H1 k1 x1 r1 => q _ Hk1 H1 (k1.setX hj ⟨v, rfl, r1⟩ fun h => nomatch h) x1.ex
theorem xs_new {j : Nat} {s : Slot K} (h : EvW te ρ ρ1 s) (hj : okSet ρ1 j = true) : XS (tAsg te (gName j)) ρ (ρ1.set j s) := fun c σ Hk H k D q =>
  h c σ Hk H k _ fun p Hk1 H1 k1 x1 hs hH => q _ Hk1 H1 (k1.setX hj hs fun _ p' e' => by
    cases e'
    exact ⟨k.th p hH, fun i t h m => let ⟨s', e', m'⟩ := x1.sub i t h m; k.apart hH e' m'⟩) x1.ex
theorem xs_own {j : Nat} {as : List α} (h : EvN te ρ ρ1 e as) (hj : okSet ρ1 j = true) : XS (tAsg te (gName j)) ρ (ρ1.set j (.l e as)) := xs_new h.w hj
theorem xs_tgt {g : TG} {js : List Nat} {u : α → Env K → Env K} {a : α} (h : EvD te ρ ρ1 e a) (hg : EvG g e js u) (hj : noMAt ρ1 js) : XS (tAsg te g) ρ (u a ρ1) := fun c σ Hk H k D q =>
  h c σ Hk H k _ fun v Hk1 H1 k1 x1 r1 => hg.run c σ Hk1 H1 ρ1 v a k1 hj r1 _ fun σ' k2 _ _ => q σ' Hk1 H1 k2 x1.ex
theorem xs_drop {a : α} (h : EvD te ρ ρ1 e a) : XS (tDrop te) ρ ρ1 := fun c σ Hk H k D q => h c σ Hk H k _ fun v Hk1 H1 k1 x1 r1 => q σ Hk1 H1 k1 x1.ex
theorem xs_aug {j : Nat} {f : Int → Int → Int} {a b : Int} (ha : ρ[j]? = some (.d eI a)) (h : EvD te ρ ρ1 eI b) (hj : isMAt ρ1 j = false) : XS (tAug j te (ipI f)) ρ (ρ1.set j (.d eI (f a b))) := fun c σ Hk H k D q => by
  obtain ⟨v, h1, h2⟩ := k.var ha
  exact ⟨v, h1, h c σ Hk H k _ fun w Hk1 H1 k1 x1 r1 => ⟨a, b, h2, r1, q _ Hk1 H1 (k1.setD hj rfl) x1.ex⟩⟩
theorem xs_weak {ts : TS} (h : XS ts ρ ρ1) (w : Weak ρ1 ρ2) : XS ts ρ ρ2 := fun c σ Hk H k D q => h c σ Hk H k D fun σ' Hk' H' k' x => q σ' Hk' H' (k'.weak w) x
theorem xs_seq {ts us : TS} (h : XS ts ρ ρ1) (h2 : XS us ρ1 ρ2) : XS (tSeq ts us) ρ ρ2 := fun c σ Hk H k D q =>
  h c σ Hk H k _ fun σ1 Hk1 H1 k1 x1 => h2 c σ1 Hk1 H1 k1 D fun σ2 Hk2 H2 k2 x2 => q σ2 Hk2 H2 k2 (x1.trans x2)
theorem xs_pass : XS tNext ρ ρ := fun c σ Hk H k D q => q σ Hk H k (Ex.refl _)
theorem xs_if {ts us : TS} {b : Bool} {τ : Type} (E : τ → Env K) {x y : τ} (h : EvT tt ρ ρ1 b) (h1 : b = true → XS ts ρ1 (E x)) (h2 : b = false → XS us ρ1 (E y)) : XS (tIfS tt ts us) ρ (E (bif b then x else y)) := fun c σ Hk H k D q =>
  h c σ Hk H k _ fun Hk1 H1 k1 x1 => by
    cases b with
    | true => rw [if_pos rfl]; exact h1 rfl c σ Hk1 H1 k1 D fun σ2 Hk2 H2 k2 x2 => q σ2 Hk2 H2 k2 (x1.ex.trans x2)
    | false => rw [if_neg (by decide)]; exact h2 rfl c σ Hk1 H1 k1 D fun σ2 Hk2 H2 k2 x2 => q σ2 Hk2 H2 k2 (x1.ex.trans x2)
/-- a list of one's own in slot j, at a heap -/
theorem Ok.list {c : Ent} {Hk H : Hp} {σ : List (Option V)} (k : Ok c Hk H σ ρ) {j : Nat} {as : List α} (h : ρ[j]? = some (.l e as)) : ∃ p xs, σ[j]? = some (some (V.ref p)) ∧ H p = some (.lst xs) ∧ All2 (e.rep Hk) xs as ∧ as.length ≤ LM := by
  obtain ⟨v, hv, p, o, e1, e2, e3, xs, e4, e5, e6⟩ := k.sl j _ h
  subst e1; subst e4
  exact ⟨p, xs, hv, e3, e5, e6⟩
theorem xs_app {j : Nat} {a : α} {as : List α} (hj : ρ[j]? = some (.l e as)) (h : EvD te ρ ρ1 e a) (hj1 : ρ1[j]? = some (.l e as)) (hl : as.length < 100000) : XS (tDrop (tBM K "list" rAppend (tVar j) (tCons te tNil))) ρ (ρ1.set j (.l e (as ++ [a]))) := fun c σ Hk H k D q => by
  obtain ⟨p, xs, hv, hp, hx, _⟩ := k.list hj
  refine ⟨.ref p, hv, .inl ⟨rfl, xs, SqL.of hp⟩, h c σ Hk H k _ fun v Hk1 H1 k1 x1 r1 => ?_⟩
  obtain ⟨p', ys, hv', hp', hy, _⟩ := k1.list hj1
  rw [hv] at hv'; cases hv'
  refine ⟨p, ys, v, rfl, rfl, hp', lm_lt (by rw [hy.len]; exact hl), q σ Hk1 _ (k1.mutate hj1 rfl rfl hv ⟨_, rfl, hy.app (.cons r1 .nil), ?_⟩) x1.ex⟩
  rw [List.length_append]; show as.length + 1 ≤ 100000; omega
def rInsert : V → List V → Hp → VK → Prop := fun x vs H Q => ∃ (l : Addr) (xs : List V) (i : Int) (y : V), x = .ref l ∧ vs = [.int i, y] ∧ H l = some (.lst xs) ∧ xs.length < sizeLine ∧ 0 ≤ i ∧ i < 2 ^ 63 ∧
    Q .non (upd H l (.lst (xs.take i.toNat ++ [y] ++ xs.drop i.toNat)))
theorem xs_ins {j : Nat} {a : α} {i : Int} {as : List α} (hj : ρ[j]? = some (.l e as)) (hi : EvD ta ρ ρ1 eI i) (h : EvD te ρ1 ρ2 e a) (hj1 : ρ2[j]? = some (.l e as)) (hl : as.length < 100000 ∧ 0 ≤ i ∧ i < 2 ^ 62) :
    XS (tDrop (tBM K "list" rInsert (tVar j) (tCons ta (tCons te tNil)))) ρ (ρ2.set j (.l e (as.take i.toNat ++ [a] ++ as.drop i.toNat))) := fun c σ Hk H k D q => by
  obtain ⟨p, xs, hv, hp, hx, _⟩ := k.list hj
  refine ⟨.ref p, hv, .inl ⟨rfl, xs, SqL.of hp⟩, hi c σ Hk H k _ fun w Hk0 H0 k0 x0 r0 => h c σ Hk0 H0 k0 _ fun v Hk1 H1 k1 x1 r1 => ?_⟩
  obtain ⟨p', ys, hv', hp', hy, _⟩ := k1.list hj1
  rw [hv] at hv'; cases hv'
  refine ⟨p, ys, i, v, rfl, by rw [show w = .int i from r0], hp', lm_lt (by rw [hy.len]; exact hl.1), hl.2.1, by omega, q σ Hk1 _ (k1.mutate hj1 rfl rfl hv ⟨_, rfl, ((hy.take _).app (.cons r1 .nil)).app (hy.drop _), ?_⟩) (x0.ex.trans x1.ex)⟩
  simp only [List.length_append, List.length_take, List.length_drop, List.length_singleton]
  show _ ≤ 100000; omega
theorem xs_setI {j : Nat} {a : α} {i : Int} {as : List α} (h : EvD te ρ ρ1 e a) (hi : EvD ta ρ1 ρ2 eI i) (hj1 : ρ1[j]? = some (.l e as)) (hj : ρ2[j]? = some (.l e as)) (hc : inIx as.length i) :
    XS (tAsg te (gSub (tVar j) ta rSetL)) ρ (ρ2.set j (.l e (as.set (ixI as.length i) a))) := fun c σ Hk H k D q => h c σ Hk H k _ fun v Hk1 H1 k1 x1 r1 => by
  obtain ⟨p, xs, hv, hp, hx, _⟩ := k1.list hj1
  refine ⟨.ref p, hv, hi c σ Hk1 H1 k1 _ fun w Hk2 H2 k2 x2 r2 => ?_⟩
  obtain ⟨p', ys, hv', hp', hy, hl⟩ := k2.list hj
  rw [hv] at hv'; cases hv'
  refine ⟨p, ys, i, ixI as.length i, rfl, r2, hp', ?_, q σ Hk2 _ (k2.mutate hj rfl rfl hv ⟨_, rfl, hy.set (e.mono x2.ex r1) _, by simpa using hl⟩) (x1.ex.trans x2.ex)⟩
  unfold ixN ixI
  rw [hy.len]
  by_cases z : 0 ≤ i
  · rw [if_pos z, if_pos z, if_pos hc.2]
  · rw [if_neg z, if_neg z, if_pos hc.1]
/-- a for that goes through and only stores -/
theorem xs_for {τ : Type} {wi : TI} {g : TG} {tb : TS} {ex : Enc K α} {as : List α} {js : List Nat} {u : α → Env K → Env K} (E : τ → Env K) (t0 : τ) {f : τ → α → τ}
    (hi : EvI wi ρ ρ1 ex as) (hw : Weak ρ1 (E t0)) (hg : EvG g ex js u) (hj : ∀ t, noMAt (E t) js)
    (hb : ∀ i a t, as[i]? = some a → t = (as.take i).foldl f t0 → XS tb (u a (E t)) (E (f t a))) : XS (tFor wi g tb) ρ (E (as.foldl f t0)) := fun c σ Hk H k D q =>
  hi c σ Hk H k _ fun J Hk1 H1 k1 x1 W => by
    refine ⟨fun i m σ' H' => m = as.length - i ∧ i ≤ as.length ∧ ∃ Hk', Ok c Hk' H' σ' (E ((as.take i).foldl f t0)) ∧ Ex Hk1 Hk', ⟨as.length, rfl, Nat.zero_le _, Hk1, k1.weak hw, Ex.refl _⟩, ?_⟩
    rintro i m σ' H' ⟨rfl, hi', Hk', k', x'⟩
    by_cases lt : i < as.length
    · refine .inr ⟨W.go i H' lt (x'.trans k'.ex), fun σ' H' => i + 1 ≤ as.length ∧ ∃ Hk', Ok c Hk' H' σ' (E ((as.take (i + 1)).foldl f t0)) ∧ Ex Hk1 Hk', fun σ'' H'' n => ⟨as.length - (i + 1), by omega, rfl, n.1, n.2⟩, fun x H'' hy => ?_⟩
      obtain ⟨a, Hk2, ha, k2, x2, r2⟩ := W.yld i H' x H'' hy lt c σ' _ Hk' k' x'
      refine hg.run c σ' Hk2 H'' _ x a k2 (hj _) r2 _ fun σ2 k3 _ _ => hb i a _ ha rfl c σ2 Hk2 H'' k3 _ fun σ3 Hk3 H3 k4 x4 => ⟨lt, Hk3, ?_, x'.trans (x2.ex.trans x4)⟩
      rw [take_snoc ha, List.foldl_append]; exact k4
    · have e : i = as.length := by omega
      subst e
      rw [List.take_length] at k'
      exact .inl ⟨W.stop H' (x'.trans k'.ex), q σ' Hk' H' k' (x1.ex.trans x')⟩

/-! ### blocks with ways out -/
variable {ν μ lam γ : Type} {E : ν → Env K} {L : lam → Env K} {R : Ret K γ}
theorem Out.fin_mono {c : Ent} {Hk Hk' : Hp} {D : Ends} {o : Out ν lam γ} (x : Ex Hk Hk') (h : o.fin c Hk E L R D) : o.fin c Hk' E L R D := by
  cases o with
  | nx t => exact fun σ Hk2 H2 k y => h σ Hk2 H2 k (x.trans y)
  | ct t => exact fun σ Hk2 H2 k y => h σ Hk2 H2 k (x.trans y)
  | bk t => exact fun σ Hk2 H2 k y => h σ Hk2 H2 k (x.trans y)
  | rt r => exact h
theorem xb_nil {t : ν} (w : Weak ρ (E t)) : XB tNext ρ E L R (.nx t) := fun c σ Hk H k D q => q σ Hk H (k.weak w) (Ex.refl _)
theorem xb_ct {t : lam} (w : Weak ρ (L t)) : XB tCont ρ E L R (.ct t) := fun c σ Hk H k D q => q σ Hk H (k.weak w) (Ex.refl _)
theorem xb_bk {t : lam} (w : Weak ρ (L t)) : XB tBreak ρ E L R (.bk t) := fun c σ Hk H k D q => q σ Hk H (k.weak w) (Ex.refl _)
theorem Ok.ret {c : Ent} {Hk H : Hp} {σ : List (Option V)} (k : Ok c Hk H σ ρ) {r : γ} {v : V} (hn : R.nl r = none) (hv : R.e.rep Hk v (R.val r)) (hl : ∀ s, R.ls r = some s → ρ[0]? = some s) : OkR c R r v Hk H :=
  ⟨k.ex, k.k0, k.fr, k.nw, k.th, fun _ => hv, fun s h => by rw [hn] at h; (cases h), fun p s h h' => by
    obtain ⟨a, _⟩ := k.lv p h
    obtain ⟨w, w1, w2⟩ := k.sl 0 s (hl s h')
    rw [a] at w1; cases w1; exact w2⟩
theorem Ok.retW {c : Ent} {Hk H : Hp} {σ : List (Option V)} (k : Ok c Hk H σ ρ) {r : γ} {p : Addr} {s : Slot K} (hn : R.nl r = some s) (m : s.isM = true) (hs : s.ok Hk H (some (V.ref p))) (h0 : c.H0 p = none) (hl : ∀ s, R.ls r = some s → ρ[0]? = some s) : OkR c R r (.ref p) Hk H :=
  ⟨k.ex, k.k0, k.fr, k.nw, k.th, fun h => by rw [hn] at h; (cases h), fun s' h => by
    rw [hn] at h; cases h
    exact ⟨m, hs, fun p' e => by cases e; exact h0⟩, fun p s h h' => by
    obtain ⟨a, _⟩ := k.lv p h
    obtain ⟨w, w1, w2⟩ := k.sl 0 s (hl s h')
    rw [a] at w1; cases w1; exact w2⟩
theorem ls_of {r : γ} (hl : R.ls r = none ∨ R.ls r = ρ[0]?) : ∀ s, R.ls r = some s → ρ[0]? = some s := fun s hs => by
  rcases hl with z | z
  · rw [z] at hs; cases hs
  · rw [← z]; exact hs
theorem xb_ret {r : γ} (h : EvD te ρ ρ1 R.e (R.val r)) (hl : R.ls r = none ∨ R.ls r = ρ1[0]?) (hn : R.nl r = none) : XB (tRet te) ρ E L R (.rt r) := fun c σ Hk H k D q =>
  h c σ Hk H k _ fun v Hk1 H1 k1 x1 r1 => q v Hk1 H1 (k1.ret hn r1 (ls_of hl))
/-- a new object is given back -/
theorem xb_retW {r : γ} {s : Slot K} (h : EvW te ρ ρ1 s) (hl : R.ls r = none ∨ R.ls r = ρ1[0]?) (hn : R.nl r = some s) (m : s.isM = true) : XB (tRet te) ρ E L R (.rt r) := fun c σ Hk H k D q =>
  h c σ Hk H k _ fun p Hk1 H1 k1 x1 hs hH => q _ Hk1 H1 (k1.retW hn m hs (k.th p hH) (ls_of hl))
/-- an own object is given back -/
theorem xb_retV {r : γ} {s : Slot K} {j : Nat} (hj : ρ[j]? = some s) (j0 : j ≠ 0) (hl : R.ls r = none ∨ R.ls r = ρ[0]?) (hn : R.nl r = some s) (m : s.isM = true) : XB (tRet (tVar j)) ρ E L R (.rt r) := fun c σ Hk H k D q => by
  obtain ⟨v, hv, hs⟩ := k.sl j s hj
  obtain ⟨p, o, rfl, h1, h2⟩ := Slot.okM_ref m hs
  refine ⟨.ref p, hv, q _ Hk H (k.retW hn m hs ?_ (ls_of hl))⟩
  rcases k.own j s p hj m hv with z | z
  · exact z
  · obtain ⟨a, s0, b, m0⟩ := k.lv p z
    exact absurd a (k.sep j 0 s s0 p j0 hj b m m0 hv)
theorem xb_retN {r : γ} (h : ∀ H, R.e.rep H .non (R.val r)) (hl : R.ls r = none ∨ R.ls r = ρ[0]?) (hn : R.nl r = none) : XB tRetN ρ E L R (.rt r) := fun c σ Hk H k D q =>
  q .non Hk H (k.ret hn (h _) (ls_of hl))
theorem xb_seq {ts us : TS} {o : Out ν lam γ} (h : XS ts ρ ρ1) (h2 : XB us ρ1 E L R o) : XB (tSeq ts us) ρ E L R o := fun c σ Hk H k D q =>
  h c σ Hk H k _ fun σ1 Hk1 H1 k1 x1 => h2 c σ1 Hk1 H1 k1 D (Out.fin_mono x1 q)
theorem xb_last {ts : TS} {t : ν} (h : XS ts ρ (E t)) : XB ts ρ E L R (.nx t) := fun c σ Hk H k D q => h c σ Hk H k D fun σ1 Hk1 H1 k1 x1 => q σ1 Hk1 H1 k1 x1
/-- let: a value by a name of its own -/
theorem xb_let {ts us : TS} {δ : Type} {a : δ} {f : δ → Out ν lam γ} (E1 : δ → Env K) (h : XS ts ρ (E1 a)) (h2 : ∀ x, x = a → XB us (E1 x) E L R (f x)) : XB (tSeq ts us) ρ E L R (lt a f) := xb_seq h (h2 a rfl)
theorem xb_ifT {ts us : TS} {b : Bool} {o1 o2 : Out ν lam γ} (h : EvT tt ρ ρ1 b) (h1 : b = true → XB ts ρ1 E L R o1) (h2 : b = false → XB us ρ1 E L R o2) : XB (tIfS tt ts us) ρ E L R (bif b then o1 else o2) := fun c σ Hk H k D q =>
  h c σ Hk H k _ fun Hk1 H1 k1 x1 => by
    cases b with
    | true => rw [if_pos rfl]; exact h1 rfl c σ Hk1 H1 k1 D (Out.fin_mono x1.ex q)
    | false => rw [if_neg (by decide)]; exact h2 rfl c σ Hk1 H1 k1 D (Out.fin_mono x1.ex q)
/-- what follows a block -/
theorem xb_bind {ts us : TS} {E1 : μ → Env K} {o : Out μ lam γ} {g : μ → Out ν lam γ} (h : XB ts ρ E1 L R o) (h2 : ∀ t, o = .nx t → XB us (E1 t) E L R (g t)) : XB (tSeq ts us) ρ E L R (o.bind g) := fun c σ Hk H k D q =>
  h c σ Hk H k _ (by
    cases o with
    | nx t => exact fun σ1 Hk1 H1 k1 x1 => h2 t rfl c σ1 Hk1 H1 k1 D (Out.fin_mono x1 q)
    | ct t => exact q
    | bk t => exact q
    | rt r => exact q)
/-- if c: a block that always leaves; rest -/
theorem xb_ifL {ts us : TS} {b : Bool} {o1 : Out Empty lam γ} {o2 : Out ν lam γ} (h : EvT tt ρ ρ1 b) (h1 : b = true → XB ts ρ1 (fun z : Empty => nomatch z) L R o1) (h2 : b = false → XB us ρ1 E L R o2) :
    XB (tSeq (tIfS tt ts tNext) us) ρ E L R (bif b then o1.bind (fun z => nomatch z) else o2) := fun c σ Hk H k D q =>
  h c σ Hk H k _ fun Hk1 H1 k1 x1 => by
    cases b with
    | true => rw [if_pos rfl]; exact h1 rfl c σ Hk1 H1 k1 _ (by
        have q := Out.fin_mono x1.ex q
        cases o1 with
        | nx t => exact nomatch t
        | ct t => exact q
        | bk t => exact q
        | rt r => exact q)
    | false => rw [if_neg (by decide)]; exact h2 rfl c σ Hk1 H1 k1 D (Out.fin_mono x1.ex q)
theorem run_app {τ : Type} {f : τ → α → Out τ τ γ} {bs : List α} : ∀ {as : List α} {t : τ}, run f t (as ++ bs) = (match run f t as with
    | .nx t' => run f t' bs
    | .ct t' => .ct t'
    | .bk t' => .bk t'
    | .rt r => .rt r)
  | [], t => by simp only [List.nil_append, run]
  | b :: as, t => by
    simp only [List.cons_append, run]
    cases h : f t b with
    | nx t' => exact run_app (as := as) (t := t')
    | ct t' => exact run_app (as := as) (t := t')
    | bk t' => rfl
    | rt r => rfl
theorem run_snoc {τ : Type} {f : τ → α → Out τ τ γ} {a : α} {as : List α} {t t' : τ} (h : run f t as = .nx t') : run f t (as ++ [a]) = (match f t' a with | .nx t'' => .nx t'' | .ct t'' => .nx t'' | .bk t'' => .bk t'' | .rt r => .rt r) := by
  rw [run_app, h]
  simp only [run]
  cases f t' a <;> rfl
/-- a for with ways out, what follows it -/
theorem xb_for {τ : Type} {wi : TI} {g : TG} {tb us : TS} {ex : Enc K α} {as : List α} {js : List Nat} {u : α → Env K → Env K} (E0 : τ → Env K) (t0 : τ) {f : τ → α → Out τ τ γ} {h : τ → Out ν lam γ}
    (hi : EvI wi ρ ρ1 ex as) (hw : Weak ρ1 (E0 t0)) (hg : EvG g ex js u) (hj : ∀ t, noMAt (E0 t) js)
    (hb : ∀ i a t, as[i]? = some a → run f t0 (as.take i) = .nx t → XB tb (u a (E0 t)) E0 E0 R (f t a))
    (hr : ∀ t, (run f t0 as).done = (.nx t : Out τ lam γ) → XB us (E0 t) E L R (h t)) : XB (tSeq (tFor wi g tb) us) ρ E L R ((run f t0 as).done.bind h) := fun c σ Hk H k D q =>
  hi c σ Hk H k _ fun J Hk1 H1 k1 x1 W => by
    have q1 := Out.fin_mono x1.ex q
    refine ⟨fun i m σ' H' => m = as.length - i ∧ i ≤ as.length ∧ ∃ t Hk', run f t0 (as.take i) = .nx t ∧ Ok c Hk' H' σ' (E0 t) ∧ Ex Hk1 Hk', ⟨as.length, rfl, Nat.zero_le _, t0, Hk1, rfl, k1.weak hw, Ex.refl _⟩, ?_⟩
    rintro i m σ' H' ⟨rfl, hi', t, Hk', hrun, k', x'⟩
    by_cases lt : i < as.length
    · refine .inr ⟨W.go i H' lt (x'.trans k'.ex), fun σ' H' => i + 1 ≤ as.length ∧ ∃ t Hk', run f t0 (as.take (i + 1)) = .nx t ∧ Ok c Hk' H' σ' (E0 t) ∧ Ex Hk1 Hk', fun σ'' H'' n => ⟨as.length - (i + 1), by omega, rfl, n.1, n.2⟩, fun x H'' hy => ?_⟩
      obtain ⟨a, Hk2, ha, k2, x2, r2⟩ := W.yld i H' x H'' hy lt c σ' _ Hk' k' x'
      refine hg.run c σ' Hk2 H'' _ x a k2 (hj _) r2 _ fun σ2 k3 _ _ => hb i a _ ha hrun c σ2 Hk2 H'' k3 _ ?_
      have e1 : run f t0 (as.take (i + 1)) = (match f t a with | .nx t'' => .nx t'' | .ct t'' => .nx t'' | .bk t'' => .bk t'' | .rt r => .rt r) := by rw [take_snoc ha, run_snoc hrun]
      have e2 : as = as.take (i + 1) ++ as.drop (i + 1) := (List.take_append_drop _ _).symm
      cases hf : f t a with
      | nx t' => exact fun σ3 Hk3 H3 k4 x4 => ⟨lt, t', Hk3, by rw [e1, hf], k4, x'.trans (x2.ex.trans x4)⟩
      | ct t' => exact fun σ3 Hk3 H3 k4 x4 => ⟨lt, t', Hk3, by rw [e1, hf], k4, x'.trans (x2.ex.trans x4)⟩
      | bk t' =>
        have e3 : (run f t0 as).done = (.nx t' : Out τ lam γ) := by rw [e2, run_app, e1, hf]; rfl
        rw [e3] at q1
        exact fun σ3 Hk3 H3 k4 x4 => hr t' e3 c σ3 Hk3 H3 k4 D (Out.fin_mono (x'.trans (x2.ex.trans x4)) q1)
      | rt r =>
        have e3 : (run f t0 as).done = (.rt r : Out τ lam γ) := by rw [e2, run_app, e1, hf]; rfl
        rw [e3] at q1
        exact q1
    · have e : i = as.length := by omega
      subst e
      rw [List.take_length] at hrun
      have e3 : (run f t0 as).done = (.nx t : Out τ lam γ) := by rw [hrun]; rfl
      rw [e3] at q1
      exact .inl ⟨W.stop H' (x'.trans k'.ex), hr t e3 c σ' Hk' H' k' D (Out.fin_mono x' q1)⟩
end
end FL

/-! FL4: defs and their promises, calls, own classes, isinstance. -/
namespace FL
open PySem L2 PyProof.Rows
section
variable {K : PySem.W.Frag} {ρ ρ' ρ0 ρ1 ρ2 ρ3 : Env K} {α β : Type} {e : Enc K α} {ta tb te tc : TE} {tt tu tw : TT}

def lentOf : List V → List (Slot K) → Option Addr
  | .ref p :: _, s :: _ => if s.isM = true then some p else none
  | _, _ => none
/-- a def's promise: called with data ds x that pre allows it gives f x -/
def spF {ι γ : Type} (ds : ι → List (Slot K)) (pre : ι → Prop) (R : Ret K γ) (f : ι → γ) : Sp := fun vs H Q _ => ∃ (x : ι) (Hk : Hp), pre x ∧ Ex Hk H ∧ All2S (fun v s => s.ok Hk H (some v)) vs (ds x) ∧
  ∀ v Hk' H', OkR ⟨H, Hk, lentOf vs (ds x)⟩ R (f x) v Hk' H' → Q v H'
def Out.val {ν γ : Type} (fl : ν → γ) : Out ν Empty γ → γ
  | .nx t => fl t
  | .ct t => nomatch t
  | .bk t => nomatch t
  | .rt r => r
def Out.get {γ : Type} : Out Empty Empty γ → γ := Out.val fun t => nomatch t
theorem Out.get_rt {γ : Type} {r : γ} : (Out.rt r : Out Empty Empty γ).get = r := rfl
theorem Out.get_cond {γ : Type} {b : Bool} {x y : Out Empty Empty γ} : (bif b then x else y).get = (bif b then x.get else y.get) := by cases b <;> rfl
theorem Out.get_lt {γ δ : Type} {a : δ} {f : δ → Out Empty Empty γ} : (lt a f).get = (f a).get := rfl
theorem Out.get_bind {γ μ : Type} {o : Out μ Empty γ} {g : μ → Out Empty Empty γ} : (o.bind g).get = o.val fun t => (g t).get := by
  cases o with
  | nx t => rfl
  | ct t => exact nomatch t
  | bk t => exact nomatch t
  | rt r => rfl

theorem start_ok {ι : Type} {N ps : List Str} {vs : List V} {ds : List (Slot K)} {Hk H : Hp} (x : Ex Hk H) (h : All2S (fun v s => s.ok Hk H (some v)) vs ds) (hn : vs.length = ps.length) (hM : ∀ i s, ds[i + 1]? = some s → s.isM = false) :
    Ok ⟨H, Hk, lentOf vs ds⟩ Hk H (L2.start N vs) (ds ++ List.replicate (N.length - ps.length) .un) := by
  have hl := h.len
  have g : ∀ (i : Nat) (s : Slot K), (ds ++ List.replicate (N.length - ps.length) .un)[i]? = some s → (ds[i]? = some s ∧ i < ds.length) ∨ s = .un := fun i s e => by
    by_cases l : i < ds.length
    · rw [List.getElem?_append_left l] at e; exact .inl ⟨e, l⟩
    · rw [List.getElem?_append_right (by omega)] at e
      rw [List.getElem?_replicate] at e
      split at e
      · cases e; exact .inr rfl
      · cases e
  have m0 : ∀ (i : Nat) (s : Slot K), (ds ++ List.replicate (N.length - ps.length) .un)[i]? = some s → s.isM = true → i = 0 ∧ ds[0]? = some s := fun i s e m => by
    rcases g i s e with ⟨a, b⟩ | a
    · cases i with
      | zero => exact ⟨rfl, a⟩
      | succ i => rw [hM i s a] at m; cases m
    · subst a; cases m
  refine ⟨x, Ex.refl _, fun a o h _ => h, fun a o h => .inl h, fun a h => h, ?_, fun i s e => ?_, fun i j s s' p ne e e' m m' => ?_, fun i s p e m q => ?_, fun p q => ?_⟩
  · unfold L2.start
    simp only [List.length_append, List.length_map, List.length_replicate]; omega
  · rcases g i s e with ⟨a, b⟩ | a
    · obtain ⟨v, h1, h2⟩ := h.get a
      refine ⟨some v, ?_, h2⟩
      unfold L2.start
      rw [List.getElem?_append_left (by simpa [hl] using b), List.getElem?_map, h1]; rfl
    · subst a
      have l : i < (L2.start N vs).length := by
        have := (List.getElem?_eq_some_iff.mp e).1
        unfold L2.start
        simp only [List.length_append, List.length_map, List.length_replicate] at this ⊢; omega
      exact ⟨_, List.getElem?_eq_getElem l, trivial⟩
  · have a := (m0 i s e m).1
    have b := (m0 j s' e' m').1
    omega
  · obtain ⟨rfl, a⟩ := m0 i s e m
    right
    cases vs with
    | nil => cases ds with
      | nil => cases a
      | cons => simp at hl
    | cons v vs =>
      cases ds with
      | nil => cases a
      | cons d ds =>
        cases a
        unfold L2.start at q
        simp at q
        subst q
        show (if s.isM = true then some p else none) = some p
        rw [if_pos m]
  · cases vs with
    | nil => cases q
    | cons v vs =>
      cases ds with
      | nil => cases v <;> cases q
      | cons d ds =>
        cases v with
        | ref a =>
          have q : (if d.isM = true then some a else none) = some p := q
          by_cases m : d.isM = true
          · rw [if_pos m] at q; cases q
            exact ⟨rfl, d, rfl, m⟩
          · rw [if_neg m] at q; cases q
        | _ => cases q

section
variable {P : Program} {w : World} {mg : Str → Option Value} {base : Heap}
/-- a def keeps its promise -/
theorem fn_ok {ι γ ν : Type} {ds : ι → List (Slot K)} {pre : ι → Prop} {R : Ret K γ} {fl : ι → ν → γ} {o : ι → Out ν Empty γ} {E : ι → ν → Env K} {x qual : Str} {st : Stmt} {f : Addr} {fd : FuncData} {N ps : List Str} {k : Nat} (F : Fun K x qual st f fd) (S : FnScope N ps (defScope st))
    (hlen : ∀ x, (ds x).length = ps.length) (hM : ∀ x i s, (ds x)[i + 1]? = some s → s.isM = false)
    (hfall : ∀ x t, (∀ H, R.e.rep H .non (R.val (fl x t))) ∧ R.nl (fl x t) = none ∧ ∀ s, R.ls (fl x t) = some s → (E x t)[0]? = some s)
    (hbody : ∀ (cdv : Value) (A : Around) (outer : List PySem.Env) (s : Shared) (H : Hp) (EX : XK), Room k (A.deeper (envOfC qual (defScope st) s.heap.objs.size f cdv)) → ∀ x, pre x →
      ∃ (ρ : Env K) (t : TS), ds x ++ List.replicate (N.length - ps.length) .un = ρ ∧ PSs (cxOf CX0 P w K mg base N qual (defScope st) f cdv A outer s H EX).nox (defBody st) t ∧ XB t ρ (E x) (fun z : Empty => nomatch z) R (o x)) :
    FnOk P w K mg base CX0 (k + 1) f fd ps (spF ds pre R fun x => (o x).val (fl x)) := by
  refine F.ok S (fun vs H Q EX h => ?_) (fun cdv A outer s H vs Q EX hr h => ?_)
  · obtain ⟨x, Hk, _, _, h3, _⟩ := h
    rw [h3.len, hlen]
  · obtain ⟨x, Hk, h1, h2, h3, h4⟩ := h
    obtain ⟨ρ, t, rfl, d, b⟩ := hbody cdv A outer s H EX hr x h1
    refine ⟨t, d, b _ (L2.start N vs) Hk H (start_ok (ι := ι) h2 h3 (by rw [h3.len, hlen]) (hM x)) _ ?_⟩
    have h4 : ∀ v Hk' H', OkR ⟨H, Hk, lentOf vs (ds x)⟩ R ((o x).val (fl x)) v Hk' H' → Q v H' := h4
    cases ho : o x with
    | nx r =>
      rw [ho] at h4
      exact fun σ' Hk' H' k' x' => h4 .non Hk' H' (k'.ret (hfall x r).2.1 ((hfall x r).1 _) (hfall x r).2.2)
    | ct z => exact nomatch z
    | bk z => exact nomatch z
    | rt r =>
      rw [ho] at h4
      exact fun v Hk' H' k' => h4 v Hk' H' k'
theorem fn_okE {ι γ : Type} {ds : ι → List (Slot K)} {pre : ι → Prop} {R : Ret K γ} {o : ι → Out Empty Empty γ} {x qual : Str} {st : Stmt} {f : Addr} {fd : FuncData} {N ps : List Str} {k : Nat} (F : Fun K x qual st f fd) (S : FnScope N ps (defScope st))
    (hlen : ∀ x, (ds x).length = ps.length) (hM : ∀ x i s, (ds x)[i + 1]? = some s → s.isM = false)
    (hbody : ∀ (cdv : Value) (A : Around) (outer : List PySem.Env) (s : Shared) (H : Hp) (EX : XK), Room k (A.deeper (envOfC qual (defScope st) s.heap.objs.size f cdv)) → ∀ x, pre x →
      ∃ (ρ : Env K) (t : TS), ds x ++ List.replicate (N.length - ps.length) .un = ρ ∧ PSs (cxOf CX0 P w K mg base N qual (defScope st) f cdv A outer s H EX).nox (defBody st) t ∧ XB t ρ (fun z : Empty => nomatch z) (fun z : Empty => nomatch z) R (o x)) :
    FnOk P w K mg base CX0 (k + 1) f fd ps (spF ds pre R fun x => (o x).get) :=
  fn_ok F S hlen hM (fun _ t => nomatch t) hbody
/-- the same under another pre and another name of what is given back -/
theorem fn_imp {ι γ : Type} {ds : ι → List (Slot K)} {pre pre' : ι → Prop} {R : Ret K γ} {g g' : ι → γ} {f : Addr} {fd : FuncData} {ps : List Str} {k : Nat} (F : FnOk P w K mg base CX0 k f fd ps (spF ds pre R g))
    (h : ∀ x, pre' x → pre x) (hg : ∀ x, pre' x → g x = g' x) : FnOk P w K mg base CX0 k f fd ps (spF ds pre' R g') :=
  F.imp fun vs H Q EX ⟨x, Hk, h1, h2, h3, h4⟩ => ⟨x, Hk, h x h1, h2, h3, by rw [hg x h1]; exact h4⟩
end

/-! ### calls -/
theorem Ok.called {c : Ent} {Hk H Hk' H' : Hp} {σ : List (Option V)} {γ : Type} {R : Ret K γ} {r : γ} {v : V} (k : Ok c Hk H σ ρ) (o : OkR ⟨H, Hk, none⟩ R r v Hk' H') : Ok c Hk' H' σ ρ ∧ Nxt σ ρ ρ Hk H Hk' H' :=
  ⟨k.ext (fun a u h => o.fr a u h fun z => nomatch z) o.k0 o.ex o.nw, Nxt.of o.k0 (fun a u h => o.fr a u h fun z => nomatch z) o.nw⟩
theorem lent_none {vs : List V} {ds : List (Slot K)} (h : isMAt ds 0 = false) : lentOf vs ds = none := by
  cases vs with
  | nil => rfl
  | cons v vs =>
    cases ds with
    | nil => cases v <;> rfl
    | cons d ds =>
      cases v with
      | ref a =>
        have h : d.isM = false := h
        show (if d.isM = true then some a else none) = none
        rw [if_neg (by rw [h]; decide)]
      | _ => rfl
variable {ι γ : Type} {ds : ι → List (Slot K)} {pre : ι → Prop} {R : Ret K γ} {f : ι → γ}
theorem ev_call {tA : TA} {E : XK} (x : ι) (ha : EvA tA ρ ρ1 (ds x)) (hp : pre x) (hm : isMAt (ds x) 0 = false) (hnl : R.nl (f x) = none) : EvD (tCall (spF ds pre R f) [] E tA) ρ ρ1 R.e (R.val (f x)) := fun c σ Hk H k Q q =>
  ha c σ Hk H k _ fun vs Hk1 H1 k1 x1 hv => ⟨x, Hk1, hp, k1.ex, by rw [List.append_nil]; exact hv, fun v Hk2 H2 o => by
    rw [lent_none hm] at o
    obtain ⟨k2, x2⟩ := k1.called o
    exact q v Hk2 H2 k2 (x1.trans x2) (o.rv hnl)⟩
/-- .. that gives a new object -/
theorem ev_callW {tA : TA} {E : XK} {s : Slot K} (x : ι) (ha : EvA tA ρ ρ1 (ds x)) (hp : pre x) (hm : isMAt (ds x) 0 = false) (hnl : R.nl (f x) = some s) : EvW (tCall (spF ds pre R f) [] E tA) ρ ρ1 s := fun c σ Hk H k Q q =>
  ha c σ Hk H k _ fun vs Hk1 H1 k1 x1 hv => ⟨x, Hk1, hp, k1.ex, by rw [List.append_nil]; exact hv, fun v Hk2 H2 o => by
    rw [lent_none hm] at o
    obtain ⟨k2, x2⟩ := k1.called o
    obtain ⟨m, hs, h0⟩ := o.nv s hnl
    obtain ⟨p, u, e1, _, _⟩ := Slot.okM_ref m hs
    cases e1
    exact q p Hk2 H2 k2 (x1.trans x2) hs (x1.th p (h0 p rfl))⟩
/-- the first argument a mutable slot's object -/
theorem ev_callM {tA : TA} {E : XK} {j : Nat} {s0 s s' : Slot K} {rest : List (Slot K)} (x : ι) (hj0 : ρ[j]? = some s0) (m0 : s0.isM = true) (ha : EvA tA ρ ρ1 rest) (hj : ρ1[j]? = some s) (m : s.isM = true) (hx : ds x = s :: rest) (hp : pre x)
    (hs : R.ls (f x) = some s') (m' : s'.isM = true) (hnl : R.nl (f x) = none) : EvD (tCall (spF ds pre R f) [] E (tCons (tVar j) tA)) ρ (ρ1.set j s') R.e (R.val (f x)) := fun c σ Hk H k Q q => by
  obtain ⟨v, hv, h0⟩ := k.sl j s0 hj0
  obtain ⟨p, o, rfl, _, _⟩ := Slot.okM_ref m0 h0
  refine ⟨.ref p, hv, ha c σ Hk H k _ fun vs Hk1 H1 k1 x1 hvs => ?_⟩
  obtain ⟨v', hv', h1⟩ := k1.sl j s hj
  rw [hv] at hv'; cases hv'
  refine ⟨x, Hk1, hp, k1.ex, by rw [List.append_nil, hx]; exact .cons h1 hvs, fun v Hk2 H2 ok => ?_⟩
  have hl : lentOf (V.ref p :: vs ++ []) (ds x) = some p := by
    rw [hx]
    show (if s.isM = true then some p else none) = some p
    rw [if_pos m]
  rw [hl] at ok
  obtain ⟨k2, x2⟩ := k1.callM hj m m' hv ok.ex ok.k0 (fun a o h n => ok.fr a o h fun z => n (Option.some.inj z)) ok.nw ok.th (ok.lv p s' rfl hs)
  exact q v Hk2 H2 k2 (x1.trans x2) (ok.rv hnl)
theorem ev_callMW {tA : TA} {E : XK} {j : Nat} {s0 s s' sn : Slot K} {rest : List (Slot K)} (x : ι) (hj0 : ρ[j]? = some s0) (m0 : s0.isM = true) (ha : EvA tA ρ ρ1 rest) (hj : ρ1[j]? = some s) (m : s.isM = true) (hx : ds x = s :: rest) (hp : pre x)
    (hs : R.ls (f x) = some s') (m' : s'.isM = true) (hnl : R.nl (f x) = some sn) : EvW (tCall (spF ds pre R f) [] E (tCons (tVar j) tA)) ρ (ρ1.set j s') sn := fun c σ Hk H k Q q => by
  obtain ⟨v, hv, h0⟩ := k.sl j s0 hj0
  obtain ⟨p, o, rfl, _, _⟩ := Slot.okM_ref m0 h0
  refine ⟨.ref p, hv, ha c σ Hk H k _ fun vs Hk1 H1 k1 x1 hvs => ?_⟩
  obtain ⟨v', hv', h1⟩ := k1.sl j s hj
  rw [hv] at hv'; cases hv'
  refine ⟨x, Hk1, hp, k1.ex, by rw [List.append_nil, hx]; exact .cons h1 hvs, fun v Hk2 H2 ok => ?_⟩
  have hl : lentOf (V.ref p :: vs ++ []) (ds x) = some p := by
    rw [hx]
    show (if s.isM = true then some p else none) = some p
    rw [if_pos m]
  rw [hl] at ok
  obtain ⟨k2, x2⟩ := k1.callM hj m m' hv ok.ex ok.k0 (fun a o h n => ok.fr a o h fun z => n (Option.some.inj z)) ok.nw ok.th (ok.lv p s' rfl hs)
  obtain ⟨mn, hsn, h0n⟩ := ok.nv sn hnl
  obtain ⟨pn, u, e1, _, _⟩ := Slot.okM_ref mn hsn
  cases e1
  exact q pn Hk2 H2 k2 (x1.trans x2) hsn (x1.th pn (h0n pn rfl))
/-- f(k = v): the values in the parameters' order -/
theorem ev_callK {tA tk : TA} {E : XK} {gV : List V → List V → List V} {d1 d2 : List (Slot K)} (x : ι) (ha : EvA tA ρ ρ1 d1) (hk : EvA tk ρ1 ρ2 d2) (hg : ∀ (vs zs : List V) (r : V → Slot K → Prop), All2S r vs d1 → All2S r zs d2 → All2S r (gV vs zs) (ds x))
    (hd : ∀ s ∈ d1, s.isM = false) (hp : pre x) (hm : isMAt (ds x) 0 = false) (hnl : R.nl (f x) = none) : EvD (tCallK (spF ds pre R f) gV E tA tk) ρ ρ2 R.e (R.val (f x)) := fun c σ Hk H k Q q =>
  ha c σ Hk H k _ fun vs Hk1 H1 k1 x1 hv => hk c σ Hk1 H1 k1 _ fun zs Hk2 H2 k2 x2 hz => by
    have hv' : All2S (fun v s => Slot.ok Hk2 H2 (some v) s) vs d1 := by
      clear q hz
      have key : ∀ {vs : List V} {d1 : List (Slot K)}, (∀ s ∈ d1, s.isM = false) → All2S (fun v s => Slot.ok Hk1 H1 (some v) s) vs d1 → All2S (fun v s => Slot.ok Hk2 H2 (some v) s) vs d1 := by
        intro vs d1 hd h
        induction h with
        | nil => exact .nil
        | cons h _ ih => exact .cons (Slot.okD (hd _ List.mem_cons_self) x2.ex h) (ih fun s hs => hd s (List.mem_cons_of_mem _ hs))
      exact key hd hv
    exact ⟨x, Hk2, hp, k2.ex, hg vs zs _ hv' hz, fun v Hk3 H3 o => by
      rw [lent_none hm] at o
      obtain ⟨k3, x3⟩ := k2.called o
      exact q v Hk3 H3 k3 ((x1.trans x2).trans x3) (o.rv hnl)⟩

/-! ### own classes: instances that stay as they are -/
structure Fld (K : PySem.W.Frag) (α : Type) : Type 1 where
  {β : Type}
  e : Enc K β
  g : α → β
def eObj (C : Addr) (fl : List (Str × Fld K α)) : Enc K α :=
  ⟨fun H v a => ∃ p dx vs, v = .ref p ∧ H p = some (.ins C dx vs) ∧ All2S (fun (p : Str × V) (q : Str × Fld K α) => p.1 = q.1 ∧ q.2.e.rep H p.2 (q.2.g a)) vs fl,
   fun x ⟨p, dx, vs, h1, h2, h3⟩ => ⟨p, dx, vs, h1, x _ _ h2, h3.imp fun _ q h => ⟨h.1, q.2.e.mono x h.2⟩⟩⟩
instance {C : Addr} {fl : List (Str × Fld K α)} : NN (eObj C fl) := ⟨fun _ _ ⟨_, _, _, h, _⟩ => nomatch h⟩
theorem look_all2 {α : Type} {β : Type 1} {n : Str} : ∀ {vs : List (Str × α)} {fl : List (Str × β)} {r : α → β → Prop}, All2S (fun (p : Str × α) (q : Str × β) => p.1 = q.1 ∧ r p.2 q.2) vs fl → ∀ {i : Nat} {F : β}, fl[i]? = some (n, F) → (fl.map Prod.fst).Nodup →
    ∃ v, vs.lookup n = some v ∧ r v F
  | _, _, _, .nil, i, F, h, _ => by simp at h
  | (m, v) :: vs, (m', G) :: fl, r, .cons h t, i, F, hi, nd => by
    obtain ⟨e, hr⟩ := h
    have e : m = m' := e
    subst e
    cases i with
    | zero =>
      simp at hi
      obtain ⟨rfl, rfl⟩ := hi
      exact ⟨v, by simp, hr⟩
    | succ i =>
      simp at hi
      have nd' := List.nodup_cons.mp nd
      have : n ≠ m := fun z => by
        subst z
        exact nd'.1 (List.mem_map.mpr ⟨_, List.mem_of_getElem? hi, rfl⟩)
      obtain ⟨w, h1, h2⟩ := look_all2 t hi nd'.2
      exact ⟨w, by rw [List.lookup_cons]; rw [beq_false_of_ne this]; exact h1, h2⟩
theorem look_none {α : Type} {β : Type 1} {n : Str} : ∀ {vs : List (Str × α)} {fl : List (Str × β)} {r : α → β → Prop}, All2S (fun (p : Str × α) (q : Str × β) => p.1 = q.1 ∧ r p.2 q.2) vs fl → n ∉ fl.map Prod.fst → vs.lookup n = none
  | _, _, _, .nil, _ => rfl
  | (m, v) :: vs, (m', G) :: fl, r, .cons h t, hn => by
    have e : m = m' := h.1
    subst e
    have : n ≠ m := fun z => hn (by subst z; exact List.mem_cons_self)
    rw [List.lookup_cons, beq_false_of_ne this]
    exact look_none t fun z => hn (List.mem_cons_of_mem _ z)
theorem ev_fld {C : Addr} {fl : List (Str × Fld K α)} {a : α} {n : Str} {F : Fld K α} (h : EvD te ρ ρ1 (eObj C fl) a) (i : Nat) (hi : fl[i]? = some (n, F)) (nd : (fl.map Prod.fst).Nodup) (cl : Cls K C) (na : NoAttr K C n) : EvD (tFld K te n) ρ ρ1 F.e (F.g a) := fun c σ Hk H k Q q =>
  h c σ Hk H k _ fun v Hk1 H1 k1 x1 ⟨p, dx, vs, h1, h2, h3⟩ => by
    obtain ⟨w, e1, e2⟩ := look_all2 (r := fun v (F : Fld K α) => F.e.rep Hk1 v (F.g a)) h3 hi nd
    exact ⟨p, C, dx, vs, w, h1, k1.ex _ _ h2, cl, na, e1, q w Hk1 H1 k1 x1 e2⟩
/-- o.m(..) of such an instance -/
theorem ev_meth {tA : TA} {EX : XK} {C : Addr} {fl : List (Str × Fld K α)} {a : α} {m : Str} {rest : List (Slot K)} (x : ι) (h : EvD te ρ ρ0 (eObj C fl) a) (hn : m ∉ fl.map Prod.fst) (ha : EvA tA ρ0 ρ1 rest) (hx : ds x = .d (eObj C fl) a :: rest) (hp : pre x) (hnl : R.nl (f x) = none) :
    EvD (tMeth C m (spF ds pre R f) [] EX te tA) ρ ρ1 R.e (R.val (f x)) := fun c σ Hk H k Q q =>
  h c σ Hk H k _ fun v Hk0 H0 k0 x0 r0 => by
    obtain ⟨p, dx, vs, rfl, h2, h3⟩ := id r0
    refine ⟨p, dx, vs, rfl, k0.ex _ _ h2, look_none (r := fun v (F : Fld K α) => F.e.rep Hk0 v (F.g a)) h3 hn, ha c σ Hk0 H0 k0 _ fun ws Hk1 H1 k1 x1 hv => ?_⟩
    refine ⟨x, Hk1, hp, k1.ex, by rw [List.append_nil, hx]; exact .cons ⟨_, rfl, (eObj C fl).mono x1.ex r0⟩ hv, fun v Hk2 H2 o => ?_⟩
    rw [lent_none (by rw [hx]; rfl)] at o
    obtain ⟨k2, x2⟩ := k1.called o
    exact q v Hk2 H2 k2 ((x0.trans x1).trans x2) (o.rv hnl)
/-- the instance's fields as they are stored -/
def insOf (fl : List (Str × Fld K α)) (a : α) : List (Str × DV K) := fl.map fun p => (p.1, ⟨p.2.e, p.2.g a⟩)
theorem insOf_all2 {fl : List (Str × Fld K α)} {a : α} {H : Hp} : ∀ {vs : List (Str × V)}, All2S (fun (p : Str × V) (q : Str × DV K) => p.1 = q.1 ∧ q.2.e.rep H p.2 q.2.a) vs (insOf fl a) → All2S (fun (p : Str × V) (q : Str × Fld K α) => p.1 = q.1 ∧ q.2.e.rep H p.2 (q.2.g a)) vs fl := by
  unfold insOf
  induction fl with
  | nil => intro vs h; cases h; exact .nil
  | cons F fl ih => intro vs h; cases h with | cons h t => exact .cons h (ih t)
/-- C(..): __init__ fills the new instance -/
theorem ev_make {tA : TA} {EX : XK} {C : Addr} {fl : List (Str × Fld K α)} {a : α} {rest : List (Slot K)} {R : Ret K γ} {f : ι → γ} (x : ι) (ha : EvA tA ρ ρ1 rest) (hx : ds x = .i C [] :: rest) (hp : pre x) (hr : ∀ H v, R.e.rep H v (R.val (f x)) → v = .non) (hs : R.ls (f x) = some (.i C (insOf fl a))) (hnl : R.nl (f x) = none) :
    EvD (tMake C (spF ds pre R f) [] EX tA) ρ ρ1 (eObj C fl) a := fun c σ Hk H k Q q =>
  ha c σ Hk H k _ fun vs Hk1 H1 k1 x1 hv p dx hp0 hdx ne => by
    have hkp : Hk1 p = none := k1.ex.none hp0
    have hkd : Hk1 dx = none := k1.ex.none hdx
    have exn : Ex H1 (upd (upd H1 dx (.own p)) p (.ins C dx [])) := fun b o h => by
      rw [upd_ne (ne_of_none h hp0), upd_ne (ne_of_none h hdx)]; exact h
    refine ⟨x, Hk1, hp, k1.ex.trans exn, ?_, fun v Hk2 H2 o => ?_⟩
    · rw [List.append_nil, hx]
      refine .cons ⟨p, _, rfl, hkp, upd_same, dx, [], rfl, .nil⟩ (hv.imp fun v s h => Slot.ok_ext h exn (Ex.refl _) fun a o h => .inl h)
    · have hl : lentOf (V.ref p :: (vs ++ [])) (ds x) = some p := by
        rw [hx]
        rfl
      rw [hl] at o
      refine ⟨hr _ _ (o.rv hnl), ?_⟩
      obtain ⟨p', u, e1, e2, e3, dx', ws, rfl, e5⟩ := o.lv p _ rfl hs
      cases e1
      have y : Ex Hk2 (upd Hk2 p (.ins C dx' ws)) := Ex.new e2
      have exH : Ex H1 H2 := fun b u h => o.fr b u (exn b u h) fun z => ne_of_none h hp0 (Option.some.inj z).symm
      refine q (.ref p) (upd Hk2 p (.ins C dx' ws)) H2 (k1.ext exH (o.k0.trans y) (fun b u h => ?_) fun b u h => ?_) (x1.trans (Nxt.of (o.k0.trans y) exH fun b u h => ?_)) ⟨p, dx', ws, rfl, upd_same, ?_⟩
      · by_cases z : b = p
        · subst z; rw [upd_same] at h; rw [e3, h]
        · rw [upd_ne z] at h; exact o.ex _ _ h
      · by_cases z : b = p
        · subst z; exact .inr hp0
        · rw [upd_ne z] at h
          rcases o.nw b u h with w | w
          · exact .inl w
          · refine .inr ?_
            have w : upd (upd H1 dx (.own p)) p (.ins C dx []) b = none := w
            rw [upd_ne z] at w
            by_cases z' : b = dx
            · subst z'; exact hdx
            · rw [upd_ne z'] at w; exact w
      · by_cases z : b = p
        · subst z; exact .inr hp0
        · rw [upd_ne z] at h
          rcases o.nw b u h with w | w
          · exact .inl w
          · refine .inr ?_
            have w : upd (upd H1 dx (.own p)) p (.ins C dx []) b = none := w
            rw [upd_ne z] at w
            by_cases z' : b = dx
            · subst z'; exact hdx
            · rw [upd_ne z'] at w; exact w
      · exact insOf_all2 (e5.imp fun _ q h => ⟨h.1, q.2.e.mono y h.2⟩)
/-- self.f = e, a new field -/
theorem putF_new {n : Str} {v : V} : ∀ {vs : List (Str × V)}, n ∉ vs.map Prod.fst → putF n v vs = vs ++ [(n, v)]
  | [], _ => rfl
  | (m, u) :: vs, h => by
    have : ¬ m = n := fun z => h (by subst z; exact List.mem_cons_self)
    show (if m = n then (m, v) :: vs else (m, u) :: putF n v vs) = _
    rw [if_neg this, putF_new fun z => h (List.mem_cons_of_mem _ z)]; rfl
theorem All2S.app {α : Type} {β : Type 1} {r : α → β → Prop} {xs xs' : List α} {ys ys' : List β} (h : All2S r xs ys) (h' : All2S r xs' ys') : All2S r (xs ++ xs') (ys ++ ys') := by
  induction h with
  | nil => exact h'
  | cons h _ ih => exact .cons h ih
theorem names_all2 {α : Type} {β : Type 1} {r : α → β → Prop} {vs : List (Str × α)} {fl : List (Str × β)} (h : All2S (fun (p : Str × α) (q : Str × β) => p.1 = q.1 ∧ r p.2 q.2) vs fl) : vs.map Prod.fst = fl.map Prod.fst := by
  induction h with
  | nil => rfl
  | cons h _ ih => simp [ih, h.1]
theorem xs_fld {C : Addr} {fs : List (Str × DV K)} {a : α} {n : Str} {j : Nat} (h : EvD te ρ ρ1 e a) (hj : ρ1[j]? = some (.i C fs)) (hn : n ∉ fs.map Prod.fst) (hl : fs.length < 100) (cl : Cls K C) (na : NoAttr K C n) : XS (sFld K (tVar j) te n) ρ (ρ1.set j (.i C (fs ++ [(n, ⟨e, a⟩)]))) := fun c σ Hk H k D q =>
  h c σ Hk H k _ fun v Hk1 H1 k1 x1 r1 => by
    obtain ⟨w, hw, p, o, rfl, e2, e3, dx, vs, rfl, e4⟩ := k1.sl j _ hj
    refine ⟨.ref p, hw, p, C, dx, vs, rfl, e3, cl, na, by rw [e4.len]; omega, q σ Hk1 _ (k1.mutate hj rfl rfl hw ?_) x1.ex⟩
    rw [putF_new (by rw [names_all2 (r := fun v (d : DV K) => d.e.rep Hk1 v d.a) e4]; exact hn)]
    exact ⟨dx, _, rfl, e4.app (.cons ⟨rfl, r1⟩ .nil)⟩

/-! ### isinstance -/
class TyE (e : Enc K α) (T : outParam String) : Prop where
  ty : ∀ H v a, e.rep H v a → TyX K H v (.type T)
instance : TyE (eI (K := K)) "int" := ⟨fun H v a h => by cases (show v = .int a from h); exact .base (.int a)⟩
instance : TyE (eB (K := K)) "bool" := ⟨fun H v a h => by cases (show v = .bl a from h); exact .base (.bl a)⟩
instance : TyE (eS (K := K)) "str" := ⟨fun H v a h => by cases (show v = .str a from h); exact .base (.str a)⟩
instance : TyE (eN (K := K)) "NoneType" := ⟨fun H v a h => by cases (show v = .non from h); exact .base .non⟩
theorem tyx_l {H : Hp} {p : Addr} {xs : List V} (h : SqL K H p xs) : TyX K H (.ref p) (.type "list") := by
  rcases h with (h | ⟨o, h⟩) | ⟨o, its, n, h1, h2, _⟩
  · exact .base (.lst h)
  · exact .base (.frz h)
  · exact .kList h1 h2
theorem tyx_t {H : Hp} {p : Addr} {xs : List V} (h : SqT K H p xs) : TyX K H (.ref p) (.type "tuple") := by
  rcases h with (h | ⟨o, h⟩) | ⟨o, its, n, h1, h2, _⟩
  · exact .base (.tup h)
  · exact .fTuple h
  · exact .kTuple h1 h2
instance : TyE (eL e) "list" := ⟨fun H v a ⟨p, xs, h1, h2, _⟩ => by subst h1; exact tyx_l h2⟩
instance : TyE (eT e) "tuple" := ⟨fun H v a ⟨p, xs, h1, h2, _⟩ => by subst h1; exact tyx_t h2⟩
instance {f : Enc K β} : TyE (eP e f) "tuple" := ⟨fun H v a ⟨p, x, y, h1, h2, _⟩ => by subst h1; exact tyx_t h2⟩
theorem ty_ext {H H' : Hp} {v : V} {a : α} {T : String} [TyE e T] (x : Ex H H') (h : e.rep H v a) : TyX K H' v (.type T) := TyE.ty (e := e) H' v a (e.mono x h)
theorem ev_isi {T n : String} [TyE e T] {a : α} {b : Bool} (h : EvD te ρ ρ1 e a) (hb : kitB T n = some b) : EvD (tCB (rIsi K) (tCons te (tCons (tC (.ty n)) tNil))) ρ ρ1 eB b := fun c σ Hk H k Q q =>
  h c σ Hk H k _ fun v Hk1 H1 k1 x1 r1 => ⟨v, .ty n, .type T, .type n, b, rfl, .ty n, ty_ext (e := e) k1.ex r1, kit_ty hb, q _ Hk1 H1 k1 x1 rfl⟩
/-- isinstance(x, T), x None or of a type -/
theorem ev_isiO {T n : String} [TyE e T] {a : Option α} (h : EvD te ρ ρ1 (eO e) a) (hb : kitB T n = some true) (hn : kitB "NoneType" n = some false) : EvD (tCB (rIsi K) (tCons te (tCons (tC (.ty n)) tNil))) ρ ρ1 eB a.isSome := fun c σ Hk H k Q q =>
  h c σ Hk H k _ fun v Hk1 H1 k1 x1 r1 => by
    cases a with
    | none =>
      cases (show v = .non from r1)
      exact ⟨.non, .ty n, .type "NoneType", .type n, false, rfl, .ty n, .base .non, kit_ty hn, q _ Hk1 H1 k1 x1 rfl⟩
    | some a => exact ⟨v, .ty n, .type T, .type n, true, rfl, .ty n, ty_ext (e := e) k1.ex r1, kit_ty hb, q _ Hk1 H1 k1 x1 rfl⟩
theorem rIsiT_of {T n1 n2 : String} {b : Bool} {v : V} {H : Hp} {tp : Addr} {Q : VK} (ty : TyX K H v (.type T)) (ht : H tp = some (.tup [.ty n1, .ty n2])) (h1 : kitB T n1 = some b) (h2 : kitB T n2 = some (!b)) (q : Q (.bl true) H) : rIsiT K [v, .ref tp] H Q := by
  refine ⟨v, tp, [.ty n1, .ty n2], .type T, [.type n1, .type n2], true, rfl, ht, .cons (.ty n1) (.cons (.ty n2) .nil), ty, ?_, q⟩
  exact kitAny_cons (kit_ty h1) (fun hb => kitAny_cons (kit_ty h2) (fun hb2 => by subst hb; cases hb2) (fun _ => rfl)) (fun _ => rfl)
/-- isinstance(x, (list, tuple)) of a list or tuple -/
theorem ev_isQ {as : List α} (h : EvD te ρ ρ1 (eQ e) as) : EvD (tCB (rIsiT K) (tCons te (tCons (tTup (tCons (tC (.ty "list")) (tCons (tC (.ty "tuple")) tNil))) tNil))) ρ ρ1 eB true := fun c σ Hk H k Q q =>
  h c σ Hk H k _ fun v Hk1 H1 k1 x1 r1 => ⟨by show 2 ≤ sizeLine; decide, fun p hp => by
    obtain ⟨k2, x2⟩ := k1.new (o := .tup [.ty "list", .ty "tuple"]) hp
    have r2 := (eQ e).mono (x2.ex.trans k2.ex) r1
    rcases r2 with ⟨l, xs, rfl, h2, _⟩ | ⟨l, xs, rfl, h2, _⟩
    · exact rIsiT_of (b := true) (tyx_l h2) upd_same (by decide +kernel) (by decide +kernel) (q _ _ _ k2 (x1.trans x2) rfl)
    · exact rIsiT_of (b := false) (tyx_t h2) upd_same (by decide +kernel) (by decide +kernel) (q _ _ _ k2 (x1.trans x2) rfl)⟩
end
end FL

/-! FL5: sorted of (int, tuple of ints), == of data, list or tuple walked, wider types. -/
/-! ### the order -/
namespace FL
open PySem L2 PyProof.Rows
theorem lexLt_iff : ∀ {a b : List Int}, HT.lexLt a b = true ↔ a < b
  | [], [] => by simp [HT.lexLt]
  | [], _ :: _ => by simp [HT.lexLt]
  | _ :: _, [] => by simp [HT.lexLt]
  | x :: xs, y :: ys => by
    rw [HT.lexLt_cons, List.cons_lt_cons_iff]
    by_cases h : x = y
    · subst h; simp [lexLt_iff]
    · simp [h]
def lexP (p q : Int × List Int) : Bool := if p.1 = q.1 then HT.lexLt p.2 q.2 else decide (p.1 < q.1)
theorem lexP_iff {p q : Int × List Int} : lexP p q = true ↔ p.1 < q.1 ∨ (p.1 = q.1 ∧ p.2 < q.2) := by
  unfold lexP
  by_cases h : p.1 = q.1
  · simp [h, lexLt_iff]
  · simp [h]
theorem lexP_irr (p : Int × List Int) : lexP p p = false := by
  cases h : lexP p p with
  | false => rfl
  | true =>
    rcases lexP_iff.mp h with q | ⟨_, q⟩
    · omega
    · exact absurd q (List.lt_irrefl _)
theorem lexP_tot {p q : Int × List Int} (h1 : lexP p q = false) (h2 : lexP q p = false) : p = q := by
  have a : ¬ (p.1 < q.1 ∨ (p.1 = q.1 ∧ p.2 < q.2)) := fun z => by rw [lexP_iff.mpr z] at h1; cases h1
  have b : ¬ (q.1 < p.1 ∨ (q.1 = p.1 ∧ q.2 < p.2)) := fun z => by rw [lexP_iff.mpr z] at h2; cases h2
  have e : p.1 = q.1 := by omega
  have c1 : ¬ p.2 < q.2 := fun z => a (.inr ⟨e, z⟩)
  have c2 : ¬ q.2 < p.2 := fun z => b (.inr ⟨e.symm, z⟩)
  exact Prod.ext e (List.le_antisymm (List.not_lt.mp c2) (List.not_lt.mp c1))
theorem lexP_trans {p q r : Int × List Int} (h1 : lexP p q = true) (h2 : lexP q r = true) : lexP p r = true := by
  rcases lexP_iff.mp h1 with a | ⟨a, a'⟩ <;> rcases lexP_iff.mp h2 with b | ⟨b, b'⟩
  · exact lexP_iff.mpr (.inl (by omega))
  · exact lexP_iff.mpr (.inl (by omega))
  · exact lexP_iff.mpr (.inl (by omega))
  · exact lexP_iff.mpr (.inr ⟨a.trans b, List.lt_trans a' b'⟩)
theorem lexP_swo : SrtO.Swo lexP := by
  have as : ∀ x y, lexP x y = true → lexP y x = false := fun x y h => by
    cases h' : lexP y x with
    | false => rfl
    | true => have := lexP_trans h h'; rw [lexP_irr] at this; cases this
  refine ⟨as, fun x y z h1 h2 => ?_⟩
  cases h3 : lexP z x with
  | false => rfl
  | true =>
    exfalso
    cases h4 : lexP x y with
    | true => have := lexP_trans h3 h4; rw [h2] at this; cases this
    | false =>
      have e := lexP_tot h4 h1
      subst e
      rw [h2] at h3; cases h3
theorem swo_key {α β : Type} {lt : β → β → Bool} (O : SrtO.Swo lt) (k : α → β) : SrtO.Swo fun x y => lt (k x) (k y) := ⟨fun x y h => O.asym _ _ h, fun x y z h1 h2 => O.tr _ _ _ h1 h2⟩
/-- insertion -/
def insP (x : Int × List Int) : List (Int × List Int) → List (Int × List Int)
  | [] => [x]
  | y :: ys => if lexP y x = true then y :: insP x ys else x :: y :: ys
def srtP : List (Int × List Int) → List (Int × List Int)
  | [] => []
  | x :: xs => insP x (srtP xs)
abbrev SortedP (l : List (Int × List Int)) : Prop := SrtO.Srtd lexP l
theorem insP_perm (x : Int × List Int) : ∀ l, (insP x l).Perm (x :: l)
  | [] => List.Perm.refl _
  | y :: ys => by
    unfold insP
    split
    · exact ((insP_perm x ys).cons y).trans (List.Perm.swap x y ys)
    · exact List.Perm.refl _
theorem srtP_perm : ∀ l, (srtP l).Perm l
  | [] => List.Perm.refl _
  | x :: xs => (insP_perm x _).trans ((srtP_perm xs).cons x)
theorem insP_sorted {x : Int × List Int} : ∀ {l}, SortedP l → SortedP (insP x l)
  | [], _ => List.pairwise_singleton _ _
  | y :: ys, h => by
    have h' := List.pairwise_cons.mp h
    unfold insP
    split
    · rename_i hy
      refine List.pairwise_cons.mpr ⟨fun z hz => ?_, insP_sorted h'.2⟩
      rcases List.mem_cons.mp ((insP_perm x ys).mem_iff.mp hz) with e | e
      · subst e; exact lexP_swo.asym _ _ hy
      · exact h'.1 z e
    · rename_i hy
      have hy : lexP y x = false := by cases q : lexP y x <;> simp_all
      refine List.pairwise_cons.mpr ⟨fun z hz => ?_, h⟩
      rcases List.mem_cons.mp hz with e | e
      · subst e; exact hy
      · exact lexP_swo.tr _ _ _ hy (h'.1 z e)
theorem srtP_sorted : ∀ l, SortedP (srtP l)
  | [] => List.Pairwise.nil
  | x :: xs => insP_sorted (srtP_sorted xs)
theorem sorted_uniq : ∀ {l m : List (Int × List Int)}, SortedP l → SortedP m → l.Perm m → l = m
  | [], m, _, _, h => (List.Perm.eq_nil h.symm).symm
  | x :: l, [], _, _, h => absurd h.length_eq (by simp)
  | x :: l, y :: m, hl, hm, h => by
    have h1 : lexP x y = false := by
      rcases List.mem_cons.mp (h.mem_iff.mp (List.mem_cons_self (a := x) (l := l))) with e | hx
      · subst e; exact lexP_irr _
      · exact (List.pairwise_cons.mp hm).1 x hx
    have h2 : lexP y x = false := by
      rcases List.mem_cons.mp (h.mem_iff.mpr (List.mem_cons_self (a := y) (l := m))) with e | hy
      · subst e; exact lexP_irr _
      · exact (List.pairwise_cons.mp hl).1 y hy
    have e := lexP_tot h1 h2
    subst e
    rw [sorted_uniq (List.pairwise_cons.mp hl).2 (List.pairwise_cons.mp hm).2 h.cons_inv]

/-! ### the values -/
def num0 : Value → Int
  | .int i _ => i
  | _ => 0
def IsLP (h : Heap) (v : Value) (d : Int × List Int) : Prop := ∃ a o t u m, v = .ref a ∧ h.get? a = some o ∧ o.cls = .type "tuple" ∧ o.data = .seq #[.int d.1 t, .ref u] m ∧ TS.TupInts h (.ref u) d.2
theorem IsLP.keeps {h h' : Heap} {v : Value} {d : Int × List Int} (p : IsLP h v d) (k : ∀ b o, h.get? b = some o → o.cls = .type "tuple" → h'.get? b = some o) : IsLP h' v d := by
  obtain ⟨a, o, t, u, m, e, ho, hc, hd, x⟩ := p
  exact ⟨a, o, t, u, m, e, k _ _ ho hc, hc, hd, x.keeps k⟩
def lpOf (h : Heap) (v : Value) : Int × List Int := match v with
  | .ref a => match h.get? a with
    | some o => match o.data with
      | .seq xs _ => (num0 (xs.getD 0 .none), TS.intsOf h (xs.getD 1 .none))
      | _ => (0, [])
    | none => (0, [])
  | _ => (0, [])
theorem IsLP.val {h : Heap} {v : Value} {d : Int × List Int} (p : IsLP h v d) : lpOf h v = d := by
  obtain ⟨a, o, t, u, m, rfl, ho, hc, hd, x⟩ := p
  simp only [lpOf, ho, hd]
  exact Prod.ext rfl x.ints
theorem readsAll_ints {h : Heap} : ∀ {its : List Value} {ns : List Int}, IntsAre its ns → ∃ as, ReadsAll h its (ns.map PyData.int) as
  | [], [], _ => ⟨_, ReadsAll.nil⟩
  | v :: its, n :: ns, h => by
    cases h with
    | cons _ t h =>
      obtain ⟨as, q⟩ := readsAll_ints h
      exact ⟨_, ReadsAll.cons (Reads.int n t) q⟩
theorem reads_tup {h : Heap} {u : Addr} {l : List Int} (x : TS.TupInts h (.ref u) l) : ∃ as, Reads h (.ref u) (.tuple (l.map PyData.int)) as := by
  obtain ⟨a, xs, e, ⟨o, ho, hc, n, hd⟩, i⟩ := x
  cases e
  obtain ⟨as, q⟩ := readsAll_ints (h := h) i
  exact ⟨_, Reads.tuple ho hc hd q⟩
theorem eqvAll_ints : ∀ {a b : List Int}, PyData.eqvAll (a.map PyData.int) (b.map PyData.int) = decide (a = b)
  | [], [] => by simp [PyData.eqvAll]
  | [], _ :: _ => by simp [PyData.eqvAll]
  | _ :: _, [] => by simp [PyData.eqvAll]
  | x :: xs, y :: ys => by
    simp only [List.map_cons, PyData.eqvAll, PyData.eqv, eqvAll_ints (a := xs) (b := ys)]
    by_cases h : x = y <;> simp [h]
theorem canLay_ints : ∀ (a : List Int), PyData.canLayAll0 (a.map PyData.int) = true
  | [] => rfl
  | x :: xs => by
    have := canLay_ints xs
    simp only [List.map_cons, PyData.canLayAll0, PyData.canLay0, this, Bool.and_self]
section
variable {prog : Program} {w : World} {A : Around} {E : Value → Shared → Prop} {s : Shared}
theorem lp_cmp {vs : List Value} {k : Value → Int × List Int} (hu : A.units + 64 < cLine) (hp : ∀ v ∈ vs, IsLP s.heap v (k v)) : SrtO.Cmp prog w A s (tuples' true) (fun p => p.1 ∈ vs) (SrtO.lt2 fun v u => lexP (k v) (k u)) := by
  intro p q hm hm'
  have h1 := hp _ hm
  have h2 := hp _ hm'
  show wpAny (model prog w) A (keyLt' (tuples' true) p.1 q.1) (fun r s' => s' = s ∧ r = lexP (k p.1) (k q.1)) (fun _ _ => False) s
  unfold lexP
  generalize k p.1 = x at h1 ⊢
  generalize k q.1 = y at h2 ⊢
  obtain ⟨a, o, t, u, n, e, ho, hc, hd, hx⟩ := h1
  obtain ⟨a', o', t', u', n', e', ho', hc', hd', hy⟩ := h2
  rw [e, e']
  refine PySem.W.kat_lt ho hd ho' hd' ?_
  show PySem.W.KatLex prog w A true (decide (2 < 2)) _ [(.int x.1 t, .int y.1 t'), (.ref u, .ref u')] 0 s
  refine PySem.W.kat_cons (SeqAt.EqAt.int_int x.1 t y.1 t' prog w _ _ ?_)
  refine PySem.W.kat_go (fun e1 => ?_) (fun e1 => ?_)
  · have ex : x.1 = y.1 := by simpa using e1
    obtain ⟨as, ra⟩ := reads_tup hx
    obtain ⟨bs, rb⟩ := reads_tup hy
    have md : min (PyData.depth (.tuple (x.2.map PyData.int))) (PyData.depth (.tuple (y.2.map PyData.int))) ≤ 64 := by
      have dd : ∀ l : List Int, PyData.depthAll (l.map PyData.int) ≤ 1 := by
        intro l
        induction l with
        | nil => simp [PyData.depthAll]
        | cons i l ih => simp only [List.map_cons, PyData.depthAll, PyData.depth]; omega
      have := dd x.2
      simp only [PyData.depth]
      omega
    refine PySem.W.kat_yes (PySem.W.kat_cons (SeqAt.eqAt_reads _ _ A s _ _ as bs ra rb (by simp only [PyData.canLay0, canLay_ints]) (by simp only [PyData.canLay0, canLay_ints]) (by omega) prog w _ _ ?_))
    refine PySem.W.kat_go (fun e2 => ?_) (fun e2 => ?_)
    · have ey : x.2 = y.2 := by simpa [PyData.eqv, eqvAll_ints] using e2
      have e3 : (if x.1 = y.1 then HT.lexLt x.2 y.2 else decide (x.1 < y.1)) = false := by
        have := lexP_irr x
        unfold lexP at this
        rw [if_pos rfl] at this
        rw [if_pos ex, ← ey]; exact this
      exact PySem.W.kat_yes (PySem.W.kat_nil ⟨rfl, e3.symm⟩)
    · have e3 : (if x.1 = y.1 then HT.lexLt x.2 y.2 else decide (x.1 < y.1)) = HT.lexLt x.2 y.2 := if_pos ex
      obtain ⟨b1, xs1, q1, T1, i1⟩ := hx
      obtain ⟨b2, xs2, q2, T2, i2⟩ := hy
      cases q1; cases q2
      refine PySem.W.kat_no (PySem.W.kat_one _ _ (HT.lt_tupInts T1 T2 i1 i2 (by omega) ?_))
      exact (show s = s ∧ HT.lexLt x.2 y.2 = _ from ⟨rfl, e3.symm⟩)
  · have ex : ¬ x.1 = y.1 := by simpa using e1
    have e3 : (if x.1 = y.1 then HT.lexLt x.2 y.2 else decide (x.1 < y.1)) = decide (x.1 < y.1) := if_neg ex
    exact PySem.W.kat_no (oneLt_int ⟨rfl, e3.symm⟩)
theorem lp_firsts {h : Heap} : ∀ {vs : List Value}, (∀ v ∈ vs, ∃ d, IsLP h v d) → ∃ fs : List Value, PySem.W.KatTups h vs fs ∧ fs.length = vs.length ∧ ∀ f ∈ fs, ∃ x t, f = Value.int x t
  | [], _ => ⟨[], PySem.W.KatTups.nil, rfl, fun _ hm => by simp at hm⟩
  | v :: vs, hp => by
    obtain ⟨fs, h1, h2, h3⟩ := lp_firsts (vs := vs) fun v' hm => hp v' (List.mem_cons_of_mem _ hm)
    obtain ⟨d, a, o, t, u, n, e, ho, hc, hd, _⟩ := hp v (List.mem_cons_self ..)
    subst e
    refine ⟨.int d.1 t :: fs, PySem.W.KatTups.cons ho hc hd rfl h1, by rw [List.length_cons, List.length_cons, h2], fun f hm => ?_⟩
    rcases List.mem_cons.mp hm with rfl | hm
    · exact ⟨d.1, t, rfl⟩
    · exact h3 f hm
theorem lp_sortableO {a : Addr} {vs : List Value} {k : Value → Int × List Int} (hu : A.units + 64 < cLine) (h0 : 0 < vs.length) (hp : ∀ v ∈ vs, IsLP s.heap v (k v)) (ha : ∀ o, s.heap.get? a = some o → o.cls ≠ .type "tuple") : SrtO.SortableO prog w A s a vs fun v u => lexP (k v) (k u) := by
  intro h' keep
  have hp' : ∀ v ∈ vs, IsLP h' v (k v) := fun v hm => (hp v hm).keeps fun b o e c => keep b o (fun z => by subst z; exact ha o e c) e
  obtain ⟨fs, h1, h2, h3⟩ := lp_firsts fun v hm => ⟨_, hp' v hm⟩
  refine ⟨tuples' true, fun Q E hq => ?_, lp_cmp (s := { s with heap := h' }) hu hp'⟩
  refine PySem.W.kat_kind (T := .type "int") h1 (by omega) (fun f hm => ?_) (by rfl) ?_
  · obtain ⟨x, t, rfl⟩ := h3 f hm
    exact PySem.W.Looks.now
  · have e : (Value.type "int" != Value.type "tuple") = true := by first | decide +kernel | rfl | decide
    rw [e]
    exact hq
theorem sorted_lp {l : Addr} {vs : List Value} {k : Value → Int × List Int} {Q : Value → Shared → Prop} (hu : A.in1.in1.units + 64 < cLine) (hl : s.heap.IsList l vs.toArray) (hz : vs.length ≤ sizeLine) (hp : ∀ v ∈ vs, IsLP s.heap v (k v))
    (h : ∀ (h' : Heap) (d : Addr) (out : List Value), SrtO.Srtd (fun v u => lexP (k v) (k u)) out → SrtO.Stb (fun v u => lexP (k v) (k u)) out vs → (∀ b o, s.heap.get? b = some o → h'.get? b = some o) → s.heap.objs.size ≤ d → (∃ n, h'.get? d = some (seqObj "list" out.toArray n)) → Q (.ref d) { s with heap := h' }) :
    wpAny (model prog w) A (call (.builtin "sorted") [.ref l]) Q E s := by
  refine SrtO.sorted_ord (swo_key lexP_swo k) hl hz (fun h2 h₁ a ha kk => ?_) fun out hs hb => ?_
  · refine lp_sortableO (s := { s with heap := h₁ }) hu (by omega) (fun v hm => (hp v hm).keeps fun b o e _ => (kk b o e).2) fun o e => ?_
    have e' : some o = some (seqObj "list" vs.toArray 0) := e.symm.trans ha
    cases e'
    intro c
    exact absurd (Value.type.inj c) (by decide)
  · exact h _ _ out hs hb (fun b o e => sortedAll_old e) (Nat.le_succ _) (sortedAll_at s.heap vs out.toArray)
end
end FL

/-! ### as a rule -/
namespace FL
open PySem L2 PyProof.Rows
def RepLP (K : PySem.W.Frag) (H : Hp) (x : V) (d : Int × List Int) : Prop := ∃ t u, x = .ref t ∧ SqT K H t [.int d.1, .ref u] ∧ SqT K H u (d.2.map V.int)
def rSortLP (K : PySem.W.Frag) : List V → Hp → VK → Prop := fun vs H Q => ∃ (a : Addr) (xs : List V) (ds : List (Int × List Int)), vs = [V.ref a] ∧ SqL K H a xs ∧ All2 (RepLP K H) xs ds ∧
  ∀ ys p, (∀ r : V → Int × List Int → Prop, All2 r xs ds → All2 r ys (srtP ds)) → H p = none → Q (.ref p) (upd H p (.lst ys))
section
variable {X : Cx} {pins : List (Addr × Obj)} {σ : L2.St} {H : Hp} {s : Shared}
theorem repLP_is (I : Inv X pins σ H s) {x : V} {d : Int × List Int} {u : Value} (h : RepLP X.K H x d) (r : RelV x u) : IsLP s.heap u d := by
  obtain ⟨t, v, rfl, h1, h2⟩ := h
  cases (show u = Value.ref t from r)
  obtain ⟨its, rv, ⟨o, ho, hc, n, hd⟩, _⟩ := I.tuple h1
  obtain ⟨u1, u2, rfl, r1, r2⟩ := vals2 rv
  obtain ⟨tk, rfl⟩ := r1
  cases (show u2 = Value.ref v from r2)
  exact ⟨t, o, tk, v, n, rfl, ho, hc, hd, tupI_raw I h2⟩
theorem all2_ix {α β : Type} {r : α → β → Prop} {xs : List α} {ys : List β} (h : All2 r xs ys) {x : α} (m : x ∈ xs) : ∃ y, y ∈ ys ∧ r x y := by
  obtain ⟨i, hi⟩ := List.getElem?_of_mem m
  obtain ⟨y, h1, h2⟩ := h.getL hi
  exact ⟨y, List.mem_of_getElem? h1, h2⟩
theorem repLP_det (I : Inv X pins σ H s) {x : V} {d d' : Int × List Int} (h : RepLP X.K H x d) (h' : RepLP X.K H x d') : d = d' := by
  obtain ⟨t, v, rfl, h1, h2⟩ := h
  obtain ⟨t', v', e, h1', h2'⟩ := h'
  cases e
  have a := I.tuple_inj h1 h1'
  have q1 : d.1 = d'.1 := by injection a with a1 a2; injection a1
  have q2 : v = v' := by injection a with a1 a2; injection a2 with a2 _; injection a2
  subst q2
  have b := I.tuple_inj h2 h2'
  have inj : ∀ {l m : List Int}, l.map V.int = m.map V.int → l = m := by
    intro l
    induction l with
    | nil => intro m h; cases m with
      | nil => rfl
      | cons => cases h
    | cons x l ih => intro m h; cases m with
      | nil => cases h
      | cons y m =>
        injection h with h1 h2
        injection h1 with h1
        rw [h1, ih h2]
  exact Prod.ext q1 (inj b)
theorem cr_sortLP (hu : X.A.units + 80 < cLine) : CallR X (.builtin "sorted") (rSortLP X.K) := by
  intro pins s σ H vs us Q I r h
  obtain ⟨a, xs, ds, rfl, hs, hx, q⟩ := h
  obtain ⟨its, rv, hl, hz⟩ := I.list hs
  obtain ⟨u, rfl, ru⟩ := vals1 r
  obtain rfl : u = Value.ref a := ru
  have hrefs : ∀ x ∈ xs, ∃ t, x = V.ref t := fun x m => let ⟨d, _, t, _, e, _⟩ := all2_ix hx m; ⟨t, e⟩
  obtain ⟨e1, e2⟩ := refs_back rv hrefs
  have hLP : ∀ v ∈ its, IsLP s.heap v (lpOf s.heap v) := fun v hv => by
    obtain ⟨t, rfl⟩ := e2 v hv
    have hm : V.ref t ∈ xs := by rw [e1]; exact List.mem_map.mpr ⟨_, hv, rfl⟩
    obtain ⟨d, _, hd⟩ := all2_ix hx hm
    have p := repLP_is I hd (show RelV (V.ref t) (Value.ref t) from rfl)
    rw [p.val]; exact p
  refine sorted_lp (k := lpOf s.heap) (by show X.A.units + 1 + 1 + 64 < cLine; omega) hl.isList (by rw [← rv.length]; exact hz) hLP fun h' d out h1 h2 kp hd hn => ?_
  have h3 : ∀ u ∈ out, ∃ a, u = Value.ref a := fun u hu => e2 u (h2.perm.mem_iff.mp hu)
  obtain ⟨n, hn⟩ := hn
  -- the data of a value
  have hdat : ∀ v ∈ its, RepLP X.K H (backV v) (lpOf s.heap v) := fun v hv => by
    obtain ⟨t, rfl⟩ := e2 v hv
    have hm : V.ref t ∈ xs := by rw [e1]; exact List.mem_map.mpr ⟨_, hv, rfl⟩
    obtain ⟨d, _, hd⟩ := all2_ix hx hm
    have p := repLP_is I hd (show RelV (V.ref t) (Value.ref t) from rfl)
    rw [p.val]; exact hd
  have hds : ds = its.map (lpOf s.heap) := by
    have key : ∀ {xs : List V} {ds : List (Int × List Int)} {its : List Value}, All2 (RepLP X.K H) xs ds → xs = its.map backV → (∀ v ∈ its, RepLP X.K H (backV v) (lpOf s.heap v)) → ds = its.map (lpOf s.heap) := by
      intro xs ds its h
      induction h generalizing its with
      | nil => intro e _; cases its with
        | nil => rfl
        | cons => cases e
      | cons h _ ih =>
        intro e hd
        cases its with
        | nil => cases e
        | cons v its =>
          injection e with ea eb
          rw [List.map_cons, ih eb fun v hv => hd v (List.mem_cons_of_mem _ hv)]
          subst ea
          rw [repLP_det I h (hd v List.mem_cons_self)]
    exact key hx e1 hdat
  have hout : ∀ r : V → Int × List Int → Prop, All2 r xs ds → All2 r (out.map backV) (out.map (lpOf s.heap)) := fun r hr => by
    rw [e1, hds] at hr
    have key : ∀ {its : List Value}, All2 r (its.map backV) (its.map (lpOf s.heap)) → ∀ v ∈ its, r (backV v) (lpOf s.heap v) := by
      intro its
      induction its with
      | nil => intro _ v hv; cases hv
      | cons w its ih =>
        intro h v hv
        cases h with
        | cons h t =>
          rcases List.mem_cons.mp hv with z | z
          · subst z; exact h
          · exact ih t v z
    have key2 : ∀ {out : List Value}, (∀ v ∈ out, r (backV v) (lpOf s.heap v)) → All2 r (out.map backV) (out.map (lpOf s.heap)) := by
      intro out h
      induction out with
      | nil => exact .nil
      | cons v out ih => exact .cons (h v List.mem_cons_self) (ih fun v hv => h v (List.mem_cons_of_mem _ hv))
    exact key2 fun v hv => key hr v (h2.perm.mem_iff.mp hv)
  have hsrt : out.map (lpOf s.heap) = srtP ds := by
    refine sorted_uniq (List.pairwise_map.mpr h1) (srtP_sorted ds) ?_
    rw [hds]
    exact (h2.perm.map _).trans (srtP_perm _).symm
  rw [hsrt] at hout
  refine ⟨.ref d, upd H d (.lst (out.map backV)), I.laid (t' := s.toks) kp hd ⟨?_, out, n, vals_back h3, hn⟩, rfl, q _ d hout (I.hok.fresh hd)⟩
  rw [List.length_map, h2.perm.length_eq, ← rv.length]
  exact hz
end
section
variable {K : PySem.W.Frag} {ρ ρ' ρ0 ρ1 ρ2 ρ3 : Env K} {α β : Type} {e : Enc K α} {ta tb te tc : TE}
theorem repLP_iff {H : Hp} {x : V} {d : Int × List Int} : (eP eI (eT eI) : Enc K (Int × List Int)).rep H x d → RepLP K H x d := fun ⟨p, a, b, h1, h2, h3, q, xs, h4, h5, h6, _⟩ => by
  have h3 : a = .int d.1 := h3
  subst h1; subst h3; subst h4
  have z : xs = d.2.map V.int := All2.eq_map (f := V.int) h6
  subst z
  exact ⟨p, q, rfl, h2, h5⟩
theorem insP_all2 {P : Int × List Int → Prop} : ∀ {l}, (∀ d ∈ l, P d) → ∀ d ∈ srtP l, P d := fun {l} h d hd => h d ((srtP_perm l).mem_iff.mp hd)
theorem en_sortLP {as : List (Int × List Int)} (ha : EvD ta ρ ρ1 (eL (eP eI (eT eI))) as) : EvN (tCB (rSortLP K) (tCons ta tNil)) ρ ρ1 (eP eI (eT eI)) (srtP as) := fun c σ Hk H k Q q =>
  ha c σ Hk H k _ fun v Hk1 H1 k1 x1 ⟨p, xs, e1, e2, e3, e4⟩ => by
    subst e1
    refine ⟨p, xs, as, rfl, ex_l k1.ex e2, e3.imp fun _ _ h => repLP_iff ((eP eI (eT eI)).mono k1.ex h), fun ys l hy hl => ?_⟩
    obtain ⟨k2, x2, n2⟩ := k1.newL (xs := ys) hl
    exact q l ys Hk1 _ k2 (x1.trans x2) n2 upd_same (hy _ e3) (by rw [(srtP_perm as).length_eq]; exact e4) (x1.th l hl)

/-! ### == of lists and tuples of ints -/
theorem dpAll_ints {H : Hp} : ∀ {xs : List V} {as : List Int}, All2 (fun v a => v = .int a) xs as → DpAll K H xs (as.map PyData.int)
  | [], [], _ => .nil
  | x :: xs, a :: as, .cons h t => by subst h; exact .cons (.int a) (dpAll_ints t)
theorem shaped_ints (as : List Int) : SeqAt.shaped (.list (as.map PyData.int)) = true ∧ SeqAt.shaped (.tuple (as.map PyData.int)) = true := by
  have dd : ∀ l : List Int, PyData.depthAll (l.map PyData.int) ≤ 1 := by
    intro l
    induction l with
    | nil => simp [PyData.depthAll]
    | cons i l ih => simp only [List.map_cons, PyData.depthAll, PyData.depth]; omega
  have := dd as
  constructor <;> (unfold SeqAt.shaped; rw [Bool.and_eq_true]; refine ⟨by simp only [PyData.canLay0, canLay_ints], decide_eq_true ?_⟩; simp only [PyData.depth]; omega)
theorem ev_eqLI {as bs : List Int} (ha : EvD ta ρ ρ1 (eL eI) as) (hb : EvD tb ρ1 ρ2 (eL eI) bs) : EvD (tOp (rEqD K) ta tb) ρ ρ2 eB (decide (as = bs)) :=
  ev_bin ha hb fun c σ Hk H x y k ⟨p, xs, e1, e2, e3, _⟩ ⟨q', ys, f1, f2, f3, _⟩ Q q => by
    subst e1; subst f1
    refine ⟨_, _, .lst (ex_l k.ex e2) (dpAll_ints e3), .lst (ex_l k.ex f2) (dpAll_ints f3), (shaped_ints as).1, (shaped_ints bs).1, q _ Hk H k Nxt.refl ?_⟩
    show V.bl _ = V.bl _
    rw [PyData.eqv, eqvAll_ints]
theorem ev_neLI {as bs : List Int} (ha : EvD ta ρ ρ1 (eL eI) as) (hb : EvD tb ρ1 ρ2 (eL eI) bs) : EvD (tOp (rNeD K) ta tb) ρ ρ2 eB (!decide (as = bs)) :=
  ev_bin ha hb fun c σ Hk H x y k ⟨p, xs, e1, e2, e3, _⟩ ⟨q', ys, f1, f2, f3, _⟩ Q q => by
    subst e1; subst f1
    refine ⟨_, _, .lst (ex_l k.ex e2) (dpAll_ints e3), .lst (ex_l k.ex f2) (dpAll_ints f3), (shaped_ints as).1, (shaped_ints bs).1, q _ Hk H k Nxt.refl ?_⟩
    show V.bl _ = V.bl _
    rw [PyData.eqv, eqvAll_ints]

/-! ### a list or a tuple walked -/
def iSeq (K : PySem.W.Frag) (tl : TE) : TI := fun σ H R => tl σ H fun x H1 => ∃ a, x = .ref a ∧ (((∃ xs, SqL K H1 a xs) ∧ R (Itl K a) H1) ∨ ((∃ xs, SqT K H1 a xs) ∧ R (Itt K a) H1))
theorem pi_seq {X : Cx} {tg l : Expr} {tl : TE} (hl : PE X l tl) : PI X tg l (iSeq X.K tl) := by
  refine ⟨fun pins s σ H R I h => ?_⟩
  refine thn (hl.run pins s σ H _ I h) fun v s1 ⟨x, H1, I1, r1, q1⟩ => ?_
  obtain ⟨a, e, q1⟩ := q1
  subst e
  cases r1
  rcases q1 with ⟨⟨xs, hq⟩, q⟩ | ⟨⟨xs, hq⟩, q⟩
  · obtain ⟨its, rv, p, hz⟩ := I1.list hq
    refine wpAny_pyIter_list p.isList ?_
    refine ⟨s1.heap.objs.size, [s1.heap.objs.size], _, _, H1, rfl, I1.kept (t' := s1.toks) fun b o e => Heap.get?_push_of_some _ e, turn_list a _, ⟨_, Heap.get?_push_size _ rfl, rfl, rfl⟩, fun b hb => ?_, q⟩
    have e : b = s1.heap.objs.size := by simpa using hb
    subst e
    exact I1.fpOk (Nat.le_refl _) (I1.hok.fresh (Nat.le_refl _))
  · obtain ⟨its, rv, p, hz⟩ := I1.tuple hq
    refine wpAny_pyIter_tuple (show s1.heap.IsTuple a its.toArray from p) ?_
    refine ⟨s1.heap.objs.size, [s1.heap.objs.size], _, _, H1, rfl, I1.kept (t' := s1.toks) fun b o e => Heap.get?_push_of_some _ e, turn_tuple a _, ⟨_, Heap.get?_push_size _ rfl, rfl, rfl⟩, fun b hb => ?_, q⟩
    have e : b = s1.heap.objs.size := by simpa using hb
    subst e
    exact I1.fpOk (Nat.le_refl _) (I1.hok.fresh (Nat.le_refl _))
theorem ei_seq {as : List α} (h : EvD te ρ ρ' (eQ e) as) : EvI (iSeq K te) ρ ρ' e as := fun c σ Hk H k R q =>
  h c σ Hk H k _ fun v Hk1 H1 k1 x1 h => by
    rcases h with ⟨p, xs, e1, e2, e3, e4⟩ | ⟨p, xs, e1, e2, e3, e4⟩
    · exact ⟨p, e1, .inl ⟨⟨xs, ex_l k1.ex e2⟩, q _ Hk1 H1 k1 x1
        ⟨e4, fun H2 y => ⟨xs, ex_l y e2, by rw [e3.len]; exact Nat.le_refl _⟩, fun i H2 hi y => ⟨xs, xs[i]'(by rw [e3.len]; exact hi), ex_l y e2, by simp⟩,
         fun i H2 x H3 hy hi c2 σ2 ρ2 Hk2 k2 y => by
          obtain ⟨rfl, hx⟩ := hy
          obtain ⟨a, a1, a2⟩ := e3.getL (hx xs (ex_l (y.trans k2.ex) e2))
          exact ⟨a, Hk2, a1, k2, Nxt.refl, e.mono y a2⟩⟩⟩⟩
    · exact ⟨p, e1, .inr ⟨⟨xs, ex_t k1.ex e2⟩, q _ Hk1 H1 k1 x1
        ⟨e4, fun H2 y => ⟨xs, ex_t y e2, by rw [e3.len]; exact Nat.le_refl _⟩, fun i H2 hi y => ⟨xs, xs[i]'(by rw [e3.len]; exact hi), ex_t y e2, by simp⟩,
         fun i H2 x H3 hy hi c2 σ2 ρ2 Hk2 k2 y => by
          obtain ⟨rfl, hx⟩ := hy
          obtain ⟨a, a1, a2⟩ := e3.getL (hx xs (ex_t (y.trans k2.ex) e2))
          exact ⟨a, Hk2, a1, k2, Nxt.refl, e.mono y a2⟩⟩⟩⟩

/-! ### one's own list walked: the turns must leave it as it is -/
/-! ### wider kinds -/
class Sub {α : Type} (e f : Enc K α) : Prop where
  sub : ∀ H v a, e.rep H v a → f.rep H v a
instance sub_refl {e : Enc K α} : Sub e e := ⟨fun _ _ _ h => h⟩
instance sub_LQ {e f : Enc K α} [Sub e f] : Sub (eL e) (eQ f) := ⟨fun H v a ⟨p, xs, h1, h2, h3, h4⟩ => .inl ⟨p, xs, h1, h2, h3.imp fun _ _ h => Sub.sub (f := f) _ _ _ h, h4⟩⟩
instance sub_TQ {e f : Enc K α} [Sub e f] : Sub (eT e) (eQ f) := ⟨fun H v a ⟨p, xs, h1, h2, h3, h4⟩ => .inr ⟨p, xs, h1, h2, h3.imp fun _ _ h => Sub.sub (f := f) _ _ _ h, h4⟩⟩
instance sub_LL {e f : Enc K α} [Sub e f] : Sub (eL e) (eL f) := ⟨fun H v a ⟨p, xs, h1, h2, h3, h4⟩ => ⟨p, xs, h1, h2, h3.imp fun _ _ h => Sub.sub (f := f) _ _ _ h, h4⟩⟩
instance sub_TT {e f : Enc K α} [Sub e f] : Sub (eT e) (eT f) := ⟨fun H v a ⟨p, xs, h1, h2, h3, h4⟩ => ⟨p, xs, h1, h2, h3.imp fun _ _ h => Sub.sub (f := f) _ _ _ h, h4⟩⟩
instance sub_PP {e e' : Enc K α} {f f' : Enc K β} [Sub e e'] [Sub f f'] : Sub (eP e f) (eP e' f') := ⟨fun H v a ⟨p, x, y, h1, h2, h3, h4⟩ => ⟨p, x, y, h1, h2, Sub.sub (f := e') _ _ _ h3, Sub.sub (f := f') _ _ _ h4⟩⟩
theorem ev_sub {f : Enc K α} [Sub e f] {a : α} (h : EvD te ρ ρ' e a) : EvD te ρ ρ' f a := fun c σ Hk H k Q q => h c σ Hk H k Q fun v Hk' H' k' x r => q v Hk' H' k' x (Sub.sub (e := e) _ _ _ r)
/-- tuple(xs), xs a list of one's own -/
theorem ev_tupleM {j : Nat} {as : List α} (h : ρ[j]? = some (.l e as)) : EvD (tCB (rTupleS K) (tCons (tVar j) tNil)) ρ ρ (eT e) as := fun c σ Hk H k Q q => by
  obtain ⟨p, xs, hv, hp, hx, hl⟩ := k.list h
  exact ⟨.ref p, hv, p, xs, rfl, .inl ⟨SqL.of hp, fun l hn => let ⟨k2, x2⟩ := k.new (o := .tup xs) hn; q _ _ _ k2 x2 ⟨l, xs, rfl, SqT.of upd_same, hx.imp fun _ _ h => e.mono x2.ex h, hl⟩⟩⟩
/-- [x] * n -/
theorem en_rep {as : List α} {n : Int} (ha : EvN ta ρ ρ1 e as) (hn : EvD tb ρ1 ρ1 eI n) (hc : 0 ≤ n ∧ (as.length : Int) * n ≤ 100000 ∧ n ≤ 100000) : EvN (tOp rRep ta tb) ρ ρ1 e (List.replicate n.toNat as).flatten := fun c σ Hk H k Q q =>
  ha c σ Hk H k _ fun p xs Hk1 H1 k1 x1 hk hp hx hl hH => by
    have hnm : ∀ (i : Nat) (s : Slot K), ρ1[i]? = some s → s.isM = true → σ[i]? ≠ some (some (V.ref p)) := fun i s z m => let ⟨s', e', m'⟩ := x1.sub i s z m; k.apart hH e' m'
    refine hn c σ Hk1 H1 k1 _ fun v Hk2 H2 k2 x2 r2 => ?_
    have hp2 : H2 p = some (.lst xs) := x2.fr p _ hp hnm
    have len : (List.replicate n.toNat as).flatten.length = as.length * n.toNat := by simp [Nat.mul_comm]
    have len' : xs.length * n.toNat ≤ 100000 := by
      rw [hx.len]
      have : ((as.length * n.toNat : Nat) : Int) ≤ 100000 := by rw [Int.natCast_mul, Int.toNat_of_nonneg hc.1]; exact hc.2.1
      omega
    refine ⟨p, n, xs, rfl, r2, hp2, by omega, by omega, Nat.le_trans len' (by decide), fun l hn' => ?_⟩
    obtain ⟨k3, x3, n3⟩ := k2.newL (xs := (List.replicate n.toNat xs).flatten) hn'
    refine q l _ Hk2 _ k3 ((x1.trans x2).trans x3) n3 upd_same ?_ (by rw [len, ← hx.len]; exact len') ((x1.trans x2).th l hn')
    have key : ∀ m : Nat, All2 (e.rep Hk2) (List.replicate m xs).flatten (List.replicate m as).flatten := by
      intro m
      induction m with
      | zero => exact .nil
      | succ m ih =>
        rw [List.replicate_succ, List.replicate_succ, List.flatten_cons, List.flatten_cons]
        exact (hx.imp fun _ _ h => e.mono x2.ex h).app ih
    exact key _
theorem xs_never {ts : TS} (h : False) : XS ts ρ ρ' := h.elim
theorem xb_never {ν lam γ : Type} {E : ν → Env K} {L : lam → Env K} {R : Ret K γ} {o : Out ν lam γ} {ts : TS} (h : False) : XB ts ρ E L R o := h.elim
theorem xs_let {ts us : TS} {δ τ : Type} {a : δ} {f : δ → τ} {E : τ → Env K} (E1 : δ → Env K) (h : XS ts ρ (E1 a)) (h2 : ∀ x, x = a → XS us (E1 x) (E (f x))) : XS (tSeq ts us) ρ (E (lt a f)) := xs_seq h (h2 a rfl)
theorem xs_end {τ : Type} {E : τ → Env K} {t : τ} (w : Weak ρ (E t)) : XS tNext ρ (E t) := xs_weak xs_pass w
end
end FL

/-! FL6: the statements' rules in the form that the printer uses. -/
namespace FL
open PySem L2 PyProof.Rows
section
variable {K : PySem.W.Frag} {ρ ρ' ρ0 ρ1 ρ2 ρ3 : Env K} {α β δ : Type} {e : Enc K α} {ta tb te tc : TE} {tt tu tw : TT} {ts us ws : TS}

theorem wk_n : WeakL (K := K) [] [] := trivial
theorem wk_s {s : Slot K} {r r' : Env K} (h : WeakL r r') : WeakL (s :: r) (s :: r') := ⟨.inl rfl, h⟩
theorem wk_u {s : Slot K} {r r' : Env K} (h : WeakL r r') : WeakL (s :: r) (.un :: r') := ⟨.inr rfl, h⟩
theorem wk_S {s : Slot K} {r r' : Env K} (h : WeakL r r') : Weak (s :: r) (s :: r') := ⟨.inl rfl, h⟩
theorem wk_U {s : Slot K} {r r' : Env K} (h : WeakL r r') (m : s.isM = false := by rfl) : Weak (s :: r) (.un :: r') := ⟨.inr ⟨rfl, m⟩, h⟩

/-- a block that goes through, its end told by a datum t -/
def XV (ts : TS) (ρ : Env K) {τ : Type} (E : τ → Env K) (t : τ) : Prop := XS ts ρ (E t)
variable {τ : Type} {E : τ → Env K} {t : τ}
theorem xv_end (w : Weak ρ (E t)) : XV tNext ρ E t := xs_end w
theorem xv_set {j : Nat} {a : α} {f : α → τ} (h : EvD te ρ ρ1 e a) (hj : okSet ρ1 j = true) (k : ∀ x, x = a → XV us (ρ1.set j (.d e x)) E (f x)) : XV (tSeq (tAsg te (gName j)) us) ρ E (lt a f) := xs_seq (xs_set h hj) (k a rfl)
theorem xv_own {j : Nat} {a : List α} {f : List α → τ} (h : EvN te ρ ρ1 e a) (hj : okSet ρ1 j = true) (k : ∀ x, x = a → XV us (ρ1.set j (.l e x)) E (f x)) : XV (tSeq (tAsg te (gName j)) us) ρ E (lt a f) := xs_seq (xs_own h hj) (k a rfl)
theorem xv_new {j : Nat} {b : δ} {M : MEnc K δ} {f : δ → τ} (h : EvW te ρ ρ1 (.m M b)) (hj : okSet ρ1 j = true) (k : ∀ x, x = b → XV us (ρ1.set j (.m M x)) E (f x)) : XV (tSeq (tAsg te (gName j)) us) ρ E (lt b f) := xs_seq (xs_new h hj) (k b rfl)
theorem xv_pair {i j : Nat} {e2 : Enc K β} {a : α × β} {f : α × β → τ} (h : EvD te ρ ρ1 (eP e e2) a) (hi : isMAt ρ1 i = false) (hj : isMAt ρ1 j = false) (k : ∀ x, x = a → XV us ((ρ1.set i (.d e x.1)).set j (.d e2 x.2)) E (f x)) :
    XV (tSeq (tAsg te (gTup K 2 (gCons (gName i) (gCons (gName j) gNil)))) us) ρ E (lt a f) := xs_seq (xs_tgt h eg_pair (noM_cons hi (noM_cons hj noM_nil))) (k a rfl)
theorem xv_drop {a : α} (h : EvD te ρ ρ1 e a) (k : XV us ρ1 E t) : XV (tSeq (tDrop te) us) ρ E t := xs_seq (xs_drop h) k
theorem xv_aug {j : Nat} {g : Int → Int → Int} {a b : Int} {f : Int → τ} (ha : ρ[j]? = some (.d eI a)) (h : EvD te ρ ρ1 eI b) (hj : isMAt ρ1 j = false) (k : ∀ x, x = g a b → XV us (ρ1.set j (.d eI x)) E (f x)) : XV (tSeq (tAug j te (ipI g)) us) ρ E (lt (g a b) f) := xs_seq (xs_aug ha h hj) (k _ rfl)
theorem xv_app {j : Nat} {a : α} {as : List α} {f : List α → τ} (hj : ρ[j]? = some (.l e as)) (h : EvD te ρ ρ1 e a) (hj1 : ρ1[j]? = some (.l e as)) (hl : as.length < 100000) (k : ∀ x, x = as ++ [a] → XV us (ρ1.set j (.l e x)) E (f x)) :
    XV (tSeq (tDrop (tBM K "list" rAppend (tVar j) (tCons te tNil))) us) ρ E (lt (as ++ [a]) f) := xs_seq (xs_app hj h hj1 hl) (k _ rfl)
theorem xv_ins {j : Nat} {a : α} {i : Int} {as : List α} {f : List α → τ} (hj : ρ[j]? = some (.l e as)) (hi : EvD ta ρ ρ1 eI i) (h : EvD te ρ1 ρ2 e a) (hj1 : ρ2[j]? = some (.l e as)) (hl : as.length < 100000 ∧ 0 ≤ i ∧ i < 2 ^ 62)
    (k : ∀ x, x = as.take i.toNat ++ [a] ++ as.drop i.toNat → XV us (ρ2.set j (.l e x)) E (f x)) : XV (tSeq (tDrop (tBM K "list" rInsert (tVar j) (tCons ta (tCons te tNil)))) us) ρ E (lt (as.take i.toNat ++ [a] ++ as.drop i.toNat) f) := xs_seq (xs_ins hj hi h hj1 hl) (k _ rfl)
theorem xv_setI {j : Nat} {a : α} {i : Int} {as : List α} {f : List α → τ} (h : EvD te ρ ρ1 e a) (hi : EvD ta ρ1 ρ2 eI i) (hj1 : ρ1[j]? = some (.l e as)) (hj : ρ2[j]? = some (.l e as)) (hc : inIx as.length i)
    (k : ∀ x, x = as.set (ixI as.length i) a → XV us (ρ2.set j (.l e x)) E (f x)) : XV (tSeq (tAsg te (gSub (tVar j) ta rSetL)) us) ρ E (lt (as.set (ixI as.length i) a) f) := xs_seq (xs_setI h hi hj1 hj hc) (k _ rfl)
theorem xv_fld {C : Addr} {fs : List (Str × DV K)} {a : α} {n : Str} {j : Nat} (h : EvD te ρ ρ1 e a) (hj : ρ1[j]? = some (.i C fs)) (hn : n ∉ fs.map Prod.fst) (hl : fs.length < 100) (cl : Cls K C) (na : NoAttr K C n) {f : α → τ} (k : ∀ x, x = a → XV us (ρ1.set j (.i C (fs ++ [(n, ⟨e, x⟩)]))) E (f x)) :
    XV (tSeq (sFld K (tVar j) te n) us) ρ E (lt a f) := xs_seq (xs_fld h hj hn hl cl na) (k a rfl)
theorem xv_pass (k : XV us ρ E t) : XV (tSeq tNext us) ρ E t := xs_seq xs_pass k
theorem xv_never (h : False) : XV ts ρ E t := h.elim
theorem xv_if {b : Bool} (E1 : δ → Env K) {x y : δ} {f : δ → τ} (h : EvT tt ρ ρ1 b) (h1 : b = true → XV ts ρ1 E1 x) (h2 : b = false → XV us ρ1 E1 y) (k : ∀ z, z = (bif b then x else y) → XV ws (E1 z) E (f z)) :
    XV (tSeq (tIfS tt ts us) ws) ρ E (lt (bif b then x else y) f) := xs_seq (xs_if E1 h h1 h2) (k _ rfl)
theorem xv_for {wi : TI} {g : TG} {tb : TS} {ex : Enc K α} {as : List α} {js : List Nat} {u : α → Env K → Env K} (E0 : δ → Env K) (t0 : δ) {h : δ → α → δ} {f : δ → τ}
    (hi : EvI wi ρ ρ1 ex as) (hw : Weak ρ1 (E0 t0)) (hg : EvG g ex js u) (hj : ∀ t, noMAt (E0 t) js)
    (hb : ∀ i a t, as[i]? = some a → t = (as.take i).foldl h t0 → XV tb (u a (E0 t)) E0 (h t a)) (k : ∀ x, x = as.foldl h t0 → XV us (E0 x) E (f x)) : XV (tSeq (tFor wi g tb) us) ρ E (lt (as.foldl h t0) f) := xs_seq (xs_for E0 t0 hi hw hg hj hb) (k _ rfl)

variable {ν lam γ : Type} {En : ν → Env K} {L : lam → Env K} {R : Ret K γ} {o : Out ν lam γ}
theorem xb_set {j : Nat} {a : α} {f : α → Out ν lam γ} (h : EvD te ρ ρ1 e a) (hj : okSet ρ1 j = true) (k : ∀ x, x = a → XB us (ρ1.set j (.d e x)) En L R (f x)) : XB (tSeq (tAsg te (gName j)) us) ρ En L R (lt a f) := xb_seq (xs_set h hj) (k a rfl)
theorem xb_own {j : Nat} {a : List α} {f : List α → Out ν lam γ} (h : EvN te ρ ρ1 e a) (hj : okSet ρ1 j = true) (k : ∀ x, x = a → XB us (ρ1.set j (.l e x)) En L R (f x)) : XB (tSeq (tAsg te (gName j)) us) ρ En L R (lt a f) := xb_seq (xs_own h hj) (k a rfl)
theorem xb_new {j : Nat} {b : δ} {M : MEnc K δ} {f : δ → Out ν lam γ} (h : EvW te ρ ρ1 (.m M b)) (hj : okSet ρ1 j = true) (k : ∀ x, x = b → XB us (ρ1.set j (.m M x)) En L R (f x)) : XB (tSeq (tAsg te (gName j)) us) ρ En L R (lt b f) := xb_seq (xs_new h hj) (k b rfl)
theorem xb_pair {i j : Nat} {e2 : Enc K β} {a : α × β} {f : α × β → Out ν lam γ} (h : EvD te ρ ρ1 (eP e e2) a) (hi : isMAt ρ1 i = false) (hj : isMAt ρ1 j = false) (k : ∀ x, x = a → XB us ((ρ1.set i (.d e x.1)).set j (.d e2 x.2)) En L R (f x)) :
    XB (tSeq (tAsg te (gTup K 2 (gCons (gName i) (gCons (gName j) gNil)))) us) ρ En L R (lt a f) := xb_seq (xs_tgt h eg_pair (noM_cons hi (noM_cons hj noM_nil))) (k a rfl)
theorem xb_drop {a : α} (h : EvD te ρ ρ1 e a) (k : XB us ρ1 En L R o) : XB (tSeq (tDrop te) us) ρ En L R o := xb_seq (xs_drop h) k
theorem xb_aug {j : Nat} {g : Int → Int → Int} {a b : Int} {f : Int → Out ν lam γ} (ha : ρ[j]? = some (.d eI a)) (h : EvD te ρ ρ1 eI b) (hj : isMAt ρ1 j = false) (k : ∀ x, x = g a b → XB us (ρ1.set j (.d eI x)) En L R (f x)) : XB (tSeq (tAug j te (ipI g)) us) ρ En L R (lt (g a b) f) := xb_seq (xs_aug ha h hj) (k _ rfl)
theorem xb_app {j : Nat} {a : α} {as : List α} {f : List α → Out ν lam γ} (hj : ρ[j]? = some (.l e as)) (h : EvD te ρ ρ1 e a) (hj1 : ρ1[j]? = some (.l e as)) (hl : as.length < 100000) (k : ∀ x, x = as ++ [a] → XB us (ρ1.set j (.l e x)) En L R (f x)) :
    XB (tSeq (tDrop (tBM K "list" rAppend (tVar j) (tCons te tNil))) us) ρ En L R (lt (as ++ [a]) f) := xb_seq (xs_app hj h hj1 hl) (k _ rfl)
theorem xb_ins {j : Nat} {a : α} {i : Int} {as : List α} {f : List α → Out ν lam γ} (hj : ρ[j]? = some (.l e as)) (hi : EvD ta ρ ρ1 eI i) (h : EvD te ρ1 ρ2 e a) (hj1 : ρ2[j]? = some (.l e as)) (hl : as.length < 100000 ∧ 0 ≤ i ∧ i < 2 ^ 62)
    (k : ∀ x, x = as.take i.toNat ++ [a] ++ as.drop i.toNat → XB us (ρ2.set j (.l e x)) En L R (f x)) : XB (tSeq (tDrop (tBM K "list" rInsert (tVar j) (tCons ta (tCons te tNil)))) us) ρ En L R (lt (as.take i.toNat ++ [a] ++ as.drop i.toNat) f) := xb_seq (xs_ins hj hi h hj1 hl) (k _ rfl)
theorem xb_setI {j : Nat} {a : α} {i : Int} {as : List α} {f : List α → Out ν lam γ} (h : EvD te ρ ρ1 e a) (hi : EvD ta ρ1 ρ2 eI i) (hj1 : ρ1[j]? = some (.l e as)) (hj : ρ2[j]? = some (.l e as)) (hc : inIx as.length i)
    (k : ∀ x, x = as.set (ixI as.length i) a → XB us (ρ2.set j (.l e x)) En L R (f x)) : XB (tSeq (tAsg te (gSub (tVar j) ta rSetL)) us) ρ En L R (lt (as.set (ixI as.length i) a) f) := xb_seq (xs_setI h hi hj1 hj hc) (k _ rfl)
theorem xb_fld {C : Addr} {fs : List (Str × DV K)} {a : α} {n : Str} {j : Nat} (h : EvD te ρ ρ1 e a) (hj : ρ1[j]? = some (.i C fs)) (hn : n ∉ fs.map Prod.fst) (hl : fs.length < 100) (cl : Cls K C) (na : NoAttr K C n) {f : α → Out ν lam γ} (k : ∀ x, x = a → XB us (ρ1.set j (.i C (fs ++ [(n, ⟨e, x⟩)]))) En L R (f x)) :
    XB (tSeq (sFld K (tVar j) te n) us) ρ En L R (lt a f) := xb_seq (xs_fld h hj hn hl cl na) (k a rfl)
theorem xb_pass (k : XB us ρ En L R o) : XB (tSeq tNext us) ρ En L R o := xb_seq xs_pass k
theorem xb_if {b : Bool} (E1 : δ → Env K) {x y : δ} {f : δ → Out ν lam γ} (h : EvT tt ρ ρ1 b) (h1 : b = true → XV ts ρ1 E1 x) (h2 : b = false → XV us ρ1 E1 y) (k : ∀ z, z = (bif b then x else y) → XB ws (E1 z) En L R (f z)) :
    XB (tSeq (tIfS tt ts us) ws) ρ En L R (lt (bif b then x else y) f) := xb_seq (xs_if E1 h h1 h2) (k _ rfl)
theorem xb_fold {wi : TI} {g : TG} {tb : TS} {ex : Enc K α} {as : List α} {js : List Nat} {u : α → Env K → Env K} (E0 : δ → Env K) (t0 : δ) {h : δ → α → δ} {f : δ → Out ν lam γ}
    (hi : EvI wi ρ ρ1 ex as) (hw : Weak ρ1 (E0 t0)) (hg : EvG g ex js u) (hj : ∀ t, noMAt (E0 t) js)
    (hb : ∀ i a t, as[i]? = some a → t = (as.take i).foldl h t0 → XV tb (u a (E0 t)) E0 (h t a)) (k : ∀ x, x = as.foldl h t0 → XB us (E0 x) En L R (f x)) : XB (tSeq (tFor wi g tb) us) ρ En L R (lt (as.foldl h t0) f) := xb_seq (xs_for E0 t0 hi hw hg hj hb) (k _ rfl)
/-- if c: return e; rest -/
theorem xb_ifR {b : Bool} {r : γ} (h : EvT tt ρ ρ1 b) (h1 : b = true → XB ts ρ1 (fun z : Empty => nomatch z) L R (.rt r)) (h2 : b = false → XB us ρ1 En L R o) : XB (tSeq (tIfS tt ts tNext) us) ρ En L R (bif b then .rt r else o) := fun c σ Hk H k D q =>
  xb_ifL (E := En) (o1 := .rt r) (o2 := o) h h1 h2 c σ Hk H k D (by cases b <;> exact q)
theorem xb_ifC {b : Bool} {t : lam} (h : EvT tt ρ ρ1 b) (h1 : b = true → XB ts ρ1 (fun z : Empty => nomatch z) L R (.ct t)) (h2 : b = false → XB us ρ1 En L R o) : XB (tSeq (tIfS tt ts tNext) us) ρ En L R (bif b then .ct t else o) := fun c σ Hk H k D q =>
  xb_ifL (E := En) (o1 := .ct t) (o2 := o) h h1 h2 c σ Hk H k D (by cases b <;> exact q)
theorem xb_ifB {b : Bool} {t : lam} (h : EvT tt ρ ρ1 b) (h1 : b = true → XB ts ρ1 (fun z : Empty => nomatch z) L R (.bk t)) (h2 : b = false → XB us ρ1 En L R o) : XB (tSeq (tIfS tt ts tNext) us) ρ En L R (bif b then .bk t else o) := fun c σ Hk H k D q =>
  xb_ifL (E := En) (o1 := .bk t) (o2 := o) h h1 h2 c σ Hk H k D (by cases b <;> exact q)
/-- a return ends its block -/
theorem xb_retS {r : γ} (h : EvD te ρ ρ1 R.e (R.val r)) (hl : R.ls r = none ∨ R.ls r = ρ1[0]?) (hn : R.nl r = none) : XB (tSeq (tRet te) us) ρ En L R (.rt r) := fun c σ Hk H k D q => xb_ret (E := En) (L := L) h hl hn c σ Hk H k { D with nx := us D } q
theorem xb_retSW {r : γ} {s : Slot K} (h : EvW te ρ ρ1 s) (hl : R.ls r = none ∨ R.ls r = ρ1[0]?) (hn : R.nl r = some s) (m : s.isM = true) : XB (tSeq (tRet te) us) ρ En L R (.rt r) := fun c σ Hk H k D q => xb_retW (E := En) (L := L) h hl hn m c σ Hk H k { D with nx := us D } q
theorem xb_retSV {r : γ} {s : Slot K} {j : Nat} (hj : ρ[j]? = some s) (j0 : j ≠ 0) (hl : R.ls r = none ∨ R.ls r = ρ[0]?) (hn : R.nl r = some s) (m : s.isM = true) : XB (tSeq (tRet (tVar j)) us) ρ En L R (.rt r) := fun c σ Hk H k D q => xb_retV (E := En) (L := L) hj j0 hl hn m c σ Hk H k { D with nx := us D } q
theorem xb_ctS {t : lam} (w : Weak ρ (L t)) : XB (tSeq tCont us) ρ En L R (.ct t) := fun c σ Hk H k D q => q σ Hk H (k.weak w) (Ex.refl _)
theorem xb_bkS {t : lam} (w : Weak ρ (L t)) : XB (tSeq tBreak us) ρ En L R (.bk t) := fun c σ Hk H k D q => q σ Hk H (k.weak w) (Ex.refl _)
/-- both ways end -/
theorem xb_ifE {b : Bool} {o1 o2 : Out Empty lam γ} (h : EvT tt ρ ρ1 b) (h1 : b = true → XB ts ρ1 (fun z : Empty => nomatch z) L R o1) (h2 : b = false → XB us ρ1 (fun z : Empty => nomatch z) L R o2) : XB (tSeq (tIfS tt ts us) ws) ρ En L R ((bif b then o1 else o2).bind fun z => nomatch z) :=
  xb_bind (xb_ifT h h1 h2) fun t => nomatch t
theorem xb_loop {wi : TI} {g : TG} {tb : TS} {ex : Enc K α} {as : List α} {js : List Nat} {u : α → Env K → Env K} (E0 : δ → Env K) (t0 : δ) {h : δ → α → Out δ δ γ} {f : δ → Out ν lam γ}
    (hi : EvI wi ρ ρ1 ex as) (hw : Weak ρ1 (E0 t0)) (hg : EvG g ex js u) (hj : ∀ t, noMAt (E0 t) js)
    (hb : ∀ i a t, as[i]? = some a → run h t0 (as.take i) = .nx t → XB tb (u a (E0 t)) E0 E0 R (h t a))
    (hr : ∀ t, (run h t0 as).done = (.nx t : Out δ lam γ) → XB us (E0 t) En L R (f t)) : XB (tSeq (tFor wi g tb) us) ρ En L R ((run h t0 as).done.bind f) := xb_for E0 t0 hi hw hg hj hb hr
theorem xb_eq {o o' : Out ν lam γ} (h : XB ts ρ En L R o) (q : o = o') : XB ts ρ En L R o' := q ▸ h

/-! ### the draws' box: a list of a list of ints and three ints -/
structure BoxD where
  cells : List Int
  a : Int
  b : Int
  c : Int
  deriving Inhabited
def mBox : MEnc K BoxD where
  rep := fun H o x => ∃ v, o = .lst [v, .int x.a, .int x.b, .int x.c] ∧ (eL (eI (K := K))).rep H v x.cells
  mono := fun {H H' o b} x h => let ⟨v, h1, h2⟩ := h; ⟨v, h1, (eL (eI (K := K))).mono x h2⟩
theorem Ok.box {c : Ent} {Hk H : Hp} {σ : List (Option V)} (k : Ok c Hk H σ ρ) {j : Nat} {x : BoxD} (h : ρ[j]? = some (.m mBox x)) : ∃ p v, σ[j]? = some (some (V.ref p)) ∧ H p = some (.lst [v, .int x.a, .int x.b, .int x.c]) ∧ (eL (eI (K := K))).rep Hk v x.cells := by
  obtain ⟨w, hw, p, o, e1, e2, e3, v, e4, e5⟩ := k.sl j _ h
  subst e1; subst e4
  exact ⟨p, v, hw, e3, e5⟩
theorem ev_box0 {j : Nat} {x : BoxD} (h : ρ[j]? = some (.m mBox x)) : EvD (tOp (rIxL K) (tVar j) (tC (.int 0))) ρ ρ (eL eI) x.cells := fun c σ Hk H k Q q => by
  obtain ⟨p, v, hv, hp, hr⟩ := k.box h
  exact ⟨.ref p, hv, p, _, 0, v, rfl, rfl, SqL.of hp, rfl, q v Hk H k Nxt.refl hr⟩
theorem ev_box1 {j : Nat} {x : BoxD} (h : ρ[j]? = some (.m mBox x)) : EvD (tOp (rIxL K) (tVar j) (tC (.int 1))) ρ ρ eI x.a := fun c σ Hk H k Q q => by
  obtain ⟨p, v, hv, hp, hr⟩ := k.box h
  exact ⟨.ref p, hv, p, _, 1, _, rfl, rfl, SqL.of hp, rfl, q _ Hk H k Nxt.refl rfl⟩
theorem ev_box2 {j : Nat} {x : BoxD} (h : ρ[j]? = some (.m mBox x)) : EvD (tOp (rIxL K) (tVar j) (tC (.int 2))) ρ ρ eI x.b := fun c σ Hk H k Q q => by
  obtain ⟨p, v, hv, hp, hr⟩ := k.box h
  exact ⟨.ref p, hv, p, _, 2, _, rfl, rfl, SqL.of hp, rfl, q _ Hk H k Nxt.refl rfl⟩
theorem ev_box3 {j : Nat} {x : BoxD} (h : ρ[j]? = some (.m mBox x)) : EvD (tOp (rIxL K) (tVar j) (tC (.int 3))) ρ ρ eI x.c := fun c σ Hk H k Q q => by
  obtain ⟨p, v, hv, hp, hr⟩ := k.box h
  exact ⟨.ref p, hv, p, _, 3, _, rfl, rfl, SqL.of hp, rfl, q _ Hk H k Nxt.refl rfl⟩
theorem xs_box {j n : Nat} {a : Int} {x : BoxD} {y : BoxD} (h : EvD te ρ ρ1 eI a) (hj : ρ1[j]? = some (.m mBox x)) (hn : n < 4) (hy : ∀ v, [v, V.int x.a, V.int x.b, V.int x.c].set n (.int a) = [v, .int y.a, .int y.b, .int y.c]) (hc : y.cells = x.cells) :
    XS (tAsg te (gSub (tVar j) (tC (.int (n : Int))) rSetL)) ρ (ρ1.set j (.m mBox y)) := fun c σ Hk H k D q => h c σ Hk H k _ fun w Hk1 H1 k1 x1 r1 => by
  obtain ⟨p, v, hv, hp, hr⟩ := k1.box hj
  cases (show w = .int a from r1)
  refine ⟨.ref p, hv, p, _, (n : Int), n, rfl, rfl, hp, ?_, q σ Hk1 _ (k1.mutate hj rfl rfl hv ⟨v, by rw [hy], by rw [hc]; exact hr⟩) x1.ex⟩
  unfold ixN
  rw [if_pos (by omega), if_pos (by show (n : Int) < 4; omega)]; simp
theorem xv_box1 {j : Nat} {a : Int} {x : BoxD} {f : BoxD → τ} (h : EvD te ρ ρ1 eI a) (hj : ρ1[j]? = some (.m mBox x)) (k : ∀ z, z = ({ x with a := a } : BoxD) → XV us (ρ1.set j (.m mBox z)) E (f z)) : XV (tSeq (tAsg te (gSub (tVar j) (tC (.int 1)) rSetL)) us) ρ E (lt ({ x with a := a } : BoxD) f) := xs_seq (xs_box (n := 1) (y := { x with a := a }) h hj (by decide) (fun v => rfl) rfl) (k _ rfl)
theorem xv_box2 {j : Nat} {a : Int} {x : BoxD} {f : BoxD → τ} (h : EvD te ρ ρ1 eI a) (hj : ρ1[j]? = some (.m mBox x)) (k : ∀ z, z = ({ x with b := a } : BoxD) → XV us (ρ1.set j (.m mBox z)) E (f z)) : XV (tSeq (tAsg te (gSub (tVar j) (tC (.int 2)) rSetL)) us) ρ E (lt ({ x with b := a } : BoxD) f) := xs_seq (xs_box (n := 2) (y := { x with b := a }) h hj (by decide) (fun v => rfl) rfl) (k _ rfl)
theorem xv_box3 {j : Nat} {a : Int} {x : BoxD} {f : BoxD → τ} (h : EvD te ρ ρ1 eI a) (hj : ρ1[j]? = some (.m mBox x)) (k : ∀ z, z = ({ x with c := a } : BoxD) → XV us (ρ1.set j (.m mBox z)) E (f z)) : XV (tSeq (tAsg te (gSub (tVar j) (tC (.int 3)) rSetL)) us) ρ E (lt ({ x with c := a } : BoxD) f) := xs_seq (xs_box (n := 3) (y := { x with c := a }) h hj (by decide) (fun v => rfl) rfl) (k _ rfl)
theorem xb_box1 {j : Nat} {a : Int} {x : BoxD} {f : BoxD → Out ν lam γ} (h : EvD te ρ ρ1 eI a) (hj : ρ1[j]? = some (.m mBox x)) (k : ∀ z, z = ({ x with a := a } : BoxD) → XB us (ρ1.set j (.m mBox z)) En L R (f z)) : XB (tSeq (tAsg te (gSub (tVar j) (tC (.int 1)) rSetL)) us) ρ En L R (lt ({ x with a := a } : BoxD) f) := xb_seq (xs_box (n := 1) (y := { x with a := a }) h hj (by decide) (fun v => rfl) rfl) (k _ rfl)
theorem xb_box2 {j : Nat} {a : Int} {x : BoxD} {f : BoxD → Out ν lam γ} (h : EvD te ρ ρ1 eI a) (hj : ρ1[j]? = some (.m mBox x)) (k : ∀ z, z = ({ x with b := a } : BoxD) → XB us (ρ1.set j (.m mBox z)) En L R (f z)) : XB (tSeq (tAsg te (gSub (tVar j) (tC (.int 2)) rSetL)) us) ρ En L R (lt ({ x with b := a } : BoxD) f) := xb_seq (xs_box (n := 2) (y := { x with b := a }) h hj (by decide) (fun v => rfl) rfl) (k _ rfl)
theorem xb_box3 {j : Nat} {a : Int} {x : BoxD} {f : BoxD → Out ν lam γ} (h : EvD te ρ ρ1 eI a) (hj : ρ1[j]? = some (.m mBox x)) (k : ∀ z, z = ({ x with c := a } : BoxD) → XB us (ρ1.set j (.m mBox z)) En L R (f z)) : XB (tSeq (tAsg te (gSub (tVar j) (tC (.int 3)) rSetL)) us) ρ En L R (lt ({ x with c := a } : BoxD) f) := xb_seq (xs_box (n := 3) (y := { x with c := a }) h hj (by decide) (fun v => rfl) rfl) (k _ rfl)
end
/-- a def of the text, where it stands -/
structure FunAt (K : PySem.W.Frag) (mg : Str → Option Value) (x qual : Str) (st : Stmt) (ps : List Str) : Prop where
  ex : ∃ f fd, Fun K x qual st f fd ∧ mg x = some (.ref f) ∧ Binds K fd ps []
structure MethAt (K : PySem.W.Frag) (C : Addr) (x qual : Str) (st : Stmt) (ps : List Str) : Prop where
  ex : ∃ f fd, Fun K x qual st f fd ∧ Meth K C x f ∧ Binds K fd ps []
structure InitAt (K : PySem.W.Frag) (mg : Str → Option Value) (cls : Str) (C : Addr) (x qual : Str) (st : Stmt) (ps : List Str) : Prop where
  ex : ∃ f fd, Fun K x qual st f fd ∧ Mk K C f ∧ mg cls = some (.ref C) ∧ Binds K fd ps []
/-- .. and keeps its promise -/
structure FnAt (P : Program) (w : World) (K : PySem.W.Frag) (mg : Str → Option Value) (base : Heap) (x : Str) (k : Nat) (ps : List Str) (sp : Sp) : Prop where
  ex : ∃ f fd, FnOk P w K mg base CX0 k f fd ps sp ∧ mg x = some (.ref f) ∧ PySem.W.keepIn K (.ref f) = true ∧ Binds K fd ps []
structure FmAt (P : Program) (w : World) (K : PySem.W.Frag) (mg : Str → Option Value) (base : Heap) (C : Addr) (x : Str) (k : Nat) (ps : List Str) (sp : Sp) : Prop where
  ex : ∃ f fd, FnOk P w K mg base CX0 k f fd ps sp ∧ Meth K C x f ∧ Binds K fd ps []
structure FiAt (P : Program) (w : World) (K : PySem.W.Frag) (mg : Str → Option Value) (base : Heap) (cls : Str) (C : Addr) (k : Nat) (ps : List Str) (sp : Sp) : Prop where
  ex : ∃ f fd, FnOk P w K mg base CX0 k f fd ps sp ∧ Mk K C f ∧ mg cls = some (.ref C) ∧ Binds K fd ps []
end FL

/-! FL7: small things that the printer uses. -/
namespace FL
open PySem L2 PyProof.Rows
section
variable {K : PySem.W.Frag} {ρ ρ' ρ0 ρ1 ρ2 ρ3 : Env K} {α β δ : Type} {e : Enc K α} {ta tb te tc : TE}
theorem ev_unw [Inhabited α] {o : Option α} (h : EvD te ρ ρ' (eO e) o) (hs : o.isSome = true) : EvD te ρ ρ' e (o.getD default) := by
  cases o with
  | none => cases hs
  | some a => exact h
theorem en_eq {as bs : List α} (h : EvN te ρ ρ' e as) (q : as = bs) : EvN te ρ ρ' e bs := q ▸ h
theorem xb_lastV {ν lam γ : Type} {E : ν → Env K} {L : lam → Env K} {R : Ret K γ} {ts : TS} {t : ν} (h : XV ts ρ E t) : XB ts ρ E L R (.nx t) := xb_last h
theorem agr1 {τ : Type} {E : τ → Env K} {j : Nat} (h : ∀ t t', (E t)[j]? = (E t')[j]?) : ∀ t t' i, i ∈ [j] → (E t)[i]? = (E t')[i]? := fun t t' i hi => by
  cases List.mem_singleton.mp hi; exact h t t'
theorem ev_lenP {f : Enc K β} {ab : α × β} (ha : EvD ta ρ ρ1 (eP e f) ab) : EvD (tCB (rLenS K) (tCons ta tNil)) ρ ρ1 eI (2 : Int) :=
  ev_cb ha fun c σ Hk H x k ⟨p, x1, x2, e1, e2, _⟩ Q q => ⟨p, [x1, x2], by rw [e1], .inr (ex_t k.ex e2), q _ Hk H k Nxt.refl rfl⟩
theorem noM_tail {ds : List (Slot K)} (h : ∀ s ∈ ds.tail, s.isM = false) {i : Nat} {s : Slot K} (e : ds[i + 1]? = some s) : s.isM = false := by
  cases ds with
  | nil => simp at e
  | cons d ds => exact h s (List.mem_of_getElem? (by simpa using e))
theorem xb_reb {ν lam γ δ' : Type} {En : ν → Env K} {L : lam → Env K} {R : Ret K γ} {us : TS} (ρf : δ' → Env K) (b : δ') {o : δ' → Out ν lam γ} (k : ∀ x, x = b → XB us (ρf x) En L R (o x)) : XB us (ρf b) En L R (lt b o) := k b rfl
theorem xv_reb {τ δ' : Type} {En : τ → Env K} {us : TS} (ρf : δ' → Env K) (b : δ') {f : δ' → τ} (k : ∀ x, x = b → XV us (ρf x) En (f x)) : XV us (ρf b) En (lt b f) := k b rfl
end
theorem room_80 {A : Around} {k : Nat} (hr : Room k A) : A.units + 80 < cLine := by have := hr.un; omega
theorem room_u {A : Around} {k : Nat} (hr : Room k A) : A.units + 64 < cLine := by have := hr.un; omega
section
variable {X : Cx} {CX : CXT} {k : Nat} {f : Addr} {fd : FuncData} {ps ks : List Str} {sp : Sp} {E : XK} {x : Str} {p pos : Pos} {kws : List Keyword} {tk : TA} {g : List Value → List Value → List Value} {gV : List V → List V → List V}
/-- f(k = v, ..) -/
theorem pe_callK0 (F : FnOk X.prog X.w X.K X.mg X.base CX k f fd ps sp) (hr : Room k X.A) (hg : Gl X x) (hm : X.mg x = some (.ref f)) (hk : PySem.W.keepIn X.K (.ref f) = true) (hb : KBinds X.K fd ps ks g gV) (hx : Passes CX X E)
    (hkw : PK X kws tk) (hall : (backToKw pos (keywordEach kws X.env)).all (·.1.isSome) = true := by rfl) (hks : (backToKw pos (keywordEach kws X.env)).filterMap (·.1) = ks := by rfl)
    (hdb : (x == ("__debug__" : Str)) = false := by decide) (hpl : ((backTo pos (starEach [] X.env)).any (·.1) || (backToKw pos (keywordEach kws X.env)).any (·.1.isNone)) = false := by rfl) :
    PE X (.Call (.Name x p) [] kws pos) (tCallK sp gV E tNil tk) := by
  refine ⟨fun pins s σ H Q I h => ?_⟩
  refine wpAny_Call_Name_kw (ld_glob I hg hm ?_ hdb)
  have h : tk σ H fun zs H2 => sp (gV [] zs) H2 Q E := h
  refine PySem.W.callWith_KW0 (h₀ := X.base) I.ok.mod.kin hk hall (thn (hkw.run pos pins s σ H _ I h) fun ws s2 ⟨zs, H2, I2, rz, q2⟩ => ⟨I2.kIn, ?_⟩) hpl
  rw [hks]
  exact run_fnk (us := []) F hr hb hx I2 .nil rz q2
end
theorem vals_rep : ∀ n : Nat, Vals (List.replicate n V.non) (List.replicate n Value.none)
  | 0 => .nil
  | n + 1 => .cons rfl (vals_rep n)
def kwG {α : Type} (n : Nat) (d : α) (us ws : List α) : List α := if us.length = 0 then ws else us ++ List.replicate n d
/-- all parameters given by their names, in order -/
theorem kbinds_all {K : PySem.W.Frag} {fd : FuncData} {ps : List Str} (h : ∀ ws : List Value, ws.length = ps.length → bindArgs fd ⟨[], ps.zip ws⟩ = pure (ps.zip ws)) : KBinds K fd ps ps (kwG ps.length Value.none) (kwG ps.length V.non) where
  to := fun s us ws X hl => by
    by_cases hu : us.length = 0
    · have : us = [] := List.eq_nil_of_length_eq_zero hu
      subst this
      exact .of_eq (h ws hl)
    · unfold kwG at hl
      rw [if_neg hu, List.length_append, List.length_replicate] at hl
      omega
  rel := fun {vs us zs ws} r z => by
    have l := r.length
    unfold kwG
    by_cases hu : us.length = 0
    · rw [if_pos hu, if_pos (l.trans hu)]; exact z
    · rw [if_neg hu, if_neg fun w => hu (l.symm.trans w)]; exact r.append (vals_rep _)
section
variable {K : PySem.W.Frag} {ρ ρ' ρ0 ρ1 ρ2 ρ3 : Env K} {α β δ : Type} {e : Enc K α} {ta tb te tc : TE}
variable {ι γ : Type} {ds : ι → List (Slot K)} {pre : ι → Prop} {R : Ret K γ} {f : ι → γ}
theorem ev_callKw {tk : TA} {E : XK} {n : Nat} (x : ι) (hk : EvA tk ρ ρ1 (ds x)) (hp : pre x) (hm : isMAt (ds x) 0 = false) (hnl : R.nl (f x) = none) : EvD (tCallK (spF ds pre R f) (kwG n V.non) E tNil tk) ρ ρ1 R.e (R.val (f x)) :=
  ev_callK x ea_nil hk (fun vs zs r h1 h2 => by cases h1; exact h2) (fun s h => by cases h) hp hm hnl
end
theorem fn_okG {K : PySem.W.Frag} {P : Program} {w : World} {mg : Str → Option Value} {base : Heap} {ι γ ν : Type} {ds : ι → List (Slot K)} {pre : ι → Prop} {R : Ret K γ} {fl : ι → ν → γ} {o : ι → Out ν Empty γ} {g : ι → γ} {f : Addr} {fd : FuncData} {ps : List Str} {k : Nat}
    (hf : ∀ x, g x = (o x).val (fl x)) (h : FnOk P w K mg base CX0 k f fd ps (spF ds pre R fun x => (o x).val (fl x))) : FnOk P w K mg base CX0 k f fd ps (spF ds pre R g) := by
  have e : g = fun x => (o x).val (fl x) := funext hf
  rw [e]; exact h
/-- a def of the text that is called by names, too -/
structure FnAtK (P : Program) (w : World) (K : PySem.W.Frag) (mg : Str → Option Value) (base : Heap) (x : Str) (k : Nat) (ps : List Str) (sp : Sp) : Prop where
  ex : ∃ f fd, FnOk P w K mg base CX0 k f fd ps sp ∧ mg x = some (.ref f) ∧ PySem.W.keepIn K (.ref f) = true ∧ Binds K fd ps [] ∧ KBinds K fd ps ps (kwG ps.length Value.none) (kwG ps.length V.non)
end FL

/-! FL8: the box's display, a try that never catches. -/
namespace FL
open PySem L2 PyProof.Rows
section
variable {K : PySem.W.Frag} {ρ ρ' ρ0 ρ1 ρ2 ρ3 : Env K} {te : TE}
theorem ew_box {cells : List Int} (h : EvD te ρ ρ1 (eL eI) cells) : EvW (tLst (tCons te (tCons (tC (.int 0)) (tCons (tC (.int 0)) (tCons (tC (.int 0)) tNil))))) ρ ρ1 (.m mBox ⟨cells, 0, 0, 0⟩) := fun c σ Hk H k Q q =>
  h c σ Hk H k _ fun v Hk1 H1 k1 x1 r1 => ⟨by show 4 ≤ _; decide, fun p hp =>
    let ⟨k2, x2, n1⟩ := k1.newL hp
    q p Hk1 _ k2 (x1.trans x2) ⟨p, _, rfl, n1, upd_same, v, rfl, r1⟩ (x1.th p hp)⟩
theorem xb_thru {ν lam γ : Type} {ts : TS} {En : ν → Env K} {L : lam → Env K} {R : Ret K γ} {o : Out ν lam γ} (h : XB ts ρ En L R o) : XB (tSeq ts tNext) ρ En L R o := fun c σ Hk H k D q => h c σ Hk H k { D with nx := tNext D } q
theorem all2_ints {H : Hp} : ∀ ns : List Int, All2 ((eI (K := K)).rep H) (ns.map V.int) ns
  | [] => .nil
  | _ :: ns => .cons rfl (all2_ints ns)
theorem law_sp {f : List Int → Bool} {pre : List Int → Prop} {H : Hp} {a : Addr} {ns : List Int} {E : XK} (h1 : pre ns) (h2 : f ns = true) (hl : ns.length ≤ 63) (hS : SqL K H a (ns.map V.int)) :
    spF (K := K) (fun x : List Int => [.d (eL eI) x]) pre (retD eB) f [.ref a] H (fun v _ => v = .bl true) E :=
  ⟨ns, H, h1, Ex.refl _, .cons ⟨_, rfl, a, _, rfl, hS, all2_ints ns, Nat.le_trans hl (by decide)⟩ .nil, fun v Hk' H' r => by
    have := r.rv rfl
    show v = .bl true
    have q : v = .bl (f ns) := this
    rw [q, h2]⟩
end
end FL

/-! FL9: defs that raise an own exception, and a try that catches it. -/
namespace FL
open PySem PySem.Spec L2 PyProof.Rows
/-- an own exception with its own __init__ made where nothing is handled; its context is None -/
theorem pmk_oexN {X : Cx} {cx : CXT} {x : Str} {a0 : Expr} {as : List Expr} {tz : TA} {p pos : Pos} {C fi : Addr} {j : Nat} {fdI : FuncData} {pI : List Str} {spI : Sp}
    (T : OexC X.K C) (iC : PySem.W.findIn X.K (.ref C) "__init__" = some (some (.ref fi))) (tI : PySem.W.typeIn X.K (.ref fi) = some (.type "function")) (FI : FnOk X.prog X.w X.K X.mg X.base cx j fi fdI pI spI) (rm : Room (j + 1) X.A)
    (bI : Binds X.K fdI pI []) (px : Passes cx X (fun _ _ _ => False)) (gx : Gl X x) (mx : X.mg x = some (.ref C)) (az : PA X (a0 :: as) tz) (dbg : (x == ("__debug__" : Str)) = false := by decide)
    (st : starEach (a0 :: as) X.env = (false, eval a0 X.env) :: starEach as X.env := by rfl) (pl : (backTo pos (starEach as X.env)).any (·.1) = false := by rfl) : L2N.PMk X (.Call (.Name x p) (a0 :: as) [] pos) (tMkO C spI [] tz) := by
  intro pins s σ H Q I h
  have ⟨nm, qn, N, bs, bm, sn, sub, ab, col, dd, k0, k1, k2, k3, k5, lk, hbm⟩ := T.cls
  refine wpAny_Call_Name_kw (ld_glob I gx mx ?_ dbg)
  refine PySem.W.callWith_K (h₀ := X.base) I.ok.mod.kin T.kC (thn (az.run pos pins s σ H _ I h) fun us t ⟨vs, H1, J, rv, _, q1⟩ => ⟨J.kIn, ?_⟩) st pl
  show wpAny _ _ (call (.ref C) us) _ _ _
  have ⟨hp, g, dr, tk, os⟩ := t
  generalize hN : hp.objs.size + 1 = n
  have le : hp.objs.size ≤ n := by omega
  have q2 := q1 n (J.hok.fresh le)
  generalize hG : (hp.push (PySem.W.kdv_tup us)).push (PySem.HandSPX.excO C hp.objs.size) = G
  have up : ∀ b o, hp.get? b = some o → G.get? b = some o := fun b o z => by rw [← hG]; exact Heap.get?_push_of_some _ (Heap.get?_push_of_some _ z)
  have new : G.get? n = some (PySem.HandSPX.excO C hp.objs.size) := by rw [← hG, ← hN]; heap_get
  have J2 : Inv X pins σ (upd H1 n (exo n C none)) ⟨G, g, dr, tk, os⟩ := J.laid (t' := tk) (a := n) (o := exo n C none) (h' := G) up le (exo_ok new)
  have rv2 : Vals (V.ref n :: (vs ++ [])) (Value.ref n :: (us ++ [])) := .cons rfl (rv.append .nil)
  have hl : (Value.ref n :: us ++ []).length = pI.length := (FI.len _ _ _ _ q2 ▸ rv2.length).symm
  have hus : us.length ≤ sizeLine := by
    have a := Paired.length rv
    rw [sizeLine_eq]; omega
  refine wpAny_call (PySem.HandSPX.call_own F.excBase_ValueError (fun Y => PySem.HandSPX.refsVE_contains Y bm hbm) (J.kIn _ _ lk) (PySem.W.looks_findIn J.kIn iC) (fun self => PySem.W.bind_fn J.kIn self tI) hus ?_)
  rw [hN, hG]
  refine codeAny_mono (FI.run _ X.stack _ _ ⟨Value.ref n :: us, []⟩ (Value.ref n :: us ++ []) _ _ (fun _ _ _ => False) (rm.make C us []) (J2.env0.make C us []) (bI _ (Value.ref n :: us) J2.kIn hl) rv2 q2) fun r s' z => ?_
  match r, z with
  | .error er, z => exact px pins σ _ _ er s' J2 z
  | .ok (.ret u), z =>
    have ⟨v, H2, os2, bare2, un2, hok2, ru, ev, d, fs, ea, ed, hd1, q3⟩ := z
    subst ev
    have ⟨h2, g2, d2, t2, os'⟩ := s'
    have ⟨t0, B, J', kB, ge, hoe, na⟩ := mk_end0 (d2 := d2) (t2 := t2) J le up un2 hok2 os2 bare2 ea ed hd1
    exact ⟨ru, n, _, _, ⟨B, g2, d2, t2, os'⟩, _, .ref C, some d, rfl, J', kB, ge, hoe, ⟨rfl, rfl, fun vs e => by cases e; rfl⟩, rfl, rfl, na, rfl, bare2, raises_own T.exC T.tyC, q3⟩
  | .ok .next, z => exact False.elim z
  | .ok .brk, z => exact False.elim z
  | .ok .cont, z => exact False.elim z
section
variable {K : PySem.W.Frag}
structure ErrR (c : Ent) (C : Addr) (xs : List (Str × DV K)) (cls : Value) (d : Option Addr) (Hk H : Hp) : Prop where
  ex : Ex Hk H
  k0 : Ex c.K0 Hk
  fr : ∀ (a : Addr) (o : HO), c.H0 a = some o → c.lent ≠ some a → H a = some o
  nw : ∀ (a : Addr) (o : HO), Hk a = some o → c.K0 a = some o ∨ c.H0 a = none
  th : ∀ a : Addr, H a = none → c.H0 a = none
  cl : cls = .ref C
  fs : ∃ (dd : Addr) (l : List (Str × V)), d = some dd ∧ Hk dd = some (.xd l) ∧ ∀ (n : Str) (x : DV K), (n, x) ∈ xs → ∃ v, l.lookup n = some v ∧ x.e.rep Hk v x.a
/-- a def's promise that gives f x back, or, where r x tells so, raises the exception of the class at C with what xf tells -/
def spX {ι γ ε : Type} (ds : ι → List (Slot K)) (pre : ι → Prop) (R : Ret K γ) (f : ι → γ) (C : Addr) (r : ι → Option ε) (prx : ι → Prop) (xf : ε → List (Str × DV K)) : Sp := fun vs H Q E => ∃ (x : ι) (Hk : Hp), Ex Hk H ∧ All2S (fun v s => s.ok Hk H (some v)) vs (ds x) ∧
  ((r x = none ∧ pre x ∧ ∀ v Hk' H', OkR ⟨H, Hk, lentOf vs (ds x)⟩ R (f x) v Hk' H' → Q v H') ∨
    ∃ e, r x = some e ∧ prx x ∧ ∀ cls d Hk' H', ErrR ⟨H, Hk, lentOf vs (ds x)⟩ C (xf e) cls d Hk' H' → E cls d H')
/-- a suite that raises -/
def XR (C : Addr) (xs : List (Str × DV K)) (W : XK) (ts : TS) (ρ : Env K) : Prop :=
  ∀ (c : Ent) (σ : List (Option V)) (Hk H : Hp), Ok c Hk H σ ρ → (∀ cls d Hk' H', ErrR c C xs cls d Hk' H' → W cls d H') → ∀ D : Ends, ts D σ H
variable {ρ ρ' ρ0 ρ1 ρ2 ρ3 : Env K} {α β : Type} {e : Enc K α} {ta tb te tc : TE} {tt tu tw : TT} {ts us ws : TS} {C : Addr} {xs : List (Str × DV K)} {W : XK}
theorem xr_seq (h : XS ts ρ ρ1) (k : XR C xs W us ρ1) : XR C xs W (tSeq ts us) ρ := fun c σ Hk H k0 w D => h c σ Hk H k0 _ fun σ' Hk' H' k' _ => k c σ' Hk' H' k' w D
theorem xr_here (h : XR C xs W ts ρ) : XR C xs W (tSeq ts us) ρ := fun c σ Hk H k0 w D => h c σ Hk H k0 w _
theorem xr_if {b : Bool} (h : EvT tt ρ ρ1 b) (hb : b = true) (k : XR C xs W ts ρ1) : XR C xs W (tSeq (tIfS tt ts us) ws) ρ := fun c σ Hk H k0 w D =>
  h c σ Hk H k0 _ fun Hk1 H1 k1 _ => by
    subst hb
    exact k c σ Hk1 H1 k1 w _
theorem xr_else {b : Bool} (h : EvT tt ρ ρ1 b) (hb : b = false) (k : XR C xs W (tSeq us ws) ρ1) : XR C xs W (tSeq (tIfS tt ts us) ws) ρ := fun c σ Hk H k0 w D =>
  h c σ Hk H k0 _ fun Hk1 H1 k1 _ => by
    subst hb
    exact k c σ Hk1 H1 k1 w D
theorem Ok.err {c : Ent} {Hk H Hk' H' : Hp} {σ : List (Option V)} {cls : Value} {d : Option Addr} (k : Ok c Hk H σ ρ) (o : ErrR ⟨H, Hk, none⟩ C xs cls d Hk' H') : ErrR c C xs cls d Hk' H' where
  ex := o.ex
  k0 := k.k0.trans o.k0
  fr := fun a u h l => o.fr a u (k.fr a u h l) fun z => nomatch z
  nw := fun a u h => (o.nw a u h).elim (k.nw a u) fun z => .inr (k.th a z)
  th := fun a h => k.th a (o.th a h)
  cl := o.cl
  fs := o.fs
theorem Ok.caught {c : Ent} {Hk H Hk' H' : Hp} {σ : List (Option V)} {cls : Value} {d : Option Addr} (k : Ok c Hk H σ ρ) (o : ErrR ⟨H, Hk, none⟩ C xs cls d Hk' H') : Ok c Hk' H' σ ρ :=
  k.ext (fun a u h => o.fr a u h fun z => nomatch z) o.k0 o.ex o.nw
/-- a made exception flies: its object is let go, its dict is known -/
theorem Ok.made {c : Ent} {Hk H H2 : Hp} {σ : List (Option V)} {a d : Addr} {l : List (Str × V)} (k : Ok c Hk H σ ρ) (ha : H a = none) (hd : H d = none) (hda : d ≠ a) (h2 : ∀ b, b ≠ a → b ≠ d → H2 b = H b)
    (hl : ∀ (n : Str) (x : DV K), (n, x) ∈ xs → ∃ v, l.lookup n = some v ∧ x.e.rep Hk v x.a) : ErrR c C xs (.ref C) (some d) (upd Hk d (.xd l)) (upd (del H2 a) d (.xd l)) := by
  have hkd : Hk d = none := k.ex.none hd
  have old : ∀ b o, H b = some o → upd (del H2 a) d (.xd l) b = some o := fun b o e => by
    have n1 : b ≠ a := fun z => by rw [z, ha] at e; cases e
    have n2 : b ≠ d := fun z => by rw [z, hd] at e; cases e
    rw [upd_ne n2, del_ne n1, h2 b n1 n2]; exact e
  refine ⟨fun b o e => ?_, k.k0.trans (Ex.new hkd), fun b o e q => old b o (k.fr b o e q), fun b o e => ?_, fun b e => ?_, rfl, d, l, rfl, upd_same, fun n x hx => ?_⟩
  · by_cases q : b = d
    · subst q; rw [upd_same] at e ⊢; exact e
    · rw [upd_ne q] at e; exact old b o (k.ex b o e)
  · by_cases q : b = d
    · subst q; exact .inr (k.th _ hd)
    · rw [upd_ne q] at e; exact k.nw b o e
  · by_cases q : b = a
    · subst q; exact k.th _ ha
    · by_cases q2 : b = d
      · subst q2; exact k.th _ hd
      · rw [upd_ne q2, del_ne q, h2 b q q2] at e; exact k.th b e
  · obtain ⟨v, h1, h3⟩ := hl n x hx
    exact ⟨v, h1, x.e.mono (Ex.new hkd) h3⟩
/-! the __init__ of an own exception of one and of two fields -/
def spI1 (f1 : Str) : Sp := fun vs H Q _ => ∃ (a C : Addr) (y1 : V), vs = [.ref a, y1] ∧ OexC K C ∧ PySem.W.findIn K (.ref C) f1 = some none ∧ H a = some (exo a C none) ∧ ∀ d, H d = none → d ≠ a → Q .non (upd (upd H d (exd d [(f1, y1)])) a (exo a C (some d)))
def spI2 (f1 f2 : Str) : Sp := fun vs H Q _ => ∃ (a C : Addr) (y1 y2 : V), vs = [.ref a, y1, y2] ∧ OexC K C ∧ PySem.W.findIn K (.ref C) f1 = some none ∧ PySem.W.findIn K (.ref C) f2 = some none ∧ H a = some (exo a C none) ∧
  ∀ d, H d = none → d ≠ a → Q .non (upd (upd (upd H d (exd d [(f1, y1)])) a (exo a C (some d))) d (exd d [(f2, y2), (f1, y1)]))
theorem xi1 {f1 : Str} {vs : List V} {H : Hp} {Q : VK} {E : XK} {ws : List (Option V)} (h : spI1 (K := K) f1 vs H Q E) : (tSeq (tOst K f1 (tVar 0) (tVar 1)) tNext) { nx := fun _ H' => Q .non H', rt := Q } (vs.map some ++ ws) H := by
  obtain ⟨a, C, y1, rfl, T, n1, hH, q⟩ := h
  exact ⟨y1, rfl, .ref a, rfl, a, C, rfl, T, n1, .inl ⟨hH, fun dx h1 h2 => q dx h1 h2⟩⟩
theorem xi2 {f1 f2 : Str} {vs : List V} {H : Hp} {Q : VK} {E : XK} {ws : List (Option V)} (h : spI2 (K := K) f1 f2 vs H Q E) : (tSeq (tOst K f1 (tVar 0) (tVar 1)) (tSeq (tOst K f2 (tVar 0) (tVar 2)) tNext)) { nx := fun _ H' => Q .non H', rt := Q } (vs.map some ++ ws) H := by
  obtain ⟨a, C, y1, y2, rfl, T, n1, n2, hH, q⟩ := h
  exact ⟨y1, rfl, .ref a, rfl, a, C, rfl, T, n1, .inl ⟨hH, fun dx h1 h2 => ⟨y2, rfl, .ref a, rfl, a, C, rfl, T, n2, .inr ⟨dx, _, upd_same, by rw [upd_ne h2, upd_same], by show 1 ≤ 900; decide, q dx h1 h2⟩⟩⟩⟩
/-- raise C(e1, e2) -/
theorem xr_raise2 {f1 f2 : Str} {tA : TA} {s1 s2 : DV K} (T : OexC K C) (n1 : PySem.W.findIn K (.ref C) f1 = some none) (n2 : PySem.W.findIn K (.ref C) f2 = some none) (hne : f1 ≠ f2) (ha : EvA tA ρ ρ1 [.d s1.e s1.a, .d s2.e s2.a]) :
    XR C [(f1, s1), (f2, s2)] W (tSeq (fun _ σ H => tMkO C (spI2 (K := K) f1 f2) [] tA σ H fun cls d H' => W cls d H') us) ρ := fun c σ Hk H k w D =>
  ha c σ Hk H k _ fun vs Hk1 H1 k1 x1 hv => by
    cases hv with
    | cons r1 t1 =>
      cases t1 with
      | cons r2 t2 =>
        cases t2
        rename_i y1 y2
        obtain ⟨_, e1, g1⟩ := r1
        obtain ⟨_, e2, g2⟩ := r2
        cases e1; cases e2
        refine ⟨by show 2 ≤ 1000; decide, fun a hn => ⟨a, C, _, _, rfl, T, n1, n2, upd_same, fun d hd hda => ⟨rfl, d, _, by rw [upd_ne (Ne.symm hda), upd_same], upd_same, by rwa [upd_ne hda] at hd, ?_⟩⟩⟩
        rw [upd_ne hda] at hd
        refine w _ _ _ _ (k1.made hn hd hda (fun b b1 b2 => ?_) fun n x hx => ?_)
        · rw [upd_ne b2, upd_ne b1, upd_ne b2, upd_ne b1]
        · simp only [List.mem_cons, Prod.mk.injEq, List.not_mem_nil, or_false] at hx
          rcases hx with ⟨rfl, rfl⟩ | ⟨rfl, rfl⟩
          · exact ⟨y1, by rw [List.lookup_cons, beq_false_of_ne hne, List.lookup_cons, beq_self_eq_true], g1⟩
          · exact ⟨y2, by rw [List.lookup_cons, beq_self_eq_true], g2⟩
end
section
variable {P : Program} {w : World} {K : PySem.W.Frag} {mg : Str → Option Value} {base : Heap} {γ : Type} {R : Ret K γ}
/-- a def that may raise: its run where it does not (nothing is let out), its run where it does -/
theorem fn_okX {ι ν ε : Type} {ds : ι → List (Slot K)} {pre : ι → Prop} {fl : ι → ν → γ} {o : ι → Out ν Empty γ} {E : ι → ν → Env K} {g : ι → γ} {C : Addr} {r : ι → Option ε} {prx : ι → Prop} {xf : ε → List (Str × DV K)}
    {x qual : Str} {st : Stmt} {f : Addr} {fd : FuncData} {N ps : List Str} {k : Nat} (F : Fun K x qual st f fd) (S : FnScope N ps (defScope st)) (hg : ∀ x, g x = (o x).val (fl x))
    (hlen : ∀ x, (ds x).length = ps.length) (hM : ∀ x i s, (ds x)[i + 1]? = some s → s.isM = false)
    (hfall : ∀ x t, (∀ H, R.e.rep H .non (R.val (fl x t))) ∧ R.nl (fl x t) = none ∧ ∀ s, R.ls (fl x t) = some s → (E x t)[0]? = some s)
    (hA : ∀ (cdv : Value) (A : Around) (outer : List PySem.Env) (s : Shared) (H : Hp) (EX : XK), Room k (A.deeper (envOfC qual (defScope st) s.heap.objs.size f cdv)) → ∀ x, r x = none → pre x →
      ∃ (ρ : Env K) (t : TS), ds x ++ List.replicate (N.length - ps.length) .un = ρ ∧ PSs (cxOf CX0 P w K mg base N qual (defScope st) f cdv A outer s H EX).nox (defBody st) t ∧ XB t ρ (E x) (fun z : Empty => nomatch z) R (o x))
    (hB : ∀ (cdv : Value) (A : Around) (outer : List PySem.Env) (s : Shared) (H : Hp) (EX : XK), Room k (A.deeper (envOfC qual (defScope st) s.heap.objs.size f cdv)) → ∀ x e, r x = some e → prx x →
      ∃ (ρ : Env K) (t : TS), ds x ++ List.replicate (N.length - ps.length) .un = ρ ∧ PSs (cxOf (L2N.CX P w) P w K mg base N qual (defScope st) f cdv A outer s H EX) (defBody st) t ∧ XR C (xf e) EX t ρ) :
    FnOk P w K mg base (L2N.CX P w) (k + 1) f fd ps (spX ds pre R g C r prx xf) := by
  have ⟨oc, od, kV, doc, pm, an, cdv, ct, osl, efd, lk, hcd⟩ := F.ex
  subst efd
  refine fn_of lk hcd S (fun vs H Q EX h => ?_) fun A outer s H vs Q EX hr h => ?_
  · obtain ⟨x, Hk, _, h3, _⟩ := h
    rw [h3.len, hlen]
  · obtain ⟨x, Hk, h2, h3, h4⟩ := h
    have k0 := start_ok (N := N) (ps := ps) (ι := ι) h2 h3 (by rw [h3.len, hlen]) (hM x)
    rcases h4 with ⟨hr0, h1, h4⟩ | ⟨e, he, hp, h4⟩
    · obtain ⟨ρ, t, rfl, d, b⟩ := hA cdv A outer s H EX hr x hr0 h1
      refine ⟨t, PSs.nox (X := cxOf (L2N.CX P w) P w K mg base N qual (defScope st) f cdv A outer s H EX) d, b _ (L2.start N vs) Hk H k0 _ ?_⟩
      have h4 : ∀ v Hk' H', OkR ⟨H, Hk, lentOf vs (ds x)⟩ R ((o x).val (fl x)) v Hk' H' → Q v H' := hg x ▸ h4
      cases ho : o x with
      | nx r =>
        rw [ho] at h4
        exact fun σ' Hk' H' k' x' => h4 .non Hk' H' (k'.ret (hfall x r).2.1 ((hfall x r).1 _) (hfall x r).2.2)
      | ct z => exact nomatch z
      | bk z => exact nomatch z
      | rt r =>
        rw [ho] at h4
        exact fun v Hk' H' k' => h4 v Hk' H' k'
    · obtain ⟨ρ, t, rfl, d, b⟩ := hB cdv A outer s H EX hr x e he hp
      exact ⟨t, d, b _ (L2.start N vs) Hk H k0 h4 _⟩
variable {ρ ρ' ρ0 ρ1 ρ2 ρ3 : Env K} {ι ε : Type} {ds : ι → List (Slot K)} {pre : ι → Prop} {f : ι → γ} {C : Addr} {r : ι → Option ε} {prx : ι → Prop} {xf : ε → List (Str × DV K)} {us : TS}
theorem ev_callX {tA : TA} {E : XK} (x : ι) (ha : EvA tA ρ ρ1 (ds x)) (hr : r x = none) (hp : pre x) (hm : isMAt (ds x) 0 = false) (hnl : R.nl (f x) = none) : EvD (tCall (spX ds pre R f C r prx xf) [] E tA) ρ ρ1 R.e (R.val (f x)) := fun c σ Hk H k Q q =>
  ha c σ Hk H k _ fun vs Hk1 H1 k1 x1 hv => ⟨x, Hk1, k1.ex, by rw [List.append_nil]; exact hv, .inl ⟨hr, hp, fun v Hk2 H2 o => by
    rw [lent_none hm] at o
    obtain ⟨k2, x2⟩ := k1.called o
    exact q v Hk2 H2 k2 (x1.trans x2) (o.rv hnl)⟩⟩
/-- .. by keywords alone -/
theorem ev_callXKw {tk : TA} {E : XK} {n : Nat} (x : ι) (ha : EvA tk ρ ρ1 (ds x)) (hr : r x = none) (hp : pre x) (hm : isMAt (ds x) 0 = false) (hnl : R.nl (f x) = none) : EvD (tCallK (spX ds pre R f C r prx xf) (kwG n V.non) E tNil tk) ρ ρ1 R.e (R.val (f x)) := fun c σ Hk H k Q q =>
  ha c σ Hk H k _ fun vs Hk1 H1 k1 x1 hv => ⟨x, Hk1, k1.ex, hv, .inl ⟨hr, hp, fun v Hk2 H2 o => by
    rw [lent_none (vs := kwG n V.non [] vs) hm] at o
    obtain ⟨k2, x2⟩ := k1.called o
    exact q v Hk2 H2 k2 (x1.trans x2) (o.rv hnl)⟩⟩
theorem xr_call {tA : TA} {e : ε} {W : XK} (x : ι) (ha : EvA tA ρ ρ1 (ds x)) (hr : r x = some e) (hp : prx x) (hm : isMAt (ds x) 0 = false) : XR C (xf e) W (tSeq (tDrop (tCall (spX ds pre R f C r prx xf) [] W tA)) us) ρ := fun c σ Hk H k w D =>
  ha c σ Hk H k _ fun vs Hk1 H1 k1 x1 hv => ⟨x, Hk1, k1.ex, by rw [List.append_nil]; exact hv, .inr ⟨e, hr, hp, fun cls d Hk2 H2 er => by
    rw [lent_none hm] at er
    exact w _ _ _ _ (k1.err er)⟩⟩
/-- an exception that was caught, as data: its dict's fields -/
def eX (a : Addr) (d : Option Addr) (xs : List (Str × DV K)) : Enc K Unit :=
  ⟨fun H v _ => v = .ref a ∧ ∃ (dd : Addr) (l : List (Str × V)), d = some dd ∧ H dd = some (.xd l) ∧ ∀ (n : Str) (x : DV K), (n, x) ∈ xs → ∃ v, l.lookup n = some v ∧ x.e.rep H v x.a,
   fun x ⟨h1, dd, l, h2, h3, h4⟩ => ⟨h1, dd, l, h2, x _ _ h3, fun n y hy => let ⟨v, e1, e2⟩ := h4 n y hy; ⟨v, e1, y.e.mono x e2⟩⟩⟩
theorem ev_xf {a : Addr} {d : Option Addr} {xs : List (Str × DV K)} {te : TE} {n : Str} {y : DV K} (h : EvD te ρ ρ1 (eX a d xs) ()) (hy : (n, y) ∈ xs) : EvD (tXf a (.ref C) d C n te) ρ ρ1 y.e y.a := fun c σ Hk H k Q q =>
  h c σ Hk H k _ fun v Hk1 H1 k1 x1 ⟨h1, dd, l, h2, h3, h4⟩ => by
    obtain ⟨u, e1, e2⟩ := h4 n y hy
    exact ⟨h1, rfl, dd, l, u, h2, k1.ex _ _ h3, e1, q u Hk1 H1 k1 x1 e2⟩
def Out.lift {ν lam γ : Type} (o : Out Empty Empty γ) : Out ν lam γ := match o with
  | .nx t => nomatch t
  | .ct t => nomatch t
  | .bk t => nomatch t
  | .rt r => .rt r
def tryO {ν lam γ ε : Type} (r : Option ε) (a : Out ν lam γ) (b : ε → Out Empty Empty γ) : Out ν lam γ := match r with
  | none => a
  | some e => (b e).lift
/-- try: y = f(..) except C as e: suite -/
theorem xb_tryX {ν lam δ : Type} {En : ν → Env K} {L : lam → Env K} {R' : Ret K δ} {tA : TA} {i j : Nat} {ts : Addr → Value → Option Addr → TS} {oh : ε → Out Empty Empty δ} {ok : γ → Out ν lam δ} (x : ι) (ha : EvA tA ρ ρ1 (ds x)) (hm : isMAt (ds x) 0 = false)
    (hp : r x = none → pre x) (hpx : ∀ e, r x = some e → prx x) (hnl : R.nl (f x) = none) (hj : okSet ρ1 j = true) (hi : isMAt ρ1 i = false) (hex : PySem.W.exmOne K (.ref C) (.ref C) = some true)
    (hn : r x = none → ∀ y, y = f x → XB us (ρ1.set j (.d R.e (R.val y))) En L R' (ok y))
    (hs : ∀ e, r x = some e → ∀ (a : Addr) (d : Option Addr), XB (ts a (.ref C) d) (ρ1.set i (.d (eX a d (xf e)) ())) (fun z : Empty => nomatch z) (fun z : Empty => nomatch z) R' (oh e)) :
    XB (tSeq (fun D σ H => (fun Wx : WX => tSeq (tAsg (tCallSD (spX ds pre R f C r prx xf) [] (L2.WE Wx) tA) (gName j)) tNext) (wAs K (.ref C) i ts (fun _ _ _ _ => False) D) D σ H) us) ρ En L R' (tryO (r x) (lt (f x) ok) oh) := fun c σ Hk H k D q => by
  refine ha c σ Hk H k _ fun vs Hk1 H1 k1 x1 hv => ⟨x, Hk1, k1.ex, by rw [List.append_nil]; exact hv, ?_⟩
  cases hr : r x with
  | none =>
    rw [hr] at q
    have q : (ok (f x)).fin c Hk En L R' D := q
    refine .inl ⟨rfl, hp hr, fun v Hk2 H2 o => ?_⟩
    rw [lent_none hm] at o
    obtain ⟨k2, x2⟩ := k1.called o
    exact hn hr _ rfl c _ Hk2 H2 (k2.setX hj ⟨v, rfl, o.rv hnl⟩ fun h => nomatch h) D (Out.fin_mono (x1.ex.trans x2.ex) q)
  | some e =>
    rw [hr] at q
    refine .inr ⟨e, rfl, hpx e hr, fun cls d Hk2 H2 er => ?_⟩
    rw [lent_none hm] at er
    have hc := er.cl
    subst hc
    refine ⟨true, hex, fun _ a _ => ?_, fun z => nomatch z⟩
    have k2 := k1.caught er
    obtain ⟨dd, l, e1, e2, e3⟩ := er.fs
    have k3 := k2.setD (e := eX a d (xf e)) (a := ()) (v := .ref a) hi ⟨rfl, dd, l, e1, e2, e3⟩
    refine hs e hr a d c _ Hk2 H2 k3 _ ?_
    cases ho : oh e with
    | nx t => exact nomatch t
    | ct t => exact nomatch t
    | bk t => exact nomatch t
    | rt r =>
      have q : ((oh e).lift : Out ν lam δ).fin c Hk En L R' D := q
      rw [ho] at q
      exact q
end
section
variable {P : Program} {w : World} {K : PySem.W.Frag} {mg : Str → Option Value} {base : Heap} {γ : Type} {R : Ret K γ}
/-- as fn_ok, where an exception is handled -/
theorem fn_okH {ι ν : Type} {ds : ι → List (Slot K)} {pre : ι → Prop} {fl : ι → ν → γ} {o : ι → Out ν Empty γ} {E : ι → ν → Env K} {g : ι → γ} {x qual : Str} {st : Stmt} {f : Addr} {fd : FuncData} {N ps : List Str} {k : Nat} (F : Fun K x qual st f fd) (S : FnScope N ps (defScope st))
    (hg : ∀ x, g x = (o x).val (fl x)) (hlen : ∀ x, (ds x).length = ps.length) (hM : ∀ x i s, (ds x)[i + 1]? = some s → s.isM = false)
    (hfall : ∀ x t, (∀ H, R.e.rep H .non (R.val (fl x t))) ∧ R.nl (fl x t) = none ∧ ∀ s, R.ls (fl x t) = some s → (E x t)[0]? = some s)
    (hbody : ∀ (cdv : Value) (A : Around) (outer : List PySem.Env) (s : Shared) (H : Hp) (EX : XK) (p : Addr × Obj), L2H.Hot1 A p → L2H.RoomH k (A.deeper (envOfC qual (defScope st) s.heap.objs.size f cdv)) → ∀ x, pre x →
      ∃ (ρ : Env K) (t : TS), ds x ++ List.replicate (N.length - ps.length) .un = ρ ∧ PSs (L2H.cxH CX0 P w K mg base N qual (defScope st) f cdv A outer s H EX p).nox (defBody st) t ∧ XB t ρ (E x) (fun z : Empty => nomatch z) R (o x)) :
    L2H.FnH P w K mg base CX0 (k + 1) f fd ps (spF ds pre R g) := by
  have ⟨oc, od, kV, doc, pm, an, cdv, ct, osl, efd, lk, hcd⟩ := F.ex
  subst efd
  refine L2H.fn_ofH lk hcd S (fun vs H Q EX h => ?_) fun A outer s H vs Q EX p hot hr h => ?_
  · obtain ⟨x, Hk, _, _, h3, _⟩ := h
    rw [h3.len, hlen]
  · obtain ⟨x, Hk, h1, h2, h3, h4⟩ := h
    have k0 := start_ok (N := N) (ps := ps) (ι := ι) h2 h3 (by rw [h3.len, hlen]) (hM x)
    obtain ⟨ρ, t, rfl, d, b⟩ := hbody cdv A outer s H EX p hot hr x h1
    refine ⟨t, PSs.nox (X := L2H.cxH CX0 P w K mg base N qual (defScope st) f cdv A outer s H EX p) d, b _ (L2.start N vs) Hk H k0 _ ?_⟩
    have h4 : ∀ v Hk' H', OkR ⟨H, Hk, lentOf vs (ds x)⟩ R ((o x).val (fl x)) v Hk' H' → Q v H' := hg x ▸ h4
    cases ho : o x with
    | nx r =>
      rw [ho] at h4
      exact fun σ' Hk' H' k' x' => h4 .non Hk' H' (k'.ret (hfall x r).2.1 ((hfall x r).1 _) (hfall x r).2.2)
    | ct z => exact nomatch z
    | bk z => exact nomatch z
    | rt r =>
      rw [ho] at h4
      exact fun v Hk' H' k' => h4 v Hk' H' k'
theorem hotX {A : Around} {CXg : CXT} {N : List Str} {qual : Str} {sc : Scope} {f : Addr} {cd : Value} {outer : List PySem.Env} {s : Shared} {H : Hp} {E : XK} {p : Addr × Obj} (h : L2H.Hot1 A p) : L2H.HotC (L2H.cxH CXg P w K mg base N qual sc f cd A outer s H E p).nox :=
  ⟨p, ⟨h.1, h.2⟩, List.mem_cons_self⟩
theorem hotS {X : Cx} {a : Addr} {oe : Obj} {pn : List (Addr × Obj)} {cls : Value} {d : Option Addr} (hz : L2N.Zn cls d oe) (hf : ∃ vs, oe.data = .fields vs) : L2H.HotC (X.suite a ((a, oe) :: pn)) :=
  let ⟨vs, hd⟩ := hf
  ⟨(a, oe), ⟨rfl, vs, hd, hz.2.2 vs hd⟩, List.mem_cons_self⟩
theorem passH0 {X : Cx} {E : L2.St → XK} : ∀ σ, PassesAt CX0 X σ (E σ) := fun _ _ _ _ _ _ _ h => h.elim
variable {ρ ρ1 : Env K} {ι : Type} {ds : ι → List (Slot K)} {pre : ι → Prop} {f : ι → γ}
theorem ev_callS {tA : TA} {E : L2.St → XK} (x : ι) (ha : EvA tA ρ ρ1 (ds x)) (hp : pre x) (hm : isMAt (ds x) 0 = false) (hnl : R.nl (f x) = none) : EvD (tCallS (spF ds pre R f) E tA) ρ ρ1 R.e (R.val (f x)) := fun c σ Hk H k Q q =>
  ha c σ Hk H k _ fun vs Hk1 H1 k1 x1 hv => ⟨x, Hk1, hp, k1.ex, hv, fun v Hk2 H2 o => by
    rw [lent_none hm] at o
    obtain ⟨k2, x2⟩ := k1.called o
    exact q v Hk2 H2 k2 (x1.trans x2) (o.rv hnl)⟩
end
/-- a def of the text called where an exception is handled -/
structure FnAtH (P : Program) (w : World) (K : PySem.W.Frag) (mg : Str → Option Value) (base : Heap) (x : Str) (k : Nat) (ps : List Str) (sp : Sp) : Prop where
  ex : ∃ f fd, L2H.FnH P w K mg base CX0 k f fd ps sp ∧ mg x = some (.ref f) ∧ PySem.W.keepIn K (.ref f) = true ∧ Binds K fd ps []
/-- a def of the text that may raise -/
structure FnAtX (P : Program) (w : World) (K : PySem.W.Frag) (mg : Str → Option Value) (base : Heap) (x : Str) (k : Nat) (ps : List Str) (sp : Sp) : Prop where
  ex : ∃ f fd, FnOk P w K mg base (L2N.CX P w) k f fd ps sp ∧ mg x = some (.ref f) ∧ PySem.W.keepIn K (.ref f) = true ∧ Binds K fd ps []
structure FnAtXK (P : Program) (w : World) (K : PySem.W.Frag) (mg : Str → Option Value) (base : Heap) (x : Str) (k : Nat) (ps : List Str) (sp : Sp) : Prop where
  ex : ∃ f fd, FnOk P w K mg base (L2N.CX P w) k f fd ps sp ∧ mg x = some (.ref f) ∧ PySem.W.keepIn K (.ref f) = true ∧ Binds K fd ps [] ∧ KBinds K fd ps ps (kwG ps.length Value.none) (kwG ps.length V.non)
theorem passN {X : Cx} : Passes (L2N.CX X.prog X.w) X E0 := fun _ _ _ _ _ _ _ h => by
  have ⟨_, _, _, _, _, _, _, _, _, _, _, _, z⟩ := h
  exact z.elim
theorem takesN {X : Cx} : L2N.Takes X (fun _ _ _ _ => False) := fun _ _ x => by
  have ⟨_, _, _, _, _, _, _, _, _, _, _, _, _, _, _, _, z⟩ := x
  exact z.elim
/-- what the written part says of an own exception class -/
structure Exn (K : PySem.W.Frag) (mg : Str → Option Value) (x : Str) (C f : Addr) : Prop where
  o : OexC K C
  xf : XfC K C
  i : PySem.W.findIn K (.ref C) "__init__" = some (some (.ref f))
  t : PySem.W.typeIn K (.ref f) = some (.type "function")
  m : mg x = some (.ref C)
  e : PySem.W.exmOne K (.ref C) (.ref C) = some true
/-- except C catches an exception of the class at C -/
theorem exm_of {K : PySem.W.Frag} {C : Addr} (a : PySem.W.subIn K (.ref C) (.type "BaseException") = some true) (b : PySem.W.isClsIn K C = true) (c : PySem.W.typeIn K (.ref C) = some (.type "type")) (d : PySem.W.subIn K (.ref C) (.ref C) = some true) :
    PySem.W.exmOne K (.ref C) (.ref C) = some true := by
  have x : (PySem.W.subIn K (.ref C) (.type "BaseException") == some true) = true := by rw [a] <;> rfl
  have b' : (PySem.W.clsIn K C).isSome = true := b
  have y : ((PySem.W.clsIn K C).isSome && PySem.W.typeIn K (.ref C) == some (.type "type")) = true := by rw [b', c] <;> rfl
  show (if _ then (if _ then PySem.W.subIn K (.ref C) (.ref C) else none) else none) = some true
  rw [if_pos x, if_pos y, d]
end FL

/-! FL10: max, in over bools, == of tuples of ints, triples, keywords in another order. -/
namespace FL
open PySem L2 PyProof.Rows
section
variable {K : PySem.W.Frag} {ρ ρ' ρ0 ρ1 ρ2 ρ3 : Env K} {α β δ : Type} {e : Enc K α} {f : Enc K β} {g : Enc K δ} {ta tb te tc : TE}
def maxI (l : List Int) : Int := l.foldl (fun a b => if a < b then b else a) (l.headD 0)
theorem maxI_go : ∀ (l : List Int) (a : Int), (l.foldl (fun a b => if a < b then b else a) a = a ∨ l.foldl (fun a b => if a < b then b else a) a ∈ l) ∧ a ≤ l.foldl (fun a b => if a < b then b else a) a ∧ ∀ y ∈ l, y ≤ l.foldl (fun a b => if a < b then b else a) a
  | [], a => ⟨.inl rfl, Int.le_refl _, fun y h => by cases h⟩
  | b :: l, a => by
    rw [List.foldl_cons]
    obtain ⟨h1, h2, h3⟩ := maxI_go l (if a < b then b else a)
    refine ⟨?_, ?_, fun y hy => ?_⟩
    · rcases h1 with h | h
      · rw [h]
        by_cases c : a < b
        · rw [if_pos c]; exact .inr (by simp)
        · rw [if_neg c]; exact .inl rfl
      · exact .inr (by simp [h])
    · by_cases c : a < b
      · rw [if_pos c] at h2 ⊢; omega
      · rw [if_neg c] at h2 ⊢; omega
    · rcases List.mem_cons.mp hy with rfl | hy
      · by_cases c : a < y
        · rw [if_pos c] at h2 ⊢; omega
        · rw [if_neg c] at h2 ⊢; omega
      · exact h3 y hy
theorem maxI_mem {l : List Int} (h : 0 < l.length) : maxI l ∈ l ∧ ∀ y ∈ l, y ≤ maxI l := by
  cases l with
  | nil => simp at h
  | cons a l =>
    obtain ⟨h1, h2, h3⟩ := maxI_go (a :: l) a
    refine ⟨?_, h3⟩
    rcases h1 with h | h
    · show List.foldl _ a (a :: l) ∈ _
      rw [h]; simp
    · exact h
theorem maxI_uniq {l : List Int} {m : Int} (h : m ∈ l) (hm : ∀ y ∈ l, y ≤ m) : m = maxI l := by
  obtain ⟨a, b⟩ := maxI_mem (l := l) (List.length_pos_of_mem h)
  have := hm _ a
  have := b _ h
  omega
theorem ev_max {as : List Int} (ha : EvD ta ρ ρ1 (eL eI) as) (h0 : 0 < as.length) : EvD (tCB (rMax K) (tCons ta tNil)) ρ ρ1 eI (maxI as) :=
  ev_cb ha fun c σ Hk H x k ⟨p, xs, e1, e2, e3, _⟩ Q q => by
    have z : xs = as.map V.int := All2.eq_map (f := V.int) e3
    subst z
    exact ⟨p, as, by rw [e1], ex_l k.ex e2, h0, fun m hm hy => q _ Hk H k Nxt.refl (by rw [maxI_uniq hm hy]; rfl)⟩
theorem ev_eqTI {as bs : List Int} (ha : EvD ta ρ ρ1 (eT eI) as) (hb : EvD tb ρ1 ρ2 (eT eI) bs) : EvD (tOp (rEqD K) ta tb) ρ ρ2 eB (decide (as = bs)) :=
  ev_bin ha hb fun c σ Hk H x y k ⟨p, xs, e1, e2, e3, _⟩ ⟨q', ys, f1, f2, f3, _⟩ Q q => by
    subst e1; subst f1
    refine ⟨_, _, .tup (ex_t k.ex e2) (dpAll_ints e3), .tup (ex_t k.ex f2) (dpAll_ints f3), (shaped_ints as).2, (shaped_ints bs).2, q _ Hk H k Nxt.refl ?_⟩
    show V.bl _ = V.bl _
    rw [PyData.eqv, eqvAll_ints]
theorem ev_neTI {as bs : List Int} (ha : EvD ta ρ ρ1 (eT eI) as) (hb : EvD tb ρ1 ρ2 (eT eI) bs) : EvD (tOp (rNeD K) ta tb) ρ ρ2 eB (!decide (as = bs)) :=
  ev_bin ha hb fun c σ Hk H x y k ⟨p, xs, e1, e2, e3, _⟩ ⟨q', ys, f1, f2, f3, _⟩ Q q => by
    subst e1; subst f1
    refine ⟨_, _, .tup (ex_t k.ex e2) (dpAll_ints e3), .tup (ex_t k.ex f2) (dpAll_ints f3), (shaped_ints as).2, (shaped_ints bs).2, q _ Hk H k Nxt.refl ?_⟩
    show V.bl _ = V.bl _
    rw [PyData.eqv, eqvAll_ints]
theorem inV_bool {b : Bool} : ∀ bs : List Bool, inV (.bl b) (bs.map V.bl) = decide (b ∈ bs)
  | [] => rfl
  | c :: bs => by
    have ih := inV_bool (b := b) bs
    unfold inV at ih ⊢
    simp only [List.map_cons, List.any_cons, ih]
    cases b <;> cases c <;> simp [eqV]
theorem flat_bools : ∀ bs : List Bool, (bs.map V.bl).all flatV = true
  | [] => rfl
  | _ :: bs => by simp only [List.map_cons, List.all_cons, flat_bools bs]; rfl
theorem ev_inB {neg : Bool} {i : Bool} {as : List Bool} (hi : EvD ta ρ ρ1 eB i) (ha : EvD tb ρ1 ρ2 (eL eB) as) : EvD (tOp (rIn K neg) ta tb) ρ ρ2 eB (if neg then !decide (i ∈ as) else decide (i ∈ as)) :=
  ev_bin hi ha fun c σ Hk H x y k r1 ⟨p, xs, e1, e2, e3, e4⟩ Q q => by
    have r1 : x = .bl i := r1
    subst r1
    have z : xs = as.map V.bl := All2.eq_map (f := V.bl) e3
    subst z
    exact ⟨p, _, e1, .inl (ex_l k.ex e2), rfl, flat_bools as, q _ Hk H k Nxt.refl (by rw [inV_bool]; rfl)⟩
/-! triples -/
def eP3 (e : Enc K α) (f : Enc K β) (g : Enc K δ) : Enc K (α × β × δ) :=
  ⟨fun H v t => ∃ p x y z, v = .ref p ∧ SqT K H p [x, y, z] ∧ e.rep H x t.1 ∧ f.rep H y t.2.1 ∧ g.rep H z t.2.2,
   fun x ⟨p, u, v, w, h1, h2, h3, h4, h5⟩ => ⟨p, u, v, w, h1, ex_t x h2, e.mono x h3, f.mono x h4, g.mono x h5⟩⟩
theorem ev_trip {a : α} {b : β} {d : δ} (ha : EvD ta ρ ρ1 e a) (hb : EvD tb ρ1 ρ2 f b) (hd : EvD tc ρ2 ρ3 g d) : EvD (tTup (tCons ta (tCons tb (tCons tc tNil)))) ρ ρ3 (eP3 e f g) (a, b, d) := fun c σ Hk H k Q q =>
  ha c σ Hk H k _ fun x Hk1 H1 k1 x1 r1 => hb c σ Hk1 H1 k1 _ fun y Hk2 H2 k2 x2 r2 => hd c σ Hk2 H2 k2 _ fun z Hk3 H3 k3 x3 r3 => ⟨by show 3 ≤ sizeLine; decide, fun p hp =>
    let ⟨k4, x4⟩ := k3.new (o := .tup [x, y, z]) hp
    q _ _ _ k4 (((x1.trans x2).trans x3).trans x4) ⟨p, x, y, z, rfl, SqT.of upd_same, e.mono ((x2.trans x3).trans x4).ex r1, f.mono (x3.trans x4).ex r2, g.mono x4.ex r3⟩⟩
theorem ev_3a {t : α × β × δ} (ha : EvD ta ρ ρ1 (eP3 e f g) t) : EvD (tOp (rIxT K) ta (tC (.int 0))) ρ ρ1 e t.1 :=
  fun c σ Hk H k Q q => ha c σ Hk H k _ fun v Hk1 H1 k1 x1 ⟨p, x, y, z, e1, e2, e3, _, _⟩ => ⟨p, [x, y, z], 0, x, e1, rfl, ex_t k1.ex e2, rfl, q _ Hk1 H1 k1 x1 e3⟩
theorem ev_3b {t : α × β × δ} (ha : EvD ta ρ ρ1 (eP3 e f g) t) : EvD (tOp (rIxT K) ta (tC (.int 1))) ρ ρ1 f t.2.1 :=
  fun c σ Hk H k Q q => ha c σ Hk H k _ fun v Hk1 H1 k1 x1 ⟨p, x, y, z, e1, e2, _, e3, _⟩ => ⟨p, [x, y, z], 1, y, e1, rfl, ex_t k1.ex e2, rfl, q _ Hk1 H1 k1 x1 e3⟩
theorem ev_3c {t : α × β × δ} (ha : EvD ta ρ ρ1 (eP3 e f g) t) : EvD (tOp (rIxT K) ta (tC (.int 2))) ρ ρ1 g t.2.2 :=
  fun c σ Hk H k Q q => ha c σ Hk H k _ fun v Hk1 H1 k1 x1 ⟨p, x, y, z, e1, e2, _, _, e3⟩ => ⟨p, [x, y, z], 2, z, e1, rfl, ex_t k1.ex e2, rfl, q _ Hk1 H1 k1 x1 e3⟩
end
/-! keywords in any order: the i-th parameter is the pi i-th keyword -/
def kwP {α : Type} (pi : List Nat) (d : α) (us ws : List α) : List α := if us.length = 0 ∧ ws.length = pi.length then pi.map fun i => ws.getD i d else List.replicate (pi.length + 1) d
theorem vals_getD {zs : List V} {ws : List Value} (r : Vals zs ws) : ∀ i : Nat, RelV (zs.getD i .non) (ws.getD i .none) := fun i => by
  induction r generalizing i with
  | nil => exact (rfl : Value.none = Value.none)
  | cons h _ ih =>
    cases i with
    | zero => exact h
    | succ i => exact ih i
theorem vals_map {zs : List V} {ws : List Value} (r : Vals zs ws) : ∀ pi : List Nat, Vals (pi.map fun i => zs.getD i V.non) (pi.map fun i => ws.getD i Value.none)
  | [] => .nil
  | i :: pi => .cons (vals_getD r i) (vals_map r pi)
theorem kbinds_perm {K : PySem.W.Frag} {fd : FuncData} {ps ks : List Str} {pi : List Nat} (hl : ps.length = pi.length) (h : ∀ ws : List Value, ws.length = pi.length → bindArgs fd ⟨[], ks.zip ws⟩ = pure (ps.zip (pi.map fun i => ws.getD i Value.none))) : KBinds K fd ps ks (kwP pi Value.none) (kwP pi V.non) where
  to := fun s us ws X l => by
    by_cases hu : us.length = 0 ∧ ws.length = pi.length
    · have : us = [] := List.eq_nil_of_length_eq_zero hu.1
      subst this
      have e : kwP pi Value.none [] ws = pi.map fun i => ws.getD i Value.none := if_pos hu
      rw [e]
      exact .of_eq (h ws hu.2)
    · unfold kwP at l
      rw [if_neg hu, List.length_replicate] at l
      omega
  rel := fun {vs us zs ws} r z => by
    have l := r.length
    have l2 := z.length
    unfold kwP
    by_cases hu : us.length = 0 ∧ ws.length = pi.length
    · rw [if_pos hu, if_pos (by rw [l, l2]; exact hu)]; exact vals_map z pi
    · rw [if_neg hu, if_neg (by rw [l, l2]; exact hu)]; exact vals_rep _
section
variable {K : PySem.W.Frag} {ρ ρ1 : Env K} {ι γ : Type} {ds : ι → List (Slot K)} {pre : ι → Prop} {R : Ret K γ} {f : ι → γ}
/-- keywords alone -/
theorem ev_callP {tk : TA} {E : XK} {gV : List V → List V → List V} {d2 : List (Slot K)} (x : ι) (hk : EvA tk ρ ρ1 d2) (hg : ∀ (zs : List V) (r : V → Slot K → Prop), All2S r zs d2 → All2S r (gV [] zs) (ds x)) (hp : pre x) (hm : isMAt (ds x) 0 = false) (hnl : R.nl (f x) = none) :
    EvD (tCallK (spF ds pre R f) gV E tNil tk) ρ ρ1 R.e (R.val (f x)) := ev_callK x ea_nil hk (fun vs zs r h1 h2 => by cases h1; exact hg zs r h2) (fun s h => by cases h) hp hm hnl
theorem ev_callXP {ε : Type} {C : Addr} {r : ι → Option ε} {prx : ι → Prop} {xf : ε → List (Str × DV K)} {tk : TA} {E : XK} {gV : List V → List V → List V} {d2 : List (Slot K)} (x : ι) (hk : EvA tk ρ ρ1 d2) (hg : ∀ (zs : List V) (q : V → Slot K → Prop), All2S q zs d2 → All2S q (gV [] zs) (ds x))
    (hr : r x = none) (hp : pre x) (hm : isMAt (ds x) 0 = false) (hnl : R.nl (f x) = none) : EvD (tCallK (spX ds pre R f C r prx xf) gV E tNil tk) ρ ρ1 R.e (R.val (f x)) := fun c σ Hk H k Q q =>
  hk c σ Hk H k _ fun zs Hk1 H1 k1 x1 hv => ⟨x, Hk1, k1.ex, hg zs _ hv, .inl ⟨hr, hp, fun v Hk2 H2 o => by
    rw [lent_none hm] at o
    obtain ⟨k2, x2⟩ := k1.called o
    exact q v Hk2 H2 k2 (x1.trans x2) (o.rv hnl)⟩⟩
end
/-- a def of the text, called by names too, or one that raises -/
structure FnAtG (P : Program) (w : World) (K : PySem.W.Frag) (mg : Str → Option Value) (base : Heap) (cx : CXT) (x : Str) (k : Nat) (ps : List Str) (sp : Sp) (kb : FuncData → Prop) : Prop where
  ex : ∃ f fd, FnOk P w K mg base cx k f fd ps sp ∧ mg x = some (.ref f) ∧ PySem.W.keepIn K (.ref f) = true ∧ Binds K fd ps [] ∧ kb fd
theorem roomH_mk {k : Nat} {A : Around} (r : Room k A) (h : Option Value) : L2H.RoomH k (A.mark h) := ⟨r.dp, r.un⟩
theorem xb_env {K : PySem.W.Frag} {ν lam γ : Type} {ρ' : Env K} (ρ : Env K) {us : TS} {En : ν → Env K} {L : lam → Env K} {R : Ret K γ} {o : Out ν lam γ} (h : ρ' = ρ) (k : XB us ρ En L R o) : XB us ρ' En L R o := h ▸ k
theorem ixK {X : Cx} {K : PySem.W.Frag} {r : PySem.W.Frag → R2} (h : X.K = K) (i : IxR X (r X.K)) : IxR X (r K) := h ▸ i
end FL

/-! FL11: lists joined, min of two, keywords inside a try, a try of several statements. -/
namespace FL
open PySem L2 PyProof.Rows
section
variable {K : PySem.W.Frag} {ρ ρ' ρ0 ρ1 ρ2 ρ3 : Env K} {α β δ : Type} {e : Enc K α} {ta tb te : TE}
/-- xs + ys, both new -/
theorem en_cat {as bs : List α} (ha : EvN ta ρ ρ1 e as) (hb : EvN tb ρ1 ρ2 e bs) (hl : as.length + bs.length ≤ 100000) : EvN (tOp rCat ta tb) ρ ρ2 e (as ++ bs) := fun c σ Hk H k Q q =>
  ha c σ Hk H k _ fun p xs Hk1 H1 k1 x1 hk hp hx _ hH => by
    have hnm : ∀ (i : Nat) (s : Slot K), ρ1[i]? = some s → s.isM = true → σ[i]? ≠ some (some (V.ref p)) := fun i s z m => let ⟨s', e', m'⟩ := x1.sub i s z m; k.apart hH e' m'
    refine hb c σ Hk1 H1 k1 _ fun p2 ys Hk2 H2 k2 x2 hk2 hp2 hy _ hH2 => ?_
    have hpp : H2 p = some (.lst xs) := x2.fr p _ hp hnm
    refine ⟨p, p2, xs, ys, rfl, rfl, hpp, hp2, ?_, fun l hn => ?_⟩
    · rw [hx.len, hy.len]; exact Nat.le_trans hl (by decide)
    obtain ⟨k3, x3, n3⟩ := k2.newL (xs := xs ++ ys) hn
    exact q l _ Hk2 _ k3 ((x1.trans x2).trans x3) n3 upd_same ((hx.imp fun _ _ h => e.mono x2.ex h).app hy) (by rw [List.length_append]; exact hl) ((x1.trans x2).th l hn)
theorem ev_ixM2 [Inhabited α] {as : List α} {i : Int} {j : Nat} (ha : ρ[j]? = some (.l e as)) (ha1 : ρ1[j]? = some (.l e as)) (hi : EvD tb ρ ρ1 eI i) (hc : inIx as.length i) : EvD (tOp (rIxL K) (tVar j) tb) ρ ρ1 e (at_ as i) := fun c σ Hk H k Q q => by
  obtain ⟨v, hv, p, o, e1, e2, e3, xs, rfl, e4, e5⟩ := k.sl j _ ha
  subst e1
  refine ⟨.ref p, hv, hi c σ Hk H k _ fun y Hk1 H1 k1 x1 r1 => ?_⟩
  obtain ⟨v', hv', p', o', e1', e2', e3', xs', rfl, e4', e5'⟩ := k1.sl j _ ha1
  subst e1'
  rw [hv] at hv'; cases hv'
  obtain ⟨z, h1, h2⟩ := atI_all2 e4' hc (at_get hc)
  exact ⟨p, xs', i, z, rfl, r1, SqL.of e3', h1, q _ Hk1 H1 k1 x1 h2⟩
def rMin2 : List V → Hp → VK → Prop := fun xs H Q => ∃ i j, xs = [.int i, .int j] ∧ Q (.int (if j < i then j else i)) H
theorem cr_min2 {X : Cx} (hc : X.calm = true) : CallR X (.builtin "min") rMin2 := call_min2 hc
theorem ev_min2 {a b : Int} (ha : EvD ta ρ ρ1 eI a) (hb : EvD tb ρ1 ρ2 eI b) : EvD (tCB rMin2 (tCons ta (tCons tb tNil))) ρ ρ2 eI (if b < a then b else a) := fun c σ Hk H k Q q =>
  ha c σ Hk H k _ fun x Hk1 H1 k1 x1 r1 => hb c σ Hk1 H1 k1 _ fun y Hk2 H2 k2 x2 r2 => by
    have r1 : x = .int a := r1
    have r2 : y = .int b := r2
    subst r1; subst r2
    exact ⟨a, b, rfl, q _ Hk2 H2 k2 (x1.trans x2) rfl⟩
end
theorem inK {X : Cx} {K : PySem.W.Frag} (h : X.K = K) : OpR X (compareOp .In) (rIn K false) := h ▸ op_in_seq
theorem notInK {X : Cx} {K : PySem.W.Frag} (h : X.K = K) : OpR X (compareOp .NotIn) (rIn K true) := h ▸ op_notIn_seq
def tCallKS (sp : Sp) (gV : List V → List V → List V) (E : L2.St → XK) (tk : TA) : TE := fun σ H Q => tk σ H fun zs H2 => sp (gV [] zs) H2 Q (E σ)
section
variable {X : Cx} {CX : CXT} {k : Nat} {f : Addr} {fd : FuncData} {ps ks : List Str} {sp : Sp} {E : L2.St → XK} {x : Str} {p pos : Pos} {kws : List Keyword} {tk : TA} {g : List Value → List Value → List Value} {gV : List V → List V → List V}
theorem run_fnKS {pins : List (Addr × Obj)} {σ : L2.St} {H : Hp} {s : Shared} {Q : VK} {us ws : List Value} {vs zs : List V} (F : FnOk X.prog X.w X.K X.mg X.base CX k f fd ps sp) (hr : Room k X.A) (hb : KBinds X.K fd ps ks g gV) (hx : PassesAt CX X σ (E σ))
    (I : Inv X pins σ H s) (r : Vals vs us) (rz : Vals zs ws) (h : sp (gV vs zs) H Q (E σ)) : wpAny (model X.prog X.w) X.A (call (.ref f) us (ks.zip ws)) (EP X pins σ Q) X.xe s := by
  have r2 := hb.rel r rz
  have hl : (g us ws).length = ps.length := by rw [← r2.length]; exact F.len _ _ _ _ h
  refine wpAny_call (codeAny_mono (F.run X.A X.stack s H ⟨us, ks.zip ws⟩ (g us ws) (gV vs zs) Q (E σ) hr I.env0 (hb.to s us ws I.kIn hl) r2 h) fun r s' hq => ?_)
  cases r with
  | error e => exact hx pins H s e s' I hq
  | ok fl =>
    cases fl with
    | ret u => exact I.after hq
    | next => exact False.elim hq
    | brk => exact False.elim hq
    | cont => exact False.elim hq
/-- f(k = v, ..) in a try -/
theorem pe_callKS0 (F : FnOk X.prog X.w X.K X.mg X.base CX k f fd ps sp) (hr : Room k X.A) (hg : Gl X x) (hm : X.mg x = some (.ref f)) (hk : PySem.W.keepIn X.K (.ref f) = true) (hb : KBinds X.K fd ps ks g gV) (hx : ∀ σ, PassesAt CX X σ (E σ))
    (hkw : PK X kws tk) (hall : (backToKw pos (keywordEach kws X.env)).all (·.1.isSome) = true := by rfl) (hks : (backToKw pos (keywordEach kws X.env)).filterMap (·.1) = ks := by rfl)
    (hdb : (x == ("__debug__" : Str)) = false := by decide) (hpl : ((backTo pos (starEach [] X.env)).any (·.1) || (backToKw pos (keywordEach kws X.env)).any (·.1.isNone)) = false := by rfl) :
    PE X (.Call (.Name x p) [] kws pos) (tCallKS sp gV E tk) := by
  refine ⟨fun pins s σ H Q I h => ?_⟩
  refine wpAny_Call_Name_kw (ld_glob I hg hm ?_ hdb)
  have h : tk σ H fun zs H2 => sp (gV [] zs) H2 Q (E σ) := h
  refine PySem.W.callWith_KW0 (h₀ := X.base) I.ok.mod.kin hk hall (thn (hkw.run pos pins s σ H _ I h) fun ws s2 ⟨zs, H2, I2, rz, q2⟩ => ⟨I2.kIn, ?_⟩) hpl
  rw [hks]
  exact run_fnKS (us := []) F hr hb (hx σ) I2 .nil rz q2
end
section
variable {K : PySem.W.Frag} {ρ ρ1 : Env K} {ι γ ε : Type} {ds : ι → List (Slot K)} {pre : ι → Prop} {R : Ret K γ} {f : ι → γ} {C : Addr} {r : ι → Option ε} {prx : ι → Prop} {xf : ε → List (Str × DV K)} {us : TS}
theorem ev_callXS {tk : TA} {E : L2.St → XK} {gV : List V → List V → List V} {d2 : List (Slot K)} (x : ι) (hk : EvA tk ρ ρ1 d2) (hg : ∀ (zs : List V) (q : V → Slot K → Prop), All2S q zs d2 → All2S q (gV [] zs) (ds x))
    (hr : r x = none) (hp : pre x) (hm : isMAt (ds x) 0 = false) (hnl : R.nl (f x) = none) : EvD (tCallKS (spX ds pre R f C r prx xf) gV E tk) ρ ρ1 R.e (R.val (f x)) := fun c σ Hk H k Q q =>
  hk c σ Hk H k _ fun zs Hk1 H1 k1 x1 hv => ⟨x, Hk1, k1.ex, hg zs _ hv, .inl ⟨hr, hp, fun v Hk2 H2 o => by
    rw [lent_none hm] at o
    obtain ⟨k2, x2⟩ := k1.called o
    exact q v Hk2 H2 k2 (x1.trans x2) (o.rv hnl)⟩⟩
theorem xs_eqs {ρ' ρ'' : Env K} {ρ0 : Env K} {ts : TS} (ρ : Env K) (h0 : ρ0 = ρ) (h : XS ts ρ ρ') (h1 : ρ' = ρ'') : XS ts ρ0 ρ'' := h0 ▸ h1 ▸ h
/-- try: y = f(..); more except C as e: suite -/
theorem xb_tryX2 {ν lam δ : Type} {En : ν → Env K} {L : lam → Env K} {R' : Ret K δ} {tA : TA} {i j : Nat} {t2 : WX → TS} {ρ2 : γ → Env K} {ts : Addr → Value → Option Addr → TS} {oh : ε → Out Empty Empty δ} {ok : γ → Out ν lam δ} (x : ι) (ha : EvA tA ρ ρ1 (ds x)) (hm : isMAt (ds x) 0 = false)
    (hp : r x = none → pre x) (hpx : ∀ e, r x = some e → prx x) (hnl : R.nl (f x) = none) (hj : okSet ρ1 j = true) (hi : isMAt ρ1 i = false) (hex : PySem.W.exmOne K (.ref C) (.ref C) = some true)
    (h2 : r x = none → ∀ y, y = f x → ∀ W, XS (t2 W) (ρ1.set j (.d R.e (R.val y))) (ρ2 y))
    (hn : r x = none → ∀ y, y = f x → XB us (ρ2 y) En L R' (ok y))
    (hs : ∀ e, r x = some e → ∀ (a : Addr) (d : Option Addr), XB (ts a (.ref C) d) (ρ1.set i (.d (eX a d (xf e)) ())) (fun z : Empty => nomatch z) (fun z : Empty => nomatch z) R' (oh e)) :
    XB (tSeq (fun D σ H => (fun Wx : WX => tSeq (tAsg (tCallSD (spX ds pre R f C r prx xf) [] (L2.WE Wx) tA) (gName j)) (t2 Wx)) (wAs K (.ref C) i ts (fun _ _ _ _ => False) D) D σ H) us) ρ En L R' (tryO (r x) (lt (f x) ok) oh) := fun c σ Hk H k D q => by
  refine ha c σ Hk H k _ fun vs Hk1 H1 k1 x1 hv => ⟨x, Hk1, k1.ex, by rw [List.append_nil]; exact hv, ?_⟩
  cases hr : r x with
  | none =>
    rw [hr] at q
    have q : (ok (f x)).fin c Hk En L R' D := q
    refine .inl ⟨rfl, hp hr, fun v Hk2 H2 o => ?_⟩
    rw [lent_none hm] at o
    obtain ⟨k2, x2⟩ := k1.called o
    exact h2 hr _ rfl _ c _ Hk2 H2 (k2.setX hj ⟨v, rfl, o.rv hnl⟩ fun h => nomatch h) _ fun σ3 Hk3 H3 k3 x3 => hn hr _ rfl c _ Hk3 H3 k3 D (Out.fin_mono ((x1.ex.trans x2.ex).trans x3) q)
  | some e =>
    rw [hr] at q
    refine .inr ⟨e, rfl, hpx e hr, fun cls d Hk2 H2 er => ?_⟩
    rw [lent_none hm] at er
    have hc := er.cl
    subst hc
    refine ⟨true, hex, fun _ a _ => ?_, fun z => nomatch z⟩
    have k2 := k1.caught er
    obtain ⟨dd, l, e1, e2, e3⟩ := er.fs
    have k3 := k2.setD (e := eX a d (xf e)) (a := ()) (v := .ref a) hi ⟨rfl, dd, l, e1, e2, e3⟩
    refine hs e hr a d c _ Hk2 H2 k3 _ ?_
    cases ho : oh e with
    | nx t => exact nomatch t
    | ct t => exact nomatch t
    | bk t => exact nomatch t
    | rt r =>
      have q : ((oh e).lift : Out ν lam δ).fin c Hk En L R' D := q
      rw [ho] at q
      exact q
end
end FL

/-! FL12: raising by the first or by a later call; a try over an if; == of lists of tuples. -/
namespace FL
open PySem PySem.Spec L2 PyProof.Rows
def orO {ε : Type} (a b : Option ε) : Option ε := match a with
  | some e => some e
  | none => b
section
variable {K : PySem.W.Frag} {ρ ρ' ρ0 ρ1 ρ2 ρ3 : Env K} {α β δ : Type} {e : Enc K α} {ta tb te : TE}
theorem xr_alt {ε : Type} {o1 o2 : Option ε} {x : ε} {P : Prop} (he : orO o1 o2 = some x) (h1 : o1 = some x → P) (h2 : o1 = none → o2 = some x → P) : P := by
  cases o1 with
  | some y => exact h1 he
  | none => exact h2 rfl he
theorem orO_none {ε : Type} {o1 o2 : Option ε} (h : orO o1 o2 = none) : o1 = none ∧ o2 = none := by
  cases o1 with
  | some y => cases h
  | none => exact ⟨rfl, h⟩
theorem dpAll_tups {H : Hp} : ∀ {xs : List V} {as : List (List Int)}, All2 ((eT (eI (K := K))).rep H) xs as → DpAll K H xs (as.map fun a => PyData.tuple (a.map PyData.int))
  | [], [], _ => .nil
  | x :: xs, a :: as, .cons ⟨p, ys, e1, e2, e3, _⟩ t => by subst e1; exact .cons (.tup e2 (dpAll_ints e3)) (dpAll_tups t)
theorem eqvAll_tups : ∀ {a b : List (List Int)}, PyData.eqvAll (a.map fun a => PyData.tuple (a.map PyData.int)) (b.map fun a => PyData.tuple (a.map PyData.int)) = decide (a = b)
  | [], [] => by simp [PyData.eqvAll]
  | [], _ :: _ => by simp [PyData.eqvAll]
  | _ :: _, [] => by simp [PyData.eqvAll]
  | x :: xs, y :: ys => by
    simp only [List.map_cons, PyData.eqvAll, PyData.eqv, eqvAll_ints, eqvAll_tups (a := xs) (b := ys)]
    by_cases h : x = y <;> simp [h]
theorem canLay_tups : ∀ as : List (List Int), PyData.canLayAll0 (as.map fun a => PyData.tuple (a.map PyData.int)) = true
  | [] => by simp [PyData.canLayAll0]
  | a :: as => by simp only [List.map_cons, PyData.canLayAll0, PyData.canLay0, canLay_ints, canLay_tups as, Bool.and_self]
theorem shaped_tups (as : List (List Int)) : SeqAt.shaped (.list (as.map fun a => PyData.tuple (a.map PyData.int))) = true := by
  have dd : ∀ l : List Int, PyData.depthAll (l.map PyData.int) ≤ 1 := by
    intro l
    induction l with
    | nil => simp [PyData.depthAll]
    | cons i l ih => simp only [List.map_cons, PyData.depthAll, PyData.depth]; omega
  have d2 : ∀ l : List (List Int), PyData.depthAll (l.map fun a => PyData.tuple (a.map PyData.int)) ≤ 2 := by
    intro l
    induction l with
    | nil => simp [PyData.depthAll]
    | cons i l ih =>
      have := dd i
      simp only [List.map_cons, PyData.depthAll, PyData.depth]; omega
  have := d2 as
  unfold SeqAt.shaped
  rw [Bool.and_eq_true]
  refine ⟨by simp only [PyData.canLay0, canLay_tups], decide_eq_true ?_⟩
  simp only [PyData.depth]; omega
theorem ev_eqLT {as bs : List (List Int)} (ha : EvD ta ρ ρ1 (eL (eT eI)) as) (hb : EvD tb ρ1 ρ2 (eL (eT eI)) bs) : EvD (tOp (rEqD K) ta tb) ρ ρ2 eB (decide (as = bs)) :=
  ev_bin ha hb fun c σ Hk H x y k ⟨p, xs, e1, e2, e3, _⟩ ⟨q', ys, f1, f2, f3, _⟩ Q q => by
    subst e1; subst f1
    refine ⟨_, _, .lst (ex_l k.ex e2) (dpAll_tups (e3.imp fun _ _ h => (eT eI).mono k.ex h)), .lst (ex_l k.ex f2) (dpAll_tups (f3.imp fun _ _ h => (eT eI).mono k.ex h)), shaped_tups as, shaped_tups bs, q _ Hk H k Nxt.refl ?_⟩
    show V.bl _ = V.bl _
    rw [PyData.eqv, eqvAll_tups]
theorem ev_neLT {as bs : List (List Int)} (ha : EvD ta ρ ρ1 (eL (eT eI)) as) (hb : EvD tb ρ1 ρ2 (eL (eT eI)) bs) : EvD (tOp (rNeD K) ta tb) ρ ρ2 eB (!decide (as = bs)) :=
  ev_bin ha hb fun c σ Hk H x y k ⟨p, xs, e1, e2, e3, _⟩ ⟨q', ys, f1, f2, f3, _⟩ Q q => by
    subst e1; subst f1
    refine ⟨_, _, .lst (ex_l k.ex e2) (dpAll_tups (e3.imp fun _ _ h => (eT eI).mono k.ex h)), .lst (ex_l k.ex f2) (dpAll_tups (f3.imp fun _ _ h => (eT eI).mono k.ex h)), shaped_tups as, shaped_tups bs, q _ Hk H k Nxt.refl ?_⟩
    show V.bl _ = V.bl _
    rw [PyData.eqv, eqvAll_tups]
end
section
variable {K : PySem.W.Frag} {ρ ρ1 : Env K} {ι γ ε : Type} {ds : ι → List (Slot K)} {pre : ι → Prop} {R : Ret K γ} {f : ι → γ} {C : Addr} {r : ι → Option ε} {prx : ι → Prop} {xf : ε → List (Str × DV K)} {us : TS}
theorem spX_run {x : ι} {c : Ent} {σ : L2.St} {Hk1 H1 : Hp} {vs : List V} {Q : VK} {E : XK} (k1 : Ok c Hk1 H1 σ ρ1) (hv : All2S (fun v s => s.ok Hk1 H1 (some v)) vs (ds x)) (hm : isMAt (ds x) 0 = false) (hp : r x = none → pre x) (hpx : ∀ e, r x = some e → prx x) (hnl : R.nl (f x) = none)
    (hQ : r x = none → ∀ v Hk2 H2, Ok c Hk2 H2 σ ρ1 → Ex Hk1 Hk2 → R.e.rep Hk2 v (R.val (f x)) → Q v H2) (hE : ∀ e, r x = some e → ∀ cls d Hk2 H2, ErrR ⟨H1, Hk1, none⟩ C (xf e) cls d Hk2 H2 → E cls d H2) : spX ds pre R f C r prx xf vs H1 Q E := by
  refine ⟨x, Hk1, k1.ex, hv, ?_⟩
  cases hr : r x with
  | none =>
    refine .inl ⟨rfl, hp hr, fun v Hk2 H2 o => ?_⟩
    rw [lent_none hm] at o
    obtain ⟨k2, x2⟩ := k1.called o
    exact hQ hr v Hk2 H2 k2 x2.ex (o.rv hnl)
  | some e =>
    refine .inr ⟨e, rfl, hpx e hr, fun cls d Hk2 H2 er => ?_⟩
    rw [lent_none hm] at er
    exact hE e hr cls d Hk2 H2 er
/-- try: if t: y = f(k = v, ..) else: y = f(..); except C as e: suite -/
theorem xb_tryXI {ν lam δ : Type} {En : ν → Env K} {L : lam → Env K} {R' : Ret K δ} {b : Bool} {tt : TT} {tA tk : TA} {gV : List V → List V → List V} {d2 : List (Slot K)} {i j : Nat} {ts : Addr → Value → Option Addr → TS} {oh : ε → Out Empty Empty δ} {ok : γ → Out ν lam δ} (x : ι) (ht : EvT tt ρ ρ b)
    (hk : EvA tk ρ ρ1 d2) (hg : ∀ (zs : List V) (q : V → Slot K → Prop), All2S q zs d2 → All2S q (gV [] zs) (ds x)) (ha : EvA tA ρ ρ1 (ds x)) (hm : isMAt (ds x) 0 = false)
    (hp : r x = none → pre x) (hpx : ∀ e, r x = some e → prx x) (hnl : R.nl (f x) = none) (hj : okSet ρ1 j = true) (hi : isMAt ρ1 i = false) (hex : PySem.W.exmOne K (.ref C) (.ref C) = some true)
    (hn : r x = none → ∀ y, y = f x → XB us (ρ1.set j (.d R.e (R.val y))) En L R' (ok y))
    (hs : ∀ e, r x = some e → ∀ (a : Addr) (d : Option Addr), XB (ts a (.ref C) d) (ρ1.set i (.d (eX a d (xf e)) ())) (fun z : Empty => nomatch z) (fun z : Empty => nomatch z) R' (oh e)) :
    XB (tSeq (fun D σ H => (fun Wx : WX => tSeq (tIfS tt (tSeq (tAsg (tCallKS (spX ds pre R f C r prx xf) gV (L2.WE Wx) tk) (gName j)) tNext) (tSeq (tAsg (tCallSD (spX ds pre R f C r prx xf) [] (L2.WE Wx) tA) (gName j)) tNext)) tNext) (wAs K (.ref C) i ts (fun _ _ _ _ => False) D) D σ H) us) ρ En L R' (tryO (r x) (lt (f x) ok) oh) := fun c σ Hk H k D q => by
  refine ht c σ Hk H k _ fun Hk0 H0 k0 x0 => ?_
  have hQ : ∀ (Hk1 : Hp), Ex Hk Hk1 → r x = none → ∀ v Hk2 H2, Ok c Hk2 H2 σ ρ1 → Ex Hk1 Hk2 → R.e.rep Hk2 v (R.val (f x)) → us D (σ.set j (some v)) H2 := fun Hk1 e1 hr v Hk2 H2 k2 e2 rv => by
    rw [hr] at q
    have q : (ok (f x)).fin c Hk En L R' D := q
    exact hn hr _ rfl c _ Hk2 H2 (k2.setX hj ⟨v, rfl, rv⟩ fun h => nomatch h) D (Out.fin_mono (e1.trans e2) q)
  have hE : ∀ (Hk1 H1 : Hp), Ok c Hk1 H1 σ ρ1 → Ex Hk Hk1 → ∀ e, r x = some e → ∀ cls d Hk2 H2, ErrR ⟨H1, Hk1, none⟩ C (xf e) cls d Hk2 H2 → L2.WE (wAs K (.ref C) i ts (fun _ _ _ _ => False) ⟨us D, D.rt, D.bk, D.ct⟩) σ cls d H2 := fun Hk1 H1 k1 e1 e hr cls d Hk2 H2 er => by
    rw [hr] at q
    have hc := er.cl
    subst hc
    refine ⟨true, hex, fun _ a _ => ?_, fun z => nomatch z⟩
    have k2 := k1.caught er
    obtain ⟨dd, l, e1, e2, e3⟩ := er.fs
    have k3 := k2.setD (e := eX a d (xf e)) (a := ()) (v := .ref a) hi ⟨rfl, dd, l, e1, e2, e3⟩
    refine hs e hr a d c _ Hk2 H2 k3 _ ?_
    cases ho : oh e with
    | nx t => exact nomatch t
    | ct t => exact nomatch t
    | bk t => exact nomatch t
    | rt r =>
      have q : ((oh e).lift : Out ν lam δ).fin c Hk En L R' D := q
      rw [ho] at q
      exact q
  cases b with
  | true => exact hk c σ Hk0 H0 k0 _ fun vs Hk1 H1 k1 x1 hv => spX_run (ρ1 := ρ1) k1 (hg _ _ hv) hm hp hpx hnl (hQ Hk1 (x0.ex.trans x1.ex)) (hE Hk1 H1 k1 (x0.ex.trans x1.ex))
  | false => exact ha c σ Hk0 H0 k0 _ fun vs Hk1 H1 k1 x1 hv => spX_run (ρ1 := ρ1) k1 (by rw [List.append_nil]; exact hv) hm hp hpx hnl (hQ Hk1 (x0.ex.trans x1.ex)) (hE Hk1 H1 k1 (x0.ex.trans x1.ex))
end
end FL

/-! FL13: walks over tuples and lists, comprehensions and sums where an exception is handled. -/
namespace FLH
open PySem PySem.Spec PyProof.Rows L2 HotX L2H
section
variable {prog : Program} {w : World} {A : Around} {E : Value → Shared → Prop} {s : Shared}
theorem next_tuple_end_hot {it t x1 : Addr} {i : Nat} {items} {Q : Option Value → Shared → Prop} (hot : HotAt A x1 s.heap) (hx1 : x1 ≠ it)
    (hit : s.heap.IsTupleIter it t i) (ht : s.heap.IsTuple t items) (hx : items[i]? = none)
    (hQ : ∀ h', (∀ b o, b ≠ it → s.heap.get? b = some o → h'.get? b = some o) → Q none { s with heap := h' }) : wpAny (model prog w) A (pyNext (.ref it)) Q E s := by
  obtain ⟨o, ho, hc, hd⟩ := id hit
  obtain ⟨ol, hol, _, nl, hdl⟩ := ht
  obtain ⟨hh, o1, vs1, h1, d1, c1⟩ := hot
  unfold pyNext
  refine wpAny_bind (wpAny_attempt (wpAny_callSpecial?_slot (name := Str.ofString "__next__") hit.typeIs F.slot_tuple_iterator_next
    (wpAny_call_entry F.slot_tuple_iterator_next hit.typeIs F.entry_tuple_iterator_next ?_ (F.args_tuple_iterator_next_1 _))))
  show wpAny _ _ (field (.ref it) 0 >>= _) _ _ s
  refine wpAny_bind (wpAny_field ho hd (x := .ref t) rfl ?_)
  show wpAny _ _ (if (Value.ref t == Value.none) = true then _ else _) _ _ s
  rw [if_neg (show ¬ ((Value.ref t == Value.none) = true) from Bool.false_ne_true)]
  show wpAny _ _ (field (.ref it) 1 >>= _) _ _ s
  refine wpAny_bind (wpAny_field ho hd (x := .int i 0) rfl ?_)
  show wpAny _ _ (seqItems? (.ref t) >>= _) _ _ s
  refine wpAny_bind (wpAny_seqItems hol hdl ?_)
  simp only [Int.toNat_natCast, hx]
  refine wpAny_bind (wpAny_rule (wpAny_bind (wpAny_setField ho hd (by simp) ?_)))
  show wpAny _ _ (newExc (.type "StopIteration") [] >>= _) _ _ _
  refine wpAny_bind ?_
  simp only [newExc, newTuple]
  refine wpAny_bind (wpAny_newObj_type ?_ (by size_fits))
  refine wpAny_bind (m := firstArgMember _ _) (wpAny_of_eq (a := Value.none) (by first | rfl | (simp only [firstArgMember]; rfl)) ?_)
  refine wpAny_newObj_type ?_ (by size_fits)
  have h1' : (s.heap.update it (Obj.mapFields (·.setIfInBounds 0 .none))).get? x1 = some o1 := by rw [Heap.get?_update_other _ _ (Ne.symm hx1)]; exact h1
  refine raiseNew_hot ⟨hh, o1, vs1, Heap.get?_push_of_some _ (Heap.get?_push_of_some _ h1'), d1, c1⟩ (Nat.ne_of_lt (Heap.lt_size (Heap.get?_push_of_some _ h1'))) (Heap.get?_push_size _ rfl) rfl (by first | (simp; done) | (simp; omega) | (simp only [Array.size_append]; simp; omega)) ?_
  refine wpAny_bind (wpAny_isInstance (T := "StopIteration") (b := true) ⟨_, Heap.get?_update_self _ (Heap.get?_push_size _ rfl) rfl, rfl⟩ isSubtype_stop ?_)
  refine wpAny_pure (hQ _ fun b o hb e => ?_)
  have e' : (s.heap.update it (Obj.mapFields (·.setIfInBounds 0 .none))).get? b = some o := by rw [Heap.get?_update_other _ _ (Ne.symm hb)]; exact e
  rw [Heap.get?_update_other _ _ (Nat.ne_of_gt (Heap.lt_size (Heap.get?_push_of_some _ e')))]
  exact Heap.get?_push_of_some _ (Heap.get?_push_of_some _ e')
theorem next_list_end_hot {it t x1 : Addr} {i : Nat} {items} {Q : Option Value → Shared → Prop} (hot : HotAt A x1 s.heap) (hx1 : x1 ≠ it)
    (hit : s.heap.IsListIter it t i) (ht : s.heap.IsList t items) (hx : items[i]? = none)
    (hQ : ∀ h', (∀ b o, b ≠ it → s.heap.get? b = some o → h'.get? b = some o) → Q none { s with heap := h' }) : wpAny (model prog w) A (pyNext (.ref it)) Q E s := by
  obtain ⟨o, ho, hc, hd⟩ := id hit
  obtain ⟨ol, hol, _, nl, hdl⟩ := ht
  obtain ⟨hh, o1, vs1, h1, d1, c1⟩ := hot
  unfold pyNext
  refine wpAny_bind (wpAny_attempt (wpAny_callSpecial?_slot (name := Str.ofString "__next__") hit.typeIs slot_listiter_next
    (wpAny_call_entry slot_listiter_next hit.typeIs entry_listiter_next ?_ (args_listiter_next _))))
  show wpAny _ _ (field (.ref it) 0 >>= _) _ _ s
  refine wpAny_bind (wpAny_field ho hd (x := .ref t) rfl ?_)
  show wpAny _ _ (if (Value.ref t == Value.none) = true then _ else _) _ _ s
  rw [if_neg (show ¬ ((Value.ref t == Value.none) = true) from Bool.false_ne_true)]
  show wpAny _ _ (field (.ref it) 1 >>= _) _ _ s
  refine wpAny_bind (wpAny_field ho hd (x := .int i 0) rfl ?_)
  show wpAny _ _ (seqItems? (.ref t) >>= _) _ _ s
  refine wpAny_bind (wpAny_seqItems hol hdl ?_)
  simp only [Int.toNat_natCast, hx]
  refine wpAny_bind (wpAny_rule (wpAny_bind (wpAny_setField ho hd (by simp) ?_)))
  show wpAny _ _ (newExc (.type "StopIteration") [] >>= _) _ _ _
  refine wpAny_bind ?_
  simp only [newExc, newTuple]
  refine wpAny_bind (wpAny_newObj_type ?_ (by size_fits))
  refine wpAny_bind (m := firstArgMember _ _) (wpAny_of_eq (a := Value.none) (by first | rfl | (simp only [firstArgMember]; rfl)) ?_)
  refine wpAny_newObj_type ?_ (by size_fits)
  have h1' : (s.heap.update it (Obj.mapFields (·.setIfInBounds 0 .none))).get? x1 = some o1 := by rw [Heap.get?_update_other _ _ (Ne.symm hx1)]; exact h1
  refine raiseNew_hot ⟨hh, o1, vs1, Heap.get?_push_of_some _ (Heap.get?_push_of_some _ h1'), d1, c1⟩ (Nat.ne_of_lt (Heap.lt_size (Heap.get?_push_of_some _ h1'))) (Heap.get?_push_size _ rfl) rfl (by first | (simp; done) | (simp; omega) | (simp only [Array.size_append]; simp; omega)) ?_
  refine wpAny_bind (wpAny_isInstance (T := "StopIteration") (b := true) ⟨_, Heap.get?_update_self _ (Heap.get?_push_size _ rfl) rfl, rfl⟩ isSubtype_stop ?_)
  refine wpAny_pure (hQ _ fun b o hb e => ?_)
  have e' : (s.heap.update it (Obj.mapFields (·.setIfInBounds 0 .none))).get? b = some o := by rw [Heap.get?_update_other _ _ (Ne.symm hb)]; exact e
  rw [Heap.get?_update_other _ _ (Nat.ne_of_gt (Heap.lt_size (Heap.get?_push_of_some _ e')))]
  exact Heap.get?_push_of_some _ (Heap.get?_push_of_some _ e')
end
/-- the handled exception's object, among the pins -/
def HotP (A : Around) (ps : List (Addr × Obj)) : Prop := ∃ p : Addr × Obj, Hot1 A p ∧ p ∈ ps
theorem hotC_pns {X : Cx} {pins : List (Addr × Obj)} (c : HotC X) : HotP X.A (X.pn ++ pins) :=
  let ⟨p, h, m⟩ := c
  ⟨p, h, List.mem_append_left _ m⟩
structure TurnP (P : Program) (w : World) (K : PySem.W.Frag) (tg : Expr) (J : It) (fp : List Addr) (it : Addr) (tn : Nat → Heap → Prop) : Prop where
  mem : it ∈ fp
  obj : ∀ i h, tn i h → ∀ b ∈ fp, ∃ o, h.get? b = some o ∧ ∀ v, o.data ≠ .cell v
  keep : ∀ i h h', tn i h → (∀ b ∈ fp, ∀ o, h.get? b = some o → h'.get? b = some o) → tn i h'
  item : ∀ (X : Cx), X.prog = P → X.w = w → X.K = K → ∀ (i : Nat) (pins : List (Addr × Obj)) (s : Shared) (σ : L2.St) (H : Hp) (E : Value → Shared → Prop), HotP X.A (X.pn ++ pins) → Inv X pins σ H s → (∀ b ∈ fp, FpOk X pins H b) → tn i s.heap → J.go i H →
    wpAny (model P w) X.A (pyNext (.ref it)) (fun r s1 => ∃ u, r = some u ∧
      wpAny (model P w) X.A (letOwnedTupleGo tg (.ref it) u) (fun _ s2 => ∃ x H', Inv X pins σ H' s2 ∧ RelV x u ∧ J.yld i H x H' ∧ tn (i + 1) s2.heap ∧ ∀ b ∈ fp, H' b = none) E s1) E s
  done : ∀ (X : Cx), X.prog = P → X.w = w → X.K = K → ∀ (i : Nat) (pins : List (Addr × Obj)) (s : Shared) (σ : L2.St) (H : Hp) (E : Value → Shared → Prop), HotP X.A (X.pn ++ pins) → Inv X pins σ H s → (∀ b ∈ fp, FpOk X pins H b) → tn i s.heap → J.stop i H →
    wpAny (model P w) X.A (pyNext (.ref it)) (fun r s1 => r = none ∧ Inv X pins σ H s1) E s
  self : ∀ (A : Around) (i : Nat) (s : Shared) (Q : Value → Shared → Prop) (E : Value → Shared → Prop), tn i s.heap → Q (.ref it) s → wpAny (model P w) A (pyIter (.ref it)) Q E s
theorem TurnP.h {P : Program} {w : World} {K : PySem.W.Frag} {tg : Expr} {J : It} {fp : List Addr} {it : Addr} {tn : Nat → Heap → Prop} (T : TurnP P w K tg J fp it tn) : TurnH P w K tg J fp it tn where
  mem := T.mem
  obj := T.obj
  keep := T.keep
  item := fun X a b c hc i pins s σ H E I f t g => T.item X a b c i pins s σ H E (hotC_pns hc) I f t g
  done := fun X a b c hc i pins s σ H E I f t g => T.done X a b c i pins s σ H E (hotC_pns hc) I f t g
  self := T.self
theorem turn_tupleP {P : Program} {w : World} {K : PySem.W.Frag} {tg : Expr} (a it : Addr) : TurnP P w K tg (Itt K a) [it] it (fun i h => h.IsTupleIter it a i) where
  mem := (turn_tuple (P := P) (w := w) (K := K) (tg := tg) a it).mem
  obj := (turn_tuple (P := P) (w := w) (K := K) (tg := tg) a it).obj
  keep := (turn_tuple (P := P) (w := w) (K := K) (tg := tg) a it).keep
  item := by
    intro X hP hw hK i pins s σ H E _ I hf st hg
    subst hP hw hK
    obtain ⟨xs, x, hq, hx⟩ := hg
    obtain ⟨its, rv, p, hz⟩ := I.tuple hq
    obtain ⟨u, hu, ru⟩ := rv.get hx
    obtain ⟨f0, f1, f2, f3, f4, f5⟩ := hf it (by simp)
    refine wpAny_pyNext_tuple_item st (show s.heap.IsTuple a its.toArray from p) (x := u) (by simpa using hu) fun h' st' sb => ?_
    have I1 : Inv X pins σ H { s with heap := h' } := I.turned (t' := s.toks) (fun b o hb e => (sb.2 b hb).trans e) f0 f1 f3 f4 f5
    obtain ⟨o, e, c, d⟩ := id st'
    exact ⟨u, rfl, go_of (s := { s with heap := h' }) e c d (by decide) ⟨x, H, I1, ru, ⟨rfl, fun ys hy => by rw [I.tuple_inj hy hq]; exact hx⟩, st', fun b hb => (hf b hb).1⟩⟩
  done := by
    intro X hP hw hK i pins s σ H E hc I hf st hg
    subst hP hw hK
    obtain ⟨xs, hq, hx⟩ := hg
    obtain ⟨its, rv, p, hz⟩ := I.tuple hq
    obtain ⟨f0, f1, f2, f3, f4, f5⟩ := hf it (by simp)
    have hl := rv.length
    obtain ⟨q, ⟨hh, v1, e1, c1⟩, hm⟩ := hc
    exact next_tuple_end_hot ⟨hh, q.2, v1, (I.pin q hm).1, e1, c1⟩ (f5 q hm) st (show s.heap.IsTuple a its.toArray from p) (by simp; omega) fun h' eb => ⟨rfl, I.turned (t' := s.toks) (fun b o hb e => eb b o hb e) f0 f1 f3 f4 f5⟩
  self := (turn_tuple (P := P) (w := w) (K := K) (tg := tg) a it).self
def PIEP (X : Cx) (pins : List (Addr × Obj)) (σ : L2.St) (tg : Expr) (R : It → Hp → Prop) (itv : Value) (s2 : Shared) : Prop :=
  ∃ (it : Addr) (fp : List Addr) (tn : Nat → Heap → Prop) (J : It) (H' : Hp), itv = .ref it ∧ Inv X pins σ H' s2 ∧ TurnP X.prog X.w X.K tg J fp it tn ∧ tn 0 s2.heap ∧ (∀ b ∈ fp, FpOk X pins H' b) ∧ R J H'
structure PIP (X : Cx) (tg iter : Expr) (wi : TI) : Prop where
  run : ∀ (pins : List (Addr × Obj)) (s : Shared) (σ : L2.St) (H : Hp) (R : It → Hp → Prop), Inv X pins σ H s → wi σ H R →
    wpAny (model X.prog X.w) X.A (eval iter X.env) (fun v s1 => wpAny (model X.prog X.w) X.A (pyIter v) (PIEP X pins σ tg R) X.xe s1) X.xe s
theorem PIP.h {X : Cx} {tg iter : Expr} {wi : TI} (h : PIP X tg iter wi) : PIH X tg iter wi :=
  ⟨fun pins s σ H R I q => thn (h.run pins s σ H R I q) fun v s1 z => thn z fun u s2 ⟨it, fp, tn, J, H', a, b, c, d⟩ => ⟨it, fp, tn, J, H', a, b, c.h, d⟩⟩
theorem pi_tupP {X : Cx} {tg l : Expr} {tl : TE} (hl : PE X l tl) : PIP X tg l (iTup X.K tl) := by
  refine ⟨fun pins s σ H R I h => ?_⟩
  refine thn (hl.run pins s σ H _ I h) fun v s1 ⟨x, H1, I1, r1, q1⟩ => ?_
  obtain ⟨a, e, ⟨xs, hq⟩, q⟩ := q1
  subst e
  cases r1
  obtain ⟨its, rv, p, hz⟩ := I1.tuple hq
  refine wpAny_pyIter_tuple (show s1.heap.IsTuple a its.toArray from p) ?_
  refine ⟨s1.heap.objs.size, [s1.heap.objs.size], _, _, H1, rfl, I1.kept (t' := s1.toks) fun b o e => Heap.get?_push_of_some _ e, turn_tupleP a _, ⟨_, Heap.get?_push_size _ rfl, rfl, rfl⟩, fun b hb => ?_, q⟩
  have e : b = s1.heap.objs.size := by simpa using hb
  subst e
  exact I1.fpOk (Nat.le_refl _) (I1.hok.fresh (Nat.le_refl _))
/-! sum -/
theorem walks_list_hot {prog : Program} {w : World} {A : Around} {x1 : Addr} {o1 : Obj} {vs1 : Array Value} (hh : A.handled = some (.ref x1)) (d1 : o1.data = .fields vs1) (c1 : vs1[2]? = some .none) (I ax : Addr) (hne : ax ≠ I) (hx : x1 ≠ I) (items : Array Value) :
    Walks prog w A I [I, ax, x1] [I] items.size (fun i v => items[i]? = some v) (fun i h => h.IsListIter I ax i ∧ h.IsList ax items ∧ h.get? x1 = some o1) where
  sub := fun b hb => by simp at hb; simp [hb]
  frame := fun _ _ _ st hk => ⟨st.1.at fun o e => hk I (by simp) o e, st.2.1.at fun o e => hk ax (by simp) o e, hk x1 (by simp) o1 st.2.2⟩
  item := fun i s Q E hi st hQ => by
    refine wpAny_pyNext_list_item st.1 st.2.1 (x := items[i]) (by simp [hi]) fun h' hit' hs' => ?_
    exact hQ _ h' s.toks (by simp [hi]) ⟨hit', st.2.1.extBut hs'.extBut hne, hs'.extBut x1 o1 hx st.2.2⟩ fun b o hb e => hs'.extBut b o (fun h => hb (by simp [h])) e
  done := fun s Q E st hQ => next_list_end_hot ⟨hh, o1, vs1, st.2.2, d1, c1⟩ hx st.1 st.2.1 (by simp) fun h' he' => hQ h' s.toks fun b o hb e => he' b o (fun h => hb (by simp [h])) e
  self := fun _ _ _ _ st hQ => wpAny_pyIter_listiter st.1 hQ
theorem cr_sumH {X : Cx} (hc : HotC X) : CallR X (.builtin "sum") (rSum X.K) := by
  intro pins s σ H vs us Q I r h
  obtain ⟨a, ns, rfl, hs, q⟩ := h
  obtain ⟨its, rv, hl, _⟩ := I.list hs
  rw [Vals.ref1 r]
  obtain ⟨p, ⟨hh, v1, e1, c1⟩, hp⟩ := hc
  have hx := (I.pin p (List.mem_append_left _ hp)).1
  obtain ⟨xs, e⟩ := rv.ints.allInts.items
  have hn : numsOf (intItems xs).toList = ns := by rw [← e]; exact rv.ints.numsOf
  rw [nums_intItems] at hn
  have hl' : s.heap.IsList a (intItems xs) := by rw [← e]; exact hl.isList
  refine call_sum_walkG ?_
  refine wpAny_pyIter_list hl' ?_
  have hlt : a < s.heap.objs.size := let ⟨_, z, _⟩ := hl'; Heap.lt_size z
  have hx1 := Heap.lt_size hx
  refine ⟨s.heap.objs.size, _, _, _, _, _, numAt xs, rfl, walks_list_hot (A := X.A.in1) (x1 := p.1) (o1 := p.2) hh e1 c1 _ a (Nat.ne_of_lt hlt) (Nat.ne_of_lt hx1) (intItems xs), ⟨⟨_, Heap.get?_push_size _ rfl, rfl, rfl⟩, hl'.at fun o z => Heap.get?_push_of_some _ z, Heap.get?_push_of_some _ hx⟩, fun b hb => ?_, fun _ _ => intItems_at, fun h' tk t' hk => ?_⟩
  · simp only [List.mem_cons, List.not_mem_nil, or_false] at hb
    show b < (s.heap.push _).objs.size
    rw [Heap.size_push]
    rcases hb with rfl | rfl | rfl
    · exact Nat.lt_succ_self _
    · exact Nat.lt_succ_of_lt hlt
    · exact Nat.lt_succ_of_lt hx1
  · refine ⟨.int _, H, I.kept (h' := h') (t' := tk) fun b o z => hk b o (fun z2 => ?_) (Heap.get?_push_of_some _ z), ⟨_, rfl⟩, ?_⟩
    · simp only [List.mem_cons, List.not_mem_nil, or_false] at z2
      subst z2
      exact absurd (Heap.lt_size z) (Nat.lt_irrefl _)
    · have : preSum (numAt xs) (intItems xs).size = ns.sum := by
        rw [show (intItems xs).size = xs.size by simp [intItems], preSum_eq, List.take_of_length_le (by simp), hn]
      rw [this]; exact q
/-! a list comprehension -/
section
variable {X : Cx}
theorem thF {α : Type} {t : Sem α} {Q Q' : α → Shared → Prop} {M : Model} {A : Around} {E : Value → Shared → Prop} {s : Shared} (h : wpAny M A t Q (fun _ _ => False) s) (hQ : ∀ a s, Q a s → Q' a s) : wpAny M A t Q' E s := thnF h hQ
/-- the handled exception's object goes with the block, as a pin -/
theorem block_hot {pins : List (Addr × Obj)} {σ : L2.St} {H : Hp} {s : Shared} {scope : Scope} {own : List (Str × Nat)} {fp : List Addr} {p : Addr × Obj} (I : Inv X pins σ H s) (ok : BlkOk X.N X.env.scope scope own) (hN : X.N.Nodup) (hp : p ∈ X.pn) (hfp : ∀ b ∈ fp, FpOk X pins H b ∧ b < s.heap.objs.size) :
    Inv (X.blk s H scope (compEnvC scope (cellsFrom (s.heap.objs.size + 1) scope.names (cloFrom X.env.cells scope.names [])) s.heap.objs.size X.env) fp) [p] (wipe σ (own.map (·.2))) H { s with heap := pushCells (s.heap.push { cls := .type "dict", data := .dict #[] }) scope.names } := by
  obtain ⟨a, b, c, d, e⟩ := I.pin p (List.mem_append_left _ hp)
  refine (block_start I ok hN hfp).pins_of fun q hq => ?_
  rw [List.mem_singleton] at hq
  subst hq
  refine ⟨pushCells_keeps _ _ _ _ (Heap.get?_push_of_some _ a), b, Nat.ne_of_lt (Heap.lt_size a), fun z => ?_, e⟩
  have z : q.1 ∈ frs X.stack := z
  rcases List.mem_cons.mp (I.stkSub q.1 z) with z | z
  · exact c z
  · exact d z
theorem lcP {pins : List (Addr × Obj)} {s : Shared} {σ : L2.St} {H : Hp} {Q : VK} {elt tg iter : Expr} {ifs : List Expr} {scope : Scope} {own : List (Str × Nat)} {pos pos' : Pos} {wi : TI} {g : TG} {tt : TT} {te : TE} {use : Option (Value → Sem Unit)} {Qf : Value → Shared → Prop}
    (hc : HotC X) (hN : X.N.Nodup) (I : Inv X pins σ H s) (hi : PIP X tg iter wi) (ok : BlkOk X.N X.env.scope scope own)
    (hg : ∀ (s : Shared) (H : Hp) (C : Addr) (cl : List (Str × Addr)) (fp : List Addr), PG (X.blk s H scope (compEnvC scope cl C X.env) fp) tg g) (ht : ∀ (s : Shared) (H : Hp) (C : Addr) (cl : List (Str × Addr)) (fp : List Addr), PTs (X.blk s H scope (compEnvC scope cl C X.env) fp) ifs tt)
    (he : ∀ (s : Shared) (H : Hp) (C : Addr) (cl : List (Str × Addr)) (fp : List Addr), PE (X.blk s H scope (compEnvC scope cl C X.env) fp) elt te) (hs : ∀ x, foldedSetIterable iter X.env x = pure x)
    (h : tLc wi g tt te (own.map (·.2)) σ H Q)
    (hRR : ∀ D C s' m H', Inv X pins σ H' s' → Q (.ref D) H' → s'.heap.Ns C m → FpOk X pins H' C → compPost (model X.prog X.w) X.A X.xe use Qf (.ref D) C (.ok .next) s') :
    wpAny (model X.prog X.w) X.A (comprehension (.ListComp elt [⟨tg, iter, ifs, 0⟩] scope pos) scope X.env pos' (newList []) false (eval iter X.env) use) Qf X.xe s := by
  obtain ⟨p, hot, hp⟩ := hc
  have cells : ∀ y ∈ scope.names, y.2 = .free → ∃ c, X.env.cells.lookup y.1 = some c := fun y hy e => I.ok.has _ (ok.free y hy e)
  refine wpAny_comprehension_free (use := use) rfl hs (closure_ok cells) ok.kind (fun y hy e => by rw [ok.uniq y hy, e]) (thn (hi.run pins s σ H _ I h) fun _ s1 hx => thn hx fun _ s2 h2 => ?_)
  obtain ⟨it, fp, tn, J, H2, rfl, I2, T, st2, f2, q⟩ := h2
  refine wpAny_newObj_type (newEnv_comp ?_) (by show 0 ≤ sizeLine; decide)
  have nD : H2 s2.heap.objs.size = none := I2.hok.fresh (Nat.le_refl _)
  obtain ⟨W, ⟨m0, w0⟩, turn⟩ := q _ nD
  have lt : ∀ b ∈ fp, b < s2.heap.objs.size := fun b hb => let ⟨_, e, _⟩ := T.obj _ _ st2 b hb; Heap.lt_size e
  have g3 : (s2.heap.push { cls := .type "list", data := .seq ([] : List Value).toArray }).get? s2.heap.objs.size = some { cls := .type "list", data := .seq ([] : List Value).toArray } := Heap.get?_push_size _ rfl
  have I3 : Inv X pins σ (upd H2 s2.heap.objs.size (.lst [])) { s2 with heap := s2.heap.push { cls := .type "list", data := .seq ([] : List Value).toArray } } :=
    I2.laid (t' := s2.toks) (fun b o e => Heap.get?_push_of_some _ e) (Nat.le_refl _) ⟨Nat.zero_le _, [], 0, .nil, g3⟩
  have st3 : tn 0 (s2.heap.push { cls := .type "list", data := .seq ([] : List Value).toArray }) := T.keep _ _ _ st2 fun b _ o e => Heap.get?_push_of_some _ e
  have f3 : ∀ b ∈ fp, FpOk X pins (upd H2 s2.heap.objs.size (.lst [])) b ∧ b < (s2.heap.push { cls := .type "list", data := .seq ([] : List Value).toArray }).objs.size := fun b hb => by
    have l := lt b hb
    exact ⟨⟨by rw [upd_ne (Nat.ne_of_lt l)]; exact (f2 b hb).1, (f2 b hb).2⟩, by rw [Heap.size_push]; exact Nat.lt_succ_of_lt l⟩
  revert w0 I3 st3 f3 turn
  generalize hD : s2.heap.objs.size = D
  generalize upd H2 D (.lst []) = H3
  generalize hS : ({ s2 with heap := s2.heap.push { cls := .type "list", data := .seq ([] : List Value).toArray } } : Shared) = s3
  have hS2 : s2.heap.push { cls := .type "list", data := .seq ([] : List Value).toArray } = s3.heap := by rw [← hS]
  rw [hS2]
  intro turn w0 I3 st3 f3
  have I4 := block_hot I3 ok hN hp f3
  revert I4
  generalize hce : compEnvC scope (cellsFrom (s3.heap.objs.size + 1) scope.names (cloFrom X.env.cells scope.names [])) s3.heap.objs.size X.env = ce
  intro I4
  have cL : ce.locals = s3.heap.objs.size := by rw [← hce]; rfl
  have pg : PG (X.blk s3 H3 scope ce fp) tg g := hce ▸ hg _ _ _ _ _
  have pt : PTs (X.blk s3 H3 scope ce fp) ifs tt := hce ▸ ht _ _ _ _ _
  have pe : PE (X.blk s3 H3 scope ce fp) elt te := hce ▸ he _ _ _ _ _
  have st4 : tn 0 (pushCells (s3.heap.push { cls := .type "dict", data := .dict #[] }) scope.names) := T.keep _ _ _ st3 fun b _ o e => pushCells_keeps _ _ _ _ (Heap.get?_push_of_some _ e)
  have hot' : HotP X.A ((X.blk s3 H3 scope ce fp).pn ++ [p]) := ⟨p, hot, List.mem_append_right _ (List.mem_singleton.mpr rfl)⟩
  have stat : ∀ {σ' : L2.St} {H' : Hp} {s' : Shared}, Inv (X.blk s3 H3 scope ce fp) [p] σ' H' s' → (∀ b ∈ fp, H' b = none) → ∀ b ∈ fp, FpOk (X.blk s3 H3 scope ce fp) [p] H' b := fun {σ' H' s'} I' hn b hb => by
    refine ⟨hn b hb, (I'.ok.exf b hb).1, I'.ok.exfs b hb, .inl hb, fun x c e => (I'.ok.exf b hb).2 x c e, fun q hq => ?_⟩
    have hq : q ∈ [p] := hq
    rw [List.mem_singleton] at hq
    subst hq
    exact (f2 b hb).2.2.2.2.2 q (List.mem_append_left _ hp)
  show codeAny (model X.prog X.w) X.A (.compStart (.ListComp elt [⟨tg, iter, ifs, 0⟩] scope pos) 0 (.ref it) (.ref D) (compEnvC scope (cellsFrom (s3.heap.objs.size + 1) scope.names (cloFrom X.env.cells scope.names [])) s3.heap.objs.size X.env)) (compPost (model X.prog X.w) X.A X.xe use Qf (.ref D) s3.heap.objs.size) _
  rw [hce]
  suffices loop : codeAny (model X.prog X.w) X.A (.compLoop (.ListComp elt [⟨tg, iter, ifs, 0⟩] scope pos) 0 (.ref it) (.ref D) ce) (compPost (model X.prog X.w) X.A X.xe use Qf (.ref D) s3.heap.objs.size) { s3 with heap := pushCells (s3.heap.push { cls := .type "dict", data := .dict #[] }) scope.names } from
    codeAny_compStart_list loop (T.self X.A 0 _ _ _ st4 loop)
  · refine compLoop_any (fun n s' => ∃ i H', Inv (X.blk s3 H3 scope ce fp) [p] (wipe σ (own.map (·.2))) H' s' ∧ tn i s'.heap ∧ (∀ b ∈ fp, H' b = none) ∧ W i n H') (fun n s5 ⟨i, H5, I5, st5, n5, w5⟩ => ?_) m0 ⟨0, H3, I4, st4, fun b hb => (f3 b hb).1.1, w0⟩
    rcases turn i n H5 w5 with ⟨stop, qq⟩ | ⟨go, Nx, hNx, step⟩
    · refine thF (T.done (X.blk s3 H3 scope ce fp) rfl rfl rfl i [p] s5 _ H5 (fun _ _ => False) hot' I5 (stat I5 n5) st5 stop) fun r s6 ⟨hr, I6⟩ => ?_
      subst hr
      obtain ⟨m, hn, _⟩ := I6.loc
      have hn : s6.heap.Ns ce.locals m := hn
      have nC : H5 ce.locals = none := I6.free
      rw [cL] at hn nC
      exact hRR D _ s6 m H5 (I3.call' (ch := fp) I6.os I6.base I6.hok I6.bare fun b hb => ⟨(f3 b hb).1.2.2.2.1, (f3 b hb).1.2.1, (f3 b hb).1.2.2.2.2.1, (f3 b hb).1.2.2.2.2.2⟩) qq hn (I3.fpOk (Nat.le_refl _) nC)
    · refine thF (T.item (X.blk s3 H3 scope ce fp) rfl rfl rfl i [p] s5 _ H5 (fun _ _ => False) hot' I5 (stat I5 n5) st5 go) fun r s6 ⟨u, hr, h6⟩ => ?_
      subst hr
      refine thF h6 fun _ s7 ⟨x, H7, I7, r7, y7, st7, n7⟩ => thF (pg.run _ s7 _ H7 x u _ (I7.pinned (stat I7 n7) (T.obj _ _ st7)) r7 (step x H7 y7)) fun _ s8 ⟨σ8, H8, I8, hw, q8⟩ => thF (pt.run _ s8 σ8 H8 _ I8 q8) fun b s9 ⟨H9, I9, q9⟩ => ?_
      have again : ∀ {s' : Shared} {H' : Hp}, Inv (X.blk s3 H3 scope ce fp) ([p] ++ pinsAt fp s7.heap) σ8 H' s' → Nx H' → ∃ m, m < n ∧ ∃ i H', Inv (X.blk s3 H3 scope ce fp) [p] (wipe σ (own.map (·.2))) H' s' ∧ tn i s'.heap ∧ (∀ b ∈ fp, H' b = none) ∧ W i m H' := fun {s' H'} I' nx => by
        obtain ⟨m', hm, w'⟩ := hNx H' nx
        have pin' : ∀ b ∈ fp, ∀ o, s7.heap.get? b = some o → s'.heap.get? b = some o ∧ H' b = none := fun b hb o e =>
          have z := I'.pin (b, o) (List.mem_append_right _ (List.mem_append_right _ (mem_pinsAt hb e)))
          ⟨z.1, z.2.1⟩
        refine ⟨m', hm, i + 1, H', (I'.unpinned (pins := [p])).weak (by rw [← hw, wipe_length]) (fun j v e => ?_), T.keep _ _ _ st7 fun b hb o e => (pin' b hb o e).1, fun b hb => ?_, w'⟩
        · rw [← hw] at e; exact (wipe_some e).1
        · obtain ⟨o, e, _⟩ := T.obj _ _ st7 b hb
          exact (pin' b hb o e).2
      cases b with
      | false =>
        rw [if_neg Bool.false_ne_true] at q9 ⊢
        exact again I9 q9
      | true =>
        rw [if_pos rfl] at q9 ⊢
        exact thF (pe.run _ s9 σ8 H9 _ I9 q9) fun z s10 ⟨yv, H10, I10, r10, acc, hD10, hz10, nx⟩ => app_ok (X := X.blk s3 H3 scope ce fp) I10 hD10 hz10 r10 fun s11 I11 => again I11 nx
/-- [..] as a value, where an exception is handled -/
theorem pe_lcP {elt tg iter : Expr} {ifs : List Expr} {scope : Scope} {own : List (Str × Nat)} {pos : Pos} {wi : TI} {g : TG} {tt : TT} {te : TE} (hc : HotC X) (hN : X.N.Nodup) (hi : PIP X tg iter wi) (ok : BlkOk X.N X.env.scope scope own)
    (hg : ∀ (s : Shared) (H : Hp) (C : Addr) (cl : List (Str × Addr)) (fp : List Addr), PG (X.blk s H scope (compEnvC scope cl C X.env) fp) tg g) (ht : ∀ (s : Shared) (H : Hp) (C : Addr) (cl : List (Str × Addr)) (fp : List Addr), PTs (X.blk s H scope (compEnvC scope cl C X.env) fp) ifs tt)
    (he : ∀ (s : Shared) (H : Hp) (C : Addr) (cl : List (Str × Addr)) (fp : List Addr), PE (X.blk s H scope (compEnvC scope cl C X.env) fp) elt te) (hs : ∀ x, foldedSetIterable iter X.env x = pure x := by intro _; rfl) :
    PE X (.ListComp elt [⟨tg, iter, ifs, 0⟩] scope pos) (tLc wi g tt te (own.map (·.2))) :=
  ⟨fun pins s σ H Q I h => by
    rw [eval_ListComp]
    exact lcP hc hN I hi ok hg ht he hs h fun D C s' m H' I' q hn ⟨f0, f1, f2, f3, f4, f5⟩ => ⟨m, hn, fun h'' sb => ⟨.ref D, H', I'.turned (t' := s'.toks) (fun b o hb e => (sb.2 b hb).trans e) f0 f1 f3 f4 f5, rfl, q⟩⟩⟩
end
theorem roomH_u {A : Around} {k : Nat} (hr : L2H.RoomH k A) : A.units + 64 < cLine := by have := hr.un; omega
end FLH

/-! FL14: values of two kinds (an int or an own object), isinstance with own classes, gcd, bit_length, lists of three kinds, defaults of a class, two stores at once, code never reached. -/
namespace FL
open PySem PySem.Spec L2 PyProof.Rows
inductive Num (F : Type) | i (n : Int) | f (x : F)
namespace Num
variable {F : Type}
instance : Inhabited (Num F) := ⟨.i 0⟩
def sel (x : Num F) (a b : Bool) : Bool := match x with
  | .i _ => a
  | .f _ => b
def int (x : Num F) : Int := match x with
  | .i n => n
  | .f _ => 0
def frac [Inhabited F] (x : Num F) : F := match x with
  | .i _ => default
  | .f x => x
theorem sel_ff (x : Num F) : x.sel false false = false := by cases x <;> rfl
end Num
def selO {F : Type} (x : Option (Num F)) (c a b : Bool) : Bool := match x with
  | none => c
  | some x => x.sel a b
theorem selO_ff {F : Type} (x : Option (Num F)) : selO x false false false = false := by
  cases x with
  | none => rfl
  | some x => exact x.sel_ff
section
variable {K : PySem.W.Frag} {ρ ρ' ρ0 ρ1 ρ2 ρ3 : Env K} {α β δ F : Type} {e : Enc K F} {ta tb te tc : TE}
def eNum (e : Enc K F) : Enc K (Num F) := ⟨fun H v x => match x with
  | .i n => v = .int n
  | .f y => e.rep H v y, fun {H H' v x} hx h => by
  cases x with
  | i n => exact h
  | f y => exact e.mono hx h⟩
instance [NN e] : NN (eNum e) := ⟨fun H x h => by
  cases x with
  | i n => exact absurd (show V.non = V.int n from h) (fun z => nomatch z)
  | f y => exact NN.nn (e := e) H y h⟩
theorem ev_Ui {n : Int} (h : EvD te ρ ρ' eI n) : EvD te ρ ρ' (eNum e) (.i n) := h
theorem ev_Uf {x : F} (h : EvD te ρ ρ' e x) : EvD te ρ ρ' (eNum e) (.f x) := h
theorem ev_gi {x : Num F} (h : EvD te ρ ρ' (eNum e) x) (hs : x.sel true false = true) : EvD te ρ ρ' eI x.int := by
  cases x with
  | i n => exact h
  | f y => cases hs
theorem ev_gf [Inhabited F] {x : Num F} (h : EvD te ρ ρ' (eNum e) x) (hs : x.sel false true = true) : EvD te ρ ρ' e x.frac := by
  cases x with
  | i n => cases hs
  | f y => exact h
/-! isinstance -/
/-- what an own class's instances are asked -/
structure InsF (K : PySem.W.Frag) (C : Addr) : Prop where
  cl : Cls K C
  ha : PySem.W.findIn K (.ref C) "__class__" = some (some (.builtin "object.__class__"))
  hn : PySem.W.specialIn K (.builtin "object.__class__") "__get__" = some (some (.builtin "getset_descriptor.__get__"))
  ht : PySem.W.takesIn K (.builtin "object.__class__") = some true
  hm : PySem.W.mroIn K C (.type "object") = some true
theorem InsF.ty {C : Addr} (I : InsF K C) {H : Hp} {p dx : Addr} {fs : List (Str × V)} (h : H p = some (.ins C dx fs)) : TyX K H (.ref p) (.ref C) := .base (.ins h I.cl I.ha I.hn I.ht I.hm)
theorem ev_isiC {C : Addr} {fl : List (Str × Fld K F)} {a : F} {c : V} {u : Value} {b : Bool} (I : InsF K C) (h : EvD te ρ ρ1 (eObj C fl) a) (k : ClsV c u) (hf : PySem.W.kitOne K (.ref C) u = some b) : EvD (tCB (rIsi K) (tCons te (tCons (tC c) tNil))) ρ ρ1 eB b := fun cc σ Hk H kk Q q =>
  h cc σ Hk H kk _ fun v Hk1 H1 k1 x1 ⟨p, dx, vs, h1, h2, _⟩ => by
    subst h1
    exact ⟨_, c, .ref C, u, b, rfl, k, I.ty (k1.ex _ _ h2), hf, q _ Hk1 H1 k1 x1 rfl⟩
theorem ev_isiK {T : String} {e : Enc K α} [TyE e T] {a : α} {c : V} {u : Value} {b : Bool} (h : EvD te ρ ρ1 e a) (k : ClsV c u) (hf : PySem.W.kitOne K (.type T) u = some b) : EvD (tCB (rIsi K) (tCons te (tCons (tC c) tNil))) ρ ρ1 eB b := fun cc σ Hk H kk Q q =>
  h cc σ Hk H kk _ fun v Hk1 H1 k1 x1 r1 => ⟨v, c, .type T, u, b, rfl, k, ty_ext (e := e) k1.ex r1, hf, q _ Hk1 H1 k1 x1 rfl⟩
theorem ev_isiU {C : Addr} {fl : List (Str × Fld K F)} {x : Num F} {c : V} {u : Value} {bi bf : Bool} (I : InsF K C) (h : EvD te ρ ρ1 (eNum (eObj C fl)) x) (k : ClsV c u) (hi : PySem.W.kitOne K (.type "int") u = some bi) (hf : PySem.W.kitOne K (.ref C) u = some bf) : EvD (tCB (rIsi K) (tCons te (tCons (tC c) tNil))) ρ ρ1 eB (x.sel bi bf) := by
  cases x with
  | i n => exact ev_isiK (e := eI) h k hi
  | f y => exact ev_isiC I h k hf
theorem ev_isiUO {C : Addr} {fl : List (Str × Fld K F)} {x : Option (Num F)} {c : V} {u : Value} {bn bi bf : Bool} (I : InsF K C) (h : EvD te ρ ρ1 (eO (eNum (eObj C fl))) x) (k : ClsV c u) (hn : PySem.W.kitOne K (.type "NoneType") u = some bn) (hi : PySem.W.kitOne K (.type "int") u = some bi) (hf : PySem.W.kitOne K (.ref C) u = some bf) :
    EvD (tCB (rIsi K) (tCons te (tCons (tC c) tNil))) ρ ρ1 eB (selO x bn bi bf) := by
  cases x with
  | none =>
    refine fun cc σ Hk H kk Q q => h cc σ Hk H kk _ fun v Hk1 H1 k1 x1 r1 => ?_
    cases (show v = .non from r1)
    exact ⟨.non, c, .type "NoneType", u, bn, rfl, k, .base .non, hn, q _ Hk1 H1 k1 x1 rfl⟩
  | some x => exact ev_isiU I h k hi hf
/-! more -/
theorem ev_gcd {a b : Int} (ha : EvD ta ρ ρ1 eI a) (hb : EvD tb ρ1 ρ2 eI b) : EvD (tCB rGcd (tCons ta (tCons tb tNil))) ρ ρ2 eI ((Nat.gcd a.natAbs b.natAbs : Nat) : Int) := fun c σ Hk H k Q q =>
  ha c σ Hk H k _ fun x Hk1 H1 k1 x1 r1 => hb c σ Hk1 H1 k1 _ fun y Hk2 H2 k2 x2 r2 => by
    have r1 : x = .int a := r1
    have r2 : y = .int b := r2
    subst r1; subst r2
    exact ⟨a, b, rfl, q _ Hk2 H2 k2 (x1.trans x2) rfl⟩
theorem ev_bits {a : Int} (ha : EvD ta ρ ρ1 eI a) : EvD (tBits ta) ρ ρ1 eI ((PySem.Builtin.Int.intBits a : Nat) : Int) := fun c σ Hk H k Q q =>
  ha c σ Hk H k _ fun x Hk1 H1 k1 x1 r1 => ⟨a, r1, q _ Hk1 H1 k1 x1 rfl⟩
/-- a list of three things of any kinds -/
def eR3 {α β δ : Type} (e : Enc K α) (f : Enc K β) (g : Enc K δ) : Enc K (α × β × δ) :=
  ⟨fun H v t => ∃ p x y z, v = .ref p ∧ SqL K H p [x, y, z] ∧ e.rep H x t.1 ∧ f.rep H y t.2.1 ∧ g.rep H z t.2.2,
   fun x ⟨p, u, v, w, h1, h2, h3, h4, h5⟩ => ⟨p, u, v, w, h1, ex_l x h2, e.mono x h3, f.mono x h4, g.mono x h5⟩⟩
theorem ev_r3 {e : Enc K α} {f : Enc K β} {g : Enc K δ} {a : α} {b : β} {d : δ} (ha : EvD ta ρ ρ1 e a) (hb : EvD tb ρ1 ρ2 f b) (hd : EvD tc ρ2 ρ3 g d) : EvD (tLst (tCons ta (tCons tb (tCons tc tNil)))) ρ ρ3 (eR3 e f g) (a, b, d) := fun c σ Hk H k Q q =>
  ha c σ Hk H k _ fun x Hk1 H1 k1 x1 r1 => hb c σ Hk1 H1 k1 _ fun y Hk2 H2 k2 x2 r2 => hd c σ Hk2 H2 k2 _ fun z Hk3 H3 k3 x3 r3 => ⟨by show 3 ≤ sizeLine; decide, fun p hp =>
    let ⟨k4, x4⟩ := k3.new (o := .lst [x, y, z]) hp
    q _ _ _ k4 (((x1.trans x2).trans x3).trans x4) ⟨p, x, y, z, rfl, SqL.of upd_same, e.mono ((x2.trans x3).trans x4).ex r1, f.mono (x3.trans x4).ex r2, g.mono x4.ex r3⟩⟩
theorem ev_r3a {e : Enc K α} {f : Enc K β} {g : Enc K δ} {t : α × β × δ} (ha : EvD ta ρ ρ1 (eR3 e f g) t) : EvD (tOp (rIxL K) ta (tC (.int 0))) ρ ρ1 e t.1 :=
  fun c σ Hk H k Q q => ha c σ Hk H k _ fun v Hk1 H1 k1 x1 ⟨p, x, y, z, e1, e2, e3, _, _⟩ => ⟨p, [x, y, z], 0, x, e1, rfl, ex_l k1.ex e2, rfl, q _ Hk1 H1 k1 x1 e3⟩
theorem ev_r3b {e : Enc K α} {f : Enc K β} {g : Enc K δ} {t : α × β × δ} (ha : EvD ta ρ ρ1 (eR3 e f g) t) : EvD (tOp (rIxL K) ta (tC (.int 1))) ρ ρ1 f t.2.1 :=
  fun c σ Hk H k Q q => ha c σ Hk H k _ fun v Hk1 H1 k1 x1 ⟨p, x, y, z, e1, e2, _, e3, _⟩ => ⟨p, [x, y, z], 1, y, e1, rfl, ex_l k1.ex e2, rfl, q _ Hk1 H1 k1 x1 e3⟩
theorem ev_r3c {e : Enc K α} {f : Enc K β} {g : Enc K δ} {t : α × β × δ} (ha : EvD ta ρ ρ1 (eR3 e f g) t) : EvD (tOp (rIxL K) ta (tC (.int 2))) ρ ρ1 g t.2.2 :=
  fun c σ Hk H k Q q => ha c σ Hk H k _ fun v Hk1 H1 k1 x1 ⟨p, x, y, z, e1, e2, _, _, e3⟩ => ⟨p, [x, y, z], 2, z, e1, rfl, ex_l k1.ex e2, rfl, q _ Hk1 H1 k1 x1 e3⟩
end
section
variable {K : PySem.W.Frag} {ρ ρ1 : Env K} {ι γ α : Type} {ds : ι → List (Slot K)} {pre : ι → Prop} {rest : List (Slot K)}
theorem make_dflt {C : Addr} {sp : Sp} {dvs : List V} {E : XK} {t : TA} : tMake C sp dvs E t = tMake C sp [] E (fun σ H Q => t σ H fun vs H1 => Q (vs ++ dvs) H1) := by
  unfold tMake
  funext σ H Q
  simp only [List.append_nil]
theorem all2S_app {α : Type} {β : Type 1} {r : α → β → Prop} : ∀ {as as' : List α} {bs bs' : List β}, All2S r as bs → All2S r as' bs' → All2S r (as ++ as') (bs ++ bs')
  | _, _, _, _, .nil, h => h
  | _, _, _, _, .cons a t, h => .cons a (all2S_app t h)
theorem ea_dfltI {tA : TA} {n : Int} (ha : EvA tA ρ ρ1 rest) : EvA (fun σ H Q => tA σ H fun vs H1 => Q (vs ++ [V.int n]) H1) ρ ρ1 (rest ++ [.d eI n]) := fun c σ Hk H k Q q =>
  ha c σ Hk H k _ fun vs Hk1 H1 k1 x1 hv => q _ Hk1 H1 k1 x1 (by
    have h : All2S (fun v s => Slot.ok (K := K) Hk1 H1 (some v) s) [V.int n] [.d eI n] := .cons ⟨_, rfl, rfl⟩ .nil
    exact all2S_app hv h)
theorem ev_dflt {C : Addr} {sp : Sp} {dvs : List V} {E : XK} {t : TA} {e : Enc K α} {a : α} (h : EvD (tMake C sp [] E (fun σ H Q => t σ H fun vs H1 => Q (vs ++ dvs) H1)) ρ ρ1 e a) : EvD (tMake C sp dvs E t) ρ ρ1 e a := by
  rw [make_dflt]; exact h
end
section
variable {K : PySem.W.Frag} {ρ ρ1 ρ2 : Env K} {α β γ ν lam τ : Type} {e : Enc K α} {f : Enc K β} {us : TS} {ta : TA}
theorem xs_par {i j : Nat} {a : α} {b : β} (h : EvA ta ρ ρ1 [.d e a, .d f b]) (hi : isMAt ρ1 i = false) (hj : isMAt (ρ1.set i (.d e a)) j = false) : XS (tPar i j ta) ρ ((ρ1.set i (.d e a)).set j (.d f b)) := fun c σ Hk H k D q =>
  h c σ Hk H k _ fun vs Hk1 H1 k1 x1 hv => by
    cases hv with
    | cons r1 t1 =>
      cases t1 with
      | cons r2 t2 =>
        cases t2
        obtain ⟨_, e1, g1⟩ := r1
        obtain ⟨_, e2, g2⟩ := r2
        cases e1; cases e2
        exact ⟨_, _, rfl, q _ Hk1 H1 ((k1.setD hi g1).setD hj g2) x1.ex⟩
theorem xb_par {i j : Nat} {a : α} {b : β} {En : ν → Env K} {L : lam → Env K} {R : Ret K γ} {o : α → β → Out ν lam γ} (h : EvA ta ρ ρ1 [.d e a, .d f b]) (hi : isMAt ρ1 i = false) (hj : isMAt (ρ1.set i (.d e a)) j = false)
    (k : ∀ x, x = a → ∀ y, y = b → XB us ((ρ1.set i (.d e x)).set j (.d f y)) En L R (o x y)) : XB (tSeq (tPar i j ta) us) ρ En L R (lt a fun x => lt b fun y => o x y) := fun c σ Hk H k0 D q =>
  xs_par h hi hj c σ Hk H k0 _ fun σ' Hk' H' k' x' => k a rfl b rfl c σ' Hk' H' k' D (Out.fin_mono x' q)
end
theorem pe_never {X : Cx} {e : Expr} : PE X e (fun _ _ _ => False) := ⟨fun _ _ _ _ _ _ h => h.elim⟩
theorem ev_never {K : PySem.W.Frag} {ρ ρ' : Env K} {α : Type} {e : Enc K α} {te : TE} {a : α} (h : False) : EvD te ρ ρ' e a := h.elim
/-- what stands behind a statement that always leaves -/
def tStop (t : TS) : TS := fun D σ H => t { D with nx := fun _ _ => False } σ H
theorem pss_stop {X : Cx} {st : Stmt} {rest : List Stmt} {t : TS} (h : PS X st t) : PSs X (st :: rest) (tSeq t tNever) := pss_cons h pss_never
end FL

/-! FL15: branches never taken, t + u of tuples. -/
namespace FL
open PySem L2 PyProof.Rows RT
section
variable {K : PySem.W.Frag} {ρ ρ' ρ1 ρ2 : Env K} {α β γ δ ν lam τ : Type} {e : Enc K α} {ts us ws : TS} {tt : TT} {En : ν → Env K} {L : lam → Env K} {R : Ret K γ} {o : Out ν lam γ} {ta tb : TE}
theorem xb_ifF {b : Bool} (h : EvT tt ρ ρ1 b) (hb : b = false) (k : XB (tSeq us ws) ρ1 En L R o) : XB (tSeq (tIfS tt ts us) ws) ρ En L R o := fun c σ Hk H k0 D q =>
  h c σ Hk H k0 _ fun Hk1 H1 k1 x1 => by
    subst hb
    exact k c σ Hk1 H1 k1 D (Out.fin_mono x1.ex q)
theorem xb_ifTt {b : Bool} (h : EvT tt ρ ρ1 b) (hb : b = true) (k : XB (tSeq ts ws) ρ1 En L R o) : XB (tSeq (tIfS tt ts us) ws) ρ En L R o := fun c σ Hk H k0 D q =>
  h c σ Hk H k0 _ fun Hk1 H1 k1 x1 => by
    subst hb
    exact k c σ Hk1 H1 k1 D (Out.fin_mono x1.ex q)
theorem xb_lv {r : γ} (h : XB ts ρ (fun z : Empty => nomatch z) L R (.rt r)) : XB (tSeq ts us) ρ En L R (.rt r) := fun c σ Hk H k D q => h c σ Hk H k { D with nx := us D } q
theorem xb_lvB {o1 : Out Empty lam γ} (h : XB ts ρ (fun z : Empty => nomatch z) L R o1) : XB (tSeq ts us) ρ En L R (o1.bind fun z : Empty => nomatch z) := fun c σ Hk H k D q => h c σ Hk H k { D with nx := us D } (by
  cases o1 with
  | nx t => exact nomatch t
  | ct t => exact q
  | bk t => exact q
  | rt r => exact q)
theorem xb_nx {o : Out ν lam γ} (h : XB us ρ En L R o) : XB (tSeq tNext us) ρ En L R o := h
/-- t + u -/
theorem ev_catT {as bs : List α} (ha : EvD ta ρ ρ1 (eT e) as) (hb : EvD tb ρ1 ρ2 (eT e) bs) (hl : as.length + bs.length ≤ 100000) : EvD (tOp (rCatA K) ta tb) ρ ρ2 (eT e) (as ++ bs) :=
  ev_bin ha hb fun c σ Hk H x y k ⟨p, xs, e1, e2, e3, _⟩ ⟨p2, ys, f1, f2, f3, _⟩ Q q => by
    refine ⟨p, p2, xs, ys, e1, f1, ex_t k.ex e2, ex_t k.ex f2, ?_, fun h => ?_, fun h h2 => ?_, fun h h2 l hn => ?_⟩
    · rw [e3.len, f3.len]; exact Nat.le_trans hl (by decide)
    · subst h
      cases e3
      exact q _ Hk H k Nxt.refl ⟨p2, ys, rfl, f2, f3, by simpa using hl⟩
    · subst h2
      cases f3
      exact q _ Hk H k Nxt.refl ⟨p, xs, rfl, e2, by simpa using e3, by simpa using hl⟩
    · obtain ⟨k2, x2⟩ := k.new (o := .tup (xs ++ ys)) hn
      exact q _ _ _ k2 x2 ⟨l, xs ++ ys, rfl, SqT.of upd_same, (e3.imp fun _ _ h => e.mono x2.ex h).app (f3.imp fun _ _ h => e.mono x2.ex h), by rw [List.length_append]; exact hl⟩
end
section
variable {K : PySem.W.Frag} {ρ ρ' ρ1 ρ2 : Env K} {α β F : Type} {e : Enc K α} {ta tb te : TE} {tt tu : TT}
/-- reversed(xs) of a list -/
theorem ei_rev {as : List α} (h : EvD te ρ ρ' (eL e) as) : EvI (iRevA K te) ρ ρ' e as.reverse := fun c σ Hk H k R q =>
  h c σ Hk H k _ fun v Hk1 H1 k1 x1 ⟨p, xs, e1, e2, e3, e4⟩ => ⟨p, xs, e1, .inl ⟨ex_l k1.ex e2, q _ Hk1 H1 k1 x1 (by
    have hl := e3.len
    refine ⟨by rw [List.length_reverse]; exact e4, fun H2 y => ?_, fun i H2 hi y => ?_, fun i H2 x H3 hy hi c2 σ2 ρ2 Hk2 k2 y => ?_⟩
    · show xs.length ≤ as.reverse.length
      rw [List.length_reverse, hl]; exact Nat.le_refl _
    · rw [List.length_reverse] at hi
      have : xs.length - 1 - i < xs.length := by omega
      exact ⟨by omega, xs, xs[xs.length - 1 - i], ex_l y e2, by rw [List.getElem?_eq_getElem this]⟩
    · rw [List.length_reverse] at hi
      obtain ⟨rfl, hx⟩ := hy
      obtain ⟨a, a1, a2⟩ := e3.getL (hx xs (ex_l (y.trans k2.ex) e2))
      refine ⟨a, Hk2, ?_, k2, Nxt.refl, e.mono y a2⟩
      rw [List.getElem?_reverse (by omega), ← a1, hl])⟩⟩
/-- a and b, where b changes the box -/
theorem et_andM {j : Nat} {m m' : BoxD} {a b : Bool} (hj : ρ[j]? = some (.m mBox m)) (ha : EvT tt ρ ρ a) (hb : a = true → EvT tu ρ (ρ.set j (.m mBox m')) b) : EvT (tAnd tt tu) ρ (ρ.set j (.m mBox (bif a then m' else m))) (a && b) := by
  cases a with
  | true => exact fun c σ Hk H k Q q => ha c σ Hk H k _ fun Hk1 H1 k1 x1 => hb rfl c σ Hk1 H1 k1 Q fun Hk2 H2 k2 x2 => q Hk2 H2 k2 (x1.trans x2)
  | false =>
    have e : ρ.set j (.m mBox m) = ρ := by
      apply List.ext_getElem?
      intro i
      rw [List.getElem?_set]
      by_cases c : j = i
      · subst c
        rw [if_pos rfl, hj]
        have : j < ρ.length := (List.getElem?_eq_some_iff.mp hj).1
        rw [if_pos this]
      · rw [if_neg c]
    show EvT (tAnd tt tu) ρ (ρ.set j (.m mBox m)) false
    rw [e]
    exact fun c σ Hk H k Q q => ha c σ Hk H k _ fun Hk1 H1 k1 x1 => q Hk1 H1 k1 x1
/-- isinstance(x, (S, T)) of a value of two kinds or None, neither of them -/
theorem isT_no {v : V} {H : Hp} {tp : Addr} {Q : VK} {t : Value} {n1 n2 : String} (ty : TyX K H v t) (ht : H tp = some (.tup [.ty n1, .ty n2])) (h1 : PySem.W.kitOne K t (.type n1) = some false) (h2 : PySem.W.kitOne K t (.type n2) = some false) (q : Q (.bl false) H) : rIsiT K [v, .ref tp] H Q :=
  ⟨v, tp, [.ty n1, .ty n2], t, [.type n1, .type n2], false, rfl, ht, .cons (.ty n1) (.cons (.ty n2) .nil), ty, kitAny_cons h1 (fun _ => kitAny_cons h2 (fun _ => rfl) (fun z => nomatch z)) (fun z => nomatch z), q⟩
theorem ev_isTno {C : Addr} {fl : List (Str × Fld K F)} {x : Option (Num F)} {n1 n2 : String} (I : InsF K C) (h : EvD te ρ ρ1 (eO (eNum (eObj C fl))) x) (a1 : kitB "NoneType" n1 = some false) (a2 : kitB "NoneType" n2 = some false) (b1 : kitB "int" n1 = some false) (b2 : kitB "int" n2 = some false)
    (c1 : PySem.W.kitOne K (.ref C) (.type n1) = some false) (c2 : PySem.W.kitOne K (.ref C) (.type n2) = some false) :
    EvD (tCB (rIsiT K) (tCons te (tCons (tTup (tCons (tC (.ty n1)) (tCons (tC (.ty n2)) tNil))) tNil))) ρ ρ1 eB false := fun c σ Hk H k Q q =>
  h c σ Hk H k _ fun v Hk1 H1 k1 x1 r1 => ⟨by show 2 ≤ sizeLine; decide, fun p hp => by
    obtain ⟨k2, x2⟩ := k1.new (o := .tup [.ty n1, .ty n2]) hp
    have q2 : Q (.bl false) (upd H1 p (.tup [.ty n1, .ty n2])) := q _ _ _ k2 (x1.trans x2) rfl
    have r2 := (eO (eNum (eObj C fl))).mono x2.ex r1
    cases x with
    | none =>
      cases (show v = .non from r2)
      exact isT_no (.base .non) upd_same (kit_ty a1) (kit_ty a2) q2
    | some x =>
      cases x with
      | i n =>
        cases (show v = .int n from r2)
        exact isT_no (.base (.int n)) upd_same (kit_ty b1) (kit_ty b2) q2
      | f y =>
        obtain ⟨p2, dx, vs, e1, e2, _⟩ := r2
        subst e1
        exact isT_no (I.ty (k2.ex _ _ e2)) upd_same c1 c2 q2⟩
end
theorem catK {X : Cx} {K : PySem.W.Frag} (h : X.K = K) : OpR X (binaryOp .Add) (rCatA K) := h ▸ op_catA
end FL

/-! FL16: sorted of a tuple of ints. -/
namespace SrtT
open PySem PySem.Spec PyProof.Rows SrtO
section
variable {prog : Program} {w : World} {A : Around} {E : Value → Shared → Prop} {s : Shared}
theorem collect_tup {l : Addr} {vs : List Value} {Q : List Value → Shared → Prop} (hl : s.heap.IsTuple l vs.toArray)
    (h : Q vs { s with heap := (s.heap.push (seqObj "list" #[] 0)).update s.heap.objs.size (Obj.mapSeq (· ++ vs.toArray)) }) (hsz : vs.length ≤ sizeLine) : wpAny (model prog w) A (collect (.ref l)) Q E s := by
  obtain ⟨o, ho, hc, n, hd⟩ := id hl
  unfold collect
  refine wpAny_bind (wpAny_runValue (codeAny_builtin entry_proto_collect' ?_))
  show wpAny _ _ (do again (.builtin "list.__iadd__" ⟨[← newList [], .ref l], []⟩)) _ _ s
  refine wpAny_bind (wpAny_newList (wpAny_pure ⟨Code.quiet_builtin _ (by decide +kernel), codeAny_builtin entry_list_iadd' ?_⟩) (by show 0 ≤ sizeLine; decide))
  show wpAny _ _ (Builtin.List.listExtendWith (.ref s.heap.objs.size) (.ref l) (.ref s.heap.objs.size)) _ _ { s with heap := s.heap.push (seqObj "list" #[] 0) }
  unfold Builtin.List.listExtendWith
  have ho' : (s.heap.push (seqObj "list" #[] 0)).get? l = some o := Heap.get?_push_of_some _ ho
  refine wpAny_bind (wpAny_typeOf (T := "tuple") ⟨o, ho', hc⟩ ?_)
  have ht : (Value.type "tuple" == Value.type "tuple") = true := by rfl
  rw [if_pos (by rw [ht]; simp)]
  refine wpAny_bind (listItems_at ho' hd ?_)
  refine wpAny_bind (listItems_at (xs := #[]) (n := 0) (Heap.get?_push_size _ rfl) rfl ?_)
  rw [if_neg (by simp)]
  refine wpAny_bind (listUpdate_at (xs := #[]) (n := 0) (Heap.get?_push_size _ rfl) rfl ?_ (Nat.zero_le _) (by show (#[] ++ vs.toArray).size ≤ sizeLine + 1; simp only [Array.size_append, List.size_toArray, List.length_nil, Nat.zero_add]; omega))
  refine wpAny_pure (wpAny_bind (wpAny_load (get?_update_seq (Heap.get?_push_size _ rfl) _) ?_))
  show wpAny _ _ (pure ((#[] : Array Value) ++ vs.toArray).toList) Q E _
  exact wpAny_pure (by simpa using h)
theorem sorted_tup {l : Addr} {vs : List Value} {ltv : Value → Value → Bool} {Q : Value → Shared → Prop} (O : Swo ltv) (hl : s.heap.IsTuple l vs.toArray) (hz : vs.length ≤ sizeLine)
    (hS : 2 ≤ vs.length → ∀ (h₁ : Heap) (a : Addr), h₁.get? a = some (seqObj "list" vs.toArray 0) → (∀ b o, s.heap.get? b = some o → b ≠ a ∧ h₁.get? b = some o) → SortableO prog w A.in1.in1 { s with heap := h₁ } a vs ltv)
    (h : ∀ out : List Value, Srtd ltv out → Stb ltv out vs → Q (.ref (s.heap.objs.size + 1)) { s with heap := sortedAll s.heap vs out.toArray }) : wpAny (model prog w) A (call (.builtin "sorted") [.ref l]) Q E s := by
  refine Calls.call_function_entry kind_sorted plain_sorted entry_sorted (args_sorted1 _) ?_
  unfold Builtin.«sorted»
  refine wpAny_bind (m := checkCount "sorted" 1 1 _) (wpAny_pure (wpAny_bind (collect_tup hl (wpAny_bind (wpAny_newList ?_ hz)) hz)))
  have sz : ((s.heap.push (seqObj "list" #[] 0)).update s.heap.objs.size (Obj.mapSeq (· ++ vs.toArray))).objs.size = s.heap.objs.size + 1 := by rw [Heap.size_update, size_push']
  have at1 : (((s.heap.push (seqObj "list" #[] 0)).update s.heap.objs.size (Obj.mapSeq (· ++ vs.toArray))).push (seqObj "list" vs.toArray 0)).get? (s.heap.objs.size + 1) = some (seqObj "list" vs.toArray 0) := sz ▸ Heap.get?_push_size _ rfl
  have old : ∀ b o, s.heap.get? b = some o → b ≠ s.heap.objs.size + 1 ∧ (((s.heap.push (seqObj "list" #[] 0)).update s.heap.objs.size (Obj.mapSeq (· ++ vs.toArray))).push (seqObj "list" vs.toArray 0)).get? b = some o := fun b o q => by
    have l := Heap.lt_size q
    exact ⟨Nat.ne_of_lt (Nat.lt_succ_of_lt l), Heap.get?_push_of_some _ (by rw [Heap.get?_update_ne _ _ _ _ (Nat.ne_of_lt l)]; exact Heap.get?_push_of_some _ q)⟩
  show wpAny _ _ _ _ _ { s with heap := ((s.heap.push (seqObj "list" #[] 0)).update s.heap.objs.size (Obj.mapSeq (· ++ vs.toArray))).push (seqObj "list" vs.toArray 0) }
  rw [sz]
  exact wpAny_bind (wpAny_holding (wpAny_call_entry slot_list_sort ⟨_, at1, rfl⟩ entry_list_sort (list_sort_ord O at1 hz (fun h2 => hS h2 _ _ at1 old) fun out hs hb => ⟨_, rfl, wpAny_pure ⟨_, rfl, h out hs hb⟩⟩) (args_list_sort _)))
end
end SrtT
namespace FL
open PySem PySem.Spec L2 PyProof.Rows
def rSortedT (K : PySem.W.Frag) : List V → Hp → VK → Prop := fun vs H Q => ∃ (a : Addr) (ns : List Int), vs = [V.ref a] ∧ SqT K H a (ns.map V.int) ∧
  ∀ (ns' : List Int) (p : Addr), ns'.Perm ns → ns'.Pairwise (· ≤ ·) → H p = none → Q (.ref p) (upd H p (.lst (ns'.map V.int)))
theorem cr_sortedT {X : Cx} : CallR X (.builtin "sorted") (rSortedT X.K) := by
  intro pins s σ H vs us Q I r h
  obtain ⟨a, ns, rfl, hs, q⟩ := h
  obtain ⟨its, rv, hl, hz⟩ := I.tuple hs
  rw [Vals.ref1 r]
  have hz' : (ns.map V.int).length ≤ sizeLine := hz
  refine SrtT.sorted_tup SrtO.swo_int (show s.heap.IsTuple a its.toArray from hl) (by rw [← rv.length]; exact hz') (fun h2 h₁ a' _ _ => SrtO.ints_sortable rv.ints h2) fun out h1 h2 => ?_
  obtain ⟨k1, k2, k3⟩ := SrtO.ints_out rv.ints h1 h2
  obtain ⟨ep, he⟩ := PyProof.Rows.sortedAll_at s.heap its out.toArray
  have hlen : ((out.map SrtO.iv).map V.int).length ≤ sizeLine := by
    rw [List.length_map, k2.length_eq, ← List.length_map (f := V.int)]; exact hz'
  exact ⟨.ref _, upd H (s.heap.objs.size + 1) (.lst ((out.map SrtO.iv).map V.int)), I.laid (t' := s.toks) (fun _ _ => PyProof.Rows.sortedAll_old) (Nat.le_succ _) ⟨hlen, out, ep, vals_of_ints k1, he⟩, rfl, q _ _ k2 k3 (I.hok.fresh (Nat.le_succ _))⟩
/-! ints in order -/
def insI (x : Int) : List Int → List Int
  | [] => [x]
  | y :: ys => if x ≤ y then x :: y :: ys else y :: insI x ys
def srtI : List Int → List Int
  | [] => []
  | x :: xs => insI x (srtI xs)
theorem insI_perm (x : Int) : ∀ l, (insI x l).Perm (x :: l)
  | [] => List.Perm.refl _
  | y :: ys => by
    unfold insI
    split
    · exact List.Perm.refl _
    · exact ((insI_perm x ys).cons y).trans (List.Perm.swap x y ys)
theorem srtI_perm : ∀ l, (srtI l).Perm l
  | [] => List.Perm.refl _
  | x :: xs => (insI_perm x _).trans ((srtI_perm xs).cons x)
theorem insI_le {x : Int} : ∀ {l : List Int}, l.Pairwise (· ≤ ·) → (insI x l).Pairwise (· ≤ ·)
  | [], _ => List.pairwise_singleton _ _
  | y :: ys, h => by
    unfold insI
    obtain ⟨h1, h2⟩ := List.pairwise_cons.mp h
    split
    · rename_i c
      exact List.pairwise_cons.mpr ⟨fun z hz => by rcases List.mem_cons.mp hz with rfl | hz; exact c; exact Int.le_trans c (h1 z hz), h⟩
    · rename_i c
      refine List.pairwise_cons.mpr ⟨fun z hz => ?_, insI_le h2⟩
      rcases List.mem_cons.mp ((insI_perm x ys).mem_iff.mp hz) with rfl | hz
      · omega
      · exact h1 z hz
theorem srtI_le : ∀ l, (srtI l).Pairwise (· ≤ ·)
  | [] => List.Pairwise.nil
  | x :: xs => insI_le (srtI_le xs)
theorem srtI_uniq : ∀ {l m : List Int}, l.Pairwise (· ≤ ·) → m.Pairwise (· ≤ ·) → l.Perm m → l = m
  | [], m, _, _, h => (List.Perm.eq_nil h.symm).symm
  | x :: l, [], _, _, h => absurd h.length_eq (by simp)
  | x :: l, y :: m, hl, hm, h => by
    have h1 : y ≤ x := by
      rcases List.mem_cons.mp (h.mem_iff.mp (List.mem_cons_self (a := x) (l := l))) with e | hx
      · exact Int.le_of_eq e.symm
      · exact (List.pairwise_cons.mp hm).1 x hx
    have h2 : x ≤ y := by
      rcases List.mem_cons.mp (h.mem_iff.mpr (List.mem_cons_self (a := y) (l := m))) with e | hy
      · exact Int.le_of_eq e.symm
      · exact (List.pairwise_cons.mp hl).1 y hy
    have e : x = y := Int.le_antisymm h2 h1
    subst e
    rw [srtI_uniq (List.pairwise_cons.mp hl).2 (List.pairwise_cons.mp hm).2 h.cons_inv]
section
variable {K : PySem.W.Frag} {ρ ρ1 : Env K} {ta : TE}
theorem all2_intsT {H : Hp} : ∀ {ns : List Int}, All2 ((eI (K := K)).rep H) (ns.map V.int) ns
  | [] => .nil
  | _ :: _ => .cons rfl all2_intsT
theorem en_sortT {as : List Int} (ha : EvD ta ρ ρ1 (eT eI) as) : EvN (tCB (rSortedT K) (tCons ta tNil)) ρ ρ1 eI (srtI as) := fun c σ Hk H k Q q =>
  ha c σ Hk H k _ fun v Hk1 H1 k1 x1 ⟨p, xs, e1, e2, e3, e4⟩ => by
    have z : xs = as.map V.int := All2.eq_map (f := V.int) e3
    subst z
    refine ⟨p, as, by rw [e1], ex_t k1.ex e2, fun ns l hp hs hl => ?_⟩
    have e : ns = srtI as := srtI_uniq hs (srtI_le as) (hp.trans (srtI_perm as).symm)
    subst e
    obtain ⟨k2, x2, n1⟩ := k1.newL (xs := (srtI as).map V.int) hl
    exact q l _ Hk1 _ k2 (x1.trans x2) n1 upd_same all2_intsT (by rw [(srtI_perm as).length_eq]; exact e4) (x1.th l hl)
/-! a list of one's own, lent to a call -/
/-- what tells nothing of lists -/
class NoL {α : Type} (e : Enc K α) : Prop where
  drop : ∀ (H : Hp) (p : Addr) (xs : List V) (v : V) (a : α), H p = some (.lst xs) → e.rep H v a → e.rep (del H p) v a
instance : NoL (eI (K := K)) := ⟨fun _ _ _ _ _ _ h => h⟩
instance : NoL (eB (K := K)) := ⟨fun _ _ _ _ _ _ h => h⟩
instance {α : Type} {e : Enc K α} [NoL e] : NoL (eO e) := ⟨fun H p xs v a h r => by
  cases a with
  | none => exact r
  | some a => exact NoL.drop (e := e) H p xs v a h r⟩
theorem sqT_drop {H : Hp} {p a : Addr} {xs ys : List V} (hp : H p = some (.lst xs)) (h : SqT K H a ys) : SqT K (del H p) a ys := by
  rcases h with (h | ⟨o, h⟩) | h
  · have ne : a ≠ p := fun z => by rw [z, hp] at h; cases h
    exact .inl (.inl (by rw [del_ne ne]; exact h))
  · have ne : a ≠ p := fun z => by rw [z, hp] at h; cases h
    exact .inl (.inr ⟨o, by rw [del_ne ne]; exact h⟩)
  · exact .inr h
instance {α β : Type} {e : Enc K α} {f : Enc K β} [NoL e] [NoL f] : NoL (eP e f) := ⟨fun H p xs v a h ⟨q, x, y, h1, h2, h3, h4⟩ => ⟨q, x, y, h1, sqT_drop h h2, NoL.drop (e := e) H p xs _ _ h h3, NoL.drop (e := f) H p xs _ _ h h4⟩⟩
end
end FL

/-! FL17: the box with its list's place; a list of one's own lent to a call. -/
namespace FL
open PySem L2
section
variable {K : PySem.W.Frag} {ρ ρ' ρ0 ρ1 ρ2 ρ3 : Env K} {α β δ ν lam γ τ : Type} {e : Enc K α} {ta tb te tc : TE} {us : TS} {E : τ → Env K} {En : ν → Env K} {L : lam → Env K} {R : Ret K γ}
def ZL (K : PySem.W.Frag) (z : Addr × Bool) (H : Hp) (xs : List V) : Prop := if z.2 = true then Rd H z.1 (.lst xs) else ∃ (o : Obj) (its : Array Value) (n : Nat), K.lookup z.1 = some o ∧ o.cls = .type "list" ∧ o.dict = none ∧ o.data = .seq its n ∧ its.size ≤ sizeLine ∧ Vals xs its.toList
theorem ZL.sq {z : Addr × Bool} {H : Hp} {xs : List V} (h : ZL K z H xs) : SqL K H z.1 xs := by
  obtain ⟨a, b⟩ := z
  cases b with
  | true => exact .inl h
  | false => exact .inr h
theorem ZL.mono {z : Addr × Bool} {H H' : Hp} {xs : List V} (x : Ex H H') (h : ZL K z H xs) : ZL K z H' xs := by
  obtain ⟨a, b⟩ := z
  cases b with
  | true => exact ex_rd x h
  | false => exact h
theorem ZL.of {a : Addr} {H : Hp} {xs : List V} (h : SqL K H a xs) : ∃ b, ZL K (a, b) H xs := by
  rcases h with h | h
  · exact ⟨true, h⟩
  · exact ⟨false, h⟩
theorem ZL.drop {z : Addr × Bool} {H H2 : Hp} {p : Addr} {xs ys : List V} (h : ZL K z H xs) (hp : H p = none) (h2 : ZL K z H2 ys) : ZL K z (del H2 p) ys := by
  obtain ⟨a, b⟩ := z
  cases b with
  | true =>
    have h : Rd H a (.lst xs) := h
    have h2 : Rd H2 a (.lst ys) := h2
    have ne : a ≠ p := fun w => by
      rw [w] at h
      rcases h with h | ⟨o, h⟩ <;> rw [hp] at h <;> cases h
    show Rd (del H2 p) a (.lst ys)
    rcases h2 with h2 | ⟨o, h2⟩
    · exact .inl (by rw [del_ne ne]; exact h2)
    · exact .inr ⟨o, by rw [del_ne ne]; exact h2⟩
  | false => exact h2
def mBoxZ (z : Addr × Bool) : MEnc K BoxD where
  rep := fun H o x => o = .lst [.ref z.1, .int x.a, .int x.b, .int x.c] ∧ ∃ xs, ZL K z H xs ∧ All2 ((eI (K := K)).rep H) xs x.cells ∧ x.cells.length ≤ LM
  mono := fun {H H' o b} x ⟨h1, xs, h2, h3, h4⟩ => ⟨h1, xs, h2.mono x, h3, h4⟩
variable {y0 : Addr × Bool}
theorem Ok.boxZ {c : Ent} {Hk H : Hp} {σ : List (Option V)} (k : Ok c Hk H σ ρ) {j : Nat} {x : BoxD} (h : ρ[j]? = some (.m (mBoxZ y0) x)) : ∃ p, σ[j]? = some (some (V.ref p)) ∧ H p = some (.lst [.ref y0.1, .int x.a, .int x.b, .int x.c]) ∧ ∃ xs, ZL K y0 Hk xs ∧ All2 ((eI (K := K)).rep Hk) xs x.cells ∧ x.cells.length ≤ LM := by
  obtain ⟨w, hw, p, o, e1, e2, e3, e4, e5⟩ := k.sl j _ h
  subst e1; subst e4
  exact ⟨p, hw, e3, e5⟩
theorem ev_boxZ0 {j : Nat} {x : BoxD} (h : ρ[j]? = some (.m (mBoxZ y0) x)) : EvD (tOp (rIxL K) (tVar j) (tC (.int 0))) ρ ρ (eL eI) x.cells := fun c σ Hk H k Q q => by
  obtain ⟨p, hv, hp, xs, r1, r2, r3⟩ := k.boxZ h
  exact ⟨.ref p, hv, p, _, 0, _, rfl, rfl, SqL.of hp, rfl, q _ Hk H k Nxt.refl ⟨_, xs, rfl, r1.sq, r2, r3⟩⟩
theorem ev_boxZ1 {j : Nat} {x : BoxD} (h : ρ[j]? = some (.m (mBoxZ y0) x)) : EvD (tOp (rIxL K) (tVar j) (tC (.int 1))) ρ ρ eI x.a := fun c σ Hk H k Q q => by
  obtain ⟨p, hv, hp, hr⟩ := k.boxZ h
  exact ⟨.ref p, hv, p, _, 1, _, rfl, rfl, SqL.of hp, rfl, q _ Hk H k Nxt.refl rfl⟩
theorem ev_boxZ2 {j : Nat} {x : BoxD} (h : ρ[j]? = some (.m (mBoxZ y0) x)) : EvD (tOp (rIxL K) (tVar j) (tC (.int 2))) ρ ρ eI x.b := fun c σ Hk H k Q q => by
  obtain ⟨p, hv, hp, hr⟩ := k.boxZ h
  exact ⟨.ref p, hv, p, _, 2, _, rfl, rfl, SqL.of hp, rfl, q _ Hk H k Nxt.refl rfl⟩
theorem ev_boxZ3 {j : Nat} {x : BoxD} (h : ρ[j]? = some (.m (mBoxZ y0) x)) : EvD (tOp (rIxL K) (tVar j) (tC (.int 3))) ρ ρ eI x.c := fun c σ Hk H k Q q => by
  obtain ⟨p, hv, hp, hr⟩ := k.boxZ h
  exact ⟨.ref p, hv, p, _, 3, _, rfl, rfl, SqL.of hp, rfl, q _ Hk H k Nxt.refl rfl⟩
theorem xs_boxZ {j n : Nat} {a : Int} {x : BoxD} {y : BoxD} (h : EvD te ρ ρ1 eI a) (hj : ρ1[j]? = some (.m (mBoxZ y0) x)) (hn : n < 4) (hy : ∀ v, [v, V.int x.a, V.int x.b, V.int x.c].set n (.int a) = [v, .int y.a, .int y.b, .int y.c]) (hc : y.cells = x.cells) :
    XS (tAsg te (gSub (tVar j) (tC (.int (n : Int))) rSetL)) ρ (ρ1.set j (.m (mBoxZ y0) y)) := fun c σ Hk H k D q => h c σ Hk H k _ fun w Hk1 H1 k1 x1 r1 => by
  obtain ⟨p, hv, hp, hr⟩ := k1.boxZ hj
  cases (show w = .int a from r1)
  refine ⟨.ref p, hv, p, _, (n : Int), n, rfl, rfl, hp, ?_, q σ Hk1 _ (k1.mutate hj rfl rfl hv ⟨by rw [hy], by rw [hc]; exact hr⟩) x1.ex⟩
  unfold ixN
  rw [if_pos (by omega), if_pos (by show (n : Int) < 4; omega)]; simp
theorem xv_boxZ1 {j : Nat} {a : Int} {x : BoxD} {f : BoxD → τ} (h : EvD te ρ ρ1 eI a) (hj : ρ1[j]? = some (.m (mBoxZ y0) x)) (k : ∀ z, z = ({ x with a := a } : BoxD) → XV us (ρ1.set j (.m (mBoxZ y0) z)) E (f z)) : XV (tSeq (tAsg te (gSub (tVar j) (tC (.int 1)) rSetL)) us) ρ E (lt ({ x with a := a } : BoxD) f) := xs_seq (xs_boxZ (n := 1) (y := { x with a := a }) h hj (by decide) (fun v => rfl) rfl) (k _ rfl)
theorem xv_boxZ2 {j : Nat} {a : Int} {x : BoxD} {f : BoxD → τ} (h : EvD te ρ ρ1 eI a) (hj : ρ1[j]? = some (.m (mBoxZ y0) x)) (k : ∀ z, z = ({ x with b := a } : BoxD) → XV us (ρ1.set j (.m (mBoxZ y0) z)) E (f z)) : XV (tSeq (tAsg te (gSub (tVar j) (tC (.int 2)) rSetL)) us) ρ E (lt ({ x with b := a } : BoxD) f) := xs_seq (xs_boxZ (n := 2) (y := { x with b := a }) h hj (by decide) (fun v => rfl) rfl) (k _ rfl)
theorem xv_boxZ3 {j : Nat} {a : Int} {x : BoxD} {f : BoxD → τ} (h : EvD te ρ ρ1 eI a) (hj : ρ1[j]? = some (.m (mBoxZ y0) x)) (k : ∀ z, z = ({ x with c := a } : BoxD) → XV us (ρ1.set j (.m (mBoxZ y0) z)) E (f z)) : XV (tSeq (tAsg te (gSub (tVar j) (tC (.int 3)) rSetL)) us) ρ E (lt ({ x with c := a } : BoxD) f) := xs_seq (xs_boxZ (n := 3) (y := { x with c := a }) h hj (by decide) (fun v => rfl) rfl) (k _ rfl)
theorem xb_boxZ1 {j : Nat} {a : Int} {x : BoxD} {f : BoxD → Out ν lam γ} (h : EvD te ρ ρ1 eI a) (hj : ρ1[j]? = some (.m (mBoxZ y0) x)) (k : ∀ z, z = ({ x with a := a } : BoxD) → XB us (ρ1.set j (.m (mBoxZ y0) z)) En L R (f z)) : XB (tSeq (tAsg te (gSub (tVar j) (tC (.int 1)) rSetL)) us) ρ En L R (lt ({ x with a := a } : BoxD) f) := xb_seq (xs_boxZ (n := 1) (y := { x with a := a }) h hj (by decide) (fun v => rfl) rfl) (k _ rfl)
theorem xb_boxZ2 {j : Nat} {a : Int} {x : BoxD} {f : BoxD → Out ν lam γ} (h : EvD te ρ ρ1 eI a) (hj : ρ1[j]? = some (.m (mBoxZ y0) x)) (k : ∀ z, z = ({ x with b := a } : BoxD) → XB us (ρ1.set j (.m (mBoxZ y0) z)) En L R (f z)) : XB (tSeq (tAsg te (gSub (tVar j) (tC (.int 2)) rSetL)) us) ρ En L R (lt ({ x with b := a } : BoxD) f) := xb_seq (xs_boxZ (n := 2) (y := { x with b := a }) h hj (by decide) (fun v => rfl) rfl) (k _ rfl)
theorem xb_boxZ3 {j : Nat} {a : Int} {x : BoxD} {f : BoxD → Out ν lam γ} (h : EvD te ρ ρ1 eI a) (hj : ρ1[j]? = some (.m (mBoxZ y0) x)) (k : ∀ z, z = ({ x with c := a } : BoxD) → XB us (ρ1.set j (.m (mBoxZ y0) z)) En L R (f z)) : XB (tSeq (tAsg te (gSub (tVar j) (tC (.int 3)) rSetL)) us) ρ En L R (lt ({ x with c := a } : BoxD) f) := xb_seq (xs_boxZ (n := 3) (y := { x with c := a }) h hj (by decide) (fun v => rfl) rfl) (k _ rfl)
end
section
def spU {ζ : Type} (sp : ζ → Sp) : Sp := fun vs H Q E => ∃ z, sp z vs H Q E
theorem fn_okU {ζ : Type} {P : Program} {w : World} {K : PySem.W.Frag} {mg : Str → Option Value} {base : Heap} {CX : CXT} {k : Nat} {f : Addr} {fd : FuncData} {ps : List Str} {sp : ζ → Sp} (h : ∀ z, FnOk P w K mg base CX k f fd ps (sp z)) [Nonempty ζ] : FnOk P w K mg base CX k f fd ps (spU sp) :=
  ⟨fun vs H Q E ⟨z, q⟩ => (h z).len vs H Q E q, fun A outer s H args us vs Q E hr he hb hv ⟨z, q⟩ => (h z).run A outer s H args us vs Q E hr he hb hv q⟩
variable {K : PySem.W.Frag} {ρ ρ' ρ0 ρ1 ρ2 ρ3 : Env K} {ζ ι γ α δ : Type}
theorem ev_callMZ {ds : ζ → ι → List (Slot K)} {pre : ι → Prop} {R : ζ → Ret K γ} {f : ι → γ} {tA : TA} {E : XK} {j : Nat} {s0 s s' : Slot K} {rest : List (Slot K)} (z : ζ) (x : ι) (hj0 : ρ[j]? = some s0) (m0 : s0.isM = true) (ha : EvA tA ρ ρ1 rest) (hj : ρ1[j]? = some s) (m : s.isM = true) (hx : ds z x = s :: rest) (hp : pre x)
    (hs : (R z).ls (f x) = some s') (m' : s'.isM = true) (hnl : (R z).nl (f x) = none) : EvD (tCall (spU fun z => spF (ds z) pre (R z) f) [] E (tCons (tVar j) tA)) ρ (ρ1.set j s') (R z).e ((R z).val (f x)) := fun c σ Hk H k Q q => by
  obtain ⟨v, hv, h0⟩ := k.sl j s0 hj0
  obtain ⟨p, o, rfl, _, _⟩ := Slot.okM_ref m0 h0
  refine ⟨.ref p, hv, ha c σ Hk H k _ fun vs Hk1 H1 k1 x1 hvs => ?_⟩
  obtain ⟨v', hv', h1⟩ := k1.sl j s hj
  rw [hv] at hv'; cases hv'
  refine ⟨z, x, Hk1, hp, k1.ex, by rw [List.append_nil, hx]; exact .cons h1 hvs, fun v Hk2 H2 ok => ?_⟩
  have hl : lentOf (V.ref p :: vs ++ []) (ds z x) = some p := by
    rw [hx]
    show (if s.isM = true then some p else none) = some p
    rw [if_pos m]
  rw [hl] at ok
  obtain ⟨k2, x2⟩ := k1.callM hj m m' hv ok.ex ok.k0 (fun a o h n => ok.fr a o h fun z => n (Option.some.inj z)) ok.nw ok.th (ok.lv p s' rfl hs)
  exact q v Hk2 H2 k2 (x1.trans x2) (ok.rv hnl)
/-- f(box, xs), xs a list of one's own that is lent -/
theorem ev_callML {ds : (Addr × Bool) → ι → List (Slot K)} {pre : ι → Prop} {eR : Enc K δ} {f : ι → δ × BoxD} {E : XK} {j j2 : Nat} {b : BoxD} {e : Enc K α} {as : List α} (x : ι) (hj : ρ[j]? = some (.m mBox b)) (h2 : ρ[j2]? = some (.l e as)) (hne : j ≠ j2)
    (hx : ∀ z, ds z x = [.m (mBoxZ z) b, .d (eL e) as]) (hp : pre x) [NoL eR] : EvD (tCall (spU fun z => spF (ds z) pre (retM eR (mBoxZ z)) f) [] E (tCons (tVar j) (tCons (tVar j2) tNil))) ρ (ρ.set j (.m mBox (f x).2)) eR (f x).1 := fun c σ Hk H k Q q => by
  obtain ⟨v, hv, p, o, rfl, e1, e2, v0, rfl, z, xs0, rfl, r1, r2, r3⟩ := k.sl j _ hj
  obtain ⟨v2, hv2, p2, o2, rfl, g1, g2, xs, rfl, g3, g4⟩ := k.sl j2 _ h2
  have np : p ≠ p2 := fun w => k.sep j j2 _ _ p hne hj h2 rfl rfl hv (by rw [hv2, w])
  obtain ⟨fl, r1⟩ := ZL.of r1
  have xk : Ex Hk (upd Hk p2 (.lst xs)) := Ex.new g1
  refine ⟨.ref p, hv, .ref p2, hv2, (z, fl), x, upd Hk p2 (.lst xs), hp, fun a o h => ?_, ?_, fun v Hk2 H2 ok => ?_⟩
  · by_cases w : a = p2
    · subst w; rw [upd_same] at h; rw [g2, h]
    · rw [upd_ne w] at h; exact k.ex a o h
  · rw [hx]
    refine .cons ⟨p, _, rfl, by rw [upd_ne np]; exact e1, e2, rfl, xs0, r1.mono xk, r2, r3⟩ (.cons ⟨.ref p2, rfl, p2, xs, rfl, SqL.of upd_same, g3.imp fun _ _ h => e.mono xk h, g4⟩ .nil)
  · have hl : lentOf ([V.ref p, V.ref p2] ++ []) (ds (z, fl) x) = some p := by rw [hx]; rfl
    have ok : OkR ⟨H, upd Hk p2 (.lst xs), lentOf ([V.ref p, V.ref p2] ++ []) (ds (z, fl) x)⟩ (retM eR (mBoxZ (z, fl))) (f x) v Hk2 H2 := ok
    rw [hl] at ok
    have kp : Hk2 p2 = some (.lst xs) := ok.k0 p2 _ upd_same
    have d1 : ∀ a o, Hk a = some o → del Hk2 p2 a = some o := fun a o h => by
      have ne : a ≠ p2 := fun z => by rw [z, g1] at h; cases h
      rw [del_ne ne]; exact ok.k0 a o (by show upd Hk p2 _ a = some o; rw [upd_ne ne]; exact h)
    have d2 : ∀ a o, del Hk2 p2 a = some o → a ≠ p2 ∧ Hk2 a = some o := fun a o h => by
      by_cases w : a = p2
      · subst w; rw [del_same] at h; cases h
      · exact ⟨w, by rwa [del_ne w] at h⟩
    have okl := ok.lv p (.m (mBoxZ (z, fl)) (f x).2) rfl rfl
    have okl2 : (Slot.m (mBox (K := K)) (f x).2).ok (del Hk2 p2) H2 (some (V.ref p)) := by
      obtain ⟨q, o, a1, a2, a3, rfl, ys, a4, a5, a6⟩ := okl
      refine ⟨q, _, a1, ?_, a3, _, rfl, z, ys, rfl, (ZL.drop r1 g1 a4).sq, a5, a6⟩
      by_cases w : q = p2
      · subst w; rw [del_same]
      · rw [del_ne w]; exact a2
    obtain ⟨k2, x2⟩ := k.callM (s' := .m mBox (f x).2) hj rfl rfl hv (fun a o h => ok.ex a o (d2 a o h).2) (fun a o h => d1 a o h) (fun a o h n => ok.fr a o h fun z => n (Option.some.inj z)) (fun a o h => by
      obtain ⟨ne, h⟩ := d2 a o h
      rcases ok.nw a o h with z | z
      · exact .inl (by rw [← upd_ne (H := Hk) (o := .lst xs) ne]; exact z)
      · exact .inr z) ok.th okl2
    exact q v (del Hk2 p2) H2 k2 x2 (NoL.drop (e := eR) Hk2 p2 xs v _ kp (ok.rv rfl))
end
end FL

/-! FL18: a list of lists of one's own that are appended to. -/
namespace FL
open PySem L2
section
variable {K : PySem.W.Frag} {ρ ρ' ρ1 ρ2 : Env K} {α β ν lam γ : Type} {e : Enc K α} {ta tb te ti : TE} {tt : TT} {us ts : TS}
def eRef : Enc K Addr := ⟨fun _ v a => v = .ref a, fun _ h => h⟩
def noMs (ρ : Env K) : Prop := ∀ j, isMAt ρ j = false
theorem noMs_of (h : ρ.all (fun s => !s.isM) = true) : noMs ρ := fun j => by
  unfold isMAt
  cases q : ρ[j]? with
  | none => rfl
  | some s =>
    have := List.all_eq_true.mp h s (List.mem_of_getElem? q)
    simpa using this
theorem noMs.no (n : noMs ρ) {i : Nat} {s : Slot K} (h : ρ[i]? = some s) (m : s.isM = true) : False := by
  have := n i
  rw [isM_some h, m] at this; cases this
theorem noMs.setD (n : noMs ρ) {j : Nat} {a : α} : noMs (ρ.set j (.d e a)) := fun i => isM_set (n i)
theorem Nxt.exH {σ : List (Option V)} {Hk H Hk' H' : Hp} (n : noMs ρ) (x : Nxt σ ρ ρ' Hk H Hk' H') : Ex H H' := fun a o h => x.fr a o h fun i s e m => (n.no e m).elim
theorem Nxt.nwH {σ : List (Option V)} {Hk H Hk' H' : Hp} (n : noMs ρ) (x : Nxt σ ρ ρ' Hk H Hk' H') (a : Addr) (o : HO) (h : Hk' a = some o) : Hk a = some o ∨ H a = none := by
  rcases x.nw a o h with z | z | ⟨i, s, z1, z2, _⟩
  · exact .inl z
  · exact .inr z
  · exact (n.no z1 z2).elim
structure RowsP (c : Ent) (Hk H : Hp) (p : Addr) (ps : List Addr) (xss : List (List Int)) : Prop where
  hp : H p = some (.lst (ps.map V.ref))
  nd : (p :: ps).Nodup
  un : ∀ q, q ∈ p :: ps → Hk q = none ∧ c.H0 q = none
  al : All2 (fun q xs => H q = some (.lst (xs.map V.int)) ∧ xs.length ≤ LM) ps xss
  ln : xss.length ≤ LM
def Rows (c : Ent) (Hk H : Hp) (p : Addr) (xss : List (List Int)) : Prop := ∃ ps, RowsP c Hk H p ps xss
theorem all2_mem {r : α → β → Prop} {xs : List α} {ys : List β} (h : All2 r xs ys) {x : α} (hx : x ∈ xs) : ∃ y, r x y := by
  induction h with
  | nil => cases hx
  | cons h _ ih =>
    rcases List.mem_cons.mp hx with z | z
    · subst z; exact ⟨_, h⟩
    · exact ih z
theorem RowsP.has {c : Ent} {Hk H : Hp} {p : Addr} {ps : List Addr} {xss : List (List Int)} (h : RowsP c Hk H p ps xss) (q : Addr) (hq : q ∈ p :: ps) : ∃ o, H q = some o := by
  rcases List.mem_cons.mp hq with z | z
  · subst z; exact ⟨_, h.hp⟩
  · obtain ⟨xs, h1, _⟩ := all2_mem h.al z
    exact ⟨_, h1⟩
theorem RowsP.step {c : Ent} {Hk H Hk' H' : Hp} {p : Addr} {ps : List Addr} {xss : List (List Int)} (h : RowsP c Hk H p ps xss) (x : Ex H H') (n : ∀ (a : Addr) (o : HO), Hk' a = some o → Hk a = some o ∨ H a = none) : RowsP c Hk' H' p ps xss :=
  ⟨x _ _ h.hp, h.nd, fun q hq => ⟨(by
    obtain ⟨o, ho⟩ := h.has q hq
    cases w : Hk' q with
    | none => rfl
    | some o' =>
      rcases n q o' w with z | z
      · rw [(h.un q hq).1] at z; cases z
      · rw [ho] at z; cases z), (h.un q hq).2⟩, h.al.imp fun a b z => ⟨x _ _ z.1, z.2⟩, h.ln⟩
theorem Rows.nxt {c : Ent} {σ : List (Option V)} {Hk H Hk' H' : Hp} {p : Addr} {xss : List (List Int)} (h : Rows c Hk H p xss) (n : noMs ρ) (x : Nxt σ ρ ρ' Hk H Hk' H') : Rows c Hk' H' p xss :=
  let ⟨ps, h⟩ := h
  ⟨ps, h.step (x.exH n) (x.nwH n)⟩
def XW (ts : TS) (ρ : Env K) (p : Addr) (xss : List (List Int)) (ρ' : Env K) (xss' : List (List Int)) : Prop :=
  ∀ (c : Ent) (σ : List (Option V)) (Hk H : Hp), noMs ρ → Ok c Hk H σ ρ → Rows c Hk H p xss → ∀ D : Ends, (∀ σ' Hk' H', Ok c Hk' H' σ' ρ' → Ex Hk Hk' → Rows c Hk' H' p xss' → D.nx σ' H') → ts D σ H
variable {p : Addr} {xss : List (List Int)} {E : Env K}
theorem xw_set {j : Nat} {a : α} {f : α → List (List Int)} (h : EvD te ρ ρ e a) (hj : okSet ρ j = true) (k : ∀ x, x = a → XW us (ρ.set j (.d e x)) p xss E (f x)) : XW (tSeq (tAsg te (gName j)) us) ρ p xss E (lt a f) := fun c σ Hk H n k0 r D q =>
  h c σ Hk H k0 _ fun v Hk1 H1 k1 x1 r1 => k a rfl c _ Hk1 H1 n.setD (k1.setD (n j) r1) (r.nxt n x1) D fun σ' Hk' H' k' x' r' => q σ' Hk' H' k' (x1.ex.trans x') r'
theorem xw_if {b : Bool} {r1 : List (List Int)} (h : EvT tt ρ ρ b) (h1 : b = true → XW ts ρ p xss E r1) (w : Weak ρ E) : XW (tSeq (tIfS tt ts tNext) tNext) ρ p xss E (bif b then r1 else xss) := fun c σ Hk H n k0 r D q =>
  h c σ Hk H k0 _ fun Hk1 H1 k1 x1 => by
    cases b with
    | true => rw [if_pos rfl]; exact h1 rfl c σ Hk1 H1 n k1 (r.nxt n x1) _ fun σ' Hk' H' k' x' r' => q σ' Hk' H' k' (x1.ex.trans x') r'
    | false => rw [if_neg (by decide)]; exact q σ Hk1 H1 (k1.weak w) x1.ex (r.nxt n x1)
def rowApp (xss : List (List Int)) (i x : Int) : List (List Int) := xss.set (ixI xss.length i) (at_ xss i ++ [x])
theorem al_set {H : Hp} {q : Addr} {ys : List Int} (hy : ys.length ≤ LM) : ∀ {ps : List Addr} {xss : List (List Int)} {n : Nat}, ps.Nodup → ps[n]? = some q → All2 (fun q xs => H q = some (.lst (xs.map V.int)) ∧ xs.length ≤ LM) ps xss →
    All2 (fun q' xs => (upd H q (.lst (ys.map V.int))) q' = some (.lst (xs.map V.int)) ∧ xs.length ≤ LM) ps (xss.set n ys) := by
  intro ps xss n nd hn h
  induction h generalizing n with
  | nil => simp at hn
  | @cons a b as bs h t ih =>
    obtain ⟨n1, n2⟩ := List.nodup_cons.mp nd
    cases n with
    | zero =>
      simp at hn
      subst hn
      refine .cons ⟨upd_same, hy⟩ ?_
      clear ih nd
      induction t with
      | nil => exact .nil
      | @cons a' b' as' bs' h' t' ih' =>
        have ne : a' ≠ a := fun z => n1 (by rw [z]; exact List.mem_cons_self)
        exact .cons ⟨by rw [upd_ne ne]; exact h'.1, h'.2⟩ (ih' (fun z => n1 (List.mem_cons_of_mem _ z)) (List.nodup_cons.mp n2).2)
    | succ n =>
      simp at hn
      have ne : a ≠ q := fun z => n1 (by rw [z]; exact List.mem_of_getElem? hn)
      exact .cons ⟨by rw [upd_ne ne]; exact h.1, h.2⟩ (ih n2 hn)
theorem all2_ref {H : Hp} : ∀ {ps : List Addr} {xss : List (List Int)}, All2 (fun q xs => H q = some (.lst (xs.map V.int)) ∧ xs.length ≤ LM) ps xss → All2 (fun v xs => ∃ q, v = V.ref q ∧ H q = some (.lst (xs.map V.int)) ∧ xs.length ≤ LM ∧ q ∈ ps) (ps.map V.ref) xss
  | _, _, .nil => .nil
  | _, _, .cons h t => .cons ⟨_, rfl, h.1, h.2, List.mem_cons_self⟩ ((all2_ref t).imp fun _ _ ⟨q, a, b, d, m⟩ => ⟨q, a, b, d, List.mem_cons_of_mem _ m⟩)
theorem xw_app {r : Nat} {i x : Int} (hr : ρ[r]? = some (.d eRef p)) (hi : EvD ti ρ ρ eI i) (hx : EvD te ρ ρ eI x) (hc : inIx xss.length i) (hl : (at_ xss i).length < 100000) (w : Weak ρ E) :
    XW (tSeq (tDrop (tBM K "list" rAppend (tOp (rIxL K) (tVar r) ti) (tCons te tNil))) tNext) ρ p xss E (rowApp xss i x) := fun c σ Hk H n k0 rw0 D q => by
  obtain ⟨v, hv, e1⟩ := k0.var hr
  cases (show v = .ref p from e1)
  refine ⟨.ref p, hv, hi c σ Hk H k0 _ fun y Hk1 H1 k1 x1 r1 => ?_⟩
  obtain ⟨ps, rp⟩ := rw0.nxt n x1
  have hlen : (ps.map V.ref).length = xss.length := by rw [List.length_map]; exact rp.al.len
  have hpl : ps.length = xss.length := rp.al.len
  have lt := ixI_lt hc
  have hq : ps[ixI xss.length i]? = some (ps[ixI xss.length i]'(by rw [hpl]; exact lt)) := by simp
  obtain ⟨xs, hxs, hq1, hq2⟩ := rp.al.getL hq
  have hxe : xs = at_ xss i := by
    have := at_get hc
    rw [this] at hxs; exact (Option.some.inj hxs).symm
  generalize ps[ixI xss.length i]'(by rw [hpl]; exact lt) = q0 at hq hq1
  have hat : atI (ps.map V.ref) i = some (V.ref q0) := by
    unfold atI ixN
    rw [hlen]
    unfold ixI at hq
    by_cases w : 0 ≤ i
    · rw [if_pos w] at hq ⊢
      rw [if_pos hc.2]
      show (ps.map V.ref)[i.toNat]? = _
      rw [List.getElem?_map, hq]; rfl
    · rw [if_neg w] at hq ⊢
      rw [if_pos hc.1]
      show (ps.map V.ref)[(i + xss.length).toNat]? = _
      rw [List.getElem?_map, hq]; rfl
  refine ⟨p, _, i, _, rfl, r1, SqL.of rp.hp, hat, .inl ⟨rfl, _, SqL.of hq1⟩, hx c σ Hk1 H1 k1 _ fun z Hk2 H2 k2 x2 r2 => ?_⟩
  cases (show z = .int x from r2)
  have rp2 := rp.step (x2.exH n) (x2.nwH n)
  have hq2' : H2 q0 = some (.lst (xs.map V.int)) := x2.exH n _ _ hq1
  have m0 : q0 ∈ ps := List.mem_of_getElem? hq
  have m1 : q0 ∈ p :: ps := List.mem_cons_of_mem _ m0
  refine ⟨q0, _, _, rfl, rfl, hq2', lm_lt (by rw [List.length_map, hxe]; exact hl), ?_⟩
  refine q σ Hk2 _ ((k2.updU (rp2.un q0 m1).1 (rp2.un q0 m1).2 hq2' fun i s h m => (n.no h m).elim).weak w) (x1.ex.trans x2.ex) ⟨ps, ?_⟩
  have ne : p ≠ q0 := fun z => (List.nodup_cons.mp rp2.nd).1 (by rw [z]; exact m0)
  have e9 : (xs.map V.int ++ [V.int x]) = (at_ xss i ++ [x]).map V.int := by rw [List.map_append, hxe]; rfl
  rw [e9]
  refine ⟨by rw [upd_ne ne]; exact rp2.hp, rp2.nd, rp2.un, al_set ?_ (List.nodup_cons.mp rp2.nd).2 hq rp2.al, by unfold rowApp; rw [List.length_set]; exact rp2.ln⟩
  rw [List.length_append]; show (at_ xss i).length + 1 ≤ 100000; omega
theorem all2_nils {H : Hp} : ∀ {ps : List Addr} {as : List α}, ps.length = as.length → (∀ q ∈ ps, H q = some (.lst [])) → All2 (fun q xs => H q = some (.lst (xs.map V.int)) ∧ xs.length ≤ LM) ps (as.map fun _ => ([] : List Int))
  | [], [], _, _ => .nil
  | [], _ :: _, h, _ => nomatch h
  | _ :: _, [], h, _ => nomatch h
  | p :: ps, a :: as, h, g => .cons ⟨g p List.mem_cons_self, Nat.zero_le _⟩ (all2_nils (Nat.succ.inj h) fun q hq => g q (List.mem_cons_of_mem _ hq))
theorem ifT {p q : Prop} (h : p) : if true = true then p else q := by rw [if_pos rfl]; exact h
/-- the rows made -/
theorem xw_new {wi : TI} {g : TG} {ex : Enc K α} {as : List α} {js vs : List Nat} {u : α → Env K → Env K} {r : Nat} (n : noMs ρ)
    (hi : EvI wi ρ ρ ex as) (hg : EvG g ex js u) (hj : ∀ j ∈ js, j ∈ vs) {c : Ent} {σ : List (Option V)} {Hk H : Hp} (k : Ok c Hk H σ ρ) {D : Ends}
    (q : ∀ p σ' Hk' H', Ok c Hk' H' σ' (ρ.set r (.d eRef p)) → Ex Hk Hk' → Rows c Hk' H' p (as.map fun _ => []) → D.nx σ' H') : tAsg (tLc wi g tYes (tLst tNil) vs) (gName r) D σ H :=
  hi c σ Hk H k _ fun J Hk1 H1 k1 x1 W => fun L hL => by
    have hm : noMAt ρ vs := fun j _ => n j
    have hL0 : c.H0 L = none := k1.th L hL
    refine ⟨fun i m H' => m = as.length - i ∧ i ≤ as.length ∧ ∃ Hk', Ok c Hk' H' σ ρ ∧ Ex Hk1 Hk' ∧ ∃ ps : List Addr, ps.length = i ∧ H' L = some (.lst (ps.map V.ref)) ∧ (L :: ps).Nodup ∧ (∀ q, q ∈ L :: ps → Hk' q = none ∧ c.H0 q = none) ∧ ∀ q, q ∈ ps → H' q = some (.lst []), ⟨as.length, rfl, Nat.zero_le _, Hk1, ?_⟩, ?_⟩
    · obtain ⟨k2, x2, n2⟩ := k1.newL (xs := []) hL
      refine ⟨k2, Ex.refl _, [], rfl, upd_same, by simp, fun q hq => ?_, fun q hq => by cases hq⟩
      cases List.mem_singleton.mp hq
      exact ⟨n2, hL0⟩
    · rintro i m H' ⟨rfl, hi', Hk', k', x', ps, hps, hLx, nd, un, em⟩
      by_cases lt : i < as.length
      · refine .inr ⟨W.go i H' lt (x'.trans k'.ex), fun H' => (i + 1 ≤ as.length ∧ ∃ Hk', Ok c Hk' H' σ ρ ∧ Ex Hk1 Hk' ∧ ∃ ps : List Addr, ps.length = i + 1 ∧ H' L = some (.lst (ps.map V.ref)) ∧ (L :: ps).Nodup ∧ (∀ q, q ∈ L :: ps → Hk' q = none ∧ c.H0 q = none) ∧ ∀ q, q ∈ ps → H' q = some (.lst [])), fun H'' z => ⟨as.length - (i + 1), by omega, rfl, z.1, z.2⟩, fun x H'' hy => ?_⟩
        obtain ⟨a, Hk2, ha, k2, x2, r2⟩ := W.yld i H' x H'' hy lt c σ _ Hk' k' x'
        refine hg.run c (L2.wipe σ vs) Hk2 H'' _ x a (k2.wipe hm) (fun j h => isM_wipe (hm j (hj j h))) r2 _ fun σ2 ko hl hσ => ?_
        have hw : L2.wipe σ2 vs = L2.wipe σ vs := wipe_idem hl fun i hi => hσ i fun h => hi (hj i h)
        have xh : Ex H' H'' := x2.exH n
        refine ⟨hw, ?_⟩
        unfold tYes
        refine ifT ?_
        refine ⟨by show 0 ≤ sizeLine; decide, fun P hP => ?_⟩
        have k3 : Ok c Hk2 (upd H'' P (.lst [])) σ ρ := k2.newU hP
        have hPL : L ≠ P := fun z => by
          have := xh _ _ hLx
          rw [z, hP] at this; cases this
        have hPs : ∀ q, q ∈ ps → q ≠ P := fun q hq z => by
          have := xh _ _ (em q hq)
          rw [z, hP] at this; cases this
        have unk : ∀ q, q ∈ L :: ps → Hk2 q = none := fun q hq => by
          have ho : ∃ o, H' q = some o := by
            rcases List.mem_cons.mp hq with z | z
            · subst z; exact ⟨_, hLx⟩
            · exact ⟨_, em q z⟩
          obtain ⟨o, ho⟩ := ho
          cases w : Hk2 q with
          | none => rfl
          | some o' =>
            rcases x2.nwH n q o' w with z | z
            · rw [(un q hq).1] at z; cases z
            · rw [ho] at z; cases z
        have hL3 : upd H'' P (.lst []) L = some (.lst (ps.map V.ref)) := by rw [upd_ne hPL]; exact xh _ _ hLx
        refine ⟨ps.map V.ref, hL3, lm_lt (by rw [List.length_map, hps]; exact Nat.lt_of_lt_of_le lt W.len), lt, Hk2, k3.updU (unk L List.mem_cons_self) hL0 hL3 fun j z h m => (n.no h m).elim, x'.trans x2.ex, ps ++ [P], by simp [hps], ?_, ?_, ?_, ?_⟩
        · rw [upd_same, List.map_append]; rfl
        · have : P ∉ L :: ps := fun z => by
            rcases List.mem_cons.mp z with z | z
            · exact hPL z.symm
            · exact hPs P z rfl
          have h9 : ((L :: ps) ++ [P]).Nodup := List.nodup_append.mpr ⟨nd, by simp, fun a ha b hb => by
            cases List.mem_singleton.mp hb
            intro z; exact this (by rw [← z]; exact ha)⟩
          exact h9
        · intro q hq
          have hq : q ∈ (L :: ps) ++ [P] := hq
          rcases List.mem_append.mp hq with z | z
          · exact ⟨unk q z, (un q z).2⟩
          · cases List.mem_singleton.mp z
            exact ⟨k2.ex.none hP, k2.th P hP⟩
        · intro q hq
          have qL : q ≠ L := fun z => by
            rcases List.mem_append.mp hq with w | w
            · exact (List.nodup_cons.mp nd).1 (by rw [← z]; exact w)
            · exact hPL (by rw [← z]; exact List.mem_singleton.mp w)
          rw [upd_ne qL]
          rcases List.mem_append.mp hq with w | w
          · rw [upd_ne (hPs q w)]; exact xh _ _ (em q w)
          · cases List.mem_singleton.mp w; exact upd_same
      · have e : i = as.length := by omega
        refine .inl ⟨by rw [e]; exact W.stop H' (x'.trans k'.ex), ?_⟩
        exact q L _ Hk' H' (k'.setD (n r) rfl) (x1.ex.trans x') ⟨ps, hLx, nd, un, all2_nils (hps.trans e) em, by rw [List.length_map]; exact W.len⟩
/-- the rows are given away -/
theorem Ok.rows {c : Ent} {Hk H : Hp} {σ : List (Option V)} {r : Nat} {L : List (List Int)} (n : noMs ρ) (hr : ρ[r]? = some (.d eRef p)) (k : Ok c Hk H σ ρ) (rw0 : Rows c Hk H p L) : ∃ Hk', Ok c Hk' H σ (ρ.set r (.d (eL (eL eI)) L)) ∧ Ex Hk Hk' := by
  obtain ⟨ps, rp⟩ := rw0
  obtain ⟨v, hv, e1⟩ := k.var hr
  cases (show v = .ref p from e1)
  have f : ∀ a, a ∈ p :: ps → (fun a => if a ∈ p :: ps then H a else Hk a) a = H a := fun a h => if_pos h
  have g : ∀ a, a ∉ p :: ps → (fun a => if a ∈ p :: ps then H a else Hk a) a = Hk a := fun a h => if_neg h
  generalize hK : (fun a => if a ∈ p :: ps then H a else Hk a) = Hk' at f g
  have x : Ex Hk Hk' := fun a o h => by
    by_cases m : a ∈ p :: ps
    · rw [(rp.un a m).1] at h; cases h
    · rw [g a m]; exact h
  have no : noMs (ρ.set r (.d (eL (eL eI)) L)) := n.setD
  refine ⟨Hk', ⟨fun a o h => ?_, k.k0.trans x, k.fr, fun a o h => ?_, k.th, by simp [k.len], fun i s h => ?_, fun i j s s' p' ne h h' m => (no.no h m).elim, fun i s p' h m => (no.no h m).elim, fun p' h => ?_⟩, x⟩
  · by_cases m : a ∈ p :: ps
    · rw [f a m] at h; exact h
    · rw [g a m] at h; exact k.ex _ _ h
  · by_cases m : a ∈ p :: ps
    · exact .inr (rp.un a m).2
    · rw [g a m] at h; exact k.nw _ _ h
  · by_cases w : r = i
    · subst w
      rw [List.getElem?_set_self (List.getElem?_eq_some_iff.mp hr).1] at h; cases h
      refine ⟨_, hv, .ref p, rfl, p, ps.map V.ref, rfl, SqL.of (by rw [f p List.mem_cons_self]; exact rp.hp), (all2_ref rp.al).imp fun v xs ⟨q, a, b, d, m⟩ => ?_, rp.ln⟩
      refine ⟨q, xs.map V.int, a, SqL.of (by rw [f q (List.mem_cons_of_mem _ m)]; exact b), all2_intsT, d⟩
    · rw [List.getElem?_set_ne w] at h
      obtain ⟨v', a, b⟩ := k.sl i s h
      cases m : s.isM with
      | true => exact (n.no h m).elim
      | false => exact ⟨v', a, Slot.okD m x b⟩
  · obtain ⟨_, s, a, b⟩ := k.lv p' h
    exact (n.no a b).elim
/-- rows = [[] for ..]; for ..: .. rows[i].append(x) -/
theorem xb_rows {α1 : Type} {wi wi2 : TI} {g g2 : TG} {tb : TS} {ex1 : Enc K α1} {ex : Enc K α} {as1 : List α1} {as : List α} {js vs js2 : List Nat} {u : α1 → Env K → Env K} {u2 : α → Env K → Env K} {r : Nat} {Er : List (List Int) → Env K} {f : List (List Int) → α → List (List Int)}
    {En : ν → Env K} {Ln : lam → Env K} {R : Ret K γ} {o : List (List Int) → Out ν lam γ} (E : Addr → Env K) (hn : ρ.all (fun s => !s.isM) = true)
    (hi : EvI wi ρ ρ ex1 as1) (hg : EvG g ex1 js u) (hj : ∀ j ∈ js, j ∈ vs) (hi2 : ∀ p, EvI wi2 (ρ.set r (.d eRef p)) (ρ.set r (.d eRef p)) ex as) (hw : ∀ p, Weak (ρ.set r (.d eRef p)) (E p)) (hg2 : EvG g2 ex js2 u2)
    (hE : ∀ p, (E p).all (fun s => !s.isM) = true) (hEp : ∀ p, (E p)[r]? = some (.d eRef p)) (hEr : ∀ p x, (E p).set r (.d (eL (eL eI)) x) = Er x)
    (hb : ∀ p i a t, as[i]? = some a → t = (as.take i).foldl f (as1.map fun _ => []) → XW tb (u2 a (E p)) p t (E p) (f t a))
    (hk : ∀ x, x = as.foldl f (as1.map fun _ => []) → XB us (Er x) En Ln R (o x)) : XB (tSeq (tAsg (tLc wi g tYes (tLst tNil) vs) (gName r)) (tSeq (tFor wi2 g2 tb) us)) ρ En Ln R (lt (as.foldl f (as1.map fun _ => [])) o) := fun c σ Hk H k D q => by
  have n : noMs ρ := noMs_of hn
  refine xw_new n hi hg hj k fun p σ1 Hk1 H1 k1 x1 r1 => ?_
  have n1 : noMs (ρ.set r (.d (eRef (K := K)) p)) := n.setD
  have nE : noMs (E p) := noMs_of (hE p)
  refine hi2 p c σ1 Hk1 H1 k1 _ fun J Hk2 H2 k2 x2 W => ?_
  have r2 := r1.nxt n1 x2
  refine ⟨fun i m σ' H' => m = as.length - i ∧ i ≤ as.length ∧ ∃ Hk', Ok c Hk' H' σ' (E p) ∧ Ex Hk2 Hk' ∧ Rows c Hk' H' p ((as.take i).foldl f (as1.map fun _ => [])), ⟨as.length, rfl, Nat.zero_le _, Hk2, k2.weak (hw p), Ex.refl _, r2⟩, ?_⟩
  rintro i m σ' H' ⟨rfl, hi', Hk', k', x', r'⟩
  by_cases lt : i < as.length
  · refine .inr ⟨W.go i H' lt (x'.trans k'.ex), fun σ' H' => i + 1 ≤ as.length ∧ ∃ Hk', Ok c Hk' H' σ' (E p) ∧ Ex Hk2 Hk' ∧ Rows c Hk' H' p ((as.take (i + 1)).foldl f (as1.map fun _ => [])), fun σ'' H'' n => ⟨as.length - (i + 1), by omega, rfl, n.1, n.2⟩, fun x H'' hy => ?_⟩
    obtain ⟨a, Hk3, ha, k3, x3, r3⟩ := W.yld i H' x H'' hy lt c σ' _ Hk' k' x'
    have r4 := r'.nxt nE x3
    refine hg2.run c σ' Hk3 H'' _ x a k3 (fun j _ => nE j) r3 _ fun σ2 k4 _ _ => hb p i a _ ha rfl c σ2 Hk3 H'' (fun j => hg2.nm a _ j (nE j)) k4 r4 _ fun σ3 Hk5 H5 k5 x5 r5 => ⟨lt, Hk5, k5, x'.trans (x3.ex.trans x5), ?_⟩
    rw [take_snoc ha, List.foldl_append]; exact r5
  · have e : i = as.length := by omega
    subst e
    rw [List.take_length] at r'
    obtain ⟨Hk6, k6, x6⟩ := k'.rows nE (hEp p) r'
    rw [hEr] at k6
    refine .inl ⟨W.stop H' (x'.trans k'.ex), hk _ rfl c σ' Hk6 H' k6 D (Out.fin_mono (x1.trans (x2.ex.trans (x'.trans x6))) q)⟩
end
end FL

/-! FL19: defs with defaults. -/
namespace FL
open PySem PySem.Spec L2 PyProof.Rows
structure FiAtD (P : Program) (w : World) (K : PySem.W.Frag) (mg : Str → Option Value) (base : Heap) (cls : Str) (C : Addr) (k : Nat) (ps : List Str) (sp : Sp) (dvs : List V) : Prop where
  ex : ∃ f fd, FnOk P w K mg base CX0 k f fd ps sp ∧ Mk K C f ∧ mg cls = some (.ref C) ∧ Binds K fd ps [] ∧ ∃ ds, Vals dvs ds ∧ Binds K fd ps ds
section
variable {P : Program} {w : World} {K : PySem.W.Frag} {mg : Str → Option Value} {base : Heap}
theorem fn_okD {ι γ ν : Type} {ds : ι → List (Slot K)} {pre : ι → Prop} {R : Ret K γ} {fl : ι → ν → γ} {o : ι → Out ν Empty γ} {E : ι → ν → Env K} {x qual : Str} {st : Stmt} {dvs : List V} {kws : List (Str × V)} {f : Addr} {fd : FuncData} {N ps : List Str} {k : Nat} (F : FunD K x qual (defArgs st) (defBody st) (defScope st) dvs kws f fd) (S : FnScope N ps (defScope st))
    (hlen : ∀ x, (ds x).length = ps.length) (hM : ∀ x i s, (ds x)[i + 1]? = some s → s.isM = false)
    (hfall : ∀ x t, (∀ H, R.e.rep H .non (R.val (fl x t))) ∧ R.nl (fl x t) = none ∧ ∀ s, R.ls (fl x t) = some s → (E x t)[0]? = some s)
    (hbody : ∀ (cdv : Value) (A : Around) (outer : List PySem.Env) (s : Shared) (H : Hp) (EX : XK), Room k (A.deeper (envOfC qual (defScope st) s.heap.objs.size f cdv)) → ∀ x, pre x →
      ∃ (ρ : Env K) (t : TS), ds x ++ List.replicate (N.length - ps.length) .un = ρ ∧ PSs (cxOf CX0 P w K mg base N qual (defScope st) f cdv A outer s H EX).nox (defBody st) t ∧ XB t ρ (E x) (fun z : Empty => nomatch z) R (o x)) :
    FnOk P w K mg base CX0 (k + 1) f fd ps (spF ds pre R fun x => (o x).val (fl x)) := by
  obtain ⟨oc, od, dV, kV, doc, pm, an, cdv0, ct, osl, rfl, lk, hcd, _, _⟩ := F.ex
  refine fn_of lk hcd S (fun vs H Q EX h => ?_) fun A outer s H vs Q EX hr h => ?_
  · obtain ⟨x, Hk, _, _, h3, _⟩ := h
    rw [h3.len, hlen]
  · obtain ⟨x, Hk, h1, h2, h3, h4⟩ := h
    obtain ⟨ρ, t, rfl, d, b⟩ := hbody _ A outer s H EX hr x h1
    refine ⟨t, d.nox, b _ (L2.start N vs) Hk H (start_ok (ι := ι) h2 h3 (by rw [h3.len, hlen]) (hM x)) _ ?_⟩
    have h4 : ∀ v Hk' H', OkR ⟨H, Hk, lentOf vs (ds x)⟩ R ((o x).val (fl x)) v Hk' H' → Q v H' := h4
    cases ho : o x with
    | nx t =>
      rw [ho] at h4
      exact fun σ' Hk' H' k' x' => h4 .non Hk' H' (k'.ret (hfall x t).2.1 ((hfall x t).1 _) (hfall x t).2.2)
    | ct t => exact nomatch t
    | bk t => exact nomatch t
    | rt r =>
      rw [ho] at h4
      exact fun v Hk' H' h => h4 v Hk' H' h
end
/-! list + list, of any kind -/
def rCatS (K : PySem.W.Frag) : R2 := fun x y H Q => ∃ l b xs zs, x = .ref l ∧ y = .ref b ∧ SqL K H l xs ∧ SqL K H b zs ∧ xs.length + zs.length ≤ sizeLine ∧ ∀ p, H p = none → Q (.ref p) (upd H p (.lst (xs ++ zs)))
theorem op_catS {X : Cx} : OpR X (binaryOp .Add) (rCatS X.K) := by
  intro pins s σ H x y v u Q I rx ry h
  obtain ⟨l, b, xs, zs, rfl, rfl, hH, hB, hz, q⟩ := h
  cases rx
  cases ry
  obtain ⟨its, r, ⟨⟨cls, dd, data, sl⟩, n, ho, hc, hdd, hd⟩, _⟩ := I.list hH
  obtain ⟨its2, r2, ⟨⟨cls2, dd2, data2, sl2⟩, n2, ho2, hc2, hdd2, hd2⟩, _⟩ := I.list hB
  simp only at hc hd hc2 hd2
  subst hc hd hc2 hd2
  have hz2 : its.length + its2.length ≤ sizeLine := by rw [← r.length, ← r2.length]; exact hz
  refine concat_meets ⟨_, ho, rfl⟩ ⟨_, ho2, rfl⟩ noFill_list_add seq_list_add PySem.F.slot_list_add PySem.F.entry_list_add (PySem.F.args_list_add_2 _ _) (PyProof.Rows.list_addW l b its.toArray its2.toArray n n2 dd dd2 sl sl2 (by simpa using hz2)) ⟨ho, ho2, ?_⟩
  have ea : its.toArray ++ its2.toArray = (its ++ its2).toArray := by simp
  rw [ea]
  exact ⟨.ref _, _, I.lnew (t' := s.toks) (r.append r2) (by rw [List.length_append]; omega), rfl, q _ I.fresh⟩
section
variable {K : PySem.W.Frag} {ρ ρ1 ρ2 : Env K} {α : Type} {e : Enc K α} {ta tb : TE}
theorem en_catS {as bs : List α} (ha : EvD ta ρ ρ1 (eL e) as) (hb : EvD tb ρ1 ρ2 (eL e) bs) (hl : as.length + bs.length ≤ 100000) : EvN (tOp (rCatS K) ta tb) ρ ρ2 e (as ++ bs) := fun c σ Hk H k Q q =>
  ha c σ Hk H k _ fun x Hk1 H1 k1 x1 ⟨p, xs, e1, e2, e3, _⟩ => hb c σ Hk1 H1 k1 _ fun y Hk2 H2 k2 x2 ⟨p2, ys, f1, f2, f3, _⟩ => by
    refine ⟨p, p2, xs, ys, e1, f1, ex_l (x2.ex.trans k2.ex) e2, ex_l k2.ex f2, ?_, fun l hn => ?_⟩
    · rw [e3.len, f3.len]; exact Nat.le_trans hl (by decide)
    obtain ⟨k3, x3, n3⟩ := k2.newL (xs := xs ++ ys) hn
    exact q l _ Hk2 _ k3 ((x1.trans x2).trans x3) n3 upd_same ((e3.imp fun _ _ h => e.mono x2.ex h).app f3) (by rw [List.length_append]; exact hl) ((x1.trans x2).th l hn)
theorem catSK {X : Cx} {K : PySem.W.Frag} (h : X.K = K) : OpR X (binaryOp .Add) (rCatS K) := h ▸ op_catS
end
end FL

/-! FL20: an operator of an own class. -/
namespace FL
open PySem PySem.Spec L2 PyProof.Rows
def rOwnB (C : Addr) (sp : Sp) (E : XK) : R2 := fun x y H Q => ∃ a b dx fs dy gs, x = .ref a ∧ y = .ref b ∧ H a = some (.ins C dx fs) ∧ H b = some (.ins C dy gs) ∧ sp [x, y] H Q E
theorem op_ownB {X : Cx} {CX : CXT} {op : Operator} {n : Nat} {C f : Addr} {fd : FuncData} {ps : List Str} {sp : Sp} {E : XK} (hs : PySem.W.findIn X.K (.ref C) (PySem.dunder op.info.2) = some (some (.ref f))) (hf : PySem.W.isFn X.K (.ref f) = true) (hc : PySem.W.selfFirst X.K C = true)
    (F : FnOk X.prog X.w X.K X.mg X.base CX n f fd ps sp) (hr : Room n X.A) (hb : Binds X.K fd ps []) (hx : Passes CX X E) : OpR X (binaryOp op) (rOwnB C sp E) := by
  intro pins s σ H x y v u Q I rx ry h
  obtain ⟨a, b, dx, fs, dy, gs, rfl, rfl, ha, hb', q⟩ := h
  cases (show v = Value.ref a from rx)
  cases (show u = Value.ref b from ry)
  obtain ⟨mA, J, _⟩ := ins_get I.hok ha
  obtain ⟨mB, J', _⟩ := ins_get I.hok hb'
  obtain ⟨od, J, _⟩ := J.look
  obtain ⟨od', J', _⟩ := J'.look
  obtain ⟨m, hF⟩ := I.fr
  refine PySem.W.binop_K (op := op) hF I.ok.mod.kin J J'.type hc hs hf ?_
  refine wpAny_mono (run_fn (us := [.ref a, .ref b]) (vs := [.ref a, .ref b]) F hr hb .nil hx I (.cons rfl (.cons rfl .nil)) q) (fun w s' z => ?_) fun _ _ x => x
  obtain ⟨z', H', I', rz, qz⟩ := z
  exact SlX.cmpback rz ⟨z', H', I', rz, qz⟩
section
variable {K : PySem.W.Frag} {ρ ρ' ρ0 ρ1 ρ2 ρ3 : Env K} {α β δ : Type} {ta tb : TE} {ι γ : Type} {ds : ι → List (Slot K)} {pre : ι → Prop} {R : Ret K γ} {f : ι → γ}
/-- a op b, both of the own class -/
theorem ev_ownB {EX : XK} {C : Addr} {fl : List (Str × Fld K α)} {a b : α} (x : ι) (ha : EvD ta ρ ρ1 (eObj C fl) a) (hb : EvD tb ρ1 ρ2 (eObj C fl) b) (hx : ds x = [.d (eObj C fl) a, .d (eObj C fl) b]) (hp : pre x) (hnl : R.nl (f x) = none) :
    EvD (tOp (rOwnB C (spF ds pre R f) EX) ta tb) ρ ρ2 R.e (R.val (f x)) := fun c σ Hk H k Q q =>
  ha c σ Hk H k _ fun v Hk1 H1 k1 x1 r1 => hb c σ Hk1 H1 k1 _ fun w Hk2 H2 k2 x2 r2 => by
    have r1' := (eObj C fl).mono x2.ex r1
    obtain ⟨p, dx, vs, rfl, h2, h3⟩ := id r1'
    obtain ⟨p2, dx2, vs2, rfl, g2, g3⟩ := id r2
    refine ⟨p, p2, dx, vs, dx2, vs2, rfl, rfl, k2.ex _ _ h2, k2.ex _ _ g2, x, Hk2, hp, k2.ex, ?_, fun v Hk3 H3 o => ?_⟩
    · rw [hx]; exact .cons ⟨_, rfl, r1'⟩ (.cons ⟨_, rfl, r2⟩ .nil)
    · rw [lent_none (by rw [hx]; rfl)] at o
      obtain ⟨k3, x3⟩ := k2.called o
      exact q v Hk3 H3 k3 ((x1.trans x2).trans x3) (o.rv hnl)
end
end FL

/-! FL21: four-tuples; other readings of the same values. -/
namespace FL
open PySem L2
section
variable {K : PySem.W.Frag} {ρ ρ' ρ0 ρ1 ρ2 ρ3 ρ4 : Env K} {α β δ ε : Type} {e : Enc K α} {f : Enc K β} {g : Enc K δ} {h : Enc K ε} {ta tb tc td te : TE}
def eP4 (e : Enc K α) (f : Enc K β) (g : Enc K δ) (h : Enc K ε) : Enc K (α × β × δ × ε) :=
  ⟨fun H v t => ∃ p x y z w, v = .ref p ∧ SqT K H p [x, y, z, w] ∧ e.rep H x t.1 ∧ f.rep H y t.2.1 ∧ g.rep H z t.2.2.1 ∧ h.rep H w t.2.2.2,
   fun x ⟨p, u, v, w, y, h1, h2, h3, h4, h5, h6⟩ => ⟨p, u, v, w, y, h1, ex_t x h2, e.mono x h3, f.mono x h4, g.mono x h5, h.mono x h6⟩⟩
theorem ev_quad {a : α} {b : β} {d : δ} {i : ε} (ha : EvD ta ρ ρ1 e a) (hb : EvD tb ρ1 ρ2 f b) (hd : EvD tc ρ2 ρ3 g d) (he : EvD td ρ3 ρ4 h i) : EvD (tTup (tCons ta (tCons tb (tCons tc (tCons td tNil))))) ρ ρ4 (eP4 e f g h) (a, b, d, i) := fun c σ Hk H k Q q =>
  ha c σ Hk H k _ fun x Hk1 H1 k1 x1 r1 => hb c σ Hk1 H1 k1 _ fun y Hk2 H2 k2 x2 r2 => hd c σ Hk2 H2 k2 _ fun z Hk3 H3 k3 x3 r3 => he c σ Hk3 H3 k3 _ fun w Hk4 H4 k4 x4 r4 => ⟨by show 4 ≤ sizeLine; decide, fun p hp =>
    let ⟨k5, x5⟩ := k4.new (o := .tup [x, y, z, w]) hp
    q _ _ _ k5 ((((x1.trans x2).trans x3).trans x4).trans x5) ⟨p, x, y, z, w, rfl, SqT.of upd_same, e.mono (((x2.trans x3).trans x4).trans x5).ex r1, f.mono ((x3.trans x4).trans x5).ex r2, g.mono (x4.trans x5).ex r3, h.mono x5.ex r4⟩⟩
theorem ev_4a {t : α × β × δ × ε} (ha : EvD ta ρ ρ1 (eP4 e f g h) t) : EvD (tOp (rIxT K) ta (tC (.int 0))) ρ ρ1 e t.1 :=
  fun c σ Hk H k Q q => ha c σ Hk H k _ fun v Hk1 H1 k1 x1 ⟨p, x, y, z, w, e1, e2, e3, _, _, _⟩ => ⟨p, [x, y, z, w], 0, x, e1, rfl, ex_t k1.ex e2, rfl, q _ Hk1 H1 k1 x1 e3⟩
theorem ev_4b {t : α × β × δ × ε} (ha : EvD ta ρ ρ1 (eP4 e f g h) t) : EvD (tOp (rIxT K) ta (tC (.int 1))) ρ ρ1 f t.2.1 :=
  fun c σ Hk H k Q q => ha c σ Hk H k _ fun v Hk1 H1 k1 x1 ⟨p, x, y, z, w, e1, e2, _, e3, _, _⟩ => ⟨p, [x, y, z, w], 1, y, e1, rfl, ex_t k1.ex e2, rfl, q _ Hk1 H1 k1 x1 e3⟩
theorem ev_4c {t : α × β × δ × ε} (ha : EvD ta ρ ρ1 (eP4 e f g h) t) : EvD (tOp (rIxT K) ta (tC (.int 2))) ρ ρ1 g t.2.2.1 :=
  fun c σ Hk H k Q q => ha c σ Hk H k _ fun v Hk1 H1 k1 x1 ⟨p, x, y, z, w, e1, e2, _, _, e3, _⟩ => ⟨p, [x, y, z, w], 2, z, e1, rfl, ex_t k1.ex e2, rfl, q _ Hk1 H1 k1 x1 e3⟩
theorem ev_4d {t : α × β × δ × ε} (ha : EvD ta ρ ρ1 (eP4 e f g h) t) : EvD (tOp (rIxT K) ta (tC (.int 3))) ρ ρ1 h t.2.2.2 :=
  fun c σ Hk H k Q q => ha c σ Hk H k _ fun v Hk1 H1 k1 x1 ⟨p, x, y, z, w, e1, e2, _, _, _, e3⟩ => ⟨p, [x, y, z, w], 3, w, e1, rfl, ex_t k1.ex e2, rfl, q _ Hk1 H1 k1 x1 e3⟩
instance : NN (eP3 e f g) := ⟨fun _ _ ⟨_, _, _, _, h, _⟩ => nomatch h⟩
instance : NN (eP4 e f g h) := ⟨fun _ _ ⟨_, _, _, _, _, h, _⟩ => nomatch h⟩
instance : TyE (eP4 e f g h) "tuple" := ⟨fun H v a ⟨p, x, y, z, w, h1, h2, _⟩ => by subst h1; exact tyx_t h2⟩
theorem ev_lenP4 {t : α × β × δ × ε} (ha : EvD ta ρ ρ1 (eP4 e f g h) t) : EvD (tCB (rLenS K) (tCons ta tNil)) ρ ρ1 eI (4 : Int) :=
  ev_cb ha fun c σ Hk H x k ⟨p, x1, x2, x3, x4, e1, e2, _⟩ Q q => ⟨p, [x1, x2, x3, x4], by rw [e1], .inr (ex_t k.ex e2), q _ Hk H k Nxt.refl rfl⟩
theorem ev_neB {a b : Bool} (ha : EvD ta ρ ρ1 eB a) (hb : EvD tb ρ1 ρ2 eB b) : EvD (tOp rNe ta tb) ρ ρ2 eB (!decide (a = b)) :=
  ev_bin ha hb fun c σ Hk H x y k r1 r2 Q q => by
    have r1 : x = .bl a := r1
    have r2 : y = .bl b := r2
    subst r1; subst r2
    refine ⟨rfl, q _ Hk H k Nxt.refl ?_⟩
    show V.bl _ = V.bl _
    congr 2; simp
/-- the same values, read by another encoding -/
class Cv {α β : Type} (e : Enc K α) (f : Enc K β) (u : α → β) : Prop where
  cv : ∀ (H : Hp) (v : V) (a : α), e.rep H v a → f.rep H v (u a)
theorem ev_cv {u : α → β} [Cv e f u] {a : α} (ha : EvD te ρ ρ' e a) : EvD te ρ ρ' f (u a) := fun c σ Hk H k Q q => ha c σ Hk H k Q fun v Hk1 H1 k1 x1 r1 => q v Hk1 H1 k1 x1 (Cv.cv (e := e) Hk1 v a r1)
theorem all2_cv {u : α → β} [Cv e f u] {H : Hp} : ∀ {xs : List V} {as : List α}, All2 (e.rep H) xs as → All2 (f.rep H) xs (as.map u)
  | _, _, .nil => .nil
  | _, _, .cons h t => .cons (Cv.cv (e := e) H _ _ h) (all2_cv t)
instance : Cv (eI (K := K)) (eO eI) some := ⟨fun _ _ _ h => h⟩
instance : Cv (eI (K := K)) (eO (eNum g)) (fun n => some (FL.Num.i n)) := ⟨fun _ _ _ h => h⟩
instance {u : α → β} [Cv e f u] : Cv (eL e) (eL f) (List.map u) := ⟨fun H v as ⟨p, xs, h1, h2, h3, h4⟩ => ⟨p, xs, h1, h2, all2_cv h3, by rw [List.length_map]; exact h4⟩⟩
instance {u : α → β} [Cv e f u] : Cv (eL e) (eQ f) (List.map u) := ⟨fun H v as ⟨p, xs, h1, h2, h3, h4⟩ => .inl ⟨p, xs, h1, h2, all2_cv h3, by rw [List.length_map]; exact h4⟩⟩
end
end FL

/-! FL22: data of any kind. -/
namespace FL
open PySem PySem.Spec L2 PyProof.Rows
/-- a value of any kind; obj: an instance of one own class -/
inductive Py (F : Type) : Type
  | non
  | bl (b : Bool)
  | int (i : Int)
  | str (s : Str)
  | obj (x : F)
  | lst (l : List (Py F))
  | tup (l : List (Py F))
namespace Py
variable {F : Type}
instance : Inhabited (Py F) := ⟨.non⟩
def sel (d : Py F) (n b i s o l t : Bool) : Bool := match d with
  | .non => n
  | .bl _ => b
  | .int _ => i
  | .str _ => s
  | .obj _ => o
  | .lst _ => l
  | .tup _ => t
def isN (d : Py F) : Bool := d.sel true false false false false false false
def isB (d : Py F) : Bool := d.sel false true false false false false false
def isI (d : Py F) : Bool := d.sel false false true false false false false
def isS (d : Py F) : Bool := d.sel false false false true false false false
def isO (d : Py F) : Bool := d.sel false false false false true false false
def isL (d : Py F) : Bool := d.sel false false false false false true false
def isT (d : Py F) : Bool := d.sel false false false false false false true
def isQ (d : Py F) : Bool := d.sel false false false false false true true
def b (d : Py F) : Bool := match d with
  | .bl b => b
  | _ => false
def i (d : Py F) : Int := match d with
  | .int i => i
  | _ => 0
def s (d : Py F) : Str := match d with
  | .str s => s
  | _ => ""
def o [Inhabited F] (d : Py F) : F := match d with
  | .obj x => x
  | _ => default
def q (d : Py F) : List (Py F) := match d with
  | .lst l => l
  | .tup l => l
  | _ => []
/-- a pair -/
def isP (d : Py F) : Bool := match d with
  | .tup [_, _] => true
  | _ => false
def p (d : Py F) : Py F × Py F := match d with
  | .tup [a, b] => (a, b)
  | _ => (.non, .non)
end Py
/-- a slice -/
def cutL {α : Type} (xs : List α) (lo hi : Option Int) : List α := (xs.drop (HT.sIx xs.length 0 lo)).take (HT.sIx xs.length xs.length hi - HT.sIx xs.length 0 lo)
def Py.cut {F : Type} (d : Py F) (lo hi : Option Int) : Py F := match d with
  | .lst l => .lst (cutL l lo hi)
  | .tup l => .tup (cutL l lo hi)
  | d => d
section
variable {K : PySem.W.Frag} {ρ ρ' ρ0 ρ1 ρ2 ρ3 : Env K} {α β δ F : Type} {e : Enc K F} {ta tb te tc : TE}
mutual
def repD (e : Enc K F) (H : Hp) : Py F → V → Prop
  | .non, v => v = .non
  | .bl b, v => v = .bl b
  | .int i, v => v = .int i
  | .str s, v => v = .str s
  | .obj x, v => e.rep H v x
  | .lst l, v => ∃ p xs, v = .ref p ∧ SqL K H p xs ∧ repDs e H l xs ∧ l.length ≤ LM
  | .tup l, v => ∃ p xs, v = .ref p ∧ SqT K H p xs ∧ repDs e H l xs ∧ l.length ≤ LM
def repDs (e : Enc K F) (H : Hp) : List (Py F) → List V → Prop
  | [], xs => xs = []
  | d :: ds, xs => ∃ x ys, xs = x :: ys ∧ repD e H d x ∧ repDs e H ds ys
end
theorem repDs_iff {H : Hp} : ∀ {l : List (Py F)} {xs : List V}, repDs e H l xs ↔ All2 (fun v d => repD e H d v) xs l
  | [], xs => by
    unfold repDs
    exact ⟨fun h => by subst h; exact .nil, fun h => by cases h; rfl⟩
  | d :: ds, xs => by
    unfold repDs
    constructor
    · rintro ⟨x, ys, rfl, h1, h2⟩
      exact .cons h1 (repDs_iff.mp h2)
    · intro h
      cases h with
      | cons h1 h2 => exact ⟨_, _, rfl, h1, repDs_iff.mpr h2⟩
mutual
theorem repD_mono {H H' : Hp} (x : Ex H H') : ∀ {d : Py F} {v : V}, repD e H d v → repD e H' d v
  | .non, v, h => by unfold repD at h ⊢; exact h
  | .bl b, v, h => by unfold repD at h ⊢; exact h
  | .int i, v, h => by unfold repD at h ⊢; exact h
  | .str s, v, h => by unfold repD at h ⊢; exact h
  | .obj y, v, h => by unfold repD at h ⊢; exact e.mono x h
  | .lst l, v, h => by
    unfold repD at h ⊢
    obtain ⟨p, xs, h1, h2, h3, h4⟩ := h
    exact ⟨p, xs, h1, ex_l x h2, repDs_mono x h3, h4⟩
  | .tup l, v, h => by
    unfold repD at h ⊢
    obtain ⟨p, xs, h1, h2, h3, h4⟩ := h
    exact ⟨p, xs, h1, ex_t x h2, repDs_mono x h3, h4⟩
theorem repDs_mono {H H' : Hp} (x : Ex H H') : ∀ {l : List (Py F)} {xs : List V}, repDs e H l xs → repDs e H' l xs
  | [], xs, h => by unfold repDs at h ⊢; exact h
  | d :: ds, xs, h => by
    unfold repDs at h ⊢
    obtain ⟨y, ys, h1, h2, h3⟩ := h
    exact ⟨y, ys, h1, repD_mono x h2, repDs_mono x h3⟩
end
def eD (e : Enc K F) : Enc K (Py F) := ⟨fun H v d => repD e H d v, fun x h => repD_mono x h⟩
theorem rep_non {H : Hp} {v : V} : (eD e).rep H v .non ↔ v = .non := by show repD e H .non v ↔ _; unfold repD; exact Iff.rfl
theorem rep_bl {H : Hp} {v : V} {b : Bool} : (eD e).rep H v (.bl b) ↔ v = .bl b := by show repD e H (.bl b) v ↔ _; unfold repD; exact Iff.rfl
theorem rep_int {H : Hp} {v : V} {i : Int} : (eD e).rep H v (.int i) ↔ v = .int i := by show repD e H (.int i) v ↔ _; unfold repD; exact Iff.rfl
theorem rep_str {H : Hp} {v : V} {s : Str} : (eD e).rep H v (.str s) ↔ v = .str s := by show repD e H (.str s) v ↔ _; unfold repD; exact Iff.rfl
theorem rep_obj {H : Hp} {v : V} {x : F} : (eD e).rep H v (.obj x) ↔ e.rep H v x := by show repD e H (.obj x) v ↔ _; unfold repD; exact Iff.rfl
theorem rep_lst {H : Hp} {v : V} {l : List (Py F)} : (eD e).rep H v (.lst l) ↔ (eL (eD e)).rep H v l := by
  show repD e H (.lst l) v ↔ _
  unfold repD
  constructor
  · rintro ⟨p, xs, h1, h2, h3, h4⟩; exact ⟨p, xs, h1, h2, repDs_iff.mp h3, h4⟩
  · rintro ⟨p, xs, h1, h2, h3, h4⟩; exact ⟨p, xs, h1, h2, repDs_iff.mpr h3, h4⟩
theorem rep_tup {H : Hp} {v : V} {l : List (Py F)} : (eD e).rep H v (.tup l) ↔ (eT (eD e)).rep H v l := by
  show repD e H (.tup l) v ↔ _
  unfold repD
  constructor
  · rintro ⟨p, xs, h1, h2, h3, h4⟩; exact ⟨p, xs, h1, h2, repDs_iff.mp h3, h4⟩
  · rintro ⟨p, xs, h1, h2, h3, h4⟩; exact ⟨p, xs, h1, h2, repDs_iff.mpr h3, h4⟩
theorem ev_rep {f : Enc K α} {g : Enc K β} {a : α} {b : β} (h : EvD te ρ ρ' f a) (i : ∀ H v, f.rep H v a → g.rep H v b) : EvD te ρ ρ' g b := fun c σ Hk H k Q q => h c σ Hk H k Q fun v Hk1 H1 k1 x1 r1 => q v Hk1 H1 k1 x1 (i _ _ r1)
/-! into data of any kind -/
instance : Cv (eI (K := K)) (eD e) Py.int := ⟨fun _ _ _ h => rep_int.mpr h⟩
instance : Cv (eB (K := K)) (eD e) Py.bl := ⟨fun _ _ _ h => rep_bl.mpr h⟩
instance : Cv (eS (K := K)) (eD e) Py.str := ⟨fun _ _ _ h => rep_str.mpr h⟩
instance : Cv (eN (K := K)) (eD e) (fun _ => Py.non) := ⟨fun _ _ _ h => rep_non.mpr h⟩
instance : Cv e (eD e) Py.obj := ⟨fun _ _ _ h => rep_obj.mpr h⟩
instance : Cv (eL (eD e)) (eD e) Py.lst := ⟨fun _ _ _ h => rep_lst.mpr h⟩
instance : Cv (eT (eD e)) (eD e) Py.tup := ⟨fun _ _ _ h => rep_tup.mpr h⟩
def lstOf {F : Type} (u : α → Py F) (l : List α) : Py F := .lst (l.map u)
def tupOf {F : Type} (u : α → Py F) (l : List α) : Py F := .tup (l.map u)
def pairOf {F : Type} (u : α → Py F) (w : β → Py F) (p : α × β) : Py F := .tup [u p.1, w p.2]
def optOf {F : Type} (u : α → Py F) (o : Option α) : Py F := match o with
  | none => .non
  | some a => u a
def numOf {F : Type} (x : Num F) : Py F := match x with
  | .i n => .int n
  | .f y => .obj y
instance cv_lstOf {f : Enc K α} {u : α → Py F} [Cv f (eD e) u] : Cv (eL f) (eD e) (lstOf u) := ⟨fun H v as ⟨p, xs, h1, h2, h3, h4⟩ => rep_lst.mpr ⟨p, xs, h1, h2, all2_cv h3, by rw [List.length_map]; exact h4⟩⟩
instance cv_tupOf {f : Enc K α} {u : α → Py F} [Cv f (eD e) u] : Cv (eT f) (eD e) (tupOf u) := ⟨fun H v as ⟨p, xs, h1, h2, h3, h4⟩ => rep_tup.mpr ⟨p, xs, h1, h2, all2_cv h3, by rw [List.length_map]; exact h4⟩⟩
instance cv_pairOf {f : Enc K α} {g : Enc K β} {u : α → Py F} {w : β → Py F} [Cv f (eD e) u] [Cv g (eD e) w] : Cv (eP f g) (eD e) (pairOf u w) := ⟨fun H v p ⟨q, x, y, h1, h2, h3, h4⟩ =>
  rep_tup.mpr ⟨q, [x, y], h1, h2, .cons (Cv.cv (e := f) H _ _ h3) (.cons (Cv.cv (e := g) H _ _ h4) .nil), by show 2 ≤ LM; decide⟩⟩
instance cv_optOf {f : Enc K α} {u : α → Py F} [Cv f (eD e) u] : Cv (eO f) (eD e) (optOf u) := ⟨fun H v o h => by
  cases o with
  | none => exact rep_non.mpr h
  | some a => exact Cv.cv (e := f) H v a h⟩
instance cv_numOf : Cv (eNum e) (eD e) numOf := ⟨fun H v x h => by
  cases x with
  | i n => exact rep_int.mpr h
  | f y => exact rep_obj.mpr h⟩
/-! out of it -/
theorem ev_dI {d : Py F} (h : EvD te ρ ρ' (eD e) d) (hs : d.isI = true) : EvD te ρ ρ' eI d.i := by
  cases d <;> first | exact ev_rep h fun _ _ r => rep_int.mp r | cases hs
theorem ev_dB {d : Py F} (h : EvD te ρ ρ' (eD e) d) (hs : d.isB = true) : EvD te ρ ρ' eB d.b := by
  cases d <;> first | exact ev_rep h fun _ _ r => rep_bl.mp r | cases hs
theorem ev_dS {d : Py F} (h : EvD te ρ ρ' (eD e) d) (hs : d.isS = true) : EvD te ρ ρ' eS d.s := by
  cases d <;> first | exact ev_rep h fun _ _ r => rep_str.mp r | cases hs
theorem ev_dO [Inhabited F] {d : Py F} (h : EvD te ρ ρ' (eD e) d) (hs : d.isO = true) : EvD te ρ ρ' e d.o := by
  cases d <;> first | exact ev_rep h fun _ _ r => rep_obj.mp r | cases hs
theorem ev_dQ {d : Py F} (h : EvD te ρ ρ' (eD e) d) (hs : d.isQ = true) : EvD te ρ ρ' (eQ (eD e)) d.q := by
  cases d <;> first | exact ev_rep h fun _ _ r => .inl (rep_lst.mp r) | exact ev_rep h fun _ _ r => .inr (rep_tup.mp r) | cases hs
theorem ev_dT {d : Py F} (h : EvD te ρ ρ' (eD e) d) (hs : d.isT = true) : EvD te ρ ρ' (eT (eD e)) d.q := by
  cases d <;> first | exact ev_rep h fun _ _ r => rep_tup.mp r | cases hs
theorem ev_dL {d : Py F} (h : EvD te ρ ρ' (eD e) d) (hs : d.isL = true) : EvD te ρ ρ' (eL (eD e)) d.q := by
  cases d <;> first | exact ev_rep h fun _ _ r => rep_lst.mp r | cases hs
theorem rep_pair {H : Hp} {v : V} {d : Py F} (h : (eD e).rep H v d) (hs : d.isP = true) : (eP (eD e) (eD e)).rep H v d.p := by
  match d, hs, h with
  | .tup [a, b], _, h =>
    obtain ⟨p, xs, h1, h2, h3, _⟩ := rep_tup.mp h
    cases h3 with
    | cons r1 h3 =>
      cases h3 with
      | cons r2 h3 => cases h3; exact ⟨p, _, _, h1, h2, r1, r2⟩
theorem ev_dP {d : Py F} (h : EvD te ρ ρ' (eD e) d) (hs : d.isP = true) : EvD te ρ ρ' (eP (eD e) (eD e)) d.p := ev_rep h fun _ _ r => rep_pair r hs
/-- what is walked, each item read in another way -/
theorem ei_map {wi : TI} {f : Enc K α} {g : Enc K β} {u : α → β} {as : List α} (h : EvI wi ρ ρ' f as) (i : ∀ a ∈ as, ∀ H v, f.rep H v a → g.rep H v (u a)) : EvI wi ρ ρ' g (as.map u) := fun c σ Hk H k R q =>
  h c σ Hk H k R fun J Hk1 H1 k1 x1 W => q J Hk1 H1 k1 x1 ⟨by rw [List.length_map]; exact W.len, fun H2 y => by rw [List.length_map]; exact W.stop H2 y, fun j H2 hj y => W.go j H2 (by rw [List.length_map] at hj; exact hj) y, fun j H2 x H3 hy hj c2 σ2 ρ2 Hk2 k2 y => by
    obtain ⟨a, Hk3, ha, k3, x3, r3⟩ := W.yld j H2 x H3 hy (by rw [List.length_map] at hj; exact hj) c2 σ2 ρ2 Hk2 k2 y
    exact ⟨u a, Hk3, by rw [List.getElem?_map, ha]; rfl, k3, x3, i a (List.mem_of_getElem? ha) _ _ r3⟩⟩
theorem ei_dP {wi : TI} {as : List (Py F)} (h : EvI wi ρ ρ' (eD e) as) (i : ∀ a ∈ as, a.isP = true) : EvI wi ρ ρ' (eP (eD e) (eD e)) (as.map Py.p) := ei_map h fun a ha _ _ r => rep_pair r (i a ha)
/-! is None, isinstance, slices -/
theorem ev_isD {d : Py F} [NN e] (h : EvD ta ρ ρ1 (eD e) d) (hb : tb = tC .non) : EvD (tOp (fun x y H Q => y = .non ∧ Q (.bl (decide (x = .non))) H) ta tb) ρ ρ1 eB d.isN := by
  subst hb
  refine fun c σ Hk H k Q q => h c σ Hk H k _ fun v Hk1 H1 k1 x1 r1 => ⟨rfl, q _ Hk1 H1 k1 x1 ?_⟩
  show V.bl _ = V.bl _
  congr 1
  cases d with
  | non => rw [rep_non.mp r1]; rfl
  | bl b => rw [rep_bl.mp r1]; rfl
  | int b => rw [rep_int.mp r1]; rfl
  | str b => rw [rep_str.mp r1]; rfl
  | obj b =>
    have := rep_obj.mp r1
    refine decide_eq_false fun z => ?_
    subst z
    exact NN.nn (e := e) _ _ this
  | lst b => obtain ⟨p, xs, h1, _⟩ := rep_lst.mp r1; rw [h1]; rfl
  | tup b => obtain ⟨p, xs, h1, _⟩ := rep_tup.mp r1; rw [h1]; rfl
theorem ev_notD {d : Py F} [NN e] (h : EvD ta ρ ρ1 (eD e) d) (hb : tb = tC .non) : EvD (tOp (fun x y H Q => y = .non ∧ Q (.bl (!decide (x = .non))) H) ta tb) ρ ρ1 eB (!d.isN) := by
  subst hb
  refine fun c σ Hk H k Q q => h c σ Hk H k _ fun v Hk1 H1 k1 x1 r1 => ⟨rfl, q _ Hk1 H1 k1 x1 ?_⟩
  show V.bl _ = V.bl _
  congr 2
  cases d with
  | non => rw [rep_non.mp r1]; rfl
  | bl b => rw [rep_bl.mp r1]; rfl
  | int b => rw [rep_int.mp r1]; rfl
  | str b => rw [rep_str.mp r1]; rfl
  | obj b =>
    have := rep_obj.mp r1
    refine decide_eq_false fun z => ?_
    subst z
    exact NN.nn (e := e) _ _ this
  | lst b => obtain ⟨p, xs, h1, _⟩ := rep_lst.mp r1; rw [h1]; rfl
  | tup b => obtain ⟨p, xs, h1, _⟩ := rep_tup.mp r1; rw [h1]; rfl
end
section
variable {K : PySem.W.Frag} {ρ ρ' ρ0 ρ1 ρ2 ρ3 : Env K} {α β δ F : Type} {C : Addr} {fl : List (Str × Fld K F)} {ta tb te tc : TE}
/-- the type of a value of any kind -/
def tyD {F : Type} (C : Addr) (d : Py F) : Value := match d with
  | .non => .type "NoneType"
  | .bl _ => .type "bool"
  | .int _ => .type "int"
  | .str _ => .type "str"
  | .obj _ => .ref C
  | .lst _ => .type "list"
  | .tup _ => .type "tuple"
theorem ty_D (I : InsF K C) {H H' : Hp} (x : Ex H H') {v : V} {d : Py F} (r0 : (eD (eObj C fl)).rep H v d) : TyX K H' v (tyD C d) := by
  have r := (eD (eObj C fl)).mono x r0
  cases d with
  | non => rw [rep_non.mp r]; exact .base .non
  | bl b => rw [rep_bl.mp r]; exact .base (.bl b)
  | int b => rw [rep_int.mp r]; exact .base (.int b)
  | str b => rw [rep_str.mp r]; exact .base (.str b)
  | obj b =>
    obtain ⟨p, dx, vs, h1, h2, _⟩ := rep_obj.mp r
    subst h1
    exact I.ty h2
  | lst b => obtain ⟨p, xs, h1, h2, _⟩ := rep_lst.mp r; rw [h1]; exact tyx_l h2
  | tup b => obtain ⟨p, xs, h1, h2, _⟩ := rep_tup.mp r; rw [h1]; exact tyx_t h2
theorem ev_isiD {d : Py F} {c : V} {u : Value} {bn bb bi bs bo bl bt : Bool} (I : InsF K C) (h : EvD te ρ ρ1 (eD (eObj C fl)) d) (k : ClsV c u) (hn : PySem.W.kitOne K (.type "NoneType") u = some bn) (hb : PySem.W.kitOne K (.type "bool") u = some bb)
    (hi : PySem.W.kitOne K (.type "int") u = some bi) (hs : PySem.W.kitOne K (.type "str") u = some bs) (ho : PySem.W.kitOne K (.ref C) u = some bo) (hl : PySem.W.kitOne K (.type "list") u = some bl) (ht : PySem.W.kitOne K (.type "tuple") u = some bt) :
    EvD (tCB (rIsi K) (tCons te (tCons (tC c) tNil))) ρ ρ1 eB (d.sel bn bb bi bs bo bl bt) := fun cc σ Hk H kk Q q =>
  h cc σ Hk H kk _ fun v Hk1 H1 k1 x1 r1 => by
    refine ⟨v, c, tyD C d, u, d.sel bn bb bi bs bo bl bt, rfl, k, ty_D I k1.ex r1, ?_, q _ Hk1 H1 k1 x1 rfl⟩
    cases d <;> assumption
theorem isT_of {v : V} {H : Hp} {tp : Addr} {Q : VK} {t : Value} {n1 n2 : String} {b1 b2 : Bool} (ty : TyX K H v t) (ht : H tp = some (.tup [.ty n1, .ty n2])) (h1 : PySem.W.kitOne K t (.type n1) = some b1) (h2 : PySem.W.kitOne K t (.type n2) = some b2) (q : Q (.bl (b1 || b2)) H) : rIsiT K [v, .ref tp] H Q := by
  refine ⟨v, tp, [.ty n1, .ty n2], t, [.type n1, .type n2], b1 || b2, rfl, ht, .cons (.ty n1) (.cons (.ty n2) .nil), ty, ?_, q⟩
  cases b1 with
  | true => exact kitAny_cons h1 (fun z => nomatch z) fun _ => rfl
  | false =>
    refine kitAny_cons h1 (fun _ => ?_) fun z => nomatch z
    cases b2 with
    | true => exact kitAny_cons h2 (fun z => nomatch z) fun _ => rfl
    | false => exact kitAny_cons h2 (fun _ => rfl) fun z => nomatch z
/-- isinstance(x, (list, tuple)) -/
theorem ev_isDQ {d : Py F} (I : InsF K C) (h : EvD te ρ ρ1 (eD (eObj C fl)) d) (c1 : PySem.W.kitOne K (.ref C) (.type "list") = some false) (c2 : PySem.W.kitOne K (.ref C) (.type "tuple") = some false) :
    EvD (tCB (rIsiT K) (tCons te (tCons (tTup (tCons (tC (.ty "list")) (tCons (tC (.ty "tuple")) tNil))) tNil))) ρ ρ1 eB d.isQ := fun c σ Hk H k Q q =>
  h c σ Hk H k _ fun v Hk1 H1 k1 x1 r1 => ⟨by show 2 ≤ sizeLine; decide, fun p hp => by
    obtain ⟨k2, x2⟩ := k1.new (o := .tup [.ty "list", .ty "tuple"]) hp
    have q2 : Q (.bl d.isQ) (upd H1 p (.tup [.ty "list", .ty "tuple"])) := q _ _ _ k2 (x1.trans x2) rfl
    have ty := ty_D I (x2.ex.trans k2.ex) r1
    cases d with
    | non => exact isT_of (b1 := false) (b2 := false) ty upd_same (kit_ty (by decide +kernel)) (kit_ty (by decide +kernel)) q2
    | bl b => exact isT_of (b1 := false) (b2 := false) ty upd_same (kit_ty (by decide +kernel)) (kit_ty (by decide +kernel)) q2
    | int b => exact isT_of (b1 := false) (b2 := false) ty upd_same (kit_ty (by decide +kernel)) (kit_ty (by decide +kernel)) q2
    | str b => exact isT_of (b1 := false) (b2 := false) ty upd_same (kit_ty (by decide +kernel)) (kit_ty (by decide +kernel)) q2
    | obj b => exact isT_of (b1 := false) (b2 := false) ty upd_same c1 c2 q2
    | lst b => exact isT_of (b1 := true) (b2 := false) ty upd_same (kit_ty (by decide +kernel)) (kit_ty (by decide +kernel)) q2
    | tup b => exact isT_of (b1 := false) (b2 := true) ty upd_same (kit_ty (by decide +kernel)) (kit_ty (by decide +kernel)) q2⟩
end
section
variable {K : PySem.W.Frag} {ρ ρ' ρ0 ρ1 ρ2 ρ3 : Env K} {α F : Type} {e : Enc K F} {f : Enc K α} {ta tb te tc : TE} {tl th : TO}
/-- a slice's part -/
def EvO (t : TO) (ρ ρ' : Env K) (o : Option Int) : Prop := ∀ (c : Ent) (σ : L2.St) (Hk H : Hp), Ok c Hk H σ ρ → ∀ Q : Option Int → Hp → Prop, (∀ Hk' H', Ok c Hk' H' σ ρ' → Nxt σ ρ ρ' Hk H Hk' H' → Q o H') → t σ H Q
theorem eo_none : EvO tNoPart ρ ρ none := fun c σ Hk H k Q q => q Hk H k Nxt.refl
theorem eo_some {i : Int} (h : EvD te ρ ρ1 eI i) : EvO (tPart te) ρ ρ1 (some i) := fun c σ Hk H k Q q => h c σ Hk H k _ fun v Hk1 H1 k1 x1 r1 => ⟨i, r1, q Hk1 H1 k1 x1⟩
theorem all2_cut {r : V → α → Prop} {xs : List V} {as : List α} (h : All2 r xs as) (lo hi : Option Int) : All2 r (cutV xs lo hi) (cutL as lo hi) := by
  unfold cutV cutL
  rw [h.len]
  exact (h.drop _).take _
theorem cutL_len {as : List α} {lo hi : Option Int} : (cutL as lo hi).length ≤ as.length := by
  unfold cutL
  rw [List.length_take, List.length_drop]; omega
theorem cutL_all {as : List α} {lo hi : Option Int} (h : HT.sIx as.length 0 lo = 0 ∧ HT.sIx as.length as.length hi = as.length) : cutL as lo hi = as := by
  unfold cutL
  rw [h.1, h.2]; simp
/-- of a list or a tuple -/
def rSlQ (K : PySem.W.Frag) : V → Option Int → Option Int → Hp → VK → Prop := fun x lo hi H Q => rSlL K x lo hi H Q ∨ rSlA K x lo hi H Q
theorem sl_seq {X : Cx} : SlR X (rSlQ X.K) := sl_list.or sl_tupA
theorem slK {X : Cx} {K : PySem.W.Frag} (h : X.K = K) : SlR X (rSlQ K) := h ▸ sl_seq
theorem ev_slT {as : List α} {lo hi : Option Int} (ha : EvD te ρ ρ1 (eT f) as) (hl : EvO tl ρ1 ρ2 lo) (hh : EvO th ρ2 ρ3 hi) : EvD (tSl (rSlQ K) te tl th) ρ ρ3 (eT f) (cutL as lo hi) := fun c σ Hk H k Q q =>
  ha c σ Hk H k _ fun v Hk1 H1 k1 x1 ⟨p, xs, e1, e2, e3, e4⟩ => hl c σ Hk1 H1 k1 _ fun Hk2 H2 k2 x2 => hh c σ Hk2 H2 k2 _ fun Hk3 H3 k3 x3 => by
    have xx := x2.trans x3
    have x4 : Ex Hk1 Hk3 := xx.ex
    have a3 := (e3.imp fun _ _ h => f.mono x4 h)
    refine .inr ⟨p, xs, e1, ex_t (x4.trans k3.ex) e2, fun w => ?_, fun w l hn => ?_⟩
    · have w' : HT.sIx as.length 0 lo = 0 ∧ HT.sIx as.length as.length hi = as.length := by rw [← e3.len]; exact w
      exact q _ Hk3 H3 k3 (x1.trans xx) ⟨p, xs, rfl, ex_t x4 e2, by rw [cutL_all w']; exact a3, by rw [cutL_all w']; exact e4⟩
    · obtain ⟨k5, x5⟩ := k3.new (o := .tup (cutV xs lo hi)) hn
      exact q _ _ _ k5 ((x1.trans xx).trans x5) ⟨l, _, rfl, SqT.of upd_same, (all2_cut a3 lo hi).imp fun _ _ h => f.mono x5.ex h, Nat.le_trans cutL_len e4⟩
theorem ev_slL {as : List α} {lo hi : Option Int} (ha : EvD te ρ ρ1 (eL f) as) (hl : EvO tl ρ1 ρ2 lo) (hh : EvO th ρ2 ρ3 hi) : EvD (tSl (rSlQ K) te tl th) ρ ρ3 (eL f) (cutL as lo hi) := fun c σ Hk H k Q q =>
  ha c σ Hk H k _ fun v Hk1 H1 k1 x1 ⟨p, xs, e1, e2, e3, e4⟩ => hl c σ Hk1 H1 k1 _ fun Hk2 H2 k2 x2 => hh c σ Hk2 H2 k2 _ fun Hk3 H3 k3 x3 => by
    have xx := x2.trans x3
    have x4 : Ex Hk1 Hk3 := xx.ex
    have a3 := (e3.imp fun _ _ h => f.mono x4 h)
    refine .inl ⟨p, xs, e1, ex_l (x4.trans k3.ex) e2, fun l hn => ?_⟩
    obtain ⟨k5, x5⟩ := k3.new (o := .lst (cutV xs lo hi)) hn
    exact q _ _ _ k5 ((x1.trans xx).trans x5) ⟨l, _, rfl, SqL.of upd_same, (all2_cut a3 lo hi).imp fun _ _ h => f.mono x5.ex h, Nat.le_trans cutL_len e4⟩
theorem ev_slD {d : Py F} {lo hi : Option Int} (ha : EvD te ρ ρ1 (eD e) d) (hl : EvO tl ρ1 ρ2 lo) (hh : EvO th ρ2 ρ3 hi) (hs : d.isQ = true) : EvD (tSl (rSlQ K) te tl th) ρ ρ3 (eD e) (d.cut lo hi) := by
  cases d with
  | lst l => exact ev_rep (ev_slL (ev_rep ha fun _ _ r => rep_lst.mp r) hl hh) fun _ _ r => rep_lst.mpr r
  | tup l => exact ev_rep (ev_slT (ev_rep ha fun _ _ r => rep_tup.mp r) hl hh) fun _ _ r => rep_tup.mpr r
  | _ => cases hs
end
end FL

/-! FL23: enumerate of a tuple. -/
namespace FLE
open PySem PySem.Spec L2 PyProof.Rows
/-- the object that enumerate makes over a new iterator at it -/
abbrev enO (it : Addr) : Obj := { cls := .type "enumerate", data := .fields #[.none, .bool false, .ref it, rawInt 0, .none, .none] }
theorem meets_en1 {v : Value} {o : Obj} {S : Heap → Prop} (B : Begins v o S) : Meets (Builtin.«enumerate.__new__» ⟨[.type "enumerate", v], []⟩) (fun _ R s => S s.heap ∧ R (.ok (.ret (.ref (s.heap.push o).objs.size))) { s with heap := (s.heap.push o).push (enO s.heap.objs.size) }) := by
  refine .of_wp fun prog w A R s z => ?_
  obtain ⟨hp, g, d, tk, os⟩ := s
  obtain ⟨z1, z2⟩ := z
  have en_sub := sub_enumerate
  have go : ∀ {A2 : Around} {E2 Q2 : Value → Shared → Prop}, Q2 (.ref hp.objs.size) ⟨hp.push o, g, d, tk, os⟩ → wpAny (model prog w) A2 (pyIter v) Q2 E2 ⟨hp, g, d, tk, os⟩ := fun q => B.iter prog w _ _ ⟨hp, g, d, tk, os⟩ _ z1 q
  wp_walk using go
  refine wpAny_stack_any fun st => (wpAny_pure ?_)
  split
  · rename_i c _ _ _ _ _
    cases (c == Value.type "enumerate") <;> (wp_walk using go; exact ⟨_, rfl, z2⟩)
  · (wp_walk using go; exact ⟨_, rfl, z2⟩)
section
variable {prog : Program} {w : World} {A : Around} {E : Value → Shared → Prop} {s : Shared}
theorem call_en1 {v : Value} {o : Obj} {S : Heap → Prop} {Q : Value → Shared → Prop} (B : Begins v o S) (z : S s.heap)
    (k : ∀ h2, IsEnum h2 (s.heap.objs.size + 1) s.heap.objs.size 0 .none → h2.get? s.heap.objs.size = some o → (∀ b u, s.heap.get? b = some u → h2.get? b = some u) → Q (.ref (s.heap.objs.size + 1)) { s with heap := h2 }) :
    wpAny (model prog w) A (call (.type "enumerate") [v]) Q E s := by
  refine callType_new F.called_enumerate (by decide) (F.typeCall_enumerate_1 _) (F.newCall_enumerate_1 _) (fun obj => F.args_object_init_2 obj _) F.entry_enumerate_new (meets_en1 B) ⟨z, ?_⟩
  have n1 : (s.heap.push o).objs.size = s.heap.objs.size + 1 := Heap.size_push ..
  show _ ∧ _
  rw [n1]
  have en : IsEnum ((s.heap.push o).push (enO s.heap.objs.size)) (s.heap.objs.size + 1) s.heap.objs.size 0 .none := by
    have q := Heap.get?_push_size (s.heap.push o) (o := enO s.heap.objs.size) rfl
    rw [n1] at q
    exact q
  exact ⟨⟨_, en, rfl⟩, k _ en (Heap.get?_push_of_some _ (Heap.get?_push_size _ B.free)) fun b u x => Heap.get?_push_of_some _ (Heap.get?_push_of_some _ x)⟩
end
theorem en_end {prog : Program} {w : World} {A : Around} {E : Value → Shared → Prop} {s : Shared} {e it t : Addr} {i : Nat} {n : Int} {items : Array Value} {old : Value} {Q : Option Value → Shared → Prop} (nh : A.handled = none) (en : IsEnum s.heap e it n old) (ti : s.heap.IsTupleIter it t i) (tt : s.heap.IsTuple t items)
    (out : items[i]? = none) (k : ∀ h2, Heap.ExtBut it s.heap h2 → Q none { s with heap := h2 }) : wpAny (model prog w) A (pyNext (.ref e)) Q E s := by
  have ty : s.TypeIs (.ref e) "enumerate" := ⟨_, en, rfl⟩
  unfold pyNext
  refine wpAny_bind (wpAny_attempt (wpAny_callSpecial?_slot (name := Str.ofString "__next__") ty F.slot_enumerate_next (wpAny_call_entry F.slot_enumerate_next ty F.entry_enumerate_next ?_ (F.args_enumerate_next_1 _))))
  show wpAny _ _ (field (.ref e) 2 >>= _) _ _ _
  refine wpAny_bind (wpAny_field en rfl (x := .ref it) rfl (wpAny_bind (wpAny_nextOf_tuple_end nh ti tt out fun h2 x y z => ?_)))
  obtain ⟨u, u1, u2⟩ := z
  exact wpAny_bind (wpAny_isInstance (T := "StopIteration") (b := true) ⟨u, u1, u2⟩ isSubtype_stop (wpAny_pure (k _ y)))
/-- the tuple at a, each item in a new pair -/
def Itn (K : PySem.W.Frag) (a : Addr) : It :=
  ⟨fun i H => ∃ (xs : List V) (x : V), SqT K H a xs ∧ xs[i]? = some x, fun i H v H' => ∃ T x, v = .ref T ∧ H T = none ∧ H' = upd H T (.tup [.int (i : Nat), x]) ∧ ∀ xs, SqT K H a xs → xs[i]? = some x, fun i H => ∃ xs : List V, SqT K H a xs ∧ xs.length ≤ i⟩
theorem turn_en {P : Program} {w : World} {K : PySem.W.Frag} {elts : List Expr} {kk : Nat} {tpos : Pos} (a e it : Addr) (aE : a ≠ e) (aI : a ≠ it) :
    Turn P w K (.Tuple elts kk tpos) (Itn K a) [e, it] e (fun i h => (∃ old, IsEnum h e it ((i : Nat) : Int) old) ∧ h.IsTupleIter it a i ∧ e ≠ it) where
  mem := List.mem_cons_self
  obj := fun i h st b hb => by
    obtain ⟨⟨old, he⟩, ⟨o, ho, hc, hd⟩, _⟩ := st
    rcases List.mem_cons.mp hb with z | z
    · subst z; exact ⟨_, he, (fun v q => nomatch q)⟩
    · exact ⟨o, by rw [List.mem_singleton.mp z]; exact ho, fun v q => by rw [hd] at q; cases q⟩
  keep := fun i h h2 st k => ⟨⟨st.1.choose, k e (by simp) _ st.1.choose_spec⟩, st.2.1.at fun o q => k it (by simp) o q, st.2.2⟩
  item := by
    intro X hP hw hK hc i pins s σ H E I hf st hg
    subst hP hw hK
    obtain ⟨⟨old, he⟩, ht, ne⟩ := st
    obtain ⟨xs, x, hq, hx⟩ := hg
    obtain ⟨its, rv, p, hz⟩ := I.tuple hq
    obtain ⟨u, hu, ru⟩ := rv.get hx
    have p : s.heap.IsTuple a its.toArray := p
    have l1 : e < s.heap.objs.size := Heap.lt_size he
    have l2 : it < s.heap.objs.size := ht.elim fun _ q => Heap.lt_size q.1
    have lt : i < its.toArray.size := by
      have := (List.getElem?_eq_some_iff.mp hu).1
      simpa using this
    have D := Draws.tuple (prog := X.prog) (w := X.w) (A := X.A.in1) (I.ok.hd hc) it a aI its.toArray
    refine wpAny_pyNext_enum_itemD D he ⟨ht, p⟩ lt ne (fun m => ?_) fun x2 h2 tk hP2 ho st2 hT _ hk => ?_
    · rcases List.mem_cons.mp m with z | z
      · exact ne z
      · exact aE (List.mem_singleton.mp z).symm
    have ex2 : x2 = u := by
      have h1 : its.toArray[i]? = some x2 := hP2
      have h2 : its.toArray[i]? = some u := by simpa using hu
      rw [h2] at h1; exact (Option.some.inj h1).symm
    subst ex2
    refine ⟨_, rfl, wpAny_letOwnedTupleGo_enum (s := { s with heap := h2, toks := tk + 1 }) ho fun h3 he3 sb => ?_⟩
    have hT3 : h3.get? s.heap.objs.size = some { cls := .type "tuple", data := .seq #[.int i tk, x2] } := (sb.2 _ (Nat.ne_of_gt l1)).trans hT
    have nw : ObjOk X.prog X.w (upd H s.heap.objs.size (.tup [.int (i : Nat), x])) h3 s.heap.objs.size (.tup [.int (i : Nat), x]) := ⟨by show 2 ≤ sizeLine; decide, [.int i tk, x2], .cons ⟨_, rfl⟩ (.cons ru .nil), ⟨_, hT3, rfl, _, rfl⟩⟩
    have I2 : Inv X pins σ (upd H s.heap.objs.size (.tup [.int (i : Nat), x])) { s with heap := h3, toks := tk + 1 } :=
      I.turnedNew (ch := [e, it]) (fun b ob hb q => (sb.2 b (fun z => hb (by simp [z]))).trans (hk b ob (fun z => hb (by simp [z])) (fun z => hb (by simp [z])) q)) hf (Nat.le_refl _) nw
    refine ⟨.ref s.heap.objs.size, _, I2, rfl, ⟨_, x, rfl, I.hok.fresh (Nat.le_refl _), rfl, fun ys hy => by rw [I.tuple_inj hy hq]; exact hx⟩, ⟨⟨x2, ?_⟩, st2.1.at fun o q => (sb.2 it (Ne.symm ne)).trans q, ne⟩, fun b hb => ?_⟩
    · rw [show ((i + 1 : Nat) : Int) = (i : Int) + 1 by omega]; exact he3
    · have hb2 : b < s.heap.objs.size := by
        rcases List.mem_cons.mp hb with z | z
        · rw [z]; exact l1
        · rw [List.mem_singleton.mp z]; exact l2
      rw [upd_ne (Nat.ne_of_lt hb2)]
      exact (hf b hb).1
  done := by
    intro X hP hw hK hc i pins s σ H E I hf st hg
    subst hP hw hK
    obtain ⟨⟨old, he⟩, ht, ne⟩ := st
    obtain ⟨xs, hq, hx⟩ := hg
    obtain ⟨its, rv, p, hz⟩ := I.tuple hq
    have p : s.heap.IsTuple a its.toArray := p
    obtain ⟨f0, f1, f2, f3, f4, f5⟩ := hf it (by simp)
    have hl := rv.length
    refine en_end (I.ok.hd hc) he ht p (by simp; omega) fun h2 eb => ⟨rfl, I.turned (t' := s.toks) (fun b o hb q => eb b o hb q) f0 f1 f3 f4 f5⟩
  self := fun A i s Q E st h => wpAny_pyIter_enum st.1.choose_spec h
/-- enumerate of a list or a tuple -/
def iEnQ (K : PySem.W.Frag) (ta : TA) : TI := fun σ H R => ta σ H fun vs H1 => ∃ a, vs = [.ref a] ∧ ((∃ xs, SqL K H1 a xs ∧ R (Ite K a) H1) ∨ ∃ xs, SqT K H1 a xs ∧ R (Itn K a) H1)
theorem pi_enQ {X : Cx} {e : Expr} {ta : TA} {p pos tpos : Pos} {elts : List Expr} {kk : Nat} (hg : Gl X "enumerate") (hm : X.mg "enumerate" = none) (ha : PA X [e] ta) (hs : starEach [e] X.env = [(false, eval e X.env)] := by rfl) :
    PI X (.Tuple elts kk tpos) (.Call (.Name "enumerate" p) [e] [] pos) (iEnQ X.K ta) := by
  refine ⟨fun pins s σ H R I z => Call_ (ld_blt I hg hm boot_enumerate (PyProof.Rows.callWith_type1 (thn (ha.run pos pins s σ H _ I z) fun us s1 ⟨vs, H1, I1, r1, q1⟩ => ?_) hs rfl))⟩
  obtain ⟨a, rfl, q⟩ := q1
  obtain _ | ⟨r, rr⟩ := r1
  cases rr
  cases r
  have two : ∀ b ∈ [s1.heap.objs.size + 1, s1.heap.objs.size], s1.heap.objs.size ≤ b := fun b hb => by
    rcases List.mem_cons.mp hb with z | z
    · rw [z]; exact Nat.le_add_right _ _
    · rw [List.mem_singleton.mp z]; exact Nat.le_refl _
  rcases q with ⟨xs, hq, q⟩ | ⟨xs, hq, q⟩
  · obtain ⟨its, rv, tp, _⟩ := I1.list hq
    refine call_enumerate_list tp.isList fun h2 en ho _ hk => wpAny_pyIter_enum en ?_
    exact ⟨s1.heap.objs.size + 1, [s1.heap.objs.size + 1, s1.heap.objs.size], _, _, H1, rfl, I1.kept (t' := s1.toks) hk, turn_enum a (s1.heap.objs.size + 1) s1.heap.objs.size, ⟨⟨.none, en⟩, ho, Nat.succ_ne_self _⟩, fun b hb => I1.fpOk (two b hb) (I1.hok.fresh (two b hb)), q⟩
  · obtain ⟨its, rv, tp, _⟩ := I1.tuple hq
    have tp : s1.heap.IsTuple a its.toArray := tp
    have la : a < s1.heap.objs.size := tp.elim fun _ q => Heap.lt_size q.1
    refine call_en1 (begins_tuple a its.toArray) tp fun h2 en ho hk => wpAny_pyIter_enum en ?_
    exact ⟨s1.heap.objs.size + 1, [s1.heap.objs.size + 1, s1.heap.objs.size], _, _, H1, rfl, I1.kept (t' := s1.toks) hk, turn_en a (s1.heap.objs.size + 1) s1.heap.objs.size (Nat.ne_of_lt (Nat.lt_succ_of_lt la)) (Nat.ne_of_lt la), ⟨⟨.none, en⟩, ⟨_, ho, rfl, rfl⟩, Nat.succ_ne_self _⟩, fun b hb => I1.fpOk (two b hb) (I1.hok.fresh (two b hb)), q⟩
end FLE
namespace FL
open PySem PySem.Spec L2 PyProof.Rows FLE
section
variable {K : PySem.W.Frag} {ρ ρ' : Env K} {α F : Type} {e : Enc K α} {f : Enc K F} {te : TE}
theorem walk_enT {as : List α} {Hk : Hp} {p : Addr} {xs : List V} (e2 : SqT K Hk p xs) (e3 : All2 (e.rep Hk) xs as) (e4 : as.length ≤ LM) : Walk (Itn K p) (eP eI e) (enum as) Hk :=
  ⟨by rw [enum_len]; exact e4, fun H2 y => ⟨xs, ex_t y e2, by rw [e3.len, enum_len]; exact Nat.le_refl _⟩, fun i H2 hi y => by
    rw [enum_len] at hi
    exact ⟨xs, xs[i]'(by rw [e3.len]; exact hi), ex_t y e2, by simp⟩,
   fun i H2 x H3 hy hi c2 σ2 ρ2 Hk2 k2 y => by
    obtain ⟨T, w, rfl, hT, rfl, hx⟩ := hy
    obtain ⟨a, a1, a2⟩ := e3.getL (hx xs (ex_t (y.trans k2.ex) e2))
    obtain ⟨k3, x3⟩ := k2.new (o := .tup [.int (i : Nat), w]) hT
    exact ⟨((i : Int), a), _, enum_get a1, k3, x3, T, _, _, rfl, SqT.of upd_same, rfl, e.mono (y.trans x3.ex) a2⟩⟩
theorem walk_enL {as : List α} {Hk : Hp} {p : Addr} {xs : List V} (e2 : SqL K Hk p xs) (e3 : All2 (e.rep Hk) xs as) (e4 : as.length ≤ LM) : Walk (Ite K p) (eP eI e) (enum as) Hk :=
  ⟨by rw [enum_len]; exact e4, fun H2 y => ⟨xs, ex_l y e2, by rw [e3.len, enum_len]; exact Nat.le_refl _⟩, fun i H2 hi y => by
    rw [enum_len] at hi
    exact ⟨xs, xs[i]'(by rw [e3.len]; exact hi), ex_l y e2, by simp⟩,
   fun i H2 x H3 hy hi c2 σ2 ρ2 Hk2 k2 y => by
    obtain ⟨T, w, rfl, hT, rfl, hx⟩ := hy
    obtain ⟨a, a1, a2⟩ := e3.getL (hx xs (ex_l (y.trans k2.ex) e2))
    obtain ⟨k3, x3⟩ := k2.new (o := .tup [.int (i : Nat), w]) hT
    exact ⟨((i : Int), a), _, enum_get a1, k3, x3, T, _, _, rfl, SqT.of upd_same, rfl, e.mono (y.trans x3.ex) a2⟩⟩
theorem ei_enQ {as : List α} (h : EvD te ρ ρ' (eQ e) as) : EvI (iEnQ K (tCons te tNil)) ρ ρ' (eP eI e) (enum as) := fun c σ Hk H k R q =>
  h c σ Hk H k _ fun v Hk1 H1 k1 x1 r => by
    rcases r with ⟨p, xs, e1, e2, e3, e4⟩ | ⟨p, xs, e1, e2, e3, e4⟩
    · exact ⟨p, by rw [e1], .inl ⟨xs, ex_l k1.ex e2, q _ Hk1 H1 k1 x1 (walk_enL e2 e3 e4)⟩⟩
    · exact ⟨p, by rw [e1], .inr ⟨xs, ex_t k1.ex e2, q _ Hk1 H1 k1 x1 (walk_enT e2 e3 e4)⟩⟩
end
theorem enK {X : Cx} {K : PySem.W.Frag} {e : Expr} {ta : TA} {p pos tpos : Pos} {elts : List Expr} {kk : Nat} (h : X.K = K) (hg : Gl X "enumerate") (hm : X.mg "enumerate" = none) (ha : PA X [e] ta) (hs : starEach [e] X.env = [(false, eval e X.env)] := by rfl) :
    PI X (.Tuple elts kk tpos) (.Call (.Name "enumerate" p) [e] [] pos) (iEnQ K ta) := h ▸ pi_enQ hg hm ha hs
end FL

/-! FL24: dicts with ints for keys, while. -/
namespace FL
open PySem L2
/-! what a dict holds -/
section
variable {α : Type}
def dHas (d : List (Int × α)) (k : Int) : Bool := d.any fun p => decide (p.1 = k)
def dPut (d : List (Int × α)) (k : Int) (v : α) : List (Int × α) := if dHas d k = true then d.map (fun p => if p.1 = k then (p.1, v) else p) else d ++ [(k, v)]
def dVal (d : List (Int × α)) (k : Int) : Option α := (d.find? fun p => decide (p.1 = k)).map (·.2)
def dAll (l : List (Int × α)) : List (Int × α) := l.foldl (fun d p => dPut d p.1 p.2) []
theorem dPut_len {d : List (Int × α)} {k : Int} {v : α} : (dPut d k v).length ≤ d.length + 1 := by
  unfold dPut
  split
  · rw [List.length_map]; omega
  · rw [List.length_append]; exact Nat.le_refl _
theorem dAll_len : ∀ {l d : List (Int × α)}, (l.foldl (fun d p => dPut d p.1 p.2) d).length ≤ d.length + l.length
  | [], d => Nat.le_refl _
  | p :: l, d => by
    have := dAll_len (l := l) (d := dPut d p.1 p.2)
    have := dPut_len (d := d) (k := p.1) (v := p.2)
    rw [List.foldl_cons, List.length_cons]; omega
end
section
variable {K : PySem.W.Frag} {ρ ρ' ρ0 ρ1 ρ2 ρ3 : Env K} {α β τ γ δ ν lam : Type} {e : Enc K α} {f : Enc K β} {ta tb te tk tv : TE} {tt : TT} {us ts : TS}
abbrev DR (e : Enc K α) (Hk : Hp) (kv : Key × V) (p : Int × α) : Prop := kv.1 = .inl p.1 ∧ e.rep Hk kv.2 p.2
def mDI (e : Enc K α) : MEnc K (List (Int × α)) := ⟨fun Hk o b => ∃ kvs : List (Key × V), o = .dK kvs ∧ All2 (DR e Hk) kvs b ∧ b.length ≤ LM, fun x ⟨kvs, h1, h2, h3⟩ => ⟨kvs, h1, h2.imp fun _ _ h => ⟨h.1, e.mono x h.2⟩, h3⟩⟩
theorem inl_dec {p : Key × V} {q : Int × α} {k : Int} (h : p.1 = .inl q.1) : decide (p.1 = (.inl k : Key)) = decide (q.1 = k) := by
  rw [h]
  refine decide_eq_decide.mpr ⟨fun z => Sum.inl.inj z, fun z => by rw [z]⟩
theorem dr_any {Hk : Hp} {k : Int} : ∀ {kvs : List (Key × V)} {b : List (Int × α)}, All2 (DR e Hk) kvs b → (kvs.any fun kv => decide (kv.1 = (.inl k : Key))) = dHas b k
  | _, _, .nil => rfl
  | _, _, .cons h t => by
    unfold dHas
    rw [List.any_cons, List.any_cons, dr_any t, inl_dec h.1]; rfl
theorem dr_val {Hk : Hp} {k : Int} : ∀ {kvs : List (Key × V)} {b : List (Int × α)}, All2 (DR e Hk) kvs b → (∃ v a, valV kvs (.inl k) = some v ∧ dVal b k = some a ∧ e.rep Hk v a) ∨ (valV kvs (.inl k) = none ∧ dVal b k = none)
  | _, _, .nil => .inr ⟨rfl, rfl⟩
  | (p :: kvs), (q :: b), .cons h t => by
    by_cases z : q.1 = k
    · have z2 : p.1 = (.inl k : Key) := by rw [h.1, z]
      exact .inl ⟨p.2, q.2, valV_pos z2, by unfold dVal; rw [List.find?_cons, decide_eq_true z]; rfl, h.2⟩
    · have z2 : ¬ p.1 = (.inl k : Key) := by rw [h.1]; exact fun y => z (Sum.inl.inj y)
      have e2 : dVal (q :: b) k = dVal b k := by unfold dVal; rw [List.find?_cons, decide_eq_false z]
      rw [valV_neg z2, e2]; exact dr_val t
theorem dr_some {Hk : Hp} {k : Int} {kvs : List (Key × V)} {b : List (Int × α)} (h : All2 (DR e Hk) kvs b) : (valV kvs (.inl k : Key)).isSome = dHas b k := by rw [← valV_any, dr_any h]
theorem dr_map {Hk : Hp} {k : Int} {v : V} {a : α} (hv : e.rep Hk v a) : ∀ {kvs : List (Key × V)} {b : List (Int × α)}, All2 (DR e Hk) kvs b → All2 (DR e Hk) (kvs.map fun kv => if kv.1 = (.inl k : Key) then (kv.1, v) else kv) (b.map fun p => if p.1 = k then (p.1, a) else p)
  | _, _, .nil => .nil
  | (p :: kvs), (q :: b), .cons h t => by
    refine .cons ?_ (dr_map hv t)
    show DR e Hk (if p.1 = (.inl k : Key) then (p.1, v) else p) (if q.1 = k then (q.1, a) else q)
    by_cases z : q.1 = k
    · rw [if_pos z, if_pos (by rw [h.1, z])]; exact ⟨h.1, hv⟩
    · rw [if_neg z, if_neg (by rw [h.1]; exact fun y => z (Sum.inl.inj y))]; exact h
theorem dr_put {Hk : Hp} {k : Int} {v : V} {a : α} (hv : e.rep Hk v a) {kvs : List (Key × V)} {b : List (Int × α)} (h : All2 (DR e Hk) kvs b) : All2 (DR e Hk) (putK kvs (.inl k) v) (dPut b k a) := by
  unfold putK dPut
  rw [dr_any h]
  split
  · exact dr_map hv h
  · exact h.app (.cons ⟨rfl, hv⟩ .nil)
theorem Ok.dict {c : Ent} {Hk H : Hp} {σ : List (Option V)} (k : Ok c Hk H σ ρ) {j : Nat} {b : List (Int × α)} (h : ρ[j]? = some (.m (mDI e) b)) : ∃ p kvs, σ[j]? = some (some (V.ref p)) ∧ H p = some (.dK kvs) ∧ All2 (DR e Hk) kvs b ∧ b.length ≤ LM := by
  obtain ⟨v, h1, p, o, h2, h3, h4, kvs, h5, h6, h7⟩ := k.sl j _ h
  subst h2; subst h5
  exact ⟨p, kvs, h1, h4, h6, h7⟩
theorem ev_inD {j : Nat} {k : Int} {b : List (Int × α)} (hk : EvD tk ρ ρ1 eI k) (hj : ρ1[j]? = some (.m (mDI e) b)) : EvD (tDIn tk (tVar j)) ρ ρ1 eB (dHas b k) := fun c σ Hk H k0 Q q =>
  hk c σ Hk H k0 _ fun v Hk1 H1 k1 x1 r1 => by
    obtain ⟨p, kvs, h1, h2, h3, _⟩ := k1.dict hj
    cases (show v = .int k from r1)
    exact ⟨.ref p, h1, p, _, rfl, DGet.k (k := .inl k) h2, by rw [dr_some h3]; exact q _ Hk1 H1 k1 x1 rfl⟩
theorem ev_notInD {j : Nat} {k : Int} {b : List (Int × α)} (hk : EvD tk ρ ρ1 eI k) (hj : ρ1[j]? = some (.m (mDI e) b)) : EvD (tDNotIn tk (tVar j)) ρ ρ1 eB (!dHas b k) := fun c σ Hk H k0 Q q =>
  hk c σ Hk H k0 _ fun v Hk1 H1 k1 x1 r1 => by
    obtain ⟨p, kvs, h1, h2, h3, _⟩ := k1.dict hj
    cases (show v = .int k from r1)
    exact ⟨.ref p, h1, p, _, rfl, DGet.k (k := .inl k) h2, by rw [dr_some h3]; exact q _ Hk1 H1 k1 x1 rfl⟩
theorem ev_getD {j : Nat} {k : Int} {b : List (Int × α)} [Inhabited α] (hk : EvD tk ρ ρ1 eI k) (hj0 : ρ[j]? = some (.m (mDI e) b)) (hj : ρ1[j]? = some (.m (mDI e) b)) (hs : (dVal b k).isSome = true) : EvD (tDGet (tVar j) tk) ρ ρ1 e ((dVal b k).getD default) := fun c σ Hk H k0 Q q => by
  obtain ⟨p, kvs, h1, _, _, _⟩ := k0.dict hj0
  refine ⟨.ref p, h1, hk c σ Hk H k0 _ fun v Hk1 H1 k1 x1 r1 => ?_⟩
  obtain ⟨p2, kvs2, g1, g2, g3, _⟩ := k1.dict hj
  rw [h1] at g1; cases g1
  cases (show v = .int k from r1)
  rcases dr_val (k := k) g3 with ⟨v, a, y1, y2, y3⟩ | ⟨_, y2⟩
  · exact ⟨p, v, rfl, by have := DGet.k (k := .inl k) g2; rw [y1] at this; exact this, q _ Hk1 H1 k1 x1 (by rw [y2]; exact y3)⟩
  · rw [y2] at hs; cases hs
theorem xs_dput {j : Nat} {k : Int} {a : α} {b : List (Int × α)} (hv : EvD tv ρ ρ1 e a) (hj1 : ρ1[j]? = some (.m (mDI e) b)) (hk : EvD tk ρ1 ρ2 eI k) (hj : ρ2[j]? = some (.m (mDI e) b)) (hl : b.length < 100000) :
    XS (sDPut (tVar j) tk tv) ρ (ρ2.set j (.m (mDI e) (dPut b k a))) := fun c σ Hk H k0 D q =>
  hv c σ Hk H k0 _ fun v Hk1 H1 k1 x1 r1 => by
    obtain ⟨p, kvs, h1, _, _, _⟩ := k1.dict hj1
    refine ⟨.ref p, h1, hk c σ Hk1 H1 k1 _ fun y Hk2 H2 k2 x2 r2 => ?_⟩
    obtain ⟨p2, kvs2, g1, g2, g3, g4⟩ := k2.dict hj
    rw [h1] at g1; cases g1
    cases (show y = .int k from r2)
    have l2 := g3.len
    have l3 := dPut_len (d := b) (k := k) (v := a)
    exact ⟨p, _, rfl, DPut.k (k := .inl k) g2 (lm_lt (by rw [l2]; exact hl)), q σ Hk2 _ (k2.mutate hj rfl rfl h1 ⟨_, rfl, dr_put (e.mono x2.ex r1) g3, by show _ ≤ 100000; omega⟩) (x1.ex.trans x2.ex)⟩
theorem ew_dnew : EvW tDNewK ρ ρ (.m (mDI e) ([] : List (Int × α))) := fun c σ Hk H k Q q p hp => by
  have hk := k.ex.none hp
  exact q p Hk _ (k.newU hp) ⟨Ex.refl _, fun a o h _ => by rw [upd_ne (ne_of_none h hp)]; exact h, fun i s h m => ⟨s, h, m⟩, fun a o h => .inl h, fun a h => by
    by_cases z : a = p
    · subst z; exact hp
    · rw [upd_ne z] at h; exact h⟩ ⟨p, _, rfl, hk, upd_same, [], rfl, .nil, Nat.zero_le _⟩ hp
/-- {k: v for target in iter if ..} -/
theorem ew_dc {wi : TI} {g : TG} {ex : Enc K δ} {as : List δ} {js vs : List Nat} {u : δ → Env K → Env K} {p : δ → Bool} {kf : δ → Int} {vf : δ → α}
    (hi : EvI wi ρ ρ1 ex as) (hg : EvG g ex js u) (hj : ∀ j ∈ js, j ∈ vs) (hm : noMAt ρ1 vs)
    (ht : ∀ a, a ∈ as → EvT tt (u a (wipeE ρ1 vs)) (u a (wipeE ρ1 vs)) (p a)) (hk : ∀ a, a ∈ as → p a = true → EvD tk (u a (wipeE ρ1 vs)) (u a (wipeE ρ1 vs)) eI (kf a)) (he : ∀ a, a ∈ as → p a = true → EvD tv (u a (wipeE ρ1 vs)) (u a (wipeE ρ1 vs)) e (vf a)) :
    EvW (tDc wi g tt tk tv vs) ρ ρ1 (.m (mDI e) (dAll ((as.filter p).map fun a => (kf a, vf a)))) := fun c σ Hk H k Q q =>
  hi c σ Hk H k _ fun J Hk1 H1 k1 x1 W => fun D hD => by
    have val : ∀ i, (((as.take i).filter p).map fun a => (kf a, vf a)).length ≤ i := fun i => by
      rw [List.length_map]
      refine Nat.le_trans (List.length_filter_le _ _) ?_
      rw [List.length_take]; omega
    refine ⟨fun i m H' => m = as.length - i ∧ i ≤ as.length ∧ ∃ Hk', Ok c Hk' H' σ ρ1 ∧ Nxt σ ρ1 ρ1 Hk1 H1 Hk' H' ∧ Hk' D = none ∧ ∃ kvs, H' D = some (.dK kvs) ∧ All2 (DR e Hk') kvs (dAll (((as.take i).filter p).map fun a => (kf a, vf a))), ⟨as.length, rfl, Nat.zero_le _, Hk1, ?_⟩, ?_⟩
    · have hk1 := k1.ex.none hD
      exact ⟨k1.newU hD, Nxt.refl.updU hD, hk1, [], upd_same, .nil⟩
    · rintro i m H' ⟨rfl, hi', Hk', k', x', hDk, kvs, hDx, hxs⟩
      have hnD : ∀ (j : Nat) (z : Slot K), ρ1[j]? = some z → z.isM = true → σ[j]? ≠ some (some (V.ref D)) := fun j z h m => k1.apart hD h m
      by_cases lt : i < as.length
      · refine .inr ⟨W.go i H' lt (x'.ex.trans k'.ex), fun H' => i + 1 ≤ as.length ∧ ∃ Hk', Ok c Hk' H' σ ρ1 ∧ Nxt σ ρ1 ρ1 Hk1 H1 Hk' H' ∧ Hk' D = none ∧ ∃ kvs, H' D = some (.dK kvs) ∧ All2 (DR e Hk') kvs (dAll (((as.take (i + 1)).filter p).map fun a => (kf a, vf a))), fun H'' n => ⟨as.length - (i + 1), by omega, rfl, n.1, n.2⟩, fun x H'' hy => ?_⟩
        obtain ⟨a, Hk2, ha, k2, x2, r2⟩ := W.yld i H' x H'' hy lt c σ _ Hk' k' x'.ex
        have am := List.mem_of_getElem? ha
        have hD2 : H'' D = some (.dK kvs) := x2.fr D _ hDx hnD
        refine hg.run c (L2.wipe σ vs) Hk2 H'' _ x a (k2.wipe hm) (fun j h => isM_wipe (hm j (hj j h))) r2 _ fun σ2 ko hl hσ => ?_
        have hw : L2.wipe σ2 vs = L2.wipe σ vs := wipe_idem hl fun i hi => hσ i fun h => hi (hj i h)
        have rw_ : ∀ {Hk3 H3 Hk4 H4 : Hp}, Nxt σ2 (u a (wipeE ρ1 vs)) (u a (wipeE ρ1 vs)) Hk3 H3 Hk4 H4 → Nxt σ ρ1 ρ1 Hk3 H3 Hk4 H4 := fun x => x.rewipe hw hj (hg.agr a) (hg.agr a) (hg.nm a) hm hm
        have nk : ∀ {Hk0 H0 Hk4 H4 : Hp}, Nxt σ ρ1 ρ1 Hk0 H0 Hk4 H4 → Hk0 D = none → (∃ o, H0 D = some o) → Hk4 D = none := fun {Hk0 H0 Hk4 H4} x h0 h1 => by
          cases z : Hk4 D with
          | none => rfl
          | some o =>
            obtain ⟨o', h1⟩ := h1
            rcases x.nw D o z with y | y | ⟨j, w, y1, y2, y3⟩
            · rw [h0] at y; cases y
            · rw [h1] at y; cases y
            · exact absurd y3 (hnD j w y1 y2)
        have hDk2 : Hk2 D = none := nk x2 hDk ⟨_, hDx⟩
        refine ⟨hw, ht a am c σ2 Hk2 H'' ko _ fun Hk3 H3 k3 x3 => ?_⟩
        have hD3 : H3 D = some (.dK kvs) := (rw_ x3).fr D _ hD2 hnD
        have hDk3 : Hk3 D = none := nk (rw_ x3) hDk2 ⟨_, hD2⟩
        have tk_ := take_snoc ha
        cases hp : p a with
        | false =>
          rw [if_neg (by decide)]
          refine ⟨lt, Hk3, k'.rewipe k3 (x2.ex.trans x3.ex) hw hj (hg.agr a) (hg.len a) hm (fun _ _ => rfl), (x'.trans x2).trans (rw_ x3), hDk3, kvs, hD3, ?_⟩
          rw [tk_, List.filter_append, List.filter_cons_of_neg (by rw [hp]; decide), List.filter_nil, List.append_nil]
          exact hxs.imp fun _ _ h => ⟨h.1, e.mono (x2.ex.trans x3.ex) h.2⟩
        | true =>
          rw [if_pos rfl]
          refine hk a am hp c σ2 Hk3 H3 k3 _ fun y Hk4 H4 k4 x4 r4 => he a am hp c σ2 Hk4 H4 k4 _ fun z Hk5 H5 k5 x5 r5 => ?_
          have hD4 : H4 D = some (.dK kvs) := (rw_ x4).fr D _ hD3 hnD
          have hDk4 : Hk4 D = none := nk (rw_ x4) hDk3 ⟨_, hD3⟩
          have hD5 : H5 D = some (.dK kvs) := (rw_ x5).fr D _ hD4 hnD
          have hDk5 : Hk5 D = none := nk (rw_ x5) hDk4 ⟨_, hD4⟩
          have xx : Ex Hk' Hk5 := x2.ex.trans (x3.ex.trans (x4.ex.trans x5.ex))
          have k6 : Ok c Hk5 H5 σ ρ1 := k'.rewipe k5 xx hw hj (hg.agr a) (hg.len a) hm (fun _ _ => rfl)
          have x6 := (((x'.trans x2).trans (rw_ x3)).trans (rw_ x4)).trans (rw_ x5)
          have ll : kvs.length < LM := by
            have a1 := hxs.len
            have a2 := dAll_len (l := ((as.take i).filter p).map fun a => (kf a, vf a)) (d := ([] : List (Int × α)))
            have a3 := val i
            have a4 := W.len
            have a5 : (dAll (((as.take i).filter p).map fun a => (kf a, vf a))).length ≤ 0 + (((as.take i).filter p).map fun a => (kf a, vf a)).length := a2
            omega
          refine ⟨kvs, .inl (kf a), (show y = .int (kf a) from r4), hD5, lm_lt ll, lt, Hk5, k6.updU hDk5 (k1.th D hD) hD5 (fun j z h m => k1.apart hD h m), x6.updU hD, hDk5, _, upd_same, ?_⟩
          rw [tk_, List.filter_append, List.filter_cons_of_pos hp, List.filter_nil, List.map_append]
          show All2 _ _ (List.foldl _ _ (_ ++ [_]))
          rw [List.foldl_append]
          exact dr_put r5 (hxs.imp fun _ _ h => ⟨h.1, e.mono xx h.2⟩)
      · have z : i = as.length := by omega
        subst z
        rw [List.take_length] at hxs
        refine .inl ⟨W.stop H' (x'.ex.trans k'.ex), q D Hk' H' k' (x1.trans x') ⟨D, _, rfl, hDk, hDx, kvs, rfl, hxs, ?_⟩ (x1.th D hD)⟩
        have a2 := dAll_len (l := (as.filter p).map fun a => (kf a, vf a)) (d := ([] : List (Int × α)))
        have a3 := val as.length
        rw [List.take_length] at a3
        have a4 := W.len
        have a5 : (dAll ((as.filter p).map fun a => (kf a, vf a))).length ≤ 0 + ((as.filter p).map fun a => (kf a, vf a)).length := a2
        omega
/-! while -/
def whl (c : τ → Bool) (f : τ → τ) : Nat → τ → τ
  | 0, t => t
  | n + 1, t => bif c t then whl c f n (f t) else t
theorem whl_stop {c : τ → Bool} {f : τ → τ} : ∀ {n : Nat} {t : τ}, c t = false → whl c f n t = t
  | 0, _, _ => rfl
  | n + 1, t, h => by unfold whl; rw [h]; rfl
theorem whl_succ {c : τ → Bool} {f : τ → τ} : ∀ {i : Nat} {t : τ}, c (whl c f i t) = true → whl c f (i + 1) t = f (whl c f i t)
  | 0, t, h => by
    have h : c t = true := h
    unfold whl; rw [h]; rfl
  | i + 1, t, h => by
    cases z : c t with
    | false => rw [whl_stop z, z] at h; cases h
    | true =>
      have e1 : whl c f (i + 1) t = whl c f i (f t) := by show (bif c t then _ else _) = _; rw [z]; rfl
      have e2 : whl c f (i + 2) t = whl c f (i + 1) (f t) := by show (bif c t then _ else _) = _; rw [z]; rfl
      rw [e1] at h
      rw [e1, e2]; exact whl_succ h
theorem whl_end {c : τ → Bool} {f : τ → τ} {t : τ} {i : Nat} (h : c (whl c f i t) = false) : ∀ {n : Nat}, i ≤ n → whl c f n t = whl c f i t := by
  intro n hn
  obtain ⟨d, rfl⟩ : ∃ d, n = i + d := ⟨n - i, by omega⟩
  clear hn
  induction i generalizing t with
  | zero => rw [whl_stop (show c t = false from h)]; rfl
  | succ i ih =>
    cases z : c t with
    | false => rw [whl_stop z, whl_stop z]
    | true =>
      have e1 : ∀ j, whl c f (j + 1) t = whl c f j (f t) := fun j => by show (bif c t then _ else _) = _; rw [z]; rfl
      rw [show i + 1 + d = i + d + 1 by omega, e1, e1]
      rw [e1] at h
      exact ih h
theorem xs_while (E : τ → Env K) (t0 : τ) (n : Nat) {c : τ → Bool} {f : τ → τ} (hw : Weak ρ (E t0)) (ht : ∀ i t, t = whl c f i t0 → EvT tt (E t) (E t) (c t)) (hb : ∀ i t, t = whl c f i t0 → c t = true → XS us (E t) (E (f t))) (hn : c (whl c f n t0) = false) :
    XS (tWhile tt us) ρ (E (whl c f n t0)) := fun cc σ Hk H k D q => by
  refine ⟨fun m σ' H' => ∃ i Hk', i ≤ n ∧ m = n - i ∧ Ok cc Hk' H' σ' (E (whl c f i t0)) ∧ Ex Hk Hk', ⟨n, 0, Hk, Nat.zero_le _, rfl, k.weak hw, Ex.refl _⟩, ?_⟩
  rintro m σ' H' ⟨i, Hk', li, rfl, k', x'⟩
  refine ht i _ rfl cc σ' Hk' H' k' _ fun Hk2 H2 k2 x2 => ?_
  cases z : c (whl c f i t0) with
  | false =>
    rw [if_neg (by decide)]
    rw [whl_end z li] at q
    exact q σ' Hk2 H2 k2 (x'.trans x2.ex)
  | true =>
    rw [if_pos rfl]
    have ln : i < n := by
      rcases Nat.lt_or_ge i n with y | y
      · exact y
      · have : i = n := by omega
        rw [this, hn] at z; cases z
    refine ⟨fun σ3 H3 => ∃ i2 Hk3, i2 = i + 1 ∧ Ok cc Hk3 H3 σ3 (E (whl c f i2 t0)) ∧ Ex Hk Hk3, fun σ3 H3 ⟨i2, Hk3, e2, k3, x3⟩ => ⟨n - i2, by omega, i2, Hk3, by omega, rfl, k3, x3⟩, ?_⟩
    refine hb i _ rfl z cc σ' Hk2 H2 k2 _ fun σ3 Hk3 H3 k3 x3 => ⟨i + 1, Hk3, rfl, ?_, x'.trans (x2.ex.trans x3)⟩
    rw [whl_succ z]; exact k3
theorem xv_while {En : γ → Env K} {h : τ → γ} (E : τ → Env K) (t0 : τ) (n : Nat) {c : τ → Bool} {f : τ → τ} (hw : Weak ρ (E t0)) (ht : ∀ i t, t = whl c f i t0 → EvT tt (E t) (E t) (c t)) (hb : ∀ i t, t = whl c f i t0 → c t = true → XV us (E t) E (f t)) (hn : c (whl c f n t0) = false)
    (k : ∀ x, x = whl c f n t0 → XV ts (E x) En (h x)) : XV (tSeq (tWhile tt us) ts) ρ En (lt (whl c f n t0) h) := xs_seq (xs_while E t0 n hw ht hb hn) (k _ rfl)
theorem xb_while {En : ν → Env K} {L : lam → Env K} {R : Ret K γ} {h : τ → Out ν lam γ} (E : τ → Env K) (t0 : τ) (n : Nat) {c : τ → Bool} {f : τ → τ} (hw : Weak ρ (E t0)) (ht : ∀ i t, t = whl c f i t0 → EvT tt (E t) (E t) (c t)) (hb : ∀ i t, t = whl c f i t0 → c t = true → XV us (E t) E (f t)) (hn : c (whl c f n t0) = false)
    (k : ∀ x, x = whl c f n t0 → XB ts (E x) En L R (h x)) : XB (tSeq (tWhile tt us) ts) ρ En L R (lt (whl c f n t0) h) := xb_seq (xs_while E t0 n hw ht hb hn) (k _ rfl)
theorem xv_dput {En : τ → Env K} {h : List (Int × α) → τ} {j : Nat} {k : Int} {a : α} {b : List (Int × α)} (hv : EvD tv ρ ρ1 e a) (hj1 : ρ1[j]? = some (.m (mDI e) b)) (hk : EvD tk ρ1 ρ2 eI k) (hj : ρ2[j]? = some (.m (mDI e) b)) (hl : b.length < 100000)
    (kk : ∀ x, x = dPut b k a → XV ts (ρ2.set j (.m (mDI e) x)) En (h x)) : XV (tSeq (sDPut (tVar j) tk tv) ts) ρ En (lt (dPut b k a) h) := xs_seq (xs_dput hv hj1 hk hj hl) (kk _ rfl)
theorem xb_dput {En : ν → Env K} {L : lam → Env K} {R : Ret K γ} {h : List (Int × α) → Out ν lam γ} {j : Nat} {k : Int} {a : α} {b : List (Int × α)} (hv : EvD tv ρ ρ1 e a) (hj1 : ρ1[j]? = some (.m (mDI e) b)) (hk : EvD tk ρ1 ρ2 eI k) (hj : ρ2[j]? = some (.m (mDI e) b)) (hl : b.length < 100000)
    (kk : ∀ x, x = dPut b k a → XB ts (ρ2.set j (.m (mDI e) x)) En L R (h x)) : XB (tSeq (sDPut (tVar j) tk tv) ts) ρ En L R (lt (dPut b k a) h) := xb_seq (xs_dput hv hj1 hk hj hl) (kk _ rfl)
end
end FL

/-! FL25: an own class whose __init__ raises; try with two except clauses, of which the second one serves. -/
namespace FLT
open PySem PySem.Spec PyProof.Rows L2 L2N
/-- the wish: not the first class, but the second one -/
def wTwo (K : PySem.W.Frag) (c1 c : Value) (i : Nat) (ts : Addr → Value → Option Addr → TS) (D : Ends) : WX := fun cls d σ H =>
  PySem.W.exmOne K cls c1 = some false ∧ PySem.W.exmOne K cls c = some true ∧ ∀ a, H a = none → ts a cls d { nx := fun σ' H' => D.nx (σ'.set i none) H', rt := D.rt, bk := fun σ' H' => D.bk (σ'.set i none) H', ct := fun σ' H' => D.ct (σ'.set i none) H' } (σ.set i (some (.ref a))) H
section
variable {X : Cx} {x1 x n : Str} {c1 c : Value} {i : Nat} {body suite suite1 : List Stmt} {b0 : Stmt} {np1 np pos1 pos pos' : Pos} {tb : WX → TS} {ts : Addr → Value → Option Addr → TS}
theorem ps_try_two (st : X.stack = X.env :: X.outer) (fr : X.env.frame = some X.env.locals) (nd : X.N.Nodup) (hi : X.N[i]? = some n) (kn : X.env.kindOf n = some .local) (g1 : Names X x1 c1) (g : Names X x c)
    (hb : ∀ (W : WX) (pn : List (Addr × Obj)) (xe : Value → Shared → Prop), L2N.Takes (X.tr pn xe) W → PassesOwn (model X.prog X.w) X.A X.env xe → PSs (X.tr pn xe) body (tb W))
    (hsu : ∀ (a : Addr) (oe : Obj) (cls : Value) (d : Option Addr) (pn : List (Addr × Obj)), Zn cls d oe → (∃ vs, oe.data = .fields vs) → PSs (X.suite a ((a, oe) :: pn)) (b0 :: suite) (ts a cls d)) :
    PS X (.Try body [.ExceptHandler (some (.Name x1 np1)) none suite1 pos1, .ExceptHandler (some (.Name x np)) (some n) (b0 :: suite) pos'] [] [] pos) (fun D σ H => tb (wTwo X.K c1 c i ts D) D σ H) := by
  refine ⟨fun pins s σ H D I z => ?_⟩
  have ok := I.ok
  have frs_ : X.A.frames = some (X.env :: X.outer) := by rw [ok.frames, st]
  refine wpAny_Try_except (wpAny_mono ((hb (wTwo X.K c1 c i ts D) (X.pn ++ pins) (fun e s1 => wpAny (model X.prog X.w) X.A (noteFrame e X.env) (fun _ s2 => wpAny (model X.prog X.w) X.A (setFlight e none) (fun _ s3 =>
    wpAny (model X.prog X.w) X.A (handleBy e X.env [.ExceptHandler (some (.Name x1 np1)) none suite1 pos1, .ExceptHandler (some (.Name x np)) (some n) (b0 :: suite) pos']) (SP X pins D) X.xe s3) X.xe s2) X.xe s1) (fun u s' xx => ?_) PassesOwn.looking).run [] s σ H D (I.toTry _) z) (fun fl s1 sp => ?_) fun _ _ q => q)
  · obtain ⟨a, B, sI, pins', σ', H', cls, d, rfl, J', nb, up, sky, na, os, ag, no1, yes, serve⟩ := xx
    have J : Inv X pins σ' H' sI := J'.ofTry ok
    have sk : L2.Sky B (X.env :: X.outer) a (Zn cls d) X.env.locals s'.heap := by rw [← st]; exact sky
    show wpAny (model X.prog X.w) X.A (noteFrame (.ref a) X.env) _ _ _
    refine L2N.Sky.land Zn.steady frs_ fr sk fun h3 fl3 up3 => ?_
    have J3 : Inv X pins σ' H' { s' with heap := h3 } := J.landed nb fl3.1 (up.trans up3) os ag
    obtain ⟨oe, vs, e1, e2, e3⟩ := fl3.there
    have far : a ∉ frs (X.env :: X.outer) := fun hm => by
      obtain ⟨_, o', e', no⟩ := fl3.2.2.1.mem hm
      rw [e1] at e'; cases e'
      exact no _ e3
    have aL : a ≠ X.env.locals := fun q => far (List.mem_filterMap.mpr ⟨X.env, List.mem_cons_self, by rw [fr, q]⟩)
    have aF : a ∉ X.fs := fun hm => far (let ⟨e, he, q⟩ := List.mem_filterMap.mp hm; List.mem_filterMap.mpr ⟨e, List.mem_cons_of_mem _ he, q⟩)
    have S3 := J3.suite e1 e3 na aL aF
    have looks : PySem.W.Looks (model X.prog X.w) h3 (typeOf (.ref a)) cls := fun A Q E s k q => wpAny_typeOf_ref (k _ _ e1) (by rw [e2.1]; exact q)
    have told : ∀ {y : Str} {cy : Value} {py : Pos} {Q E : Value → Shared → Prop}, Names X y cy → Q cy { s' with heap := h3 } → wpAny (model X.prog X.w) (X.A.mark (some (.ref a))) (eval (.Name y py) X.env) Q E { s' with heap := h3 } := fun {y cy py Q E} gy q => by
      obtain ⟨q1, q2, q3 | ⟨q3, q4, q5⟩⟩ := gy
      · exact ld_glob (X := X.suite a ((a, oe) :: (X.pn ++ pins))) S3 q1 q3 q q2
      · exact ld_blt (X := X.suite a ((a, oe) :: (X.pn ++ pins))) S3 q1 q3 q4 q q5 q2
    have t1 := PySem.W.exm_one (M := model X.prog X.w) (J3.kIn) looks no1
    have t2 := PySem.W.exm_one (M := model X.prog X.w) (J3.kIn) looks yes
    refine wpAny_handleBy_cons (codeAny_handlers_test (told g1 (t1.here ?_))) (by intro q; cases q)
    show wpAny _ X.A (handleBy (.ref a) X.env [.ExceptHandler (some (.Name x np)) (some n) (b0 :: suite) pos']) _ _ _
    refine wpAny_handleBy_cons (codeAny_handlers_test (told g (t2.here ?_))) (by intro q; cases q)
    refine codeAny_handlers_suite_as (HandSPX.lands_againZ fl3 fun h4 fl4 up4 => ?_)
    have J4 : Inv X pins σ' H' { s' with heap := h4 } := J.landed nb fl4.1 ((up.trans up3).trans up4) os ag
    obtain ⟨oe4, vs4, y1, y2, y3⟩ := fl4.there
    have S4 := J4.suite y1 y3 na aL aF
    refine store_ok (X := X.suite a ((a, oe4) :: (X.pn ++ pins))) (v := .ref a) S4 nd hi (.inl kn) rfl (fun s5 S5 => ?_) (.inr kn)
    refine wpAny_mono ((hsu a oe4 cls d (X.pn ++ pins) y2 ⟨_, y3⟩).run [] s5 _ H' _ S5 (serve a na)) (fun fl6 s6 sp => ?_) (fun _ _ q => q.elim)
    have fin : ∀ {σ6 : L2.St} {H6 : Hp} {Q : Shared → Prop}, Inv (X.suite a ((a, oe4) :: (X.pn ++ pins))) [] σ6 H6 s6 → (∀ s7, Inv X pins (σ6.set i none) H6 s7 → Q s7) → wpAny (model X.prog X.w) X.A (do bindName X.env n .none; unbindBehindTheSuite X.env n pos') (fun _ s7 => Q s7) X.xe s6 := fun {σ6 H6 Q} S6 q => gone_ok (S6.unsuite ok) nd hi kn q
    cases fl6 with
    | ret u => obtain ⟨v6, σ6, H6, S6, r6, q6⟩ := sp; exact fin S6 fun s7 J7 => ⟨_, _, _, J7, r6, q6⟩
    | next => obtain ⟨σ6, H6, S6, q6⟩ := sp; exact fin S6 fun s7 J7 => ⟨_, _, J7, q6⟩
    | brk => obtain ⟨σ6, H6, S6, q6⟩ := sp; exact fin S6 fun s7 J7 => ⟨_, _, J7, q6⟩
    | cont => obtain ⟨σ6, H6, S6, q6⟩ := sp; exact fin S6 fun s7 J7 => ⟨_, _, J7, q6⟩
  · cases fl with
    | ret u => obtain ⟨v, σ', H', J', r, q⟩ := sp; exact ⟨v, σ', H', J'.ofTry ok, r, q⟩
    | next => obtain ⟨σ', H', J', q⟩ := sp; exact wpAny_execs_nil ⟨σ', H', J'.ofTry ok, q⟩
    | brk => obtain ⟨σ', H', J', q⟩ := sp; exact ⟨σ', H', J'.ofTry ok, q⟩
    | cont => obtain ⟨σ', H', J', q⟩ := sp; exact ⟨σ', H', J'.ofTry ok, q⟩
end
section
variable {X : Cx} {CX : CXT} {k : Nat} {f C : Addr} {fd : FuncData} {ps : List Str} {sp : Sp} {dvs : List V} {ds : List Value} {E : L2.St → XK} {x : Str} {p pos : Pos} {e : Expr} {es : List Expr} {t : TA}
/-- C(e, ..), what is raised wished for at the caller's slots -/
def tMakeS (C : Addr) (sp : Sp) (E : L2.St → XK) (t : TA) : TE := fun σ H Q => t σ H fun vs H1 => ∀ x dx, H1 x = none → H1 dx = none → dx ≠ x →
  sp (.ref x :: vs) (upd (upd H1 dx (.own x)) x (.ins C dx [])) (fun v H2 => v = .non ∧ Q (.ref x) H2) (E σ)
theorem pe_makeS (M : Mk X.K C f) (F : FnOk X.prog X.w X.K X.mg X.base CX k f fd ps sp) (hr : Room (k + 1) X.A) (hg : Gl X x) (hm : X.mg x = some (.ref C)) (hb : L2.Binds X.K fd ps []) (hx : ∀ σ, PassesAt CX X σ (E σ)) (ha : PA X (e :: es) t)
    (hdb : (x == ("__debug__" : Str)) = false := by decide) (he : starEach (e :: es) X.env = (false, eval e X.env) :: starEach es X.env := by rfl) (hpl : (backTo pos (starEach es X.env)).any (·.1) = false := by rfl) : PE X (.Call (.Name x p) (e :: es) [] pos) (tMakeS C sp E t) := by
  refine ⟨fun pins s σ H Q I z => wpAny_Call_Name_kw (ld_glob I hg hm (PySem.W.callWith_K (h₀ := X.base) I.ok.mod.kin M.kp (thn (ha.run pos pins s σ H _ I z) fun us s1 ⟨vs, H1, I1, r, q⟩ => ⟨I1.kIn, ?_⟩) he hpl) hdb)⟩
  have q2 := q (s1.heap.objs.size + 1) s1.heap.objs.size (I1.hok.fresh (Nat.le_succ _)) (I1.hok.fresh (Nat.le_refl _)) (Nat.ne_of_lt (Nat.lt_succ_self _))
  have I2 := Inv.made (C := C) I1
  have r2 : Vals (V.ref (s1.heap.objs.size + 1) :: vs) (Value.ref (s1.heap.objs.size + 1) :: us) := .cons rfl r
  have len : (Value.ref (s1.heap.objs.size + 1) :: us ++ []).length = ps.length := by
    rw [List.append_nil, ← r2.length]; exact F.len _ _ _ _ q2
  have r3 : Vals (V.ref (s1.heap.objs.size + 1) :: vs) (Value.ref (s1.heap.objs.size + 1) :: us ++ []) := by rw [List.append_nil]; exact r2
  refine wpAny_call (make_map (f := f) I1.kIn M.makes M.init (beq_iff_eq.mp M.fn) (codeAny_mono (F.run _ X.stack _ _ ⟨Value.ref (s1.heap.objs.size + 1) :: us, []⟩ (Value.ref (s1.heap.objs.size + 1) :: us ++ []) _ _ (E σ) (hr.make C us []) (I2.env0.make C us []) (hb _ (Value.ref (s1.heap.objs.size + 1) :: us) I2.kIn len) r3 q2) fun w s' w2 => ?_))
  cases w with
  | error e => exact hx σ pins _ _ e s' I2 w2
  | ok fl =>
    cases fl with
    | ret u =>
      obtain ⟨v, H', I3, rv, ev, q3⟩ := I2.after w2
      subst ev
      exact ⟨rv, V.ref (s1.heap.objs.size + 1), H', I3, rfl, q3⟩
    | next => exact False.elim w2
    | brk => exact False.elim w2
    | cont => exact False.elim w2
end
end FLT

/-! FL26: making an instance whose __init__ may raise. -/
namespace FL
open PySem PySem.Spec L2 PyProof.Rows L2N FLT
structure FiAtX (P : Program) (w : World) (K : PySem.W.Frag) (mg : Str → Option Value) (base : Heap) (cls : Str) (C : Addr) (k : Nat) (ps : List Str) (sp : Sp) : Prop where
  ex : ∃ f fd, FnOk P w K mg base (L2N.CX P w) k f fd ps sp ∧ Mk K C f ∧ mg cls = some (.ref C) ∧ L2.Binds K fd ps []
section
variable {K : PySem.W.Frag} {ρ ρ' ρ0 ρ1 ρ2 ρ3 : Env K} {α γ ι ε : Type} {C CE : Addr} {xs : List (Str × DV K)} {W : XK} {us : TS} {ds : ι → List (Slot K)} {pre : ι → Prop} {R : Ret K γ} {f : ι → γ} {r : ι → Option ε} {prx : ι → Prop} {xf : ε → List (Str × DV K)}
theorem xr_raise1 {f1 : Str} {tA : TA} {s1 : DV K} (T : OexC K C) (n1 : PySem.W.findIn K (.ref C) f1 = some none) (ha : EvA tA ρ ρ1 [.d s1.e s1.a]) :
    XR C [(f1, s1)] W (tSeq (fun _ σ H => tMkO C (spI1 (K := K) f1) [] tA σ H fun cls d H' => W cls d H') us) ρ := fun c σ Hk H k w D =>
  ha c σ Hk H k _ fun vs Hk1 H1 k1 x1 hv => by
    obtain _ | ⟨r1, t1⟩ := hv
    cases t1
    rename_i y1
    obtain ⟨_, e1, g1⟩ := r1
    cases e1
    refine ⟨by show 1 ≤ 1000; decide, fun a hn => ⟨a, C, _, rfl, T, n1, upd_same, fun d hd hda => ?_⟩⟩
    rw [upd_ne hda] at hd
    have z := k1.made (H2 := upd (upd (upd H1 a (exo a C none)) d (exd d [(f1, y1)])) a (exo a C (some d))) (xs := [(f1, s1)]) (l := [(f1, y1)]) (C := C) hn hd hda (fun b b1 b2 => by rw [upd_ne b1, upd_ne b2, upd_ne b1]) fun n x hx => by
      rw [List.mem_singleton] at hx
      cases hx
      exact ⟨_, by rw [List.lookup_cons, beq_self_eq_true], g1⟩
    exact ⟨rfl, d, _, by rw [upd_same], by rw [upd_ne hda, upd_same], hd, w _ _ _ _ z⟩
/-- what the new object's maker knows of it, behind an exception -/
theorem ErrR.off {Hk H Hx Hk2 H2 : Hp} {p : Addr} {cls : Value} {d : Option Addr} (x : Ex H Hx) (hp : H p = none) (er : ErrR ⟨Hx, Hk, some p⟩ CE xs cls d Hk2 H2) : ErrR ⟨H, Hk, none⟩ CE xs cls d Hk2 H2 where
  ex := er.ex
  k0 := er.k0
  fr := fun a o h _ => er.fr a o (x a o h) fun z => ne_of_none h hp (Option.some.inj z).symm
  nw := fun a o h => (er.nw a o h).imp id fun z => x.none z
  th := fun a h => x.none (er.th a h)
  cl := er.cl
  fs := er.fs
/-- the instance that __init__ has filled -/
theorem made_ok {c : Ent} {σ : List (Option V)} {Hk1 H1 Hk2 H2 Hx : Hp} {p : Addr} {fl : List (Str × Fld K α)} {a : α} {g : γ} {v : V} (k1 : Ok c Hk1 H1 σ ρ1) (exn : Ex H1 Hx) (hp0 : H1 p = none) (o : OkR ⟨Hx, Hk1, some p⟩ R g v Hk2 H2) (hs : R.ls g = some (.i C (insOf fl a))) :
    ∃ Hk3, Ok c Hk3 H2 σ ρ1 ∧ Nxt σ ρ1 ρ1 Hk1 H1 Hk3 H2 ∧ (eObj C fl).rep Hk3 (.ref p) a := by
  obtain ⟨p', u, e1, e2, e3, dx', ws, rfl, e5⟩ := o.lv p _ rfl hs
  cases e1
  have y : Ex Hk2 (upd Hk2 p (.ins C dx' ws)) := Ex.new e2
  have exH : Ex H1 H2 := fun b u h => o.fr b u (exn b u h) fun z => ne_of_none h hp0 (Option.some.inj z).symm
  have nw : ∀ b u, upd Hk2 p (.ins C dx' ws) b = some u → Hk1 b = some u ∨ H1 b = none := fun b u h => by
    by_cases z : b = p
    · subst z; exact .inr hp0
    · rw [upd_ne z] at h
      rcases o.nw b u h with w | w
      · exact .inl w
      · exact .inr (exn.none w)
  refine ⟨upd Hk2 p (.ins C dx' ws), k1.ext exH (o.k0.trans y) (fun b u h => ?_) nw, Nxt.of (o.k0.trans y) exH nw, p, dx', ws, rfl, upd_same, insOf_all2 (e5.imp fun _ q h => ⟨h.1, q.2.e.mono y h.2⟩)⟩
  by_cases z : b = p
  · subst z; rw [upd_same] at h; rw [e3, h]
  · rw [upd_ne z] at h; exact o.ex _ _ h
theorem new_ex {H1 : Hp} {p dx : Addr} (hp0 : H1 p = none) (hdx : H1 dx = none) : Ex H1 (upd (upd H1 dx (.own p)) p (.ins C dx [])) := fun b o h => by
  rw [upd_ne (ne_of_none h hp0), upd_ne (ne_of_none h hdx)]; exact h
theorem new_args {Hk1 H1 : Hp} {p dx : Addr} {vs : List V} {rest : List (Slot K)} (x : Ex Hk1 H1) (hp0 : H1 p = none) (hdx : H1 dx = none) (hv : All2S (fun v s => s.ok Hk1 H1 (some v)) vs rest) :
    All2S (fun v s => s.ok Hk1 (upd (upd H1 dx (.own p)) p (.ins C dx [])) (some v)) (.ref p :: vs) (.i C [] :: rest) :=
  .cons ⟨p, _, rfl, x.none hp0, upd_same, dx, [], rfl, .nil⟩ (hv.imp fun v s h => Slot.ok_ext h (new_ex hp0 hdx) (Ex.refl _) fun a o h => .inl h)
theorem ev_makeX {tA : TA} {EX : XK} {fl : List (Str × Fld K α)} {a : α} {rest : List (Slot K)} (x : ι) (ha : EvA tA ρ ρ1 rest) (hx : ds x = .i C [] :: rest) (hn : r x = none) (hp : pre x) (hr : ∀ H v, R.e.rep H v (R.val (f x)) → v = .non) (hs : R.ls (f x) = some (.i C (insOf fl a))) (hnl : R.nl (f x) = none) :
    EvD (tMake C (spX ds pre R f CE r prx xf) [] EX tA) ρ ρ1 (eObj C fl) a := fun c σ Hk H k Q q =>
  ha c σ Hk H k _ fun vs Hk1 H1 k1 x1 hv p dx hp0 hdx ne => by
    refine ⟨x, Hk1, k1.ex.trans (new_ex hp0 hdx), by rw [List.append_nil, hx]; exact new_args k1.ex hp0 hdx hv, .inl ⟨hn, hp, fun v Hk2 H2 o => ?_⟩⟩
    have hl : lentOf (V.ref p :: (vs ++ [])) (ds x) = some p := by rw [hx]; rfl
    rw [hl] at o
    obtain ⟨Hk3, k3, x3, r3⟩ := made_ok k1 (new_ex hp0 hdx) hp0 o hs
    exact ⟨hr _ _ (o.rv hnl), q _ _ _ k3 (x1.trans x3) r3⟩
/-- try: y = C(..) except C1: .. except CE as e: suite, of which only the second clause may serve -/
theorem xb_tryMk {ν lam δ : Type} {En : ν → Env K} {L : lam → Env K} {R' : Ret K δ} {tA : TA} {i j : Nat} {ts : Addr → Value → Option Addr → TS} {oh : ε → Out Empty Empty δ} {fl : List (Str × Fld K α)} {a : α} {ok : α → Out ν lam δ} {C1 : Addr} {rest : List (Slot K)} (x : ι) (ha : EvA tA ρ ρ1 rest) (hx : ds x = .i C [] :: rest)
    (hp : r x = none → pre x) (hpx : ∀ e, r x = some e → prx x) (hr : ∀ H v, R.e.rep H v (R.val (f x)) → v = .non) (hs0 : R.ls (f x) = some (.i C (insOf fl a))) (hnl : R.nl (f x) = none) (hj : okSet ρ1 j = true) (hi : isMAt ρ1 i = false)
    (no1 : PySem.W.exmOne K (.ref CE) (.ref C1) = some false) (yes : PySem.W.exmOne K (.ref CE) (.ref CE) = some true)
    (hn : r x = none → ∀ y, y = a → XB us (ρ1.set j (.d (eObj C fl) y)) En L R' (ok y))
    (hs : ∀ e, r x = some e → ∀ (a : Addr) (d : Option Addr), XB (ts a (.ref CE) d) (ρ1.set i (.d (eX a d (xf e)) ())) (fun z : Empty => nomatch z) (fun z : Empty => nomatch z) R' (oh e)) :
    XB (tSeq (fun D σ H => (fun Wx : WX => tSeq (tAsg (tMakeS C (spX ds pre R f CE r prx xf) (L2.WE Wx) tA) (gName j)) tNext) (wTwo K (.ref C1) (.ref CE) i ts D) D σ H) us) ρ En L R' (tryO (r x) (lt a ok) oh) := fun c σ Hk H k D q => by
  refine ha c σ Hk H k _ fun vs Hk1 H1 k1 x1 hv p dx hp0 hdx ne => ⟨x, Hk1, k1.ex.trans (new_ex hp0 hdx), by rw [hx]; exact new_args k1.ex hp0 hdx hv, ?_⟩
  have hl : lentOf (V.ref p :: vs) (ds x) = some p := by rw [hx]; rfl
  cases hq : r x with
  | none =>
    rw [hq] at q
    have q : (ok a).fin c Hk En L R' D := q
    refine .inl ⟨rfl, hp hq, fun v Hk2 H2 o => ?_⟩
    rw [hl] at o
    obtain ⟨Hk3, k3, x3, r3⟩ := made_ok k1 (new_ex hp0 hdx) hp0 o hs0
    exact ⟨hr _ _ (o.rv hnl), hn hq _ rfl c _ Hk3 H2 (k3.setX hj ⟨_, rfl, r3⟩ fun h => nomatch h) D (Out.fin_mono (x1.ex.trans x3.ex) q)⟩
  | some e =>
    rw [hq] at q
    refine .inr ⟨e, rfl, hpx e hq, fun cls d Hk2 H2 er => ?_⟩
    rw [hl] at er
    have er := er.off (new_ex hp0 hdx) hp0
    have hc := er.cl
    subst hc
    refine ⟨no1, yes, fun a _ => ?_⟩
    have k2 := k1.caught er
    obtain ⟨dd, l, e1, e2, e3⟩ := er.fs
    have k3 := k2.setD (e := eX a d (xf e)) (a := ()) (v := .ref a) hi ⟨rfl, dd, l, e1, e2, e3⟩
    refine hs e hq a d c _ Hk2 H2 k3 _ ?_
    cases ho : oh e with
    | nx t => exact nomatch t
    | ct t => exact nomatch t
    | bk t => exact nomatch t
    | rt z =>
      have q : ((oh e).lift : Out ν lam δ).fin c Hk En L R' D := q
      rw [ho] at q
      exact q
end
/-- an exception of the class at C is none of the class at D -/
theorem exm_no {K : PySem.W.Frag} {C D : Addr} (a : PySem.W.subIn K (.ref D) (.type "BaseException") = some true) (b : PySem.W.isClsIn K D = true) (c : PySem.W.typeIn K (.ref D) = some (.type "type")) (d : PySem.W.subIn K (.ref C) (.ref D) = some false) :
    PySem.W.exmOne K (.ref C) (.ref D) = some false := by
  have x : (PySem.W.subIn K (.ref D) (.type "BaseException") == some true) = true := by rw [a] <;> rfl
  have b' : (PySem.W.clsIn K D).isSome = true := b
  have y : ((PySem.W.clsIn K D).isSome && PySem.W.typeIn K (.ref D) == some (.type "type")) = true := by rw [b', c] <;> rfl
  show (if _ then (if _ then PySem.W.subIn K (.ref C) (.ref D) else none) else none) = some false
  rw [if_pos x, if_pos y, d]
end FL

/-! FL27: == of data of any kind without instances, max of two, tuples read in another way. -/
namespace FL
open PySem L2
mutual
def Py.pd {F : Type} : Py F → PyData
  | .non => .none
  | .bl b => .bool b
  | .int i => .int i
  | .str s => .str s
  | .obj _ => .none
  | .lst l => .list (Py.pds l)
  | .tup l => .tuple (Py.pds l)
def Py.pds {F : Type} : List (Py F) → List PyData
  | [] => []
  | d :: l => Py.pd d :: Py.pds l
end
mutual
/-- no instance in it -/
def Py.pl {F : Type} : Py F → Bool
  | .non => true
  | .bl _ => true
  | .int _ => true
  | .str _ => true
  | .obj _ => false
  | .lst l => Py.pls l
  | .tup l => Py.pls l
def Py.pls {F : Type} : List (Py F) → Bool
  | [] => true
  | d :: l => Py.pl d && Py.pls l
end
def Py.eqv {F : Type} (a b : Py F) : Bool := PyData.eqv a.pd b.pd
def Py.shp {F : Type} (a : Py F) : Bool := a.pl && SeqAt.shaped a.pd
section
variable {K : PySem.W.Frag} {ρ ρ' ρ0 ρ1 ρ2 : Env K} {α β F : Type} {e : Enc K F} {f : Enc K α} {g : Enc K β} {ta tb te : TE}
mutual
theorem dp_of {H : Hp} : ∀ {d : Py F} {v : V}, Py.pl d = true → repD e H d v → Dp K H v (Py.pd d)
  | .non, v, _, h => by unfold repD at h; subst h; unfold Py.pd; exact .non
  | .bl b, v, _, h => by unfold repD at h; subst h; unfold Py.pd; exact .bl b
  | .int i, v, _, h => by unfold repD at h; subst h; unfold Py.pd; exact .int i
  | .str s, v, _, h => by unfold repD at h; subst h; unfold Py.pd; exact .str s
  | .obj y, v, p, h => by unfold Py.pl at p; cases p
  | .lst l, v, p, h => by
    unfold repD at h
    unfold Py.pl at p
    obtain ⟨q, xs, h1, h2, h3, h4⟩ := h
    subst h1
    unfold Py.pd
    exact .lst h2 (dps_of p h3)
  | .tup l, v, p, h => by
    unfold repD at h
    unfold Py.pl at p
    obtain ⟨q, xs, h1, h2, h3, h4⟩ := h
    subst h1
    unfold Py.pd
    exact .tup h2 (dps_of p h3)
theorem dps_of {H : Hp} : ∀ {l : List (Py F)} {xs : List V}, Py.pls l = true → repDs e H l xs → DpAll K H xs (Py.pds l)
  | [], xs, _, h => by unfold repDs at h; subst h; unfold Py.pds; exact .nil
  | d :: l, xs, p, h => by
    unfold repDs at h
    unfold Py.pls at p
    obtain ⟨y, ys, h1, h2, h3⟩ := h
    subst h1
    obtain ⟨p1, p2⟩ := Bool.and_eq_true _ _ |>.mp p
    unfold Py.pds
    exact .cons (dp_of p1 h2) (dps_of p2 h3)
end
theorem ev_eqD {a b : Py F} (ha : EvD ta ρ ρ1 (eD e) a) (hb : EvD tb ρ1 ρ2 (eD e) b) (h1 : a.shp = true ∧ b.shp = true) : EvD (tOp (rEqD K) ta tb) ρ ρ2 eB (a.eqv b) :=
  ev_bin ha hb fun c σ Hk H x y k r1 r2 Q q => by
    obtain ⟨a1, a2⟩ := Bool.and_eq_true _ _ |>.mp h1.1
    obtain ⟨b1, b2⟩ := Bool.and_eq_true _ _ |>.mp h1.2
    exact ⟨_, _, dp_of a1 ((eD e).mono k.ex r1), dp_of b1 ((eD e).mono k.ex r2), a2, b2, q _ Hk H k Nxt.refl rfl⟩
theorem ev_neD {a b : Py F} (ha : EvD ta ρ ρ1 (eD e) a) (hb : EvD tb ρ1 ρ2 (eD e) b) (h1 : a.shp = true ∧ b.shp = true) : EvD (tOp (rNeD K) ta tb) ρ ρ2 eB (!a.eqv b) :=
  ev_bin ha hb fun c σ Hk H x y k r1 r2 Q q => by
    obtain ⟨a1, a2⟩ := Bool.and_eq_true _ _ |>.mp h1.1
    obtain ⟨b1, b2⟩ := Bool.and_eq_true _ _ |>.mp h1.2
    exact ⟨_, _, dp_of a1 ((eD e).mono k.ex r1), dp_of b1 ((eD e).mono k.ex r2), a2, b2, q _ Hk H k Nxt.refl rfl⟩
instance {u : α → β} [Cv f g u] : Cv (eT f) (eT g) (List.map u) := ⟨fun H v as ⟨p, xs, h1, h2, h3, h4⟩ => ⟨p, xs, h1, h2, all2_cv h3, by rw [List.length_map]; exact h4⟩⟩
instance {u : α → β} [Cv f g u] : Cv (eT f) (eQ g) (List.map u) := ⟨fun H v as ⟨p, xs, h1, h2, h3, h4⟩ => .inr ⟨p, xs, h1, h2, all2_cv h3, by rw [List.length_map]; exact h4⟩⟩
def rMax2 : List V → Hp → VK → Prop := fun xs H Q => ∃ i j, xs = [.int i, .int j] ∧ Q (.int (if j > i then j else i)) H
theorem cr_max2 {X : Cx} (hc : X.calm = true) : CallR X (.builtin "max") rMax2 := call_max2 hc
theorem ev_max2 {a b : Int} (ha : EvD ta ρ ρ1 eI a) (hb : EvD tb ρ1 ρ2 eI b) : EvD (tCB rMax2 (tCons ta (tCons tb tNil))) ρ ρ2 eI (if a < b then b else a) := fun c σ Hk H k Q q =>
  ha c σ Hk H k _ fun x Hk1 H1 k1 x1 r1 => hb c σ Hk1 H1 k1 _ fun y Hk2 H2 k2 x2 r2 => by
    cases (show x = .int a from r1)
    cases (show y = .int b from r2)
    exact ⟨a, b, rfl, q _ Hk2 H2 k2 (x1.trans x2) rfl⟩
theorem et_neverB {tt : TT} {ρ ρ' : Env K} {b : Bool} (h : False) : EvT tt ρ ρ' b := h.elim
end
end FL

/-! FL28: len of an instance with its own __len__; a test of two parts that both change the box. -/
namespace FL
open PySem PySem.Spec L2 PyProof.Rows
theorem room_u1 {A : Around} {k : Nat} (hr : Room k A) : A.units + 1 < cLine := by have := hr.un; omega
theorem len_own {prog : Program} {w : World} {A : Around} {E : Value → Shared → Prop} {s : Shared} {K : PySem.W.Frag} {x C f : Addr} {ox : Obj} {odd : Option Obj} {Q : Value → Shared → Prop} (X : K.In s.heap) (I : PySem.W.InstAt s.heap x ox C odd)
    (hs : PySem.W.findIn K (.ref C) "__len__" = some (some (.ref f))) (hf : PySem.W.isFn K (.ref f) = true)
    (h : wpAny (model prog w) A (call (.ref f) [.ref x]) (fun r s₁ => ∃ (n : Int) (u : Tok), r = Value.int n u ∧ 0 ≤ n ∧ n < 2 ^ 63 ∧ Q (.int n s₁.toks) { s₁ with toks := s₁.toks + 1 }) E s) :
    wpAny (model prog w) A (Builtin.«len» ⟨[.ref x], []⟩) (fun fin s' => ∃ r, fin = .done (.ret r) ∧ Q r s') E s := by
  unfold Builtin.«len»
  refine wpAny_bind (m := oneArg "len" _) (wpAny_pure ?_)
  refine wpAny_bind (m := callSpecial? (.ref x) (Str.ofString "__len__")) (PySem.W.special_fn X I hs (beq_iff_eq.mp hf) (wpAny_mono h (fun r s1 z => ?_) fun _ _ y => y))
  obtain ⟨n, u, rfl, h0, h1, q⟩ := z
  refine wpAny_bind (wpAny_holding (wpAny_pure ?_))
  refine wpAny_bind (wpAny_letGo ?_)
  show wpAny _ _ (if n < 0 then _ else _) _ _ _
  rw [if_neg (by omega)]
  show wpAny _ _ (if n ≥ 2 ^ 63 then _ else _) _ _ _
  rw [if_neg (by omega)]
  exact wpAny_bind (wpAny_mkInt (wpAny_pure ⟨_, rfl, q⟩))
def rLenOwn (C : Addr) (sp : Sp) (E : XK) : List V → Hp → VK → Prop := fun xs H Q => ∃ a dx fs, xs = [.ref a] ∧ H a = some (.ins C dx fs) ∧ sp [.ref a] H (fun v H' => ∃ n : Int, v = .int n ∧ 0 ≤ n ∧ n < 2 ^ 63 ∧ Q (.int n) H') E
theorem call_lenOwn {X : Cx} {CX : CXT} {n : Nat} {C f : Addr} {fd : FuncData} {ps : List Str} {sp : Sp} {E : XK} (hs : PySem.W.findIn X.K (.ref C) "__len__" = some (some (.ref f))) (hf : PySem.W.isFn X.K (.ref f) = true)
    (F : FnOk X.prog X.w X.K X.mg X.base CX n f fd ps sp) (hr : Room (n + 1) X.A) (hb : Binds X.K fd ps []) (hx : Passes CX X E) : CallR X (.builtin "len") (rLenOwn C sp E) := by
  intro pins s σ H xs us Q I r h
  obtain ⟨a, dx, fs, rfl, ha, q⟩ := h
  obtain ⟨u, rfl, rx⟩ := vals1 r
  cases (show u = Value.ref a from rx)
  obtain ⟨mA, J, _⟩ := ins_get I.hok ha
  obtain ⟨od, J, _⟩ := J.look
  have r2 : Vals [V.ref a] [Value.ref a] := .cons rfl .nil
  have hl : ([Value.ref a] : List Value).length = ps.length := by rw [← r2.length]; exact F.len _ _ _ _ q
  have b := hb s [.ref a] I.kIn (by rw [List.append_nil]; exact hl)
  rw [List.append_nil] at b
  refine Calls.call_function_entry kind_len plain_len entry_len (args_len1 _) (len_own I.kIn J hs hf (wpAny_call (codeAny_mono (F.run X.A.in1 X.stack s H ⟨[.ref a], []⟩ [.ref a] [.ref a] _ E hr.in1 I.env0.in1 b r2 q) fun r s' hq => ?_)))
  cases r with
  | error e => exact hx pins σ H s e s' I hq
  | ok fl =>
    cases fl with
    | ret u =>
      obtain ⟨v, H', I2, rv, m, ev, h0, h1, q⟩ := I.after hq
      subst ev
      obtain ⟨t, rfl⟩ := rv
      exact ⟨m, t, rfl, h0, h1, .int m, H', I2.tok _, ⟨_, rfl⟩, q⟩
    | next => exact False.elim hq
    | brk => exact False.elim hq
    | cont => exact False.elim hq
section
variable {K : PySem.W.Frag} {ρ ρ' ρ0 ρ1 ρ2 ρ3 : Env K} {α β δ : Type} {ta tb : TE} {tt tu : TT} {ι γ : Type} {ds : ι → List (Slot K)} {pre : ι → Prop} {R : Ret K γ} {f : ι → γ}
theorem ev_lenOwn {EX : XK} {C : Addr} {fl : List (Str × Fld K α)} {a : α} {n : Int} (x : ι) (ha : EvD ta ρ ρ1 (eObj C fl) a) (hx : ds x = [.d (eObj C fl) a]) (hp : pre x) (hnl : R.nl (f x) = none) (hr : ∀ H v, R.e.rep H v (R.val (f x)) → v = .int n) (hn : 0 ≤ n ∧ n < 2 ^ 63) :
    EvD (tCB (rLenOwn C (spF ds pre R f) EX) (tCons ta tNil)) ρ ρ1 eI n := fun c σ Hk H k Q q =>
  ha c σ Hk H k _ fun v Hk1 H1 k1 x1 r1 => by
    obtain ⟨p, dx, vs, rfl, h2, h3⟩ := id r1
    refine ⟨p, dx, vs, rfl, k1.ex _ _ h2, x, Hk1, hp, k1.ex, ?_, fun v Hk3 H3 o => ?_⟩
    · rw [hx]; exact .cons ⟨_, rfl, r1⟩ .nil
    · rw [lent_none (by rw [hx]; rfl)] at o
      obtain ⟨k3, x3⟩ := k1.called o
      exact ⟨n, hr _ _ (o.rv hnl), hn.1, hn.2, q _ Hk3 H3 k3 (x1.trans x3) rfl⟩
theorem ev_neS {a b : Str} (ha : EvD ta ρ ρ1 eS a) (hb : EvD tb ρ1 ρ2 eS b) : EvD (tOp rNe ta tb) ρ ρ2 eB (!decide (a = b)) :=
  ev_bin ha hb fun c σ Hk H x y k r1 r2 Q q => by
    have r1 : x = .str a := r1
    have r2 : y = .str b := r2
    subst r1; subst r2
    refine ⟨rfl, q _ Hk H k Nxt.refl ?_⟩
    show V.bl _ = V.bl _
    congr 2; simp
instance {e : Enc K α} [Scal e] : Scal (eO e) := ⟨fun H H' v a h => by
  cases a with
  | none => exact h
  | some a => exact Scal.sc (e := e) H H' v a h⟩
theorem set_same {j : Nat} {s : Slot K} (h : ρ[j]? = some s) : ρ.set j s = ρ := by
  apply List.ext_getElem?
  intro i
  rw [List.getElem?_set]
  split
  · rename_i w; subst w
    split
    · exact h.symm
    · rename_i w; rw [List.getElem?_eq_none (by omega)]
  · rfl
/-- a or b, both changing the box -/
theorem et_orMM {j : Nat} {m m' : BoxD} {a b : Bool} (ha : EvT tt ρ ρ1 a) (hj : ρ1[j]? = some (.m mBox m)) (hb : a = false → EvT tu ρ1 (ρ1.set j (.m mBox m')) b) : EvT (tOr tt tu) ρ (ρ1.set j (.m mBox (bif a then m else m'))) (a || b) := by
  cases a with
  | false => exact fun c σ Hk H k Q q => ha c σ Hk H k _ fun Hk1 H1 k1 x1 => hb rfl c σ Hk1 H1 k1 Q fun Hk2 H2 k2 x2 => q Hk2 H2 k2 (x1.trans x2)
  | true =>
    have e : ρ1.set j (.m mBox m) = ρ1 := set_same hj
    exact fun c σ Hk H k Q q => ha c σ Hk H k _ fun Hk1 H1 k1 x1 => q Hk1 H1 (by show Ok c Hk1 H1 σ (ρ1.set j (.m mBox m)); rw [e]; exact k1) (by show Nxt σ ρ (ρ1.set j (.m mBox m)) Hk H Hk1 H1; rw [e]; exact x1)
end
end FL

/-! FL29: an own == with a value of any kind; is of bools; int of a bool, str of an int; keywords to a method and to a class. -/
namespace FL
open PySem PySem.Spec L2 PyProof.Rows
/-! own == -/
def rOwnE (K : PySem.W.Frag) (C : Addr) (sp : Sp) (E : XK) : R2 := fun x y H Q => ∃ a dx fs t, x = .ref a ∧ H a = some (.ins C dx fs) ∧ TyX K H y t ∧ PySem.W.notFirst K C t = true ∧ sp [x, y] H Q E
theorem op_ownE {X : Cx} {CX : CXT} {n : Nat} {C f : Addr} {fd : FuncData} {ps : List Str} {sp : Sp} {E : XK} (hs : PySem.W.findIn X.K (.ref C) "__eq__" = some (some (.ref f))) (hf : PySem.W.isFn X.K (.ref f) = true)
    (F : FnOk X.prog X.w X.K X.mg X.base CX n f fd ps sp) (hr : Room n X.A) (hb : Binds X.K fd ps []) (hx : Passes CX X E) : OpR X (compareOp .Eq) (rOwnE X.K C sp E) := by
  intro pins s σ H x y v u Q I rx ry h
  obtain ⟨a, dx, fs, t, rfl, ha, ty, hn, q⟩ := h
  cases (show v = Value.ref a from rx)
  obtain ⟨mA, J, _⟩ := ins_get I.hok ha
  obtain ⟨od, J, _⟩ := J.look
  obtain ⟨P, Z, p, _⟩ := kit_of I ry ty
  obtain ⟨m, hF⟩ := I.fr
  have hop : ∀ a b, compareOp .Eq a b = richCompare .Eq a b := fun _ _ => rfl
  rw [hop]
  refine PySem.W.cmp_K (op := .Eq) (tb := t) hr.units0 hF I.ok.mod.kin J (Z.ty _ _ I.kIn p) hn hs hf ?_
  refine wpAny_mono (run_fn (us := [.ref a, u]) (vs := [.ref a, y]) F hr hb .nil hx I (.cons rfl (.cons ry .nil)) q) (fun w s' z => ?_) fun _ _ x => x
  obtain ⟨z', H', I', rz, qz⟩ := z
  exact SlX.cmpback rz ⟨z', H', I', rz, qz⟩
/-- no built-in type is below the class -/
structure NF (K : PySem.W.Frag) (C : Addr) : Prop where
  n : PySem.W.subIn K (.type "NoneType") (.ref C) = some false
  b : PySem.W.subIn K (.type "bool") (.ref C) = some false
  i : PySem.W.subIn K (.type "int") (.ref C) = some false
  s : PySem.W.subIn K (.type "str") (.ref C) = some false
  l : PySem.W.subIn K (.type "list") (.ref C) = some false
  t : PySem.W.subIn K (.type "tuple") (.ref C) = some false
theorem NF.all {K : PySem.W.Frag} {C : Addr} {F : Type} (h : NF K C) : ∀ d : Py F, PySem.W.notFirst K C (tyD C d) = true := fun d => by
  unfold PySem.W.notFirst
  cases d with
  | non => rw [show tyD C (Py.non : Py F) = .type "NoneType" from rfl, h.n]; simp
  | bl b => rw [show tyD C (Py.bl b : Py F) = .type "bool" from rfl, h.b]; simp
  | int b => rw [show tyD C (Py.int b : Py F) = .type "int" from rfl, h.i]; simp
  | str b => rw [show tyD C (Py.str b : Py F) = .type "str" from rfl, h.s]; simp
  | obj b => rw [show tyD C (Py.obj b : Py F) = .ref C from rfl]; simp
  | lst b => rw [show tyD C (Py.lst b : Py F) = .type "list" from rfl, h.l]; simp
  | tup b => rw [show tyD C (Py.tup b : Py F) = .type "tuple" from rfl, h.t]; simp
section
variable {K : PySem.W.Frag} {ρ ρ' ρ0 ρ1 ρ2 ρ3 : Env K} {α β δ F : Type} {ta tb te tc : TE} {tk : TA} {ι γ : Type} {ds : ι → List (Slot K)} {pre : ι → Prop} {R : Ret K γ} {f : ι → γ}
theorem ev_ownE {EX : XK} {C : Addr} {fl : List (Str × Fld K F)} {a : F} {d : Py F} (I : InsF K C) (N : NF K C) (x : ι) (ha : EvD ta ρ ρ1 (eObj C fl) a) (hb : EvD tb ρ1 ρ2 (eD (eObj C fl)) d) (hx : ds x = [.d (eObj C fl) a, .d (eD (eObj C fl)) d]) (hp : pre x) (hnl : R.nl (f x) = none) :
    EvD (tOp (rOwnE K C (spF ds pre R f) EX) ta tb) ρ ρ2 R.e (R.val (f x)) := fun c σ Hk H k Q q =>
  ha c σ Hk H k _ fun v Hk1 H1 k1 x1 r1 => hb c σ Hk1 H1 k1 _ fun w Hk2 H2 k2 x2 r2 => by
    have r1' := (eObj C fl).mono x2.ex r1
    obtain ⟨p, dx, vs, rfl, h2, h3⟩ := id r1'
    refine ⟨p, dx, vs, tyD C d, rfl, k2.ex _ _ h2, ty_D I k2.ex r2, N.all d, x, Hk2, hp, k2.ex, ?_, fun v Hk3 H3 o => ?_⟩
    · rw [hx]; exact .cons ⟨_, rfl, r1'⟩ (.cons ⟨_, rfl, r2⟩ .nil)
    · rw [lent_none (by rw [hx]; rfl)] at o
      obtain ⟨k3, x3⟩ := k2.called o
      exact q v Hk3 H3 k3 ((x1.trans x2).trans x3) (o.rv hnl)
/-! small ones -/
def rIsBl : R2 := fun x y H Q => ∃ a b, x = .bl a ∧ y = .bl b ∧ Q (.bl (decide (a = b))) H
theorem op_isBl2 {X : Cx} : OpR X (compareOp .Is) rIsBl := op_is_bl
theorem ev_isB {a b : Bool} (ha : EvD ta ρ ρ1 eB a) (hb : EvD tb ρ1 ρ2 eB b) : EvD (tOp rIsBl ta tb) ρ ρ2 eB (decide (a = b)) :=
  ev_bin ha hb fun c σ Hk H x y k r1 r2 Q q => ⟨a, b, r1, r2, q _ Hk H k Nxt.refl rfl⟩
def rIntB : List V → Hp → VK → Prop := fun xs H Q => ∃ k, xs = [.bl k] ∧ Q (.int (if k then 1 else 0)) H
theorem call_intB {X : Cx} : CallR X (.type "int") rIntB := fun pins s σ H xs us Q I r ⟨k, e, q⟩ => call_int1 pins s σ H xs us Q I r (.inr ⟨k, e, q⟩)
theorem ev_intB {b : Bool} (h : EvD te ρ ρ1 eB b) : EvD (tCB rIntB (tCons te tNil)) ρ ρ1 eI (if b then 1 else 0) := fun c σ Hk H k Q q =>
  h c σ Hk H k _ fun v Hk1 H1 k1 x1 r1 => ⟨b, by rw [show v = .bl b from r1], q _ Hk1 H1 k1 x1 rfl⟩
def rStrI : List V → Hp → VK → Prop := fun xs H Q => ∃ i : Int, xs = [.int i] ∧ i.natAbs.log2 < 1920 ∧ Q (.str (toString i)) H
theorem call_strI {X : Cx} : CallR X (.type "str") rStrI := call_str_int
def strI (i : Int) : Str := toString i
theorem ev_strI {i : Int} (h : EvD te ρ ρ1 eI i) (hl : i.natAbs.log2 < 1920) : EvD (tCB rStrI (tCons te tNil)) ρ ρ1 eS (strI i) := fun c σ Hk H k Q q =>
  h c σ Hk H k _ fun v Hk1 H1 k1 x1 r1 => ⟨i, by rw [show v = .int i from r1], hl, q _ Hk1 H1 k1 x1 rfl⟩
def pairL (p : Int × Int) : List Int := [p.1, p.2]
instance : Cv (eP (eI (K := K)) eI) (eT eI) pairL := ⟨fun H v p ⟨q, x, y, h1, h2, h3, h4⟩ => ⟨q, [x, y], h1, h2, .cons h3 (.cons h4 .nil), by show 2 ≤ LM; decide⟩⟩
/-! keywords to a method -/
def tMethK (C : Addr) (m : Str) (n : Nat) (sp : Sp) (gV : List V → List V → List V) (E : XK) (ta : TE) (tk : TA) : TE := fun σ H Q => ta σ H fun x H1 => ∃ a dx fs, x = .ref a ∧ H1 a = some (.ins C dx fs) ∧ fs.lookup m = none ∧
  tk σ H1 fun zs H2 => zs.length = n ∧ sp (gV [x] zs) H2 Q E
end
section
variable {X : Cx} {CX : CXT} {k : Nat} {f C : Addr} {fd : FuncData} {ps ks : List Str} {sp : Sp} {E : XK} {o : Expr} {m : Str} {apos pos : Pos} {kws : List Keyword} {ta : TE} {tk : TA} {g : List Value → List Value → List Value} {gV : List V → List V → List V}
theorem pe_methK {pl : Sem Bool} (he : PE X o ta) (c : Cls X.K C) (hm : Meth X.K C m f) (F : FnOk X.prog X.w X.K X.mg X.base CX k f fd ps sp) (hr : Room k X.A) (hb : KBn X.K fd ps 1 ks g gV) (hx : Passes CX X E) (hkw : PK X kws tk)
    (hall : (backToKw pos (keywordEach kws X.env)).all (·.1.isSome) = true := by rfl) (hks : (backToKw pos (keywordEach kws X.env)).filterMap (·.1) = ks := by rfl)
    (hpl : ((backTo pos (starEach [] X.env)).any (·.1) || (backToKw pos (keywordEach kws X.env)).any (·.1.isNone)) = false := by rfl)
    (ht : eval (.Call (.Attribute o m apos) [] kws pos) X.env = (do
      let ov ← eval o X.env
      standAt apos.atName
      let (f, first) ← holding [ov] (getMethod ov m pl)
      callWith pos f first (backTo pos (starEach [] X.env)) (backToKw pos (keywordEach kws X.env))) := by rfl) :
    PE X (.Call (.Attribute o m apos) [] kws pos) (tMethK C m ks.length sp gV E ta tk) := by
  refine ⟨fun pins s σ H Q I h => ?_⟩
  refine PySem.W.methodCall_KW (pl := pl) (thn (he.run pins s σ H _ I h) fun u s1 ⟨x, H1, I1, rx, a, dx, fs, ex, ea, l, q⟩ => ?_) ht
  subst ex
  obtain rfl : u = Value.ref a := rx
  refine getmeth_ok I1 ea c hm l ?_
  refine PySem.W.callWith_KW0 (first := [.ref a]) (h₀ := X.base) I.ok.mod.kin hm.kp hall (thn (hkw.run pos pins s1 σ H1 _ I1 q) fun ws s2 ⟨zs, H2, I2, rz, l2, q2⟩ => ⟨I2.kIn, ?_⟩) hpl
  rw [hks]
  exact run_fnN (us := [.ref a]) (vs := [.ref a]) F hr hb hx I2 (.cons rfl .nil) rz rfl l2 q2
end
section
variable {K : PySem.W.Frag} {ρ ρ' ρ0 ρ1 ρ2 ρ3 : Env K} {α β δ : Type} {ta tb te tc : TE} {tk : TA} {ι γ : Type} {ds : ι → List (Slot K)} {pre : ι → Prop} {R : Ret K γ} {f : ι → γ}
theorem ev_methK {EX : XK} {C : Addr} {fl : List (Str × Fld K α)} {a : α} {m : Str} {n : Nat} {d2 rest : List (Slot K)} {gV : List V → List V → List V} (x : ι) (h : EvD te ρ ρ0 (eObj C fl) a) (hn : m ∉ fl.map Prod.fst) (ha : EvA tk ρ0 ρ1 d2) (hl : d2.length = n) (hx : ds x = .d (eObj C fl) a :: rest)
    (hg : ∀ (v : V) (zs : List V) (r : V → Slot K → Prop), r v (.d (eObj C fl) a) → All2S r zs d2 → All2S r (gV [v] zs) (.d (eObj C fl) a :: rest)) (hp : pre x) (hnl : R.nl (f x) = none) :
    EvD (tMethK C m n (spF ds pre R f) gV EX te tk) ρ ρ1 R.e (R.val (f x)) := fun c σ Hk H k Q q =>
  h c σ Hk H k _ fun v Hk0 H0 k0 x0 r0 => by
    obtain ⟨p, dx, vs, rfl, h2, h3⟩ := id r0
    refine ⟨p, dx, vs, rfl, k0.ex _ _ h2, look_none (r := fun v (F : Fld K α) => F.e.rep Hk0 v (F.g a)) h3 hn, ha c σ Hk0 H0 k0 _ fun ws Hk1 H1 k1 x1 hv => ⟨hv.len.trans hl, ?_⟩⟩
    refine ⟨x, Hk1, hp, k1.ex, by rw [hx]; exact hg _ _ _ ⟨_, rfl, (eObj C fl).mono x1.ex r0⟩ hv, fun v Hk2 H2 o => ?_⟩
    rw [lent_none (by rw [hx]; rfl)] at o
    obtain ⟨k2, x2⟩ := k1.called o
    exact q v Hk2 H2 k2 ((x0.trans x1).trans x2) (o.rv hnl)
/-- C(k = v, ..) -/
theorem ev_makeK {EX : XK} {C : Addr} {fl : List (Str × Fld K α)} {a : α} {m : Nat} {d2 rest : List (Slot K)} {gV : List V → List V → List V} (x : ι) (ha : EvA tk ρ ρ1 d2) (hl : d2.length = m) (hx : ds x = .i C [] :: rest)
    (hd : ∀ (v : V) (zs : List V), ∃ ws, gV [v] zs = v :: ws) (hg : ∀ (v : V) (zs : List V) (Hk H : Hp), Slot.ok Hk H (some v) (.i C [] : Slot K) → All2S (fun v s => s.ok Hk H (some v)) zs d2 → All2S (fun v s => s.ok Hk H (some v)) (gV [v] zs) (.i C [] :: rest)) (hp : pre x) (hr : ∀ H v, R.e.rep H v (R.val (f x)) → v = .non) (hs : R.ls (f x) = some (.i C (insOf fl a))) (hnl : R.nl (f x) = none) :
    EvD (tMakeK C 0 m (spF ds pre R f) gV EX tNil tk) ρ ρ1 (eObj C fl) a := fun c σ Hk H k Q q =>
  ha c σ Hk H k _ fun zs Hk1 H1 k1 x1 hv => ⟨rfl, hv.len.trans hl, fun p dx hp0 hdx ne => by
    have h2 := new_args (C := C) k1.ex hp0 hdx hv
    cases h2 with
    | cons h2 h3 =>
      refine ⟨x, Hk1, hp, k1.ex.trans (new_ex hp0 hdx), by rw [hx]; exact hg _ _ _ _ h2 h3, fun v Hk2 H2 o => ?_⟩
      have hl : lentOf (gV [V.ref p] zs) (ds x) = some p := by
        obtain ⟨ws, e⟩ := hd (V.ref p) zs
        rw [hx, e]
        rfl
      rw [hl] at o
      obtain ⟨Hk3, k3, x3, r3⟩ := made_ok k1 (new_ex hp0 hdx) hp0 o hs
      exact ⟨hr _ _ (o.rv hnl), q _ _ _ k3 (x1.trans x3) r3⟩⟩
end
end FL

/-! FL30: a try whose suite always raises; calls that raise: a class, a class with keywords, a method. -/
namespace FL
open PySem PySem.Spec L2 PyProof.Rows L2N FLT
/-! rules -/
section
variable {X : Cx} {CX : CXT} {k n : Nat} {f C : Addr} {fd : FuncData} {ps ks : List Str} {sp : Sp} {dvs : List V} {ds : List Value} {E : L2.St → XK} {x m : Str} {p pos apos : Pos} {o e : Expr} {es : List Expr} {kws : List Keyword} {ta : TE} {t tk : TA} {g : List Value → List Value → List Value} {gV : List V → List V → List V}
/-- C(e, ..), its defaults behind -/
def tMakeSD (C : Addr) (sp : Sp) (dvs : List V) (E : L2.St → XK) (t : TA) : TE := fun σ H Q => t σ H fun vs H1 => ∀ x dx, H1 x = none → H1 dx = none → dx ≠ x →
  sp (.ref x :: (vs ++ dvs)) (upd (upd H1 dx (.own x)) x (.ins C dx [])) (fun v H2 => v = .non ∧ Q (.ref x) H2) (E σ)
theorem pe_makeSD (M : Mk X.K C f) (F : FnOk X.prog X.w X.K X.mg X.base CX k f fd ps sp) (hr : Room (k + 1) X.A) (hg : Gl X x) (hm : X.mg x = some (.ref C)) (hb : L2.Binds X.K fd ps ds) (hd : Vals dvs ds) (hx : ∀ σ, PassesAt CX X σ (E σ)) (ha : PA X (e :: es) t)
    (hdb : (x == ("__debug__" : Str)) = false := by decide) (he : starEach (e :: es) X.env = (false, eval e X.env) :: starEach es X.env := by rfl) (hpl : (backTo pos (starEach es X.env)).any (·.1) = false := by rfl) : PE X (.Call (.Name x p) (e :: es) [] pos) (tMakeSD C sp dvs E t) := by
  refine ⟨fun pins s σ H Q I z => wpAny_Call_Name_kw (ld_glob I hg hm (PySem.W.callWith_K (h₀ := X.base) I.ok.mod.kin M.kp (thn (ha.run pos pins s σ H _ I z) fun us s1 ⟨vs, H1, I1, r, q⟩ => ⟨I1.kIn, ?_⟩) he hpl) hdb)⟩
  have q2 := q (s1.heap.objs.size + 1) s1.heap.objs.size (I1.hok.fresh (Nat.le_succ _)) (I1.hok.fresh (Nat.le_refl _)) (Nat.ne_of_lt (Nat.lt_succ_self _))
  have I2 := Inv.made (C := C) I1
  have r3 : Vals (V.ref (s1.heap.objs.size + 1) :: (vs ++ dvs)) (Value.ref (s1.heap.objs.size + 1) :: us ++ ds) := .cons rfl (r.append hd)
  have len : (Value.ref (s1.heap.objs.size + 1) :: us ++ ds).length = ps.length := by rw [← r3.length]; exact F.len _ _ _ _ q2
  refine wpAny_call (make_map (f := f) I1.kIn M.makes M.init (beq_iff_eq.mp M.fn) (codeAny_mono (F.run _ X.stack _ _ ⟨Value.ref (s1.heap.objs.size + 1) :: us, []⟩ (Value.ref (s1.heap.objs.size + 1) :: us ++ ds) _ _ (E σ) (hr.make C us []) (I2.env0.make C us []) (hb _ (Value.ref (s1.heap.objs.size + 1) :: us) I2.kIn len) r3 q2) fun w s' w2 => ?_))
  cases w with
  | error e => exact hx σ pins _ _ e s' I2 w2
  | ok fl =>
    cases fl with
    | ret u =>
      obtain ⟨v, H', I3, rv, ev, q3⟩ := I2.after w2
      subst ev
      exact ⟨rv, V.ref (s1.heap.objs.size + 1), H', I3, rfl, q3⟩
    | next => exact False.elim w2
    | brk => exact False.elim w2
    | cont => exact False.elim w2
/-- C(k = v, ..) -/
def tMakeSK (C : Addr) (n : Nat) (sp : Sp) (gV : List V → List V → List V) (E : L2.St → XK) (tk : TA) : TE := fun σ H Q => tk σ H fun zs H2 => zs.length = n ∧ ∀ x dx, H2 x = none → H2 dx = none → dx ≠ x →
  sp (gV [.ref x] zs) (upd (upd H2 dx (.own x)) x (.ins C dx [])) (fun v H3 => v = .non ∧ Q (.ref x) H3) (E σ)
theorem pe_makeSK (M : Mk X.K C f) (F : FnOk X.prog X.w X.K X.mg X.base CX k f fd ps sp) (hr : Room (k + 1) X.A) (hg : Gl X x) (hm : X.mg x = some (.ref C)) (hb : KBn X.K fd ps 1 ks g gV) (hx : ∀ σ, PassesAt CX X σ (E σ)) (hkw : PK X kws tk)
    (hall : (backToKw pos (keywordEach kws X.env)).all (·.1.isSome) = true := by rfl) (hks : (backToKw pos (keywordEach kws X.env)).filterMap (·.1) = ks := by rfl) (hdb : (x == ("__debug__" : Str)) = false := by decide)
    (hpl : ((backTo pos (starEach [] X.env)).any (·.1) || (backToKw pos (keywordEach kws X.env)).any (·.1.isNone)) = false := by rfl) :
    PE X (.Call (.Name x p) [] kws pos) (tMakeSK C ks.length sp gV E tk) := by
  refine ⟨fun pins s σ H Q I h => ?_⟩
  refine wpAny_Call_Name_kw (ld_glob I hg hm ?_ hdb)
  refine PySem.W.callWith_KW0 (h₀ := X.base) I.ok.mod.kin M.kp hall ?_ hpl
  refine thn (hkw.run pos pins s σ H _ I h) fun ws s2 ⟨zs, H2, I2, rz, l2, q2⟩ => ⟨I2.kIn, ?_⟩
  rw [hks]
  show wpAny _ _ (call (.ref C) [] (ks.zip ws)) _ _ _
  have hq := q2 (s2.heap.objs.size + 1) s2.heap.objs.size (I2.hok.fresh (Nat.le_succ _)) (I2.hok.fresh (Nat.le_refl _)) (Nat.ne_of_lt (Nat.lt_succ_self _))
  have I3 := Inv.made (C := C) I2
  have r1 : Vals [V.ref (s2.heap.objs.size + 1)] [Value.ref (s2.heap.objs.size + 1)] := .cons rfl .nil
  have r2 := hb.rel r1 rz
  refine wpAny_call (make_map (f := f) I2.kIn M.makes M.init (beq_iff_eq.mp M.fn) (codeAny_mono (F.run _ X.stack _ _ ⟨[Value.ref (s2.heap.objs.size + 1)], ks.zip ws⟩ (g [Value.ref (s2.heap.objs.size + 1)] ws) _ _ (E σ) (hr.make C [] (ks.zip ws))
    (I3.env0.make C [] (ks.zip ws)) (hb.to _ [Value.ref (s2.heap.objs.size + 1)] ws I3.kIn rfl (rz.length.symm.trans l2)) r2 hq) fun r s' hq' => ?_))
  cases r with
  | error e => exact hx σ pins _ _ e s' I3 hq'
  | ok fl =>
    cases fl with
    | ret u =>
      obtain ⟨v, H', I4, rv, ev, q3⟩ := I3.after hq'
      subst ev
      exact ⟨rv, ⟨V.ref (s2.heap.objs.size + 1), H', I4, rfl, q3⟩⟩
    | next => exact False.elim hq'
    | brk => exact False.elim hq'
    | cont => exact False.elim hq'
/-- o.m(e, ..) -/
def tMethS (C : Addr) (m : Str) (sp : Sp) (E : L2.St → XK) (ta : TE) (t : TA) : TE := fun σ H Q => ta σ H fun x H1 => ∃ a dx fs, x = .ref a ∧ H1 a = some (.ins C dx fs) ∧ fs.lookup m = none ∧ t σ H1 fun vs H2 => sp (x :: vs) H2 Q (E σ)
theorem pe_methS2 {pl : Sem Bool} (he : PE X o ta) (c : Cls X.K C) (hm : Meth X.K C m f) (F : FnOk X.prog X.w X.K X.mg X.base CX k f fd ps sp) (hr : Room k X.A) (hb : L2.Binds X.K fd ps []) (hx : ∀ σ, PassesAt CX X σ (E σ)) (ha : PA X (e :: es) t)
    (hst : starEach (e :: es) X.env = (false, eval e X.env) :: starEach es X.env := by rfl) (hpl : (backTo pos (starEach es X.env)).any (·.1) = false := by rfl)
    (ht : eval (.Call (.Attribute o m apos) (e :: es) [] pos) X.env = (do
      let ov ← eval o X.env
      standAt apos.atName
      let (f, first) ← holding [ov] (getMethod ov m pl)
      callWith pos f first (backTo pos (starEach (e :: es) X.env)) (backToKw pos (keywordEach [] X.env))) := by rfl) :
    PE X (.Call (.Attribute o m apos) (e :: es) [] pos) (tMethS C m sp E ta t) := by
  refine ⟨fun pins s σ H Q I h => ?_⟩
  refine PySem.W.methodCall_KW (pl := pl) (thn (he.run pins s σ H _ I h) fun u s1 ⟨x, H1, I1, rx, a, dx, fs, ex, ea, l, q⟩ => ?_) ht
  subst ex
  obtain rfl : u = Value.ref a := rx
  refine getmeth_ok I1 ea c hm l ?_
  refine PySem.W.callWith_K (first := [.ref a]) (h₀ := X.base) I.ok.mod.kin hm.kp (thn (ha.run pos pins s1 σ H1 _ I1 q) fun us s2 ⟨vs, H2, I2, r, q2⟩ => ⟨I2.kIn, ?_⟩) hst hpl
  exact run_fnS (us := .ref a :: us) (vs := .ref a :: vs) F hr hb (hx σ) I2 (.cons rfl r) q2
end
/-! readings -/
section
variable {K : PySem.W.Frag} {ρ ρ' ρ0 ρ1 ρ2 ρ3 ρe : Env K} {α γ ι ε : Type} {C CE : Addr} {xs : List (Str × DV K)} {W : WX} {te : TE} {tt : TT} {ts us : TS} {ds : ι → List (Slot K)} {pre : ι → Prop} {R : Ret K γ} {f : ι → γ} {r : ι → Option ε} {prx : ι → Prop} {xf : ε → List (Str × DV K)}
def Flies (c : Ent) (σ : List (Option V)) (Hk : Hp) (CE : Addr) (xs : List (Str × DV K)) (W : WX) (ρe : Env K) : Prop := ∀ d σ' Hk' H', Ok c Hk' H' σ' ρe → Ex Hk Hk' → (∃ (dd : Addr) (l : List (Str × V)), d = some dd ∧ Hk' dd = some (.xd l) ∧ ∀ (n : Str) (x : DV K), (n, x) ∈ xs → ∃ v, l.lookup n = some v ∧ x.e.rep Hk' v x.a) → W (.ref CE) d σ' H'
theorem Flies.ex {c : Ent} {σ : List (Option V)} {Hk Hk1 : Hp} (w : Flies c σ Hk CE xs W ρe) (x : Ex Hk Hk1) : Flies c σ Hk1 CE xs W ρe := fun d σ' Hk' H' k y z => w d σ' Hk' H' k (x.trans y) z
/-- an expression that raises; a suite that raises: the slots there are told -/
def XD (CE : Addr) (xs : List (Str × DV K)) (W : WX) (te : TE) (ρ ρe : Env K) : Prop := ∀ (c : Ent) (σ : List (Option V)) (Hk H : Hp), Ok c Hk H σ ρ → Flies c σ Hk CE xs W ρe → ∀ Q : VK, te σ H Q
def XT (CE : Addr) (xs : List (Str × DV K)) (W : WX) (ts : TS) (ρ ρe : Env K) : Prop := ∀ (c : Ent) (σ : List (Option V)) (Hk H : Hp), Ok c Hk H σ ρ → Flies c σ Hk CE xs W ρe → ∀ D : Ends, ts D σ H
theorem xt_drop (h : XD CE xs W te ρ ρe) : XT CE xs W (tSeq (tDrop te) us) ρ ρe := fun c σ Hk H k w D => h c σ Hk H k w _
theorem xt_seq (h : XS ts ρ ρ1) (k : XT CE xs W us ρ1 ρe) : XT CE xs W (tSeq ts us) ρ ρe := fun c σ Hk H k0 w D => h c σ Hk H k0 _ fun σ' Hk' H' k' x' => k c σ' Hk' H' k' (fun d σ2 Hk2 H2 k2 y z => w d σ2 Hk2 H2 k2 (x'.trans y) z) D
theorem xt_if {b : Bool} {τ : Type} (E : τ → Env K) {x y : τ} (h : EvT tt ρ ρ1 b) (h1 : b = true → XT CE xs W ts ρ1 (E x)) (h2 : b = false → XT CE xs W us ρ1 (E y)) {vs : TS} : XT CE xs W (tSeq (tIfS tt ts us) vs) ρ (E (bif b then x else y)) := fun c σ Hk H k w D =>
  h c σ Hk H k _ fun Hk1 H1 k1 x1 => by
    cases b with
    | true => rw [if_pos rfl]; exact h1 rfl c σ Hk1 H1 k1 (w.ex x1.ex) _
    | false => rw [if_neg (by decide)]; exact h2 rfl c σ Hk1 H1 k1 (w.ex x1.ex) _
theorem xt_env (E : Env K) (e : ρe = E) (h : XT CE xs W ts ρ ρe) : XT CE xs W ts ρ E := e ▸ h
theorem xd_call {tA : TA} {e : ε} (x : ι) (ha : EvA tA ρ ρ1 (ds x)) (hm : isMAt (ds x) 0 = false) (hr : r x = some e) (hp : prx x) : XD CE (xf e) W (tCallSD (spX ds pre R f CE r prx xf) [] (L2.WE W) tA) ρ ρ1 := fun c σ Hk H k w Q =>
  ha c σ Hk H k _ fun vs Hk1 H1 k1 x1 hv => ⟨x, Hk1, k1.ex, by rw [List.append_nil]; exact hv, .inr ⟨e, hr, hp, fun cls d Hk2 H2 er => by
    rw [lent_none hm] at er
    cases er.cl
    exact w d σ Hk2 H2 (k1.caught er) (x1.ex.trans er.k0) er.fs⟩⟩
theorem xd_make {tA : TA} {e : ε} {dvs : List V} {rest d2 : List (Slot K)} (x : ι) (ha : EvA tA ρ ρ1 rest) (hx : ds x = .i C [] :: (rest ++ d2)) (hd : ∀ Hk H : Hp, All2S (fun v s => Slot.ok Hk H (some v) s) dvs d2) (hr : r x = some e) (hp : prx x) :
    XD CE (xf e) W (tMakeSD C (spX ds pre R f CE r prx xf) dvs (L2.WE W) tA) ρ ρ1 := fun c σ Hk H k w Q =>
  ha c σ Hk H k _ fun vs Hk1 H1 k1 x1 hv p dx hp0 hdx ne => ⟨x, Hk1, k1.ex.trans (new_ex hp0 hdx), by rw [hx]; exact new_args k1.ex hp0 hdx (hv.app (hd _ _)), .inr ⟨e, hr, hp, fun cls d Hk2 H2 er => by
    have hl : lentOf (V.ref p :: (vs ++ dvs)) (ds x) = some p := by rw [hx]; rfl
    rw [hl] at er
    have er := er.off (new_ex hp0 hdx) hp0
    cases er.cl
    exact w d σ Hk2 H2 (k1.caught er) (x1.ex.trans er.k0) er.fs⟩⟩
theorem xd_makeK {tk : TA} {e : ε} {m : Nat} {d2 rest : List (Slot K)} {gV : List V → List V → List V} (x : ι) (ha : EvA tk ρ ρ1 d2) (hl : d2.length = m) (hx : ds x = .i C [] :: rest) (hd : ∀ (v : V) (zs : List V), ∃ ws, gV [v] zs = v :: ws)
    (hg : ∀ (v : V) (zs : List V) (Hk H : Hp), Slot.ok Hk H (some v) (.i C [] : Slot K) → All2S (fun v s => s.ok Hk H (some v)) zs d2 → All2S (fun v s => s.ok Hk H (some v)) (gV [v] zs) (.i C [] :: rest)) (hr : r x = some e) (hp : prx x) :
    XD CE (xf e) W (tMakeSK C m (spX ds pre R f CE r prx xf) gV (L2.WE W) tk) ρ ρ1 := fun c σ Hk H k w Q =>
  ha c σ Hk H k _ fun zs Hk1 H1 k1 x1 hv => ⟨hv.len.trans hl, fun p dx hp0 hdx ne => by
    have h2 := new_args (C := C) k1.ex hp0 hdx hv
    cases h2 with
    | cons h2 h3 =>
      refine ⟨x, Hk1, k1.ex.trans (new_ex hp0 hdx), by rw [hx]; exact hg _ _ _ _ h2 h3, .inr ⟨e, hr, hp, fun cls d Hk2 H2 er => ?_⟩⟩
      have hl : lentOf (gV [V.ref p] zs) (ds x) = some p := by
        obtain ⟨ws, e⟩ := hd (V.ref p) zs
        rw [hx, e]
        rfl
      rw [hl] at er
      have er := er.off (new_ex hp0 hdx) hp0
      cases er.cl
      exact w d σ Hk2 H2 (k1.caught er) (x1.ex.trans er.k0) er.fs⟩
theorem xd_meth {tA : TA} {ta : TE} {e : ε} {fl : List (Str × Fld K α)} {a : α} {m : Str} {rest : List (Slot K)} (x : ι) (h : EvD ta ρ ρ0 (eObj C fl) a) (hn : m ∉ fl.map Prod.fst) (ha : EvA tA ρ0 ρ1 rest) (hx : ds x = .d (eObj C fl) a :: rest) (hr : r x = some e) (hp : prx x) :
    XD CE (xf e) W (tMethS C m (spX ds pre R f CE r prx xf) (L2.WE W) ta tA) ρ ρ1 := fun c σ Hk H k w Q =>
  h c σ Hk H k _ fun v Hk0 H0 k0 x0 r0 => by
    obtain ⟨p, dx, vs, rfl, h2, h3⟩ := id r0
    refine ⟨p, dx, vs, rfl, k0.ex _ _ h2, look_none (r := fun v (F : Fld K α) => F.e.rep Hk0 v (F.g a)) h3 hn, ha c σ Hk0 H0 k0 _ fun ws Hk1 H1 k1 x1 hv => ?_⟩
    refine ⟨x, Hk1, k1.ex, by rw [hx]; exact .cons ⟨_, rfl, (eObj C fl).mono x1.ex r0⟩ hv, .inr ⟨e, hr, hp, fun cls d Hk2 H2 er => ?_⟩⟩
    rw [lent_none (by rw [hx]; rfl)] at er
    cases er.cl
    exact w d σ Hk2 H2 (k1.caught er) (x0.ex.trans (x1.ex.trans er.k0)) er.fs
/-- try: a suite that raises, except CE as e: suite -/
theorem xb_tryAll {ν lam δ : Type} {En : ν → Env K} {L : lam → Env K} {R' : Ret K δ} {i : Nat} {tb : WX → TS} {ts : Addr → Value → Option Addr → TS} {oh : Out Empty Empty δ} {e : ε} (hb : ∀ W, XT CE (xf e) W (tb W) ρ ρe) (hi : isMAt ρe i = false) (hex : PySem.W.exmOne K (.ref CE) (.ref CE) = some true)
    (hs : ∀ (a : Addr) (d : Option Addr), XB (ts a (.ref CE) d) (ρe.set i (.d (eX a d (xf e)) ())) (fun z : Empty => nomatch z) (fun z : Empty => nomatch z) R' oh) :
    XB (tSeq (fun D σ H => tb (wAs K (.ref CE) i ts (fun _ _ _ _ => False) D) D σ H) us) ρ En L R' oh.lift := fun c σ Hk H k D q => by
  refine hb _ c σ Hk H k (fun d σ' Hk2 H2 k2 x2 fs => ⟨true, hex, fun _ a _ => ?_, fun z => nomatch z⟩) _
  obtain ⟨dd, l, e1, e2, e3⟩ := fs
  have k3 := k2.setD (e := eX a d (xf e)) (a := ()) (v := .ref a) hi ⟨rfl, dd, l, e1, e2, e3⟩
  refine hs a d c _ Hk2 H2 k3 _ ?_
  cases ho : oh with
  | nx t => exact nomatch t
  | ct t => exact nomatch t
  | bk t => exact nomatch t
  | rt r =>
    rw [ho] at q
    exact Out.fin_mono x2 q
end
end FL

/-! FL31: walks over lists and sequences where an exception is handled; defs of a class with keywords. -/
namespace FLH
open PySem PySem.Spec PyProof.Rows L2 HotX L2H
theorem turn_listP {P : Program} {w : World} {K : PySem.W.Frag} {tg : Expr} (a it : Addr) : TurnP P w K tg (Itl K a) [it] it (fun i h => h.IsListIter it a i) where
  mem := (turn_list (P := P) (w := w) (K := K) (tg := tg) a it).mem
  obj := (turn_list (P := P) (w := w) (K := K) (tg := tg) a it).obj
  keep := (turn_list (P := P) (w := w) (K := K) (tg := tg) a it).keep
  item := by
    intro X hP hw hK i pins s σ H E _ I hf st hg
    subst hP hw hK
    obtain ⟨xs, x, hq, hx⟩ := hg
    obtain ⟨its, rv, p, hz⟩ := I.list hq
    obtain ⟨u, hu, ru⟩ := rv.get hx
    obtain ⟨f0, f1, f2, f3, f4, f5⟩ := hf it (by simp)
    refine wpAny_pyNext_list_item st p.isList (x := u) (by simpa using hu) fun h' st' sb => ?_
    have I1 : Inv X pins σ H { s with heap := h' } := I.turned (t' := s.toks) (fun b o hb e => (sb.2 b hb).trans e) f0 f1 f3 f4 f5
    obtain ⟨o, e, c, d⟩ := id st'
    exact ⟨u, rfl, go_of (s := { s with heap := h' }) e c d (by decide) ⟨x, H, I1, ru, ⟨rfl, fun ys hy => by rw [I.list_inj hy hq]; exact hx⟩, st', fun b hb => (hf b hb).1⟩⟩
  done := by
    intro X hP hw hK i pins s σ H E hc I hf st hg
    subst hP hw hK
    obtain ⟨xs, hq, hx⟩ := hg
    obtain ⟨its, rv, p, hz⟩ := I.list hq
    obtain ⟨f0, f1, f2, f3, f4, f5⟩ := hf it (by simp)
    have hl := rv.length
    obtain ⟨q, ⟨hh, v1, e1, c1⟩, hm⟩ := hc
    exact next_list_end_hot ⟨hh, q.2, v1, (I.pin q hm).1, e1, c1⟩ (f5 q hm) st p.isList (by simp; omega) fun h' eb => ⟨rfl, I.turned (t' := s.toks) (fun b o hb e => eb b o hb e) f0 f1 f3 f4 f5⟩
  self := (turn_list (P := P) (w := w) (K := K) (tg := tg) a it).self
theorem pi_seqP {X : Cx} {tg l : Expr} {tl : TE} (hl : PE X l tl) : PIP X tg l (FL.iSeq X.K tl) := by
  refine ⟨fun pins s σ H R I h => ?_⟩
  refine thn (hl.run pins s σ H _ I h) fun v s1 ⟨x, H1, I1, r1, q1⟩ => ?_
  obtain ⟨a, e, q1⟩ := q1
  subst e
  cases r1
  rcases q1 with ⟨⟨xs, hq⟩, q⟩ | ⟨⟨xs, hq⟩, q⟩
  · obtain ⟨its, rv, p, hz⟩ := I1.list hq
    refine wpAny_pyIter_list p.isList ?_
    refine ⟨s1.heap.objs.size, [s1.heap.objs.size], _, _, H1, rfl, I1.kept (t' := s1.toks) fun b o e => Heap.get?_push_of_some _ e, turn_listP a _, ⟨_, Heap.get?_push_size _ rfl, rfl, rfl⟩, fun b hb => ?_, q⟩
    have e : b = s1.heap.objs.size := by simpa using hb
    subst e
    exact I1.fpOk (Nat.le_refl _) (I1.hok.fresh (Nat.le_refl _))
  · obtain ⟨its, rv, p, hz⟩ := I1.tuple hq
    refine wpAny_pyIter_tuple (show s1.heap.IsTuple a its.toArray from p) ?_
    refine ⟨s1.heap.objs.size, [s1.heap.objs.size], _, _, H1, rfl, I1.kept (t' := s1.toks) fun b o e => Heap.get?_push_of_some _ e, turn_tupleP a _, ⟨_, Heap.get?_push_size _ rfl, rfl, rfl⟩, fun b hb => ?_, q⟩
    have e : b = s1.heap.objs.size := by simpa using hb
    subst e
    exact I1.fpOk (Nat.le_refl _) (I1.hok.fresh (Nat.le_refl _))
end FLH
namespace FL
open PySem PySem.Spec PyProof.Rows L2
/-! defs of a class that are called with keywords too: what is told of the def's data is carried along -/
structure FiAtY (P : Program) (w : World) (K : PySem.W.Frag) (mg : Str → Option Value) (base : Heap) (CX : CXT) (cls : Str) (C : Addr) (k : Nat) (ps : List Str) (sp : Sp) (Z : FuncData → Prop) : Prop where
  ex : ∃ f fd, FnOk P w K mg base CX k f fd ps sp ∧ Mk K C f ∧ mg cls = some (.ref C) ∧ Z fd
structure FmAtY (P : Program) (w : World) (K : PySem.W.Frag) (mg : Str → Option Value) (base : Heap) (CX : CXT) (C : Addr) (x : Str) (k : Nat) (ps : List Str) (sp : Sp) (Z : FuncData → Prop) : Prop where
  ex : ∃ f fd, FnOk P w K mg base CX k f fd ps sp ∧ Meth K C x f ∧ Z fd
/-- one positional value, the keywords' ones in another order, some from the defaults -/
def kY {α : Type} (sel : List (Bool × Nat)) (dflt : α) (us its ws : List α) : List α := us ++ sel.map fun p => if p.1 then its.getD p.2 dflt else ws.getD p.2 dflt
theorem kY_rel {sel : List (Bool × Nat)} {vs ds zs : List V} {us its ws : List Value} (r1 : Vals vs us) (r2 : Vals ds its) (r3 : Vals zs ws) : Vals (kY sel V.non vs ds zs) (kY sel Value.none us its ws) := by
  unfold kY
  refine r1.append ?_
  induction sel with
  | nil => exact .nil
  | cons p sel ih =>
    obtain ⟨b, n⟩ := p
    refine .cons ?_ ih
    cases b
    · exact vals_getD r3 n
    · exact vals_getD r2 n
theorem kY_hd {sel : List (Bool × Nat)} {dv : List V} (v : V) (zs : List V) : ∃ ws, kY sel V.non [v] dv zs = v :: ws := ⟨_, rfl⟩
/-- what kbindsD of the kit says, for kY -/
theorem FunD_kY {K : PySem.W.Frag} {x qual : Str} {params : Arguments} {body : List Stmt} {scope : Scope} {dvs : List V} {f : Addr} {fd : FuncData} {ps : List Str} (F : FunD K x qual params body scope dvs [] f fd) (n : Nat) (ks : List Str) (sel : List (Bool × Nat)) (hd : dvs ≠ [])
    (h : ∀ (T : Addr) (kV doc pm : Value) (an : Option Addr) (cdv ct : Value) (us its ws : List Value), us.length = n → its.length = dvs.length → ws.length = ks.length →
      ∃ k, bindArgs (PySem.W.fnOf x qual params body scope (.ref T) kV doc pm an cdv ct) ⟨us, ks.zip ws⟩ = seqItems? (.ref T) >>= k ∧ k (some its.toArray) = pure (ps.zip (kY sel Value.none us its ws))) :
    ∃ g, KBn K fd ps n ks g (fun vs zs => kY sel V.non vs dvs zs) := by
  obtain ⟨oc, od, dV, kV, doc, pm, an, cdv, ct, osl, rfl, lk, hcd, hD, hK⟩ := F.ex
  rcases hD with ⟨e, _⟩ | ⟨_, T, o, its, m, rfl, lT, oT, rT⟩
  · exact absurd e hd
  · refine ⟨fun us ws => kY sel Value.none us its ws, ⟨fun s us ws X l1 l2 => ?_, fun r1 r2 => kY_rel r1 rT r2⟩⟩
    obtain ⟨k, e1, e2⟩ := h T kV doc pm an cdv ct us its ws l1 rT.length.symm l2
    refine BindsTo.of_looks fun M => ?_
    rw [e1]
    exact looks_items X lT oT (.of_pure e2)
theorem kbn_kY {K : PySem.W.Frag} {fd : FuncData} {ps ks : List Str} {n : Nat} {sel : List (Bool × Nat)} (h : ∀ us ws : List Value, us.length = n → ws.length = ks.length → bindArgs fd ⟨us, ks.zip ws⟩ = pure (ps.zip (kY sel Value.none us [] ws))) :
    ∃ g, KBn K fd ps n ks g (fun vs zs => kY sel V.non vs [] zs) := ⟨fun us ws => kY sel Value.none us [] ws, ⟨fun s us ws X l1 l2 => .of_eq (h us ws l1 l2), fun r1 r2 => kY_rel r1 .nil r2⟩⟩
end FL

/-! FL32: raising defs with defaults; the try that always raises, bound. -/
namespace FL
open PySem PySem.Spec L2 PyProof.Rows L2N FLT
theorem bif_t {ε : Type} {c : Bool} {a e : ε} (h : (bif c then some a else none) = some e) : c = true := by
  cases c
  · cases h
  · rfl
theorem bif_v {ε : Type} {c : Bool} {a e : ε} (h : (bif c then some a else none) = some e) : a = e := by
  cases c
  · cases h
  · exact Option.some.inj h
theorem some_of {ε : Type} [Inhabited ε] {o : Option ε} (h : o.isSome = true) : o = some (o.getD default) := by
  cases o
  · cases h
  · rfl
section
variable {P : Program} {w : World} {K : PySem.W.Frag} {mg : Str → Option Value} {base : Heap} {γ : Type} {R : Ret K γ}
theorem fn_okXD {dvs : List V} {kws : List (Str × V)} {ι ν ε : Type} {ds : ι → List (Slot K)} {pre : ι → Prop} {fl : ι → ν → γ} {o : ι → Out ν Empty γ} {E : ι → ν → Env K} {g : ι → γ} {C : Addr} {r : ι → Option ε} {prx : ι → Prop} {xf : ε → List (Str × DV K)}
    {x qual : Str} {st : Stmt} {f : Addr} {fd : FuncData} {N ps : List Str} {k : Nat} (F : FunD K x qual (defArgs st) (defBody st) (defScope st) dvs kws f fd) (S : FnScope N ps (defScope st)) (hg : ∀ x, g x = (o x).val (fl x))
    (hlen : ∀ x, (ds x).length = ps.length) (hM : ∀ x i s, (ds x)[i + 1]? = some s → s.isM = false)
    (hfall : ∀ x t, (∀ H, R.e.rep H .non (R.val (fl x t))) ∧ R.nl (fl x t) = none ∧ ∀ s, R.ls (fl x t) = some s → (E x t)[0]? = some s)
    (hA : ∀ (cdv : Value) (A : Around) (outer : List PySem.Env) (s : Shared) (H : Hp) (EX : XK), Room k (A.deeper (envOfC qual (defScope st) s.heap.objs.size f cdv)) → ∀ x, r x = none → pre x →
      ∃ (ρ : Env K) (t : TS), ds x ++ List.replicate (N.length - ps.length) .un = ρ ∧ PSs (cxOf CX0 P w K mg base N qual (defScope st) f cdv A outer s H EX).nox (defBody st) t ∧ XB t ρ (E x) (fun z : Empty => nomatch z) R (o x))
    (hB : ∀ (cdv : Value) (A : Around) (outer : List PySem.Env) (s : Shared) (H : Hp) (EX : XK), Room k (A.deeper (envOfC qual (defScope st) s.heap.objs.size f cdv)) → ∀ x e, r x = some e → prx x →
      ∃ (ρ : Env K) (t : TS), ds x ++ List.replicate (N.length - ps.length) .un = ρ ∧ PSs (cxOf (L2N.CX P w) P w K mg base N qual (defScope st) f cdv A outer s H EX) (defBody st) t ∧ XR C (xf e) EX t ρ) :
    FnOk P w K mg base (L2N.CX P w) (k + 1) f fd ps (spX ds pre R g C r prx xf) := by
  obtain ⟨oc, od, dV, kV, doc, pm, an, cdv0, ct, osl, rfl, lk, hcd, _, _⟩ := F.ex
  refine fn_of lk hcd S (fun vs H Q EX h => ?_) fun A outer s H vs Q EX hr h => ?_
  · obtain ⟨x, Hk, _, h3, _⟩ := h
    rw [h3.len, hlen]
  · obtain ⟨x, Hk, h2, h3, h4⟩ := h
    have k0 := start_ok (N := N) (ps := ps) (ι := ι) h2 h3 (by rw [h3.len, hlen]) (hM x)
    rcases h4 with ⟨hr0, h1, h4⟩ | ⟨e, he, hp, h4⟩
    · obtain ⟨ρ, t, rfl, d, b⟩ := hA _ A outer s H EX hr x hr0 h1
      refine ⟨t, PSs.nox (X := cxOf (L2N.CX P w) P w K mg base N qual (defScope st) f cdv0 A outer s H EX) d, b _ (L2.start N vs) Hk H k0 _ ?_⟩
      have h4 : ∀ v Hk' H', OkR ⟨H, Hk, lentOf vs (ds x)⟩ R ((o x).val (fl x)) v Hk' H' → Q v H' := hg x ▸ h4
      cases ho : o x with
      | nx r =>
        rw [ho] at h4
        exact fun σ' Hk' H' k' x' => h4 .non Hk' H' (k'.ret (hfall x r).2.1 ((hfall x r).1 _) (hfall x r).2.2)
      | ct z => exact nomatch z
      | bk z => exact nomatch z
      | rt r =>
        rw [ho] at h4
        exact fun v Hk' H' k' => h4 v Hk' H' k'
    · obtain ⟨ρ, t, rfl, d, b⟩ := hB _ A outer s H EX hr x e he hp
      exact ⟨t, d, b _ (L2.start N vs) Hk H k0 h4 _⟩
end
section
variable {K : PySem.W.Frag} {ρ ρ1 ρe : Env K} {ε τ : Type} {CE : Addr} {W : WX} {tt : TT} {ts us : TS} {xf : ε → List (Str × DV K)}
theorem xt_ifG {b : Bool} (E : τ → Env K) (G : τ → ε) {x y : τ} (h : EvT tt ρ ρ1 b) (h1 : b = true → XT CE (xf (G x)) W ts ρ1 (E x)) (h2 : b = false → XT CE (xf (G y)) W us ρ1 (E y)) {vs : TS} : XT CE (xf (G (bif b then x else y))) W (tSeq (tIfS tt ts us) vs) ρ (E (bif b then x else y)) := fun c σ Hk H k w D =>
  h c σ Hk H k _ fun Hk1 H1 k1 x1 => by
    cases b with
    | true => rw [if_pos rfl]; exact h1 rfl c σ Hk1 H1 k1 (w.ex x1.ex) _
    | false => rw [if_neg (by decide)]; exact h2 rfl c σ Hk1 H1 k1 (w.ex x1.ex) _
theorem xb_tryAllG {ν lam δ : Type} {En : ν → Env K} {L : lam → Env K} {R' : Ret K δ} {i : Nat} {tb : WX → TS} {ts : Addr → Value → Option Addr → TS} {oh : τ → Out Empty Empty δ} (E : τ → Env K) (G : τ → ε) (t0 : τ) (hb : ∀ W, XT CE (xf (G t0)) W (tb W) ρ (E t0)) (hi : ∀ t, isMAt (E t) i = false) (hex : PySem.W.exmOne K (.ref CE) (.ref CE) = some true)
    (hs : ∀ t, t = t0 → ∀ (a : Addr) (d : Option Addr), XB (ts a (.ref CE) d) ((E t).set i (.d (eX a d (xf (G t))) ())) (fun z : Empty => nomatch z) (fun z : Empty => nomatch z) R' (oh t)) :
    XB (tSeq (fun D σ H => tb (wAs K (.ref CE) i ts (fun _ _ _ _ => False) D) D σ H) us) ρ En L R' (lt t0 fun t => (oh t).lift) := xb_tryAll (e := G t0) (ρe := E t0) hb (hi _) hex (hs _ rfl)
end
end FL

/-! FL33: a comprehension, where an exception is handled, whose items call defs. -/
namespace FLH
open PySem PySem.Spec PyProof.Rows L2 HotX L2H
section
variable {X : Cx}
/-- the block's context, the handled exception among what it keeps -/
abbrev blkP (X : Cx) (p : Addr × Obj) (s : Shared) (H : Hp) (scope : Scope) (ce : PySem.Env) (fp : List Addr) : Cx := { X.blk s H scope ce fp with pn := [p] }
theorem hotP {X : Cx} {p : Addr × Obj} {s : Shared} {H : Hp} {scope : Scope} {ce : PySem.Env} {fp : List Addr} (h : Hot1 X.A p) : HotC (blkP X p s H scope ce fp) := ⟨p, h, List.mem_singleton.mpr rfl⟩
theorem inv_to {X : Cx} {p : Addr × Obj} {s : Shared} {H : Hp} {scope : Scope} {ce : PySem.Env} {fp : List Addr} {pins : List (Addr × Obj)} {σ : L2.St} {Hx : Hp} {sx : Shared} (I : Inv (X.blk s H scope ce fp) ([p] ++ pins) σ Hx sx) : Inv (blkP X p s H scope ce fp) pins σ Hx sx :=
  ⟨by obtain ⟨⟩ := I.ok; constructor <;> assumption, I.os, I.bare, I.base, I.loc, I.cell, I.free, I.freeC, I.pin, I.hok, I.len⟩
theorem inv_of {X : Cx} {p : Addr × Obj} {s : Shared} {H : Hp} {scope : Scope} {ce : PySem.Env} {fp : List Addr} {pins : List (Addr × Obj)} {σ : L2.St} {Hx : Hp} {sx : Shared} (I : Inv (blkP X p s H scope ce fp) pins σ Hx sx) : Inv (X.blk s H scope ce fp) ([p] ++ pins) σ Hx sx :=
  ⟨by obtain ⟨⟩ := I.ok; constructor <;> assumption, I.os, I.bare, I.base, I.loc, I.cell, I.free, I.freeC, I.pin, I.hok, I.len⟩
theorem runP {X : Cx} {p : Addr × Obj} {s : Shared} {H : Hp} {scope : Scope} {ce : PySem.Env} {fp : List Addr} {e : Expr} {te : TE} {pins : List (Addr × Obj)} {σ : L2.St} {Hx : Hp} {sx : Shared} {Q : VK} (h : PE (blkP X p s H scope ce fp) e te) (I : Inv (X.blk s H scope ce fp) ([p] ++ pins) σ Hx sx) (q : te σ Hx Q) :
    wpAny (model X.prog X.w) X.A (eval e ce) (EP (X.blk s H scope ce fp) ([p] ++ pins) σ Q) (fun _ _ => False) sx :=
  wpAny_mono (h.run pins sx σ Hx Q (inv_to I) q) (fun v s1 ⟨x, H1, I1, r1, q1⟩ => ⟨x, H1, inv_of I1, r1, q1⟩) fun _ _ z => z
theorem lcPH {pins : List (Addr × Obj)} {s : Shared} {σ : L2.St} {H : Hp} {Q : VK} {elt tg iter : Expr} {ifs : List Expr} {scope : Scope} {own : List (Str × Nat)} {pos pos' : Pos} {wi : TI} {g : TG} {tt : TT} {te : TE} {use : Option (Value → Sem Unit)} {Qf : Value → Shared → Prop}
    (hc : HotC X) (hN : X.N.Nodup) (I : Inv X pins σ H s) (hi : PIP X tg iter wi) (ok : BlkOk X.N X.env.scope scope own)
    (hg : ∀ (s : Shared) (H : Hp) (C : Addr) (cl : List (Str × Addr)) (fp : List Addr), PG (X.blk s H scope (compEnvC scope cl C X.env) fp) tg g) (ht : ∀ (s : Shared) (H : Hp) (C : Addr) (cl : List (Str × Addr)) (fp : List Addr), PTs (X.blk s H scope (compEnvC scope cl C X.env) fp) ifs tt)
    (he : ∀ (p : Addr × Obj), Hot1 X.A p → ∀ (s : Shared) (H : Hp) (C : Addr) (cl : List (Str × Addr)) (fp : List Addr), PE (blkP X p s H scope (compEnvC scope cl C X.env) fp) elt te) (hs : ∀ x, foldedSetIterable iter X.env x = pure x)
    (h : tLc wi g tt te (own.map (·.2)) σ H Q)
    (hRR : ∀ D C s' m H', Inv X pins σ H' s' → Q (.ref D) H' → s'.heap.Ns C m → FpOk X pins H' C → compPost (model X.prog X.w) X.A X.xe use Qf (.ref D) C (.ok .next) s') :
    wpAny (model X.prog X.w) X.A (comprehension (.ListComp elt [⟨tg, iter, ifs, 0⟩] scope pos) scope X.env pos' (newList []) false (eval iter X.env) use) Qf X.xe s := by
  obtain ⟨p, hot, hp⟩ := hc
  have cells : ∀ y ∈ scope.names, y.2 = .free → ∃ c, X.env.cells.lookup y.1 = some c := fun y hy e => I.ok.has _ (ok.free y hy e)
  refine wpAny_comprehension_free (use := use) rfl hs (closure_ok cells) ok.kind (fun y hy e => by rw [ok.uniq y hy, e]) (thn (hi.run pins s σ H _ I h) fun _ s1 hx => thn hx fun _ s2 h2 => ?_)
  obtain ⟨it, fp, tn, J, H2, rfl, I2, T, st2, f2, q⟩ := h2
  refine wpAny_newObj_type (newEnv_comp ?_) (by show 0 ≤ sizeLine; decide)
  have nD : H2 s2.heap.objs.size = none := I2.hok.fresh (Nat.le_refl _)
  obtain ⟨W, ⟨m0, w0⟩, turn⟩ := q _ nD
  have lt : ∀ b ∈ fp, b < s2.heap.objs.size := fun b hb => let ⟨_, e, _⟩ := T.obj _ _ st2 b hb; Heap.lt_size e
  have g3 : (s2.heap.push { cls := .type "list", data := .seq ([] : List Value).toArray }).get? s2.heap.objs.size = some { cls := .type "list", data := .seq ([] : List Value).toArray } := Heap.get?_push_size _ rfl
  have I3 : Inv X pins σ (upd H2 s2.heap.objs.size (.lst [])) { s2 with heap := s2.heap.push { cls := .type "list", data := .seq ([] : List Value).toArray } } :=
    I2.laid (t' := s2.toks) (fun b o e => Heap.get?_push_of_some _ e) (Nat.le_refl _) ⟨Nat.zero_le _, [], 0, .nil, g3⟩
  have st3 : tn 0 (s2.heap.push { cls := .type "list", data := .seq ([] : List Value).toArray }) := T.keep _ _ _ st2 fun b _ o e => Heap.get?_push_of_some _ e
  have f3 : ∀ b ∈ fp, FpOk X pins (upd H2 s2.heap.objs.size (.lst [])) b ∧ b < (s2.heap.push { cls := .type "list", data := .seq ([] : List Value).toArray }).objs.size := fun b hb => by
    have l := lt b hb
    exact ⟨⟨by rw [upd_ne (Nat.ne_of_lt l)]; exact (f2 b hb).1, (f2 b hb).2⟩, by rw [Heap.size_push]; exact Nat.lt_succ_of_lt l⟩
  revert w0 I3 st3 f3 turn
  generalize hD : s2.heap.objs.size = D
  generalize upd H2 D (.lst []) = H3
  generalize hS : ({ s2 with heap := s2.heap.push { cls := .type "list", data := .seq ([] : List Value).toArray } } : Shared) = s3
  have hS2 : s2.heap.push { cls := .type "list", data := .seq ([] : List Value).toArray } = s3.heap := by rw [← hS]
  rw [hS2]
  intro turn w0 I3 st3 f3
  have I4 := block_hot I3 ok hN hp f3
  revert I4
  generalize hce : compEnvC scope (cellsFrom (s3.heap.objs.size + 1) scope.names (cloFrom X.env.cells scope.names [])) s3.heap.objs.size X.env = ce
  intro I4
  have cL : ce.locals = s3.heap.objs.size := by rw [← hce]; rfl
  have pg : PG (X.blk s3 H3 scope ce fp) tg g := hce ▸ hg _ _ _ _ _
  have pt : PTs (X.blk s3 H3 scope ce fp) ifs tt := hce ▸ ht _ _ _ _ _
  have pe : PE (blkP X p s3 H3 scope ce fp) elt te := hce ▸ he p hot _ _ _ _ _
  have st4 : tn 0 (pushCells (s3.heap.push { cls := .type "dict", data := .dict #[] }) scope.names) := T.keep _ _ _ st3 fun b _ o e => pushCells_keeps _ _ _ _ (Heap.get?_push_of_some _ e)
  have hot' : HotP X.A ((X.blk s3 H3 scope ce fp).pn ++ [p]) := ⟨p, hot, List.mem_append_right _ (List.mem_singleton.mpr rfl)⟩
  have stat : ∀ {σ' : L2.St} {H' : Hp} {s' : Shared}, Inv (X.blk s3 H3 scope ce fp) [p] σ' H' s' → (∀ b ∈ fp, H' b = none) → ∀ b ∈ fp, FpOk (X.blk s3 H3 scope ce fp) [p] H' b := fun {σ' H' s'} I' hn b hb => by
    refine ⟨hn b hb, (I'.ok.exf b hb).1, I'.ok.exfs b hb, .inl hb, fun x c e => (I'.ok.exf b hb).2 x c e, fun q hq => ?_⟩
    have hq : q ∈ [p] := hq
    rw [List.mem_singleton] at hq
    subst hq
    exact (f2 b hb).2.2.2.2.2 q (List.mem_append_left _ hp)
  show codeAny (model X.prog X.w) X.A (.compStart (.ListComp elt [⟨tg, iter, ifs, 0⟩] scope pos) 0 (.ref it) (.ref D) (compEnvC scope (cellsFrom (s3.heap.objs.size + 1) scope.names (cloFrom X.env.cells scope.names [])) s3.heap.objs.size X.env)) (compPost (model X.prog X.w) X.A X.xe use Qf (.ref D) s3.heap.objs.size) _
  rw [hce]
  suffices loop : codeAny (model X.prog X.w) X.A (.compLoop (.ListComp elt [⟨tg, iter, ifs, 0⟩] scope pos) 0 (.ref it) (.ref D) ce) (compPost (model X.prog X.w) X.A X.xe use Qf (.ref D) s3.heap.objs.size) { s3 with heap := pushCells (s3.heap.push { cls := .type "dict", data := .dict #[] }) scope.names } from
    codeAny_compStart_list loop (T.self X.A 0 _ _ _ st4 loop)
  · refine compLoop_any (fun n s' => ∃ i H', Inv (X.blk s3 H3 scope ce fp) [p] (wipe σ (own.map (·.2))) H' s' ∧ tn i s'.heap ∧ (∀ b ∈ fp, H' b = none) ∧ W i n H') (fun n s5 ⟨i, H5, I5, st5, n5, w5⟩ => ?_) m0 ⟨0, H3, I4, st4, fun b hb => (f3 b hb).1.1, w0⟩
    rcases turn i n H5 w5 with ⟨stop, qq⟩ | ⟨go, Nx, hNx, step⟩
    · refine thF (T.done (X.blk s3 H3 scope ce fp) rfl rfl rfl i [p] s5 _ H5 (fun _ _ => False) hot' I5 (stat I5 n5) st5 stop) fun r s6 ⟨hr, I6⟩ => ?_
      subst hr
      obtain ⟨m, hn, _⟩ := I6.loc
      have hn : s6.heap.Ns ce.locals m := hn
      have nC : H5 ce.locals = none := I6.free
      rw [cL] at hn nC
      exact hRR D _ s6 m H5 (I3.call' (ch := fp) I6.os I6.base I6.hok I6.bare fun b hb => ⟨(f3 b hb).1.2.2.2.1, (f3 b hb).1.2.1, (f3 b hb).1.2.2.2.2.1, (f3 b hb).1.2.2.2.2.2⟩) qq hn (I3.fpOk (Nat.le_refl _) nC)
    · refine thF (T.item (X.blk s3 H3 scope ce fp) rfl rfl rfl i [p] s5 _ H5 (fun _ _ => False) hot' I5 (stat I5 n5) st5 go) fun r s6 ⟨u, hr, h6⟩ => ?_
      subst hr
      refine thF h6 fun _ s7 ⟨x, H7, I7, r7, y7, st7, n7⟩ => thF (pg.run _ s7 _ H7 x u _ (I7.pinned (stat I7 n7) (T.obj _ _ st7)) r7 (step x H7 y7)) fun _ s8 ⟨σ8, H8, I8, hw, q8⟩ => thF (pt.run _ s8 σ8 H8 _ I8 q8) fun b s9 ⟨H9, I9, q9⟩ => ?_
      have again : ∀ {s' : Shared} {H' : Hp}, Inv (X.blk s3 H3 scope ce fp) ([p] ++ pinsAt fp s7.heap) σ8 H' s' → Nx H' → ∃ m, m < n ∧ ∃ i H', Inv (X.blk s3 H3 scope ce fp) [p] (wipe σ (own.map (·.2))) H' s' ∧ tn i s'.heap ∧ (∀ b ∈ fp, H' b = none) ∧ W i m H' := fun {s' H'} I' nx => by
        obtain ⟨m', hm, w'⟩ := hNx H' nx
        have pin' : ∀ b ∈ fp, ∀ o, s7.heap.get? b = some o → s'.heap.get? b = some o ∧ H' b = none := fun b hb o e =>
          have z := I'.pin (b, o) (List.mem_append_right _ (List.mem_append_right _ (mem_pinsAt hb e)))
          ⟨z.1, z.2.1⟩
        refine ⟨m', hm, i + 1, H', (I'.unpinned (pins := [p])).weak (by rw [← hw, wipe_length]) (fun j v e => ?_), T.keep _ _ _ st7 fun b hb o e => (pin' b hb o e).1, fun b hb => ?_, w'⟩
        · rw [← hw] at e; exact (wipe_some e).1
        · obtain ⟨o, e, _⟩ := T.obj _ _ st7 b hb
          exact (pin' b hb o e).2
      cases b with
      | false =>
        rw [if_neg Bool.false_ne_true] at q9 ⊢
        exact again I9 q9
      | true =>
        rw [if_pos rfl] at q9 ⊢
        exact thF (runP pe I9 q9) fun z s10 ⟨yv, H10, I10, r10, acc, hD10, hz10, nx⟩ => app_ok (X := X.blk s3 H3 scope ce fp) I10 hD10 hz10 r10 fun s11 I11 => again I11 nx
/-- [..] as a value, where an exception is handled -/
theorem pe_lcPH {elt tg iter : Expr} {ifs : List Expr} {scope : Scope} {own : List (Str × Nat)} {pos : Pos} {wi : TI} {g : TG} {tt : TT} {te : TE} (hc : HotC X) (hN : X.N.Nodup) (hi : PIP X tg iter wi) (ok : BlkOk X.N X.env.scope scope own)
    (hg : ∀ (s : Shared) (H : Hp) (C : Addr) (cl : List (Str × Addr)) (fp : List Addr), PG (X.blk s H scope (compEnvC scope cl C X.env) fp) tg g) (ht : ∀ (s : Shared) (H : Hp) (C : Addr) (cl : List (Str × Addr)) (fp : List Addr), PTs (X.blk s H scope (compEnvC scope cl C X.env) fp) ifs tt)
    (he : ∀ (p : Addr × Obj), Hot1 X.A p → ∀ (s : Shared) (H : Hp) (C : Addr) (cl : List (Str × Addr)) (fp : List Addr), PE (blkP X p s H scope (compEnvC scope cl C X.env) fp) elt te) (hs : ∀ x, foldedSetIterable iter X.env x = pure x := by intro _; rfl) :
    PE X (.ListComp elt [⟨tg, iter, ifs, 0⟩] scope pos) (tLc wi g tt te (own.map (·.2))) :=
  ⟨fun pins s σ H Q I h => by
    rw [eval_ListComp]
    exact lcPH hc hN I hi ok hg ht he hs h fun D C s' m H' I' q hn ⟨f0, f1, f2, f3, f4, f5⟩ => ⟨m, hn, fun h'' sb => ⟨.ref D, H', I'.turned (t' := s'.toks) (fun b o hb e => (sb.2 b hb).trans e) f0 f1 f3 f4 f5, rfl, q⟩⟩⟩
end
end FLH

/-! FL34: the try that always raises, under a name of its own (so that its parts are found again). -/
namespace FL
open PySem PySem.Spec L2 PyProof.Rows L2N FLT
def tTryAs (K : PySem.W.Frag) (c : Value) (i : Nat) (ts : Addr → Value → Option Addr → TS) (tb : WX → TS) : TS := fun D σ H => tb (wAs K c i ts (fun _ _ _ _ => False) D) D σ H
section
variable {X : Cx} {x n : Str} {c : Value} {i : Nat} {body suite : List Stmt} {b₀ : Stmt} {np pos pos' : Pos} {tb : WX → TS} {ts : Addr → Value → Option Addr → TS}
theorem ps_tryAll (hs : X.stack = X.env :: X.outer) (hf : X.env.frame = some X.env.locals) (hN : X.N.Nodup) (hi : X.N[i]? = some n) (hln : X.env.kindOf n = some .local) (hc : Names X x c) (tk : L2N.Takes X (fun _ _ _ _ => False))
    (hb : ∀ (W : WX) (pn : List (Addr × Obj)) (xe : Value → Shared → Prop), L2N.Takes (X.tr pn xe) W → PassesOwn (model X.prog X.w) X.A X.env xe → PSs (X.tr pn xe) body (tb W))
    (hsu : ∀ (a : Addr) (oe : Obj) (cls : Value) (d : Option Addr) (pn : List (Addr × Obj)), Zn cls d oe → (∃ vs, oe.data = .fields vs) → PSs (X.suite a ((a, oe) :: pn)) (b₀ :: suite) (ts a cls d)) :
    PS X (.Try body [.ExceptHandler (some (.Name x np)) (some n) (b₀ :: suite) pos'] [] [] pos) (tTryAs X.K c i ts tb) := L2N.ps_try_as hs hf hN hi hln hc tk hb hsu
end
section
variable {K : PySem.W.Frag} {ρ ρ1 ρe : Env K} {ε τ : Type} {CE : Addr} {W : WX} {tt : TT} {ts us : TS} {xf : ε → List (Str × DV K)}
theorem xb_tryAllT {ν lam δ : Type} {En : ν → Env K} {L : lam → Env K} {R' : Ret K δ} {i : Nat} {tb : WX → TS} {ts : Addr → Value → Option Addr → TS} {oh : τ → Out Empty Empty δ} (E : τ → Env K) (G : τ → ε) (t0 : τ) (hb : ∀ W, XT CE (xf (G t0)) W (tb W) ρ (E t0)) (hi : ∀ t, isMAt (E t) i = false) (hex : PySem.W.exmOne K (.ref CE) (.ref CE) = some true)
    (hs : ∀ t, t = t0 → ∀ (a : Addr) (d : Option Addr), XB (ts a (.ref CE) d) ((E t).set i (.d (eX a d (xf (G t))) ())) (fun z : Empty => nomatch z) (fun z : Empty => nomatch z) R' (oh t)) :
    XB (tSeq (tTryAs K (.ref CE) i ts tb) us) ρ En L R' (lt t0 fun t => (oh t).lift) := xb_tryAllG E G t0 hb hi hex hs
end
end FL

/-! FL35: // of great ints by a divisor of any sign. -/
namespace FL
open PySem PySem.Spec L2 PyProof.Rows
def CDivX (_ j : Int) : Prop := j ≠ 0 ∧ j.natAbs.log2 < 9000
theorem op_fdivX {X : Cx} : OpR X (binaryOp .FloorDiv) (rI CDivX fun i j => .int (i.fdiv j)) := opI fun i j _ _ _ _ _ hc q => floordiv_int hc.1 q (.inl (PyProof.noPylong_of_log2 hc.2))
end FL

namespace G
open PySem L2 FL
def top (i : Nat) : Stmt := PySem.Challenge.pw_greatestnext_k02_fractions.main.body.getD i (.Pass ⟨0, 0, 0, 0⟩)
structure Frac where
  num : Int
  den : Int
  deriving Inhabited
def flFrac {K : PySem.W.Frag} : List (Str × Fld K Frac) := [("num", ⟨eI, Frac.num⟩), ("den", ⟨eI, Frac.den⟩)]
theorem flFrac_nd {K : PySem.W.Frag} : ((flFrac (K := K)).map Prod.fst).Nodup := by
  show (["num", "den"] : List Str).Nodup
  decide +kernel
abbrev eFrac {K : PySem.W.Frag} (c : Addr) : Enc K Frac := eObj c (flFrac)
abbrev xf_InvalidFraction {K : PySem.W.Frag} (cFrac : Addr) (e : (Py Frac)) : List (Str × DV K) := [("value", ⟨(eD (eFrac cFrac)), e⟩)]
abbrev s_InvalidFraction_init : Stmt := inClass (top 3) 0
abbrev s_is_integer : Stmt := top 6
abbrev s_Frac_init : Stmt := inClass (top 8) 0
abbrev s_Frac_add : Stmt := inClass (top 8) 1
abbrev s_Frac_sub : Stmt := inClass (top 8) 2
abbrev s_Frac_mul : Stmt := inClass (top 8) 3
abbrev s_Frac_eq : Stmt := inClass (top 8) 4
abbrev s_Frac_is_below : Stmt := inClass (top 8) 5
abbrev s_Frac_divided_by : Stmt := inClass (top 8) 6
abbrev s_law_box : Stmt := top 10
abbrev s_law_draw : Stmt := top 11
abbrev s_law_gcd : Stmt := top 12
abbrev s_law_low : Stmt := top 13
abbrev s_law_number : Stmt := top 14
abbrev s_law_signed : Stmt := top 15
abbrev s_law_terms : Stmt := top 16
abbrev s_law_second : Stmt := top 17
abbrev s_law_is : Stmt := top 18
abbrev s_law_truth : Stmt := top 19
abbrev s_law_wrong : Stmt := top 20
abbrev s_law_kind : Stmt := top 21
abbrev s_law_refused : Stmt := top 22
abbrev s_law_not_divided : Stmt := top 23
abbrev s_law_bad : Stmt := top 24
abbrev s_law_pair : Stmt := top 25
abbrev s_law_all : Stmt := top 26
abbrev s_law : Stmt := top 27
structure Txt (K : PySem.W.Frag) (mg : Str → Option Value) (cFrac : Addr) (cInvalidFraction : Addr) : Prop where
  x_InvalidFraction : ∃ f fd, Fun K "__init__" "InvalidFraction.__init__" s_InvalidFraction_init f fd ∧ Exn K mg "InvalidFraction" cInvalidFraction f ∧ Binds K fd ["self", "value"] []
  no_InvalidFraction_value : PySem.W.findIn K (.ref cInvalidFraction) "value" = some none
  b_abs : mg "abs" = none
  b_bool : mg "bool" = none
  b_int : mg "int" = none
  b_isinstance : mg "isinstance" = none
  b_len : mg "len" = none
  b_list : mg "list" = none
  b_max : mg "max" = none
  b_range : mg "range" = none
  b_str : mg "str" = none
  b_tuple : mg "tuple" = none
  gb_gcd : mg "gcd" = some (.builtin "math.gcd")
  nf_Frac : NF K cFrac
  ki_Frac_Frac : PySem.W.kitOne K (.ref cFrac) (.ref cFrac) = some true
  ki_Frac_bool : PySem.W.kitOne K (.ref cFrac) (.type "bool") = some false
  ki_Frac_int : PySem.W.kitOne K (.ref cFrac) (.type "int") = some false
  ki_Frac_list : PySem.W.kitOne K (.ref cFrac) (.type "list") = some false
  ki_Frac_str : PySem.W.kitOne K (.ref cFrac) (.type "str") = some false
  ki_Frac_tuple : PySem.W.kitOne K (.ref cFrac) (.type "tuple") = some false
  ki_NoneType_Frac : PySem.W.kitOne K (.type "NoneType") (.ref cFrac) = some false
  ki_bool_Frac : PySem.W.kitOne K (.type "bool") (.ref cFrac) = some false
  ki_int_Frac : PySem.W.kitOne K (.type "int") (.ref cFrac) = some false
  ki_list_Frac : PySem.W.kitOne K (.type "list") (.ref cFrac) = some false
  ki_str_Frac : PySem.W.kitOne K (.type "str") (.ref cFrac) = some false
  ki_tuple_Frac : PySem.W.kitOne K (.type "tuple") (.ref cFrac) = some false
  sf_Frac : PySem.W.selfFirst K cFrac = true
  in_Frac : InsF K cFrac
  mg_Frac : mg "Frac" = some (.ref cFrac)
  cl_Frac : Cls K cFrac
  na_Frac_num : NoAttr K cFrac "num"
  na_Frac_den : NoAttr K cFrac "den"
  d_is_integer : ∃ f fd, Fun K "is_integer" "is_integer" s_is_integer f fd ∧ mg "is_integer" = some (.ref f) ∧ Binds K fd ["value"] []
  d_Frac_init : ∃ f fd, FunD K "__init__" "Frac.__init__" (defArgs s_Frac_init) (defBody s_Frac_init) (defScope s_Frac_init) [V.int 1] [] f fd ∧ Mk K cFrac f ∧ mg "Frac" = some (.ref cFrac) ∧ L2.Binds K fd ["self", "num", "den"] [] ∧ (∃ ds, Vals [V.int 1] ds ∧ L2.Binds K fd ["self", "num", "den"] ds) ∧ (∃ g, KBn K fd ["self", "num", "den"] 1 ["den", "num"] g (fun vs zs => kY [(false, 1), (false, 0)] V.non vs [V.int 1] zs)) ∧ (∃ g, KBn K fd ["self", "num", "den"] 1 ["num"] g (fun vs zs => kY [(false, 0), (true, 0)] V.non vs [V.int 1] zs))
  d_Frac_add : ∃ f fd, Fun K "__add__" "Frac.__add__" s_Frac_add f fd ∧ Meth K cFrac "__add__" f ∧ Binds K fd ["self", "other"] []
  d_Frac_sub : ∃ f fd, Fun K "__sub__" "Frac.__sub__" s_Frac_sub f fd ∧ Meth K cFrac "__sub__" f ∧ Binds K fd ["self", "other"] []
  d_Frac_mul : ∃ f fd, Fun K "__mul__" "Frac.__mul__" s_Frac_mul f fd ∧ Meth K cFrac "__mul__" f ∧ Binds K fd ["self", "other"] []
  d_Frac_eq : ∃ f fd, Fun K "__eq__" "Frac.__eq__" s_Frac_eq f fd ∧ Meth K cFrac "__eq__" f ∧ Binds K fd ["self", "other"] []
  d_Frac_is_below : ∃ f fd, Fun K "is_below" "Frac.is_below" s_Frac_is_below f fd ∧ Meth K cFrac "is_below" f ∧ L2.Binds K fd ["self", "other"] [] ∧ (∃ g, KBn K fd ["self", "other"] 1 ["other"] g (fun vs zs => kY [(false, 0)] V.non vs [] zs))
  d_Frac_divided_by : ∃ f fd, Fun K "divided_by" "Frac.divided_by" s_Frac_divided_by f fd ∧ Meth K cFrac "divided_by" f ∧ L2.Binds K fd ["self", "other"] [] ∧ (∃ g, KBn K fd ["self", "other"] 1 ["other"] g (fun vs zs => kY [(false, 0)] V.non vs [] zs))
  d_law_box : ∃ f fd, Fun K "_law_box" "_law_box" s_law_box f fd ∧ mg "_law_box" = some (.ref f) ∧ Binds K fd ["script"] []
  d_law_draw : ∃ f fd, Fun K "_law_draw" "_law_draw" s_law_draw f fd ∧ mg "_law_draw" = some (.ref f) ∧ Binds K fd ["box", "limit"] []
  d_law_gcd : ∃ f fd, Fun K "_law_gcd" "_law_gcd" s_law_gcd f fd ∧ mg "_law_gcd" = some (.ref f) ∧ Binds K fd ["one", "two"] []
  d_law_low : ∃ f fd, Fun K "_law_low" "_law_low" s_law_low f fd ∧ mg "_law_low" = some (.ref f) ∧ Binds K fd ["num", "den"] []
  d_law_number : ∃ f fd, Fun K "_law_number" "_law_number" s_law_number f fd ∧ mg "_law_number" = some (.ref f) ∧ Binds K fd ["box", "least"] []
  d_law_signed : ∃ f fd, Fun K "_law_signed" "_law_signed" s_law_signed f fd ∧ mg "_law_signed" = some (.ref f) ∧ Binds K fd ["box", "number"] []
  d_law_terms : ∃ f fd, Fun K "_law_terms" "_law_terms" s_law_terms f fd ∧ mg "_law_terms" = some (.ref f) ∧ Binds K fd ["box"] []
  d_law_second : ∃ f fd, Fun K "_law_second" "_law_second" s_law_second f fd ∧ mg "_law_second" = some (.ref f) ∧ Binds K fd ["box", "first"] []
  d_law_is : ∃ f fd, Fun K "_law_is" "_law_is" s_law_is f fd ∧ mg "_law_is" = some (.ref f) ∧ Binds K fd ["actual", "num", "den"] []
  d_law_truth : ∃ f fd, Fun K "_law_truth" "_law_truth" s_law_truth f fd ∧ mg "_law_truth" = some (.ref f) ∧ Binds K fd ["actual", "due"] []
  d_law_wrong : ∃ f fd, Fun K "_law_wrong" "_law_wrong" s_law_wrong f fd ∧ mg "_law_wrong" = some (.ref f) ∧ Binds K fd ["box", "first"] []
  d_law_kind : ∃ f fd, Fun K "_law_kind" "_law_kind" s_law_kind f fd ∧ mg "_law_kind" = some (.ref f) ∧ Binds K fd ["value"] []
  d_law_refused : ∃ f fd, Fun K "_law_refused" "_law_refused" s_law_refused f fd ∧ mg "_law_refused" = some (.ref f) ∧ Binds K fd ["num", "den", "shape"] []
  d_law_not_divided : ∃ f fd, Fun K "_law_not_divided" "_law_not_divided" s_law_not_divided f fd ∧ mg "_law_not_divided" = some (.ref f) ∧ Binds K fd ["one", "other"] []
  d_law_bad : ∃ f fd, Fun K "_law_bad" "_law_bad" s_law_bad f fd ∧ mg "_law_bad" = some (.ref f) ∧ Binds K fd ["box", "first"] []
  d_law_pair : ∃ f fd, Fun K "_law_pair" "_law_pair" s_law_pair f fd ∧ mg "_law_pair" = some (.ref f) ∧ Binds K fd ["one", "two", "first", "second"] []
  d_law_all : ∃ f fd, Fun K "_law_all" "_law_all" s_law_all f fd ∧ mg "_law_all" = some (.ref f) ∧ Binds K fd ["script"] []
abbrev N_InvalidFraction_init : List Str := ["self", "value"]
theorem sc_InvalidFraction_init : FnScope N_InvalidFraction_init ["self", "value"] (defScope s_InvalidFraction_init) := ⟨rfl, rfl, rfl, by decide +kernel, rfl, by decide +kernel, by decide +kernel⟩
theorem at_InvalidFraction {P : Program} {w : World} {K : PySem.W.Frag} {mg : Str → Option Value} {base : Heap} {cFrac : Addr} {cInvalidFraction : Addr} (T : Txt K mg cFrac cInvalidFraction) : ∃ f fd, FnOk P w K mg base CX0 1 f fd ["self", "value"] (spI1 (K := K) "value") ∧ Exn K mg "InvalidFraction" cInvalidFraction f ∧ Binds K fd ["self", "value"] [] := by
  obtain ⟨f, fd, F, x, b⟩ := T.x_InvalidFraction
  refine ⟨f, fd, F.ok sc_InvalidFraction_init (fun vs H Q EX h => ?_) (fun cdv A outer s H vs Q EX hr h => ⟨_, (pss_cons (ps_ost (pv 0) (pv 1)) pss_nil), ?_⟩), x, b⟩
  · obtain ⟨_, _, _, rfl, _⟩ := h
    rfl
  · unfold L2.start; exact xi1 h
/-! ### is_integer@I -/
abbrev N_is_integer : List Str := ["value"]
theorem sc_is_integer : FnScope N_is_integer ["value"] (defScope s_is_integer) := ⟨rfl, rfl, rfl, by decide +kernel, rfl, by decide +kernel, by decide +kernel⟩
def o_is_integer_I (value : Int) : Out Empty Empty Bool :=
  (.rt (true && (!false)))
@[irreducible] def f_is_integer_I (value : Int) : Bool := (o_is_integer_I value).get
theorem f_is_integer_I_eq (value : Int) : f_is_integer_I value = (o_is_integer_I value).get := by delta f_is_integer_I; rfl
section
variable {K : PySem.W.Frag} {cFrac : Addr} {cInvalidFraction : Addr}
abbrev sp_is_integer_I : Sp := spF (K := K) (ι := Int) (fun x => [.d eI x]) (fun _ => True) (retD eB) (fun x => f_is_integer_I x)
end
set_option maxHeartbeats 4000000 in
theorem at_is_integer_I {P : Program} {w : World} {K : PySem.W.Frag} {mg : Str → Option Value} {base : Heap} {cFrac : Addr} {cInvalidFraction : Addr} (T : Txt K mg cFrac cInvalidFraction) : FnAt P w K mg base "is_integer" 1 ["value"] (sp_is_integer_I (K := K)) := by
  obtain ⟨f, fd, F, mg_, bd_⟩ := T.d_is_integer
  refine ⟨⟨f, fd, fn_okG (fun x => f_is_integer_I_eq x) <| fn_okE (o := fun x : Int => o_is_integer_I x) (k := 0) F sc_is_integer (fun x => rfl) (fun x i s h => noM_tail (by simp [Slot.isM]) h) (fun cdv A outer s H EX hr value hp => ?_), mg_, F.kp, bd_⟩⟩
  exact ⟨_, _, rfl,
    (pss_cons (ps_ret (pe_and (pe_callB call_isi (by rfl) T.b_isinstance (by decide +kernel) (pa_cons (pv 0) (pa_cons (pe_bltn (v := .ty "int") (by rfl) T.b_int (by decide +kernel) rfl) pa_nil))) (pe_one (pe_not (pe_callB call_isi (by rfl) T.b_isinstance (by decide +kernel) (pa_cons (pv 0) (pa_cons (pe_bltn (v := .ty "bool") (by rfl) T.b_bool (by decide +kernel) rfl) pa_nil))))))) pss_nil),
    (xb_retS (ev_eq (ev_andV (ev_isi (b := true) (ev_var (i := 0) rfl) (by decide +kernel)) (fun hb_1 => (ev_notV (ev_isi (b := false) (ev_var (i := 0) rfl) (by decide +kernel))))) rfl) (.inl rfl) rfl)⟩
/-! ### is_integer@D -/
def o_is_integer_D (value : (Py Frac)) : Out Empty Empty Bool :=
  (.rt (((value).sel false true true false false false false) && (!((value).sel false true false false false false false))))
@[irreducible] def f_is_integer_D (value : (Py Frac)) : Bool := (o_is_integer_D value).get
theorem f_is_integer_D_eq (value : (Py Frac)) : f_is_integer_D value = (o_is_integer_D value).get := by delta f_is_integer_D; rfl
section
variable {K : PySem.W.Frag} {cFrac : Addr} {cInvalidFraction : Addr}
abbrev sp_is_integer_D (cFrac : Addr) : Sp := spF (K := K) (ι := (Py Frac)) (fun x => [.d (eD (eFrac cFrac)) x]) (fun _ => True) (retD eB) (fun x => f_is_integer_D x)
end
set_option maxHeartbeats 4000000 in
theorem at_is_integer_D {P : Program} {w : World} {K : PySem.W.Frag} {mg : Str → Option Value} {base : Heap} {cFrac : Addr} {cInvalidFraction : Addr} (T : Txt K mg cFrac cInvalidFraction) : FnAt P w K mg base "is_integer" 1 ["value"] (sp_is_integer_D cFrac (K := K)) := by
  obtain ⟨f, fd, F, mg_, bd_⟩ := T.d_is_integer
  refine ⟨⟨f, fd, fn_okG (fun x => f_is_integer_D_eq x) <| fn_okE (o := fun x : (Py Frac) => o_is_integer_D x) (k := 0) F sc_is_integer (fun x => rfl) (fun x i s h => noM_tail (by simp [Slot.isM]) h) (fun cdv A outer s H EX hr value hp => ?_), mg_, F.kp, bd_⟩⟩
  exact ⟨_, _, rfl,
    (pss_cons (ps_ret (pe_and (pe_callB call_isi (by rfl) T.b_isinstance (by decide +kernel) (pa_cons (pv 0) (pa_cons (pe_bltn (v := .ty "int") (by rfl) T.b_int (by decide +kernel) rfl) pa_nil))) (pe_one (pe_not (pe_callB call_isi (by rfl) T.b_isinstance (by decide +kernel) (pa_cons (pv 0) (pa_cons (pe_bltn (v := .ty "bool") (by rfl) T.b_bool (by decide +kernel) rfl) pa_nil))))))) pss_nil),
    (xb_retS (ev_eq (ev_andV (ev_isiD T.in_Frac (ev_var (i := 0) rfl) (.ty _) (kit_ty (by decide +kernel)) (kit_ty (by decide +kernel)) (kit_ty (by decide +kernel)) (kit_ty (by decide +kernel)) T.ki_Frac_int (kit_ty (by decide +kernel)) (kit_ty (by decide +kernel))) (fun hb_2 => (ev_notV (ev_isiD T.in_Frac (ev_var (i := 0) rfl) (.ty _) (kit_ty (by decide +kernel)) (kit_ty (by decide +kernel)) (kit_ty (by decide +kernel)) (kit_ty (by decide +kernel)) T.ki_Frac_bool (kit_ty (by decide +kernel)) (kit_ty (by decide +kernel)))))) rfl) (.inl rfl) rfl)⟩
/-! ### Frac.__init__@I -/
abbrev N_Frac_init : List Str := ["self", "num", "den", "divisor"]
theorem sc_Frac_init : FnScope N_Frac_init ["self", "num", "den"] (defScope s_Frac_init) := ⟨rfl, rfl, rfl, by decide +kernel, rfl, by decide +kernel, by decide +kernel⟩
def o_Frac_init_I (num : Int) (den : Int) : Out Frac Empty Frac :=
  .nx (lt (bif ((!(f_is_integer_I num)) || ((!(f_is_integer_I den)) || (decide (den = (0 : Int))))) then () else ()) fun z_7 => (lt ((Nat.gcd (num).natAbs (den).natAbs : Nat) : Int) fun divisor_9 => (lt (bif (decide (den < (0 : Int))) then (lt (-divisor_9) fun divisor_12 => divisor_12) else divisor_9) fun z_14 => (lt (Int.fdiv num z_14) fun num_17 => (lt (Int.fdiv den z_14) fun den_20 => ({ num := num_17, den := den_20 } : Frac))))))
@[irreducible] def f_Frac_init_I (num : Int) (den : Int) : Frac := (o_Frac_init_I num den).val (fun t => t)
theorem f_Frac_init_I_eq (num : Int) (den : Int) : f_Frac_init_I num den = (o_Frac_init_I num den).val (fun t => t) := by delta f_Frac_init_I; rfl
def ok_Frac_init_I (num : Int) (den : Int) : Prop :=
  (∀ (hc_5 : (((!(f_is_integer_I num)) || ((!(f_is_integer_I den)) || (decide (den = (0 : Int)))))) = true), (False)) ∧ (∀ z_7 (h_8 : z_7 = (bif ((!(f_is_integer_I num)) || ((!(f_is_integer_I den)) || (decide (den = (0 : Int))))) then () else ())), (∀ divisor_9 (h_10 : divisor_9 = ((Nat.gcd (num).natAbs (den).natAbs : Nat) : Int)), (∀ z_14 (h_15 : z_14 = (bif (decide (den < (0 : Int))) then (lt (-divisor_9) fun divisor_12 => divisor_12) else divisor_9)), (CDivX num z_14) ∧ (∀ num_17 (h_18 : num_17 = (Int.fdiv num z_14)), (CDivX den z_14)))))
section
variable {K : PySem.W.Frag} {cFrac : Addr} {cInvalidFraction : Addr}
abbrev sp_Frac_init_I (cFrac : Addr) : Sp := spF (K := K) (ι := (Int × Int)) (fun x => [.i cFrac [], .d eI x.1, .d eI x.2]) (fun x => ok_Frac_init_I x.1 x.2) ((⟨eN, fun _ => (), fun r => some (.i cFrac (insOf flFrac r)), fun _ => none⟩ : Ret K Frac)) (fun x => f_Frac_init_I x.1 x.2)
end
set_option maxHeartbeats 4000000 in
theorem at_Frac_init_I {P : Program} {w : World} {K : PySem.W.Frag} {mg : Str → Option Value} {base : Heap} {cFrac : Addr} {cInvalidFraction : Addr} (T : Txt K mg cFrac cInvalidFraction) : FiAtY P w K mg base CX0 "Frac" cFrac 2 ["self", "num", "den"] (sp_Frac_init_I cFrac (K := K)) (fun fd => L2.Binds K fd ["self", "num", "den"] [] ∧ (∃ ds, Vals [V.int 1] ds ∧ L2.Binds K fd ["self", "num", "den"] ds) ∧ (∃ g, KBn K fd ["self", "num", "den"] 1 ["den", "num"] g (fun vs zs => kY [(false, 1), (false, 0)] V.non vs [V.int 1] zs)) ∧ (∃ g, KBn K fd ["self", "num", "den"] 1 ["num"] g (fun vs zs => kY [(false, 0), (true, 0)] V.non vs [V.int 1] zs))) := by
  obtain ⟨f, fd, F, mk_, mg_, z_⟩ := T.d_Frac_init
  obtain ⟨⟨a_is_integer_I, d_is_integer_I, G_is_integer_I, m_is_integer_I, k_is_integer_I, b_is_integer_I⟩⟩ := at_is_integer_I (P := P) (w := w) (base := base) T
  refine ⟨⟨f, fd, fn_okG (fun x => f_Frac_init_I_eq x.1 x.2) <| fn_okD (ν := Frac) (γ := Frac) (fl := fun _ t => t) (o := fun x : (Int × Int) => o_Frac_init_I x.1 x.2) (E := fun (x : (Int × Int)) t => .i cFrac (insOf flFrac t) :: List.replicate 3 .un) (k := 1) F sc_Frac_init (fun x => rfl) (fun x i s h => noM_tail (by simp [Slot.isM]) h) (fun x t => ⟨fun _ => rfl, rfl, fun s h => h⟩) (fun cdv A outer s H EX hr x hp => ?_), mk_, mg_, z_⟩⟩
  obtain ⟨num, den⟩ := x
  have okh : ok_Frac_init_I num den := hp
  exact ⟨_, _, rfl,
    (pss_cons (ps_if (PW.pt (pw_or (pt_not (pt_val (pe_call G_is_integer_I (hr.mono (by decide)) (by rfl) m_is_integer_I k_is_integer_I b_is_integer_I .nil pass0 (pa_cons (pv 1) pa_nil)))) (pw_or (pt_not (pt_val (pe_call G_is_integer_I (hr.mono (by decide)) (by rfl) m_is_integer_I k_is_integer_I b_is_integer_I .nil pass0 (pa_cons (pv 2) pa_nil)))) (pw_or1 (pt_cmpR op_eq (pv 2) pe_int (nomark _)))))) (pss_cons ps_never pss_nil) pss_nil) (pss_cons (ps_set (i := 3) sc_Frac_init.nd rfl (by first | exact Or.inl rfl | exact Or.inr rfl) (pe_callBfun cr_gcd (by rfl) T.gb_gcd (pa_cons (pv 1) (pa_cons (pv 2) pa_nil)))) (pss_cons (ps_if (pt_cmpR op_lt (pv 2) pe_int (nomark _)) (pss_cons (ps_set (i := 3) sc_Frac_init.nd rfl (by first | exact Or.inl rfl | exact Or.inr rfl) (pe_un un_neg (pv 3))) pss_nil) pss_nil) (pss_cons (ps_fld (pv 0) (pe_op op_fdivX (pv 1) (pv 3)) rfl) (pss_cons (ps_fld (pv 0) (pe_op op_fdivX (pv 2) (pv 3)) rfl) pss_nil))))),
    xb_lastV (E := fun t => .i cFrac (insOf flFrac t) :: List.replicate 3 .un) (xv_if (fun t : Unit => [.i cFrac [], .d eI num, .d eI den, .un]) (et_eq (et_or (et_not (et_B (ev_call num (ea_cons (ev_eq (ev_var (i := 1) rfl) rfl) ea_nil) trivial rfl rfl))) (fun hb_3 => (et_or (et_not (et_B (ev_call den (ea_cons (ev_eq (ev_var (i := 2) rfl) rfl) ea_nil) trivial rfl rfl))) (fun hb_4 => (et_test (ev_eqI (ev_var (i := 2) rfl) ev_int)))))) rfl) (fun hc_5 => (xv_never ((okh.1 hc_5)))) (fun hc_5 => (xv_end (by exact (wk_S (wk_s (wk_s (wk_s wk_n))))))) (fun z_7 h_8 => (xv_set (ev_eq (ev_gcd (ev_var (i := 1) rfl) (ev_var (i := 2) rfl)) rfl) rfl (fun divisor_9 h_10 => (xv_if (fun t : Int => [.i cFrac [], .d eI num, .d eI den, .d eI t]) (et_eq (et_test (ev_IB (ev_var (i := 2) rfl) ev_int)) rfl) (fun hc_11 => (xv_set (ev_eq (ev_un (g := fun i => -i) (ev_var (i := 3) rfl)) rfl) rfl (fun divisor_12 h_13 => (xv_end (by exact (wk_S (wk_s (wk_s (wk_s wk_n))))))))) (fun hc_11 => (xv_end (by exact (wk_S (wk_s (wk_s (wk_s wk_n))))))) (fun z_14 h_15 => (xv_fld (fs := []) (ev_eq (ev_I (ev_var (i := 1) rfl) (ev_var (i := 3) rfl) ((((okh.2 z_7 h_8) divisor_9 h_10) z_14 h_15).1)) rfl) rfl (by show ("num" : Str) ∉ ([] : List Str); decide +kernel) (by show 0 < 100; decide) T.cl_Frac T.na_Frac_num (fun num_17 h_18 => (xv_fld (fs := [("num", ⟨eI, num_17⟩)]) (ev_eq (ev_I (ev_var (i := 2) rfl) (ev_var (i := 3) rfl) (((((okh.2 z_7 h_8) divisor_9 h_10) z_14 h_15).2 num_17 h_18))) rfl) rfl (by show ("den" : Str) ∉ (["num"] : List Str); decide +kernel) (by show 1 < 100; decide) T.cl_Frac T.na_Frac_den (fun den_20 h_21 => (xv_end (by exact (wk_S (wk_u (wk_u (wk_u wk_n))))))))))))))))⟩
/-! ### Frac.__init__@D -/
def o_Frac_init_D (num : (Py Frac)) (den : (Py Frac)) : Out Frac Empty Frac :=
  .nx (lt (bif ((!(f_is_integer_D num)) || ((!(f_is_integer_D den)) || (decide ((den).i = (0 : Int))))) then () else ()) fun z_27 => (lt ((Nat.gcd ((num).i).natAbs ((den).i).natAbs : Nat) : Int) fun divisor_31 => (lt (bif (decide ((den).i < (0 : Int))) then (lt (-divisor_31) fun divisor_35 => divisor_35) else divisor_31) fun z_37 => (lt (Int.fdiv (num).i z_37) fun num_41 => (lt (Int.fdiv (den).i z_37) fun den_45 => ({ num := num_41, den := den_45 } : Frac))))))
@[irreducible] def f_Frac_init_D (num : (Py Frac)) (den : (Py Frac)) : Frac := (o_Frac_init_D num den).val (fun t => t)
theorem f_Frac_init_D_eq (num : (Py Frac)) (den : (Py Frac)) : f_Frac_init_D num den = (o_Frac_init_D num den).val (fun t => t) := by delta f_Frac_init_D; rfl
def ok_Frac_init_D (num : (Py Frac)) (den : (Py Frac)) : Prop :=
  (∀ (hb_22 : ((!(f_is_integer_D num))) = false), (∀ (hb_23 : ((!(f_is_integer_D den))) = false), ((den).isI = true))) ∧ (∀ (hc_25 : (((!(f_is_integer_D num)) || ((!(f_is_integer_D den)) || (decide ((den).i = (0 : Int)))))) = true), (False)) ∧ (∀ z_27 (h_28 : z_27 = (bif ((!(f_is_integer_D num)) || ((!(f_is_integer_D den)) || (decide ((den).i = (0 : Int))))) then () else ())), ((num).isI = true) ∧ ((den).isI = true) ∧ (∀ divisor_31 (h_32 : divisor_31 = ((Nat.gcd ((num).i).natAbs ((den).i).natAbs : Nat) : Int)), ((den).isI = true) ∧ (∀ z_37 (h_38 : z_37 = (bif (decide ((den).i < (0 : Int))) then (lt (-divisor_31) fun divisor_35 => divisor_35) else divisor_31)), ((num).isI = true) ∧ (CDivX ((num).i) z_37) ∧ (∀ num_41 (h_42 : num_41 = (Int.fdiv (num).i z_37)), ((den).isI = true) ∧ (CDivX ((den).i) z_37)))))
abbrev r_Frac_init_D (num : (Py Frac)) (den : (Py Frac)) : Option (Py Frac) :=
  (bif ((!(f_is_integer_D num)) || ((!(f_is_integer_D den)) || (decide ((den).i = (0 : Int))))) then some ((Py.tup (F := Frac)) [num, den]) else none)
def okx_Frac_init_D (num : (Py Frac)) (den : (Py Frac)) : Prop :=
  (∀ (hb_47 : ((!(f_is_integer_D num))) = false), (∀ (hb_48 : ((!(f_is_integer_D den))) = false), ((den).isI = true)))
section
variable {K : PySem.W.Frag} {cFrac : Addr} {cInvalidFraction : Addr}
abbrev sp_Frac_init_D (cFrac : Addr) (cInvalidFraction : Addr) : Sp := spX (K := K) (ι := ((Py Frac) × (Py Frac))) (fun x => [.i cFrac [], .d (eD (eFrac cFrac)) x.1, .d (eD (eFrac cFrac)) x.2]) (fun x => ok_Frac_init_D x.1 x.2) ((⟨eN, fun _ => (), fun r => some (.i cFrac (insOf flFrac r)), fun _ => none⟩ : Ret K Frac)) (fun x => f_Frac_init_D x.1 x.2) cInvalidFraction (fun x => r_Frac_init_D x.1 x.2) (fun x => okx_Frac_init_D x.1 x.2) (xf_InvalidFraction cFrac)
end
set_option maxHeartbeats 4000000 in
theorem at_Frac_init_D {P : Program} {w : World} {K : PySem.W.Frag} {mg : Str → Option Value} {base : Heap} {cFrac : Addr} {cInvalidFraction : Addr} (T : Txt K mg cFrac cInvalidFraction) : FiAtY P w K mg base (L2N.CX P w) "Frac" cFrac 4 ["self", "num", "den"] (sp_Frac_init_D cFrac cInvalidFraction (K := K)) (fun fd => L2.Binds K fd ["self", "num", "den"] [] ∧ (∃ ds, Vals [V.int 1] ds ∧ L2.Binds K fd ["self", "num", "den"] ds) ∧ (∃ g, KBn K fd ["self", "num", "den"] 1 ["den", "num"] g (fun vs zs => kY [(false, 1), (false, 0)] V.non vs [V.int 1] zs)) ∧ (∃ g, KBn K fd ["self", "num", "den"] 1 ["num"] g (fun vs zs => kY [(false, 0), (true, 0)] V.non vs [V.int 1] zs))) := by
  obtain ⟨f, fd, F, mk_, mg_, z_⟩ := T.d_Frac_init
  obtain ⟨⟨a_is_integer_D, d_is_integer_D, G_is_integer_D, m_is_integer_D, k_is_integer_D, b_is_integer_D⟩⟩ := at_is_integer_D (P := P) (w := w) (base := base) T
  obtain ⟨fI_InvalidFraction, dI_InvalidFraction, GI_InvalidFraction, x_InvalidFraction, bI_InvalidFraction⟩ := at_InvalidFraction (P := P) (w := w) (base := base) T
  refine ⟨⟨f, fd, fn_okXD (k := 3) (ν := Frac) (fl := fun _ t => t) (o := fun x : ((Py Frac) × (Py Frac)) => o_Frac_init_D x.1 x.2) (E := fun (x : ((Py Frac) × (Py Frac))) (t : Frac) => .i cFrac (insOf flFrac t) :: List.replicate 3 .un) F sc_Frac_init (fun x => f_Frac_init_D_eq x.1 x.2) (fun x => rfl) (fun x i s h => noM_tail (by simp [Slot.isM]) h) (fun x t => ⟨fun _ => rfl, rfl, fun s h => h⟩) (fun cdv A outer s H EX hr x hx hp => ?_) (fun cdv A outer s H EX hr x e he hp => ?_), mk_, mg_, z_⟩⟩
  · have z := x; clear z
    obtain ⟨num, den⟩ := x
    have okh : ok_Frac_init_D num den := hp
    exact ⟨_, _, rfl,
      (pss_cons (ps_if (PW.pt (pw_or (pt_not (pt_val (pe_call G_is_integer_D (hr.mono (by decide)) (by rfl) m_is_integer_D k_is_integer_D b_is_integer_D .nil pass0 (pa_cons (pv 1) pa_nil)))) (pw_or (pt_not (pt_val (pe_call G_is_integer_D (hr.mono (by decide)) (by rfl) m_is_integer_D k_is_integer_D b_is_integer_D .nil pass0 (pa_cons (pv 2) pa_nil)))) (pw_or1 (pt_cmpR op_eq (pv 2) pe_int (nomark _)))))) (pss_cons ps_never pss_nil) pss_nil) (pss_cons (ps_set (i := 3) sc_Frac_init.nd rfl (by first | exact Or.inl rfl | exact Or.inr rfl) (pe_callBfun cr_gcd (by rfl) T.gb_gcd (pa_cons (pv 1) (pa_cons (pv 2) pa_nil)))) (pss_cons (ps_if (pt_cmpR op_lt (pv 2) pe_int (nomark _)) (pss_cons (ps_set (i := 3) sc_Frac_init.nd rfl (by first | exact Or.inl rfl | exact Or.inr rfl) (pe_un un_neg (pv 3))) pss_nil) pss_nil) (pss_cons (ps_fld (pv 0) (pe_op op_fdivX (pv 1) (pv 3)) rfl) (pss_cons (ps_fld (pv 0) (pe_op op_fdivX (pv 2) (pv 3)) rfl) pss_nil))))),
      xb_lastV (E := fun t => .i cFrac (insOf flFrac t) :: List.replicate 3 .un) (xv_if (fun t : Unit => [.i cFrac [], .d (eD (eFrac cFrac)) num, .d (eD (eFrac cFrac)) den, .un]) (et_eq (et_or (et_not (et_B (ev_call num (ea_cons (ev_eq (ev_var (i := 1) rfl) rfl) ea_nil) trivial rfl rfl))) (fun hb_22 => (et_or (et_not (et_B (ev_call den (ea_cons (ev_eq (ev_var (i := 2) rfl) rfl) ea_nil) trivial rfl rfl))) (fun hb_23 => (et_test (ev_eqI (ev_dI (ev_var (i := 2) rfl) (((okh.1 hb_22) hb_23))) ev_int)))))) rfl) (fun hc_25 => (xv_never ((okh.2.1 hc_25)))) (fun hc_25 => (xv_end (by exact (wk_S (wk_s (wk_s (wk_s wk_n))))))) (fun z_27 h_28 => (xv_set (ev_eq (ev_gcd (ev_dI (ev_var (i := 1) rfl) ((okh.2.2 z_27 h_28).1)) (ev_dI (ev_var (i := 2) rfl) ((okh.2.2 z_27 h_28).2.1))) rfl) rfl (fun divisor_31 h_32 => (xv_if (fun t : Int => [.i cFrac [], .d (eD (eFrac cFrac)) num, .d (eD (eFrac cFrac)) den, .d eI t]) (et_eq (et_test (ev_IB (ev_dI (ev_var (i := 2) rfl) (((okh.2.2 z_27 h_28).2.2 divisor_31 h_32).1)) ev_int)) rfl) (fun hc_34 => (xv_set (ev_eq (ev_un (g := fun i => -i) (ev_var (i := 3) rfl)) rfl) rfl (fun divisor_35 h_36 => (xv_end (by exact (wk_S (wk_s (wk_s (wk_s wk_n))))))))) (fun hc_34 => (xv_end (by exact (wk_S (wk_s (wk_s (wk_s wk_n))))))) (fun z_37 h_38 => (xv_fld (fs := []) (ev_eq (ev_I (ev_dI (ev_var (i := 1) rfl) ((((okh.2.2 z_27 h_28).2.2 divisor_31 h_32).2 z_37 h_38).1)) (ev_var (i := 3) rfl) ((((okh.2.2 z_27 h_28).2.2 divisor_31 h_32).2 z_37 h_38).2.1)) rfl) rfl (by show ("num" : Str) ∉ ([] : List Str); decide +kernel) (by show 0 < 100; decide) T.cl_Frac T.na_Frac_num (fun num_41 h_42 => (xv_fld (fs := [("num", ⟨eI, num_41⟩)]) (ev_eq (ev_I (ev_dI (ev_var (i := 2) rfl) (((((okh.2.2 z_27 h_28).2.2 divisor_31 h_32).2 z_37 h_38).2.2 num_41 h_42).1)) (ev_var (i := 3) rfl) (((((okh.2.2 z_27 h_28).2.2 divisor_31 h_32).2 z_37 h_38).2.2 num_41 h_42).2)) rfl) rfl (by show ("den" : Str) ∉ (["num"] : List Str); decide +kernel) (by show 1 < 100; decide) T.cl_Frac T.na_Frac_den (fun den_45 h_46 => (xv_end (by exact (wk_S (wk_u (wk_u (wk_u wk_n))))))))))))))))⟩
  · obtain ⟨num, den⟩ := x
    have he : (bif ((!(f_is_integer_D num)) || ((!(f_is_integer_D den)) || (decide ((den).i = (0 : Int))))) then some ((Py.tup (F := Frac)) [num, den]) else none) = some e := he
    have okx : okx_Frac_init_D num den := hp
    have tk : L2N.Takes (cxOf (L2N.CX P w) P w K mg base N_Frac_init "Frac.__init__" (defScope s_Frac_init) f cdv A outer s H EX) (fun cls d _ H => EX cls d H) := L2N.takes_of rfl rfl rfl rfl
    exact ⟨_, _, rfl,
      (pss_cons (ps_if (PW.pt (pw_or (pt_not (pt_val (pe_call G_is_integer_D (hr.mono (by decide)) (by rfl) m_is_integer_D k_is_integer_D b_is_integer_D .nil pass0 (pa_cons (pv 1) pa_nil)))) (pw_or (pt_not (pt_val (pe_call G_is_integer_D (hr.mono (by decide)) (by rfl) m_is_integer_D k_is_integer_D b_is_integer_D .nil pass0 (pa_cons (pv 2) pa_nil)))) (pw_or1 (pt_cmpR op_eq (pv 2) pe_int (nomark _)))))) (pss_cons (L2N.ps_raise rfl tk (pmk_oexN x_InvalidFraction.o x_InvalidFraction.i x_InvalidFraction.t GI_InvalidFraction (hr.mono (by decide)) bI_InvalidFraction (fun _ _ _ _ _ _ _ h => h.elim) (by rfl) x_InvalidFraction.m (pa_cons (pe_tup (pa_cons (pv 1) (pa_cons (pv 2) pa_nil))) pa_nil))) pss_nil) pss_nil) (pss_cons (ps_set (i := 3) sc_Frac_init.nd rfl (by first | exact Or.inl rfl | exact Or.inr rfl) (pe_callBfun cr_gcd (by rfl) T.gb_gcd (pa_cons (pv 1) (pa_cons (pv 2) pa_nil)))) (pss_cons (ps_if (pt_cmpR op_lt (pv 2) pe_int (nomark _)) (pss_cons (ps_set (i := 3) sc_Frac_init.nd rfl (by first | exact Or.inl rfl | exact Or.inr rfl) (pe_un un_neg (pv 3))) pss_nil) pss_nil) (pss_cons (ps_fld (pv 0) (pe_op op_fdivX (pv 1) (pv 3)) rfl) (pss_cons (ps_fld (pv 0) (pe_op op_fdivX (pv 2) (pv 3)) rfl) pss_nil))))),
      (xr_if (et_or (et_not (et_B (ev_call num (ea_cons (ev_eq (ev_var (i := 1) rfl) rfl) ea_nil) trivial rfl rfl))) (fun hb_47 => (et_or (et_not (et_B (ev_call den (ea_cons (ev_eq (ev_var (i := 2) rfl) rfl) ea_nil) trivial rfl rfl))) (fun hb_48 => (et_test (ev_eqI (ev_dI (ev_var (i := 2) rfl) (((okx hb_47) hb_48))) ev_int)))))) (bif_t he) ((xr_raise1 x_InvalidFraction.o T.no_InvalidFraction_value  (ea_cons (ev_eq (ev_cv (f := (eD (eFrac cFrac))) (u := (Py.tup (F := Frac))) (ev_tup (eas_cons (ev_var (i := 1) rfl) (eas_cons (ev_var (i := 2) rfl) (eas_nil (e := (eD (eFrac cFrac)))))) (by show 2 ≤ 100000; decide))) (bif_v he)) ea_nil))))⟩
/-! ### Frac.__add__ -/
abbrev N_Frac_add : List Str := ["self", "other"]
theorem sc_Frac_add : FnScope N_Frac_add ["self", "other"] (defScope s_Frac_add) := ⟨rfl, rfl, rfl, by decide +kernel, rfl, by decide +kernel, by decide +kernel⟩
def o_Frac_add (self : Frac) (other : Frac) : Out Empty Empty Frac :=
  (.rt (f_Frac_init_I ((self.num * other.den) + (other.num * self.den)) (self.den * other.den)))
@[irreducible] def f_Frac_add (self : Frac) (other : Frac) : Frac := (o_Frac_add self other).get
theorem f_Frac_add_eq (self : Frac) (other : Frac) : f_Frac_add self other = (o_Frac_add self other).get := by delta f_Frac_add; rfl
def ok_Frac_add (self : Frac) (other : Frac) : Prop :=
  (CMulW self.num other.den) ∧ (CMulW other.num self.den) ∧ (CMulW self.den other.den) ∧ (ok_Frac_init_I ((self.num * other.den) + (other.num * self.den)) (self.den * other.den))
section
variable {K : PySem.W.Frag} {cFrac : Addr} {cInvalidFraction : Addr}
abbrev sp_Frac_add (cFrac : Addr) : Sp := spF (K := K) (ι := (Frac × Frac)) (fun x => [.d (eFrac cFrac) x.1, .d (eFrac cFrac) x.2]) (fun x => ok_Frac_add x.1 x.2) (retD (eFrac cFrac)) (fun x => f_Frac_add x.1 x.2)
end
set_option maxHeartbeats 4000000 in
theorem at_Frac_add {P : Program} {w : World} {K : PySem.W.Frag} {mg : Str → Option Value} {base : Heap} {cFrac : Addr} {cInvalidFraction : Addr} (T : Txt K mg cFrac cInvalidFraction) : FmAt P w K mg base cFrac "__add__" 4 ["self", "other"] (sp_Frac_add cFrac (K := K)) := by
  obtain ⟨f, fd, F, mt_, bd_⟩ := T.d_Frac_add
  obtain ⟨⟨a_Frac_init_I, d_Frac_init_I, G_Frac_init_I, mk_Frac_init_I, m_Frac_init_I, b_Frac_init_I, ⟨ds_Frac_init_I, vd_Frac_init_I, bd_Frac_init_I⟩, ⟨kg0_Frac_init_I, kb0_Frac_init_I⟩, ⟨kg1_Frac_init_I, kb1_Frac_init_I⟩⟩⟩ := at_Frac_init_I (P := P) (w := w) (base := base) T
  refine ⟨⟨f, fd, fn_okG (fun x => f_Frac_add_eq x.1 x.2) <| fn_okE (o := fun x : (Frac × Frac) => o_Frac_add x.1 x.2) (k := 3) F sc_Frac_add (fun x => rfl) (fun x i s h => noM_tail (by simp [Slot.isM]) h) (fun cdv A outer s H EX hr x hp => ?_), mt_, bd_⟩⟩
  obtain ⟨self, other⟩ := x
  have okh : ok_Frac_add self other := hp
  exact ⟨_, _, rfl,
    (pss_cons (ps_ret (pe_make mk_Frac_init_I G_Frac_init_I (hr.mono (by decide)) (by rfl) m_Frac_init_I b_Frac_init_I .nil pass0 (pa_cons (pe_op op_add (pe_op op_mulW (pe_fld (pv 0) rfl) (pe_fld (pv 1) rfl)) (pe_op op_mulW (pe_fld (pv 1) rfl) (pe_fld (pv 0) rfl))) (pa_cons (pe_op op_mulW (pe_fld (pv 0) rfl) (pe_fld (pv 1) rfl)) pa_nil)))) pss_nil),
    (xb_retS (ev_eq (ev_make (fl := flFrac) (((self.num * other.den) + (other.num * self.den)), (self.den * other.den)) (ea_cons (ev_eq (ev_I0 (ev_I (ev_fld (F := ⟨eI, Frac.num⟩) (ev_var (i := 0) rfl) 0 rfl flFrac_nd T.cl_Frac T.na_Frac_num) (ev_fld (F := ⟨eI, Frac.den⟩) (ev_var (i := 1) rfl) 1 rfl flFrac_nd T.cl_Frac T.na_Frac_den) (okh.1)) (ev_I (ev_fld (F := ⟨eI, Frac.num⟩) (ev_var (i := 1) rfl) 0 rfl flFrac_nd T.cl_Frac T.na_Frac_num) (ev_fld (F := ⟨eI, Frac.den⟩) (ev_var (i := 0) rfl) 1 rfl flFrac_nd T.cl_Frac T.na_Frac_den) (okh.2.1))) rfl) (ea_cons (ev_eq (ev_I (ev_fld (F := ⟨eI, Frac.den⟩) (ev_var (i := 0) rfl) 1 rfl flFrac_nd T.cl_Frac T.na_Frac_den) (ev_fld (F := ⟨eI, Frac.den⟩) (ev_var (i := 1) rfl) 1 rfl flFrac_nd T.cl_Frac T.na_Frac_den) (okh.2.2.1)) rfl) ea_nil)) rfl (okh.2.2.2) (fun _ _ h => h) rfl rfl) rfl) (.inl rfl) rfl)⟩
/-! ### Frac.__sub__ -/
abbrev N_Frac_sub : List Str := ["self", "other"]
theorem sc_Frac_sub : FnScope N_Frac_sub ["self", "other"] (defScope s_Frac_sub) := ⟨rfl, rfl, rfl, by decide +kernel, rfl, by decide +kernel, by decide +kernel⟩
def o_Frac_sub (self : Frac) (other : Frac) : Out Empty Empty Frac :=
  (.rt (f_Frac_init_I ((self.num * other.den) - (other.num * self.den)) (self.den * other.den)))
@[irreducible] def f_Frac_sub (self : Frac) (other : Frac) : Frac := (o_Frac_sub self other).get
theorem f_Frac_sub_eq (self : Frac) (other : Frac) : f_Frac_sub self other = (o_Frac_sub self other).get := by delta f_Frac_sub; rfl
def ok_Frac_sub (self : Frac) (other : Frac) : Prop :=
  (CMulW self.num other.den) ∧ (CMulW other.num self.den) ∧ (CMulW self.den other.den) ∧ (ok_Frac_init_I ((self.num * other.den) - (other.num * self.den)) (self.den * other.den))
section
variable {K : PySem.W.Frag} {cFrac : Addr} {cInvalidFraction : Addr}
abbrev sp_Frac_sub (cFrac : Addr) : Sp := spF (K := K) (ι := (Frac × Frac)) (fun x => [.d (eFrac cFrac) x.1, .d (eFrac cFrac) x.2]) (fun x => ok_Frac_sub x.1 x.2) (retD (eFrac cFrac)) (fun x => f_Frac_sub x.1 x.2)
end
set_option maxHeartbeats 4000000 in
theorem at_Frac_sub {P : Program} {w : World} {K : PySem.W.Frag} {mg : Str → Option Value} {base : Heap} {cFrac : Addr} {cInvalidFraction : Addr} (T : Txt K mg cFrac cInvalidFraction) : FmAt P w K mg base cFrac "__sub__" 4 ["self", "other"] (sp_Frac_sub cFrac (K := K)) := by
  obtain ⟨f, fd, F, mt_, bd_⟩ := T.d_Frac_sub
  obtain ⟨⟨a_Frac_init_I, d_Frac_init_I, G_Frac_init_I, mk_Frac_init_I, m_Frac_init_I, b_Frac_init_I, ⟨ds_Frac_init_I, vd_Frac_init_I, bd_Frac_init_I⟩, ⟨kg0_Frac_init_I, kb0_Frac_init_I⟩, ⟨kg1_Frac_init_I, kb1_Frac_init_I⟩⟩⟩ := at_Frac_init_I (P := P) (w := w) (base := base) T
  refine ⟨⟨f, fd, fn_okG (fun x => f_Frac_sub_eq x.1 x.2) <| fn_okE (o := fun x : (Frac × Frac) => o_Frac_sub x.1 x.2) (k := 3) F sc_Frac_sub (fun x => rfl) (fun x i s h => noM_tail (by simp [Slot.isM]) h) (fun cdv A outer s H EX hr x hp => ?_), mt_, bd_⟩⟩
  obtain ⟨self, other⟩ := x
  have okh : ok_Frac_sub self other := hp
  exact ⟨_, _, rfl,
    (pss_cons (ps_ret (pe_make mk_Frac_init_I G_Frac_init_I (hr.mono (by decide)) (by rfl) m_Frac_init_I b_Frac_init_I .nil pass0 (pa_cons (pe_op op_sub (pe_op op_mulW (pe_fld (pv 0) rfl) (pe_fld (pv 1) rfl)) (pe_op op_mulW (pe_fld (pv 1) rfl) (pe_fld (pv 0) rfl))) (pa_cons (pe_op op_mulW (pe_fld (pv 0) rfl) (pe_fld (pv 1) rfl)) pa_nil)))) pss_nil),
    (xb_retS (ev_eq (ev_make (fl := flFrac) (((self.num * other.den) - (other.num * self.den)), (self.den * other.den)) (ea_cons (ev_eq (ev_I0 (ev_I (ev_fld (F := ⟨eI, Frac.num⟩) (ev_var (i := 0) rfl) 0 rfl flFrac_nd T.cl_Frac T.na_Frac_num) (ev_fld (F := ⟨eI, Frac.den⟩) (ev_var (i := 1) rfl) 1 rfl flFrac_nd T.cl_Frac T.na_Frac_den) (okh.1)) (ev_I (ev_fld (F := ⟨eI, Frac.num⟩) (ev_var (i := 1) rfl) 0 rfl flFrac_nd T.cl_Frac T.na_Frac_num) (ev_fld (F := ⟨eI, Frac.den⟩) (ev_var (i := 0) rfl) 1 rfl flFrac_nd T.cl_Frac T.na_Frac_den) (okh.2.1))) rfl) (ea_cons (ev_eq (ev_I (ev_fld (F := ⟨eI, Frac.den⟩) (ev_var (i := 0) rfl) 1 rfl flFrac_nd T.cl_Frac T.na_Frac_den) (ev_fld (F := ⟨eI, Frac.den⟩) (ev_var (i := 1) rfl) 1 rfl flFrac_nd T.cl_Frac T.na_Frac_den) (okh.2.2.1)) rfl) ea_nil)) rfl (okh.2.2.2) (fun _ _ h => h) rfl rfl) rfl) (.inl rfl) rfl)⟩
/-! ### Frac.__mul__ -/
abbrev N_Frac_mul : List Str := ["self", "other"]
theorem sc_Frac_mul : FnScope N_Frac_mul ["self", "other"] (defScope s_Frac_mul) := ⟨rfl, rfl, rfl, by decide +kernel, rfl, by decide +kernel, by decide +kernel⟩
def o_Frac_mul (self : Frac) (other : Frac) : Out Empty Empty Frac :=
  (.rt (f_Frac_init_I (self.num * other.num) (self.den * other.den)))
@[irreducible] def f_Frac_mul (self : Frac) (other : Frac) : Frac := (o_Frac_mul self other).get
theorem f_Frac_mul_eq (self : Frac) (other : Frac) : f_Frac_mul self other = (o_Frac_mul self other).get := by delta f_Frac_mul; rfl
def ok_Frac_mul (self : Frac) (other : Frac) : Prop :=
  (CMulW self.num other.num) ∧ (CMulW self.den other.den) ∧ (ok_Frac_init_I (self.num * other.num) (self.den * other.den))
section
variable {K : PySem.W.Frag} {cFrac : Addr} {cInvalidFraction : Addr}
abbrev sp_Frac_mul (cFrac : Addr) : Sp := spF (K := K) (ι := (Frac × Frac)) (fun x => [.d (eFrac cFrac) x.1, .d (eFrac cFrac) x.2]) (fun x => ok_Frac_mul x.1 x.2) (retD (eFrac cFrac)) (fun x => f_Frac_mul x.1 x.2)
end
set_option maxHeartbeats 4000000 in
theorem at_Frac_mul {P : Program} {w : World} {K : PySem.W.Frag} {mg : Str → Option Value} {base : Heap} {cFrac : Addr} {cInvalidFraction : Addr} (T : Txt K mg cFrac cInvalidFraction) : FmAt P w K mg base cFrac "__mul__" 4 ["self", "other"] (sp_Frac_mul cFrac (K := K)) := by
  obtain ⟨f, fd, F, mt_, bd_⟩ := T.d_Frac_mul
  obtain ⟨⟨a_Frac_init_I, d_Frac_init_I, G_Frac_init_I, mk_Frac_init_I, m_Frac_init_I, b_Frac_init_I, ⟨ds_Frac_init_I, vd_Frac_init_I, bd_Frac_init_I⟩, ⟨kg0_Frac_init_I, kb0_Frac_init_I⟩, ⟨kg1_Frac_init_I, kb1_Frac_init_I⟩⟩⟩ := at_Frac_init_I (P := P) (w := w) (base := base) T
  refine ⟨⟨f, fd, fn_okG (fun x => f_Frac_mul_eq x.1 x.2) <| fn_okE (o := fun x : (Frac × Frac) => o_Frac_mul x.1 x.2) (k := 3) F sc_Frac_mul (fun x => rfl) (fun x i s h => noM_tail (by simp [Slot.isM]) h) (fun cdv A outer s H EX hr x hp => ?_), mt_, bd_⟩⟩
  obtain ⟨self, other⟩ := x
  have okh : ok_Frac_mul self other := hp
  exact ⟨_, _, rfl,
    (pss_cons (ps_ret (pe_make mk_Frac_init_I G_Frac_init_I (hr.mono (by decide)) (by rfl) m_Frac_init_I b_Frac_init_I .nil pass0 (pa_cons (pe_op op_mulW (pe_fld (pv 0) rfl) (pe_fld (pv 1) rfl)) (pa_cons (pe_op op_mulW (pe_fld (pv 0) rfl) (pe_fld (pv 1) rfl)) pa_nil)))) pss_nil),
    (xb_retS (ev_eq (ev_make (fl := flFrac) ((self.num * other.num), (self.den * other.den)) (ea_cons (ev_eq (ev_I (ev_fld (F := ⟨eI, Frac.num⟩) (ev_var (i := 0) rfl) 0 rfl flFrac_nd T.cl_Frac T.na_Frac_num) (ev_fld (F := ⟨eI, Frac.num⟩) (ev_var (i := 1) rfl) 0 rfl flFrac_nd T.cl_Frac T.na_Frac_num) (okh.1)) rfl) (ea_cons (ev_eq (ev_I (ev_fld (F := ⟨eI, Frac.den⟩) (ev_var (i := 0) rfl) 1 rfl flFrac_nd T.cl_Frac T.na_Frac_den) (ev_fld (F := ⟨eI, Frac.den⟩) (ev_var (i := 1) rfl) 1 rfl flFrac_nd T.cl_Frac T.na_Frac_den) (okh.2.1)) rfl) ea_nil)) rfl (okh.2.2) (fun _ _ h => h) rfl rfl) rfl) (.inl rfl) rfl)⟩
/-! ### Frac.__eq__ -/
abbrev N_Frac_eq : List Str := ["self", "other"]
theorem sc_Frac_eq : FnScope N_Frac_eq ["self", "other"] (defScope s_Frac_eq) := ⟨rfl, rfl, rfl, by decide +kernel, rfl, by decide +kernel, by decide +kernel⟩
def o_Frac_eq (self : Frac) (other : (Py Frac)) : Out Empty Empty Bool :=
  (.rt (((other).sel false false false false true false false) && ((decide (self.num = (other).o.num)) && (decide (self.den = (other).o.den)))))
@[irreducible] def f_Frac_eq (self : Frac) (other : (Py Frac)) : Bool := (o_Frac_eq self other).get
theorem f_Frac_eq_eq (self : Frac) (other : (Py Frac)) : f_Frac_eq self other = (o_Frac_eq self other).get := by delta f_Frac_eq; rfl
def ok_Frac_eq (self : Frac) (other : (Py Frac)) : Prop :=
  (∀ (hb_79 : (((other).sel false false false false true false false)) = true), ((other).isO = true) ∧ (∀ (hb_81 : ((decide (self.num = (other).o.num))) = true), ((other).isO = true)))
section
variable {K : PySem.W.Frag} {cFrac : Addr} {cInvalidFraction : Addr}
abbrev sp_Frac_eq (cFrac : Addr) : Sp := spF (K := K) (ι := (Frac × (Py Frac))) (fun x => [.d (eFrac cFrac) x.1, .d (eD (eFrac cFrac)) x.2]) (fun x => ok_Frac_eq x.1 x.2) (retD eB) (fun x => f_Frac_eq x.1 x.2)
end
set_option maxHeartbeats 4000000 in
theorem at_Frac_eq {P : Program} {w : World} {K : PySem.W.Frag} {mg : Str → Option Value} {base : Heap} {cFrac : Addr} {cInvalidFraction : Addr} (T : Txt K mg cFrac cInvalidFraction) : FmAt P w K mg base cFrac "__eq__" 1 ["self", "other"] (sp_Frac_eq cFrac (K := K)) := by
  obtain ⟨f, fd, F, mt_, bd_⟩ := T.d_Frac_eq
  refine ⟨⟨f, fd, fn_okG (fun x => f_Frac_eq_eq x.1 x.2) <| fn_okE (o := fun x : (Frac × (Py Frac)) => o_Frac_eq x.1 x.2) (k := 0) F sc_Frac_eq (fun x => rfl) (fun x i s h => noM_tail (by simp [Slot.isM]) h) (fun cdv A outer s H EX hr x hp => ?_), mt_, bd_⟩⟩
  obtain ⟨self, other⟩ := x
  have okh : ok_Frac_eq self other := hp
  exact ⟨_, _, rfl,
    (pss_cons (ps_ret (pe_and (pe_callB call_isi (by rfl) T.b_isinstance (by decide +kernel) (pa_cons (pv 1) (pa_cons (pe_glob (v := .ref cFrac) (by rfl) T.mg_Frac rfl) pa_nil))) (pe_and (pe_cmpR op_eq (pe_fld (pv 0) rfl) (pe_fld (pv 1) rfl) (nomark _)) (pe_one (pe_cmpR op_eq (pe_fld (pv 0) rfl) (pe_fld (pv 1) rfl) (nomark _)))))) pss_nil),
    (xb_retS (ev_eq (ev_andV (ev_isiD T.in_Frac (ev_var (i := 1) rfl) (.own _) T.ki_NoneType_Frac T.ki_bool_Frac T.ki_int_Frac T.ki_str_Frac T.ki_Frac_Frac T.ki_list_Frac T.ki_tuple_Frac) (fun hb_79 => (ev_andV (ev_eqI (ev_fld (F := ⟨eI, Frac.num⟩) (ev_var (i := 0) rfl) 0 rfl flFrac_nd T.cl_Frac T.na_Frac_num) (ev_fld (F := ⟨eI, Frac.num⟩) (ev_dO (ev_var (i := 1) rfl) ((okh hb_79).1)) 0 rfl flFrac_nd T.cl_Frac T.na_Frac_num)) (fun hb_81 => (ev_eqI (ev_fld (F := ⟨eI, Frac.den⟩) (ev_var (i := 0) rfl) 1 rfl flFrac_nd T.cl_Frac T.na_Frac_den) (ev_fld (F := ⟨eI, Frac.den⟩) (ev_dO (ev_var (i := 1) rfl) (((okh hb_79).2 hb_81))) 1 rfl flFrac_nd T.cl_Frac T.na_Frac_den)))))) rfl) (.inl rfl) rfl)⟩
/-! ### Frac.is_below -/
abbrev N_Frac_is_below : List Str := ["self", "other"]
theorem sc_Frac_is_below : FnScope N_Frac_is_below ["self", "other"] (defScope s_Frac_is_below) := ⟨rfl, rfl, rfl, by decide +kernel, rfl, by decide +kernel, by decide +kernel⟩
def o_Frac_is_below (self : Frac) (other : Frac) : Out Empty Empty Bool :=
  (.rt (decide ((self.num * other.den) < (other.num * self.den))))
@[irreducible] def f_Frac_is_below (self : Frac) (other : Frac) : Bool := (o_Frac_is_below self other).get
theorem f_Frac_is_below_eq (self : Frac) (other : Frac) : f_Frac_is_below self other = (o_Frac_is_below self other).get := by delta f_Frac_is_below; rfl
def ok_Frac_is_below (self : Frac) (other : Frac) : Prop :=
  (CMulW self.num other.den) ∧ (CMulW other.num self.den)
section
variable {K : PySem.W.Frag} {cFrac : Addr} {cInvalidFraction : Addr}
abbrev sp_Frac_is_below (cFrac : Addr) : Sp := spF (K := K) (ι := (Frac × Frac)) (fun x => [.d (eFrac cFrac) x.1, .d (eFrac cFrac) x.2]) (fun x => ok_Frac_is_below x.1 x.2) (retD eB) (fun x => f_Frac_is_below x.1 x.2)
end
set_option maxHeartbeats 4000000 in
theorem at_Frac_is_below {P : Program} {w : World} {K : PySem.W.Frag} {mg : Str → Option Value} {base : Heap} {cFrac : Addr} {cInvalidFraction : Addr} (T : Txt K mg cFrac cInvalidFraction) : FmAtY P w K mg base CX0 cFrac "is_below" 1 ["self", "other"] (sp_Frac_is_below cFrac (K := K)) (fun fd => L2.Binds K fd ["self", "other"] [] ∧ (∃ g, KBn K fd ["self", "other"] 1 ["other"] g (fun vs zs => kY [(false, 0)] V.non vs [] zs))) := by
  obtain ⟨f, fd, F, mt_, z_⟩ := T.d_Frac_is_below
  refine ⟨⟨f, fd, fn_okG (fun x => f_Frac_is_below_eq x.1 x.2) <| fn_okE (o := fun x : (Frac × Frac) => o_Frac_is_below x.1 x.2) (k := 0) F sc_Frac_is_below (fun x => rfl) (fun x i s h => noM_tail (by simp [Slot.isM]) h) (fun cdv A outer s H EX hr x hp => ?_), mt_, z_⟩⟩
  obtain ⟨self, other⟩ := x
  have okh : ok_Frac_is_below self other := hp
  exact ⟨_, _, rfl,
    (pss_cons (ps_ret (pe_cmpR op_lt (pe_op op_mulW (pe_fld (pv 0) rfl) (pe_fld (pv 1) rfl)) (pe_op op_mulW (pe_fld (pv 1) rfl) (pe_fld (pv 0) rfl)) (nomark _))) pss_nil),
    (xb_retS (ev_eq (ev_IB (ev_I (ev_fld (F := ⟨eI, Frac.num⟩) (ev_var (i := 0) rfl) 0 rfl flFrac_nd T.cl_Frac T.na_Frac_num) (ev_fld (F := ⟨eI, Frac.den⟩) (ev_var (i := 1) rfl) 1 rfl flFrac_nd T.cl_Frac T.na_Frac_den) (okh.1)) (ev_I (ev_fld (F := ⟨eI, Frac.num⟩) (ev_var (i := 1) rfl) 0 rfl flFrac_nd T.cl_Frac T.na_Frac_num) (ev_fld (F := ⟨eI, Frac.den⟩) (ev_var (i := 0) rfl) 1 rfl flFrac_nd T.cl_Frac T.na_Frac_den) (okh.2))) rfl) (.inl rfl) rfl)⟩
/-! ### Frac.divided_by@C -/
abbrev N_Frac_divided_by : List Str := ["self", "other"]
theorem sc_Frac_divided_by : FnScope N_Frac_divided_by ["self", "other"] (defScope s_Frac_divided_by) := ⟨rfl, rfl, rfl, by decide +kernel, rfl, by decide +kernel, by decide +kernel⟩
def o_Frac_divided_by_C (self : Frac) (other : Frac) : Out Empty Empty Frac :=
  (lt (bif ((!true) || (decide (other.num = (0 : Int)))) then () else ()) fun z_88 => (.rt (f_Frac_init_I (self.num * other.den) (self.den * other.num))))
@[irreducible] def f_Frac_divided_by_C (self : Frac) (other : Frac) : Frac := (o_Frac_divided_by_C self other).get
theorem f_Frac_divided_by_C_eq (self : Frac) (other : Frac) : f_Frac_divided_by_C self other = (o_Frac_divided_by_C self other).get := by delta f_Frac_divided_by_C; rfl
def ok_Frac_divided_by_C (self : Frac) (other : Frac) : Prop :=
  (∀ (hc_86 : (((!true) || (decide (other.num = (0 : Int))))) = true), (False)) ∧ (∀ z_88 (h_89 : z_88 = (bif ((!true) || (decide (other.num = (0 : Int)))) then () else ())), (CMulW self.num other.den) ∧ (CMulW self.den other.num) ∧ (ok_Frac_init_I (self.num * other.den) (self.den * other.num)))
section
variable {K : PySem.W.Frag} {cFrac : Addr} {cInvalidFraction : Addr}
abbrev sp_Frac_divided_by_C (cFrac : Addr) : Sp := spF (K := K) (ι := (Frac × Frac)) (fun x => [.d (eFrac cFrac) x.1, .d (eFrac cFrac) x.2]) (fun x => ok_Frac_divided_by_C x.1 x.2) (retD (eFrac cFrac)) (fun x => f_Frac_divided_by_C x.1 x.2)
end
set_option maxHeartbeats 4000000 in
theorem at_Frac_divided_by_C {P : Program} {w : World} {K : PySem.W.Frag} {mg : Str → Option Value} {base : Heap} {cFrac : Addr} {cInvalidFraction : Addr} (T : Txt K mg cFrac cInvalidFraction) : FmAtY P w K mg base CX0 cFrac "divided_by" 4 ["self", "other"] (sp_Frac_divided_by_C cFrac (K := K)) (fun fd => L2.Binds K fd ["self", "other"] [] ∧ (∃ g, KBn K fd ["self", "other"] 1 ["other"] g (fun vs zs => kY [(false, 0)] V.non vs [] zs))) := by
  obtain ⟨f, fd, F, mt_, z_⟩ := T.d_Frac_divided_by
  obtain ⟨⟨a_Frac_init_I, d_Frac_init_I, G_Frac_init_I, mk_Frac_init_I, m_Frac_init_I, b_Frac_init_I, ⟨ds_Frac_init_I, vd_Frac_init_I, bd_Frac_init_I⟩, ⟨kg0_Frac_init_I, kb0_Frac_init_I⟩, ⟨kg1_Frac_init_I, kb1_Frac_init_I⟩⟩⟩ := at_Frac_init_I (P := P) (w := w) (base := base) T
  refine ⟨⟨f, fd, fn_okG (fun x => f_Frac_divided_by_C_eq x.1 x.2) <| fn_okE (o := fun x : (Frac × Frac) => o_Frac_divided_by_C x.1 x.2) (k := 3) F sc_Frac_divided_by (fun x => rfl) (fun x i s h => noM_tail (by simp [Slot.isM]) h) (fun cdv A outer s H EX hr x hp => ?_), mt_, z_⟩⟩
  obtain ⟨self, other⟩ := x
  have okh : ok_Frac_divided_by_C self other := hp
  exact ⟨_, _, rfl,
    (pss_cons (ps_if (PW.pt (pw_or (pt_not (pt_val (pe_callB call_isi (by rfl) T.b_isinstance (by decide +kernel) (pa_cons (pv 1) (pa_cons (pe_glob (v := .ref cFrac) (by rfl) T.mg_Frac rfl) pa_nil))))) (pw_or1 (pt_cmpR op_eq (pe_fld (pv 1) rfl) pe_int (nomark _))))) (pss_cons ps_never pss_nil) pss_nil) (pss_cons (ps_ret (pe_make mk_Frac_init_I G_Frac_init_I (hr.mono (by decide)) (by rfl) m_Frac_init_I b_Frac_init_I .nil pass0 (pa_cons (pe_op op_mulW (pe_fld (pv 0) rfl) (pe_fld (pv 1) rfl)) (pa_cons (pe_op op_mulW (pe_fld (pv 0) rfl) (pe_fld (pv 1) rfl)) pa_nil)))) pss_nil)),
    (xb_if (fun t : Unit => [.d (eFrac cFrac) self, .d (eFrac cFrac) other]) (et_eq (et_or (et_not (et_B (ev_isiC (b := true) T.in_Frac (ev_var (i := 1) rfl) (.own _) T.ki_Frac_Frac))) (fun hb_85 => (et_test (ev_eqI (ev_fld (F := ⟨eI, Frac.num⟩) (ev_var (i := 1) rfl) 0 rfl flFrac_nd T.cl_Frac T.na_Frac_num) ev_int)))) rfl) (fun hc_86 => (xv_never ((okh.1 hc_86)))) (fun hc_86 => (xv_end (by exact (wk_S (wk_s wk_n))))) (fun z_88 h_89 => (xb_retS (ev_eq (ev_make (fl := flFrac) ((self.num * other.den), (self.den * other.num)) (ea_cons (ev_eq (ev_I (ev_fld (F := ⟨eI, Frac.num⟩) (ev_var (i := 0) rfl) 0 rfl flFrac_nd T.cl_Frac T.na_Frac_num) (ev_fld (F := ⟨eI, Frac.den⟩) (ev_var (i := 1) rfl) 1 rfl flFrac_nd T.cl_Frac T.na_Frac_den) ((okh.2 z_88 h_89).1)) rfl) (ea_cons (ev_eq (ev_I (ev_fld (F := ⟨eI, Frac.den⟩) (ev_var (i := 0) rfl) 1 rfl flFrac_nd T.cl_Frac T.na_Frac_den) (ev_fld (F := ⟨eI, Frac.num⟩) (ev_var (i := 1) rfl) 0 rfl flFrac_nd T.cl_Frac T.na_Frac_num) ((okh.2 z_88 h_89).2.1)) rfl) ea_nil)) rfl ((okh.2 z_88 h_89).2.2) (fun _ _ h => h) rfl rfl) rfl) (.inl rfl) rfl)))⟩
/-! ### Frac.divided_by@D -/
def o_Frac_divided_by_D (self : Frac) (other : (Py Frac)) : Out Empty Empty Frac :=
  (lt (bif ((!((other).sel false false false false true false false)) || (decide ((other).o.num = (0 : Int)))) then () else ()) fun z_97 => (.rt (f_Frac_init_I (self.num * (other).o.den) (self.den * (other).o.num))))
@[irreducible] def f_Frac_divided_by_D (self : Frac) (other : (Py Frac)) : Frac := (o_Frac_divided_by_D self other).get
theorem f_Frac_divided_by_D_eq (self : Frac) (other : (Py Frac)) : f_Frac_divided_by_D self other = (o_Frac_divided_by_D self other).get := by delta f_Frac_divided_by_D; rfl
def ok_Frac_divided_by_D (self : Frac) (other : (Py Frac)) : Prop :=
  (∀ (hb_93 : ((!((other).sel false false false false true false false))) = false), ((other).isO = true)) ∧ (∀ (hc_95 : (((!((other).sel false false false false true false false)) || (decide ((other).o.num = (0 : Int))))) = true), (False)) ∧ (∀ z_97 (h_98 : z_97 = (bif ((!((other).sel false false false false true false false)) || (decide ((other).o.num = (0 : Int)))) then () else ())), ((other).isO = true) ∧ (CMulW self.num ((other).o.den)) ∧ ((other).isO = true) ∧ (CMulW self.den ((other).o.num)) ∧ (ok_Frac_init_I (self.num * (other).o.den) (self.den * (other).o.num)))
abbrev r_Frac_divided_by_D (self : Frac) (other : (Py Frac)) : Option (Py Frac) :=
  (bif ((!((other).sel false false false false true false false)) || (decide ((other).o.num = (0 : Int)))) then some other else none)
def okx_Frac_divided_by_D (self : Frac) (other : (Py Frac)) : Prop :=
  (∀ (hb_104 : ((!((other).sel false false false false true false false))) = false), ((other).isO = true))
section
variable {K : PySem.W.Frag} {cFrac : Addr} {cInvalidFraction : Addr}
abbrev sp_Frac_divided_by_D (cFrac : Addr) (cInvalidFraction : Addr) : Sp := spX (K := K) (ι := (Frac × (Py Frac))) (fun x => [.d (eFrac cFrac) x.1, .d (eD (eFrac cFrac)) x.2]) (fun x => ok_Frac_divided_by_D x.1 x.2) (retD (eFrac cFrac)) (fun x => f_Frac_divided_by_D x.1 x.2) cInvalidFraction (fun x => r_Frac_divided_by_D x.1 x.2) (fun x => okx_Frac_divided_by_D x.1 x.2) (xf_InvalidFraction cFrac)
end
set_option maxHeartbeats 4000000 in
theorem at_Frac_divided_by_D {P : Program} {w : World} {K : PySem.W.Frag} {mg : Str → Option Value} {base : Heap} {cFrac : Addr} {cInvalidFraction : Addr} (T : Txt K mg cFrac cInvalidFraction) : FmAtY P w K mg base (L2N.CX P w) cFrac "divided_by" 4 ["self", "other"] (sp_Frac_divided_by_D cFrac cInvalidFraction (K := K)) (fun fd => L2.Binds K fd ["self", "other"] [] ∧ (∃ g, KBn K fd ["self", "other"] 1 ["other"] g (fun vs zs => kY [(false, 0)] V.non vs [] zs))) := by
  obtain ⟨f, fd, F, mt_, z_⟩ := T.d_Frac_divided_by
  obtain ⟨⟨a_Frac_init_I, d_Frac_init_I, G_Frac_init_I, mk_Frac_init_I, m_Frac_init_I, b_Frac_init_I, ⟨ds_Frac_init_I, vd_Frac_init_I, bd_Frac_init_I⟩, ⟨kg0_Frac_init_I, kb0_Frac_init_I⟩, ⟨kg1_Frac_init_I, kb1_Frac_init_I⟩⟩⟩ := at_Frac_init_I (P := P) (w := w) (base := base) T
  obtain ⟨fI_InvalidFraction, dI_InvalidFraction, GI_InvalidFraction, x_InvalidFraction, bI_InvalidFraction⟩ := at_InvalidFraction (P := P) (w := w) (base := base) T
  refine ⟨⟨f, fd, fn_okX (k := 3) (ν := Empty) (fl := fun _ t => nomatch t) (o := fun x : (Frac × (Py Frac)) => o_Frac_divided_by_D x.1 x.2) (E := fun _ z => nomatch z) F sc_Frac_divided_by (fun x => f_Frac_divided_by_D_eq x.1 x.2) (fun x => rfl) (fun x i s h => noM_tail (by simp [Slot.isM]) h) (fun _ t => nomatch t) (fun cdv A outer s H EX hr x hx hp => ?_) (fun cdv A outer s H EX hr x e he hp => ?_), mt_, z_⟩⟩
  · have z := x; clear z
    obtain ⟨self, other⟩ := x
    have okh : ok_Frac_divided_by_D self other := hp
    exact ⟨_, _, rfl,
      (pss_cons (ps_if (PW.pt (pw_or (pt_not (pt_val (pe_callB call_isi (by rfl) T.b_isinstance (by decide +kernel) (pa_cons (pv 1) (pa_cons (pe_glob (v := .ref cFrac) (by rfl) T.mg_Frac rfl) pa_nil))))) (pw_or1 (pt_cmpR op_eq (pe_fld (pv 1) rfl) pe_int (nomark _))))) (pss_cons ps_never pss_nil) pss_nil) (pss_cons (ps_ret (pe_make mk_Frac_init_I G_Frac_init_I (hr.mono (by decide)) (by rfl) m_Frac_init_I b_Frac_init_I .nil pass0 (pa_cons (pe_op op_mulW (pe_fld (pv 0) rfl) (pe_fld (pv 1) rfl)) (pa_cons (pe_op op_mulW (pe_fld (pv 0) rfl) (pe_fld (pv 1) rfl)) pa_nil)))) pss_nil)),
      (xb_if (fun t : Unit => [.d (eFrac cFrac) self, .d (eD (eFrac cFrac)) other]) (et_eq (et_or (et_not (et_B (ev_isiD T.in_Frac (ev_var (i := 1) rfl) (.own _) T.ki_NoneType_Frac T.ki_bool_Frac T.ki_int_Frac T.ki_str_Frac T.ki_Frac_Frac T.ki_list_Frac T.ki_tuple_Frac))) (fun hb_93 => (et_test (ev_eqI (ev_fld (F := ⟨eI, Frac.num⟩) (ev_dO (ev_var (i := 1) rfl) ((okh.1 hb_93))) 0 rfl flFrac_nd T.cl_Frac T.na_Frac_num) ev_int)))) rfl) (fun hc_95 => (xv_never ((okh.2.1 hc_95)))) (fun hc_95 => (xv_end (by exact (wk_S (wk_s wk_n))))) (fun z_97 h_98 => (xb_retS (ev_eq (ev_make (fl := flFrac) ((self.num * (other).o.den), (self.den * (other).o.num)) (ea_cons (ev_eq (ev_I (ev_fld (F := ⟨eI, Frac.num⟩) (ev_var (i := 0) rfl) 0 rfl flFrac_nd T.cl_Frac T.na_Frac_num) (ev_fld (F := ⟨eI, Frac.den⟩) (ev_dO (ev_var (i := 1) rfl) ((okh.2.2 z_97 h_98).1)) 1 rfl flFrac_nd T.cl_Frac T.na_Frac_den) ((okh.2.2 z_97 h_98).2.1)) rfl) (ea_cons (ev_eq (ev_I (ev_fld (F := ⟨eI, Frac.den⟩) (ev_var (i := 0) rfl) 1 rfl flFrac_nd T.cl_Frac T.na_Frac_den) (ev_fld (F := ⟨eI, Frac.num⟩) (ev_dO (ev_var (i := 1) rfl) ((okh.2.2 z_97 h_98).2.2.1)) 0 rfl flFrac_nd T.cl_Frac T.na_Frac_num) ((okh.2.2 z_97 h_98).2.2.2.1)) rfl) ea_nil)) rfl ((okh.2.2 z_97 h_98).2.2.2.2) (fun _ _ h => h) rfl rfl) rfl) (.inl rfl) rfl)))⟩
  · obtain ⟨self, other⟩ := x
    have he : (bif ((!((other).sel false false false false true false false)) || (decide ((other).o.num = (0 : Int)))) then some other else none) = some e := he
    have okx : okx_Frac_divided_by_D self other := hp
    have tk : L2N.Takes (cxOf (L2N.CX P w) P w K mg base N_Frac_divided_by "Frac.divided_by" (defScope s_Frac_divided_by) f cdv A outer s H EX) (fun cls d _ H => EX cls d H) := L2N.takes_of rfl rfl rfl rfl
    exact ⟨_, _, rfl,
      (pss_cons (ps_if (PW.pt (pw_or (pt_not (pt_val (pe_callB call_isi (by rfl) T.b_isinstance (by decide +kernel) (pa_cons (pv 1) (pa_cons (pe_glob (v := .ref cFrac) (by rfl) T.mg_Frac rfl) pa_nil))))) (pw_or1 (pt_cmpR op_eq (pe_fld (pv 1) rfl) pe_int (nomark _))))) (pss_cons (L2N.ps_raise rfl tk (pmk_oexN x_InvalidFraction.o x_InvalidFraction.i x_InvalidFraction.t GI_InvalidFraction (hr.mono (by decide)) bI_InvalidFraction (fun _ _ _ _ _ _ _ h => h.elim) (by rfl) x_InvalidFraction.m (pa_cons (pv 1) pa_nil))) pss_nil) pss_nil) (pss_cons (ps_ret (pe_make mk_Frac_init_I G_Frac_init_I (hr.mono (by decide)) (by rfl) m_Frac_init_I b_Frac_init_I .nil pass0 (pa_cons (pe_op op_mulW (pe_fld (pv 0) rfl) (pe_fld (pv 1) rfl)) (pa_cons (pe_op op_mulW (pe_fld (pv 0) rfl) (pe_fld (pv 1) rfl)) pa_nil)))) pss_nil)),
      (xr_if (et_or (et_not (et_B (ev_isiD T.in_Frac (ev_var (i := 1) rfl) (.own _) T.ki_NoneType_Frac T.ki_bool_Frac T.ki_int_Frac T.ki_str_Frac T.ki_Frac_Frac T.ki_list_Frac T.ki_tuple_Frac))) (fun hb_104 => (et_test (ev_eqI (ev_fld (F := ⟨eI, Frac.num⟩) (ev_dO (ev_var (i := 1) rfl) ((okx hb_104))) 0 rfl flFrac_nd T.cl_Frac T.na_Frac_num) ev_int)))) (bif_t he) ((xr_raise1 x_InvalidFraction.o T.no_InvalidFraction_value  (ea_cons (ev_eq (ev_var (i := 1) rfl) (bif_v he)) ea_nil))))⟩
/-! ### _law_box -/
abbrev N_law_box : List Str := ["script", "cell"]
theorem sc_law_box : FnScope N_law_box ["script"] (defScope s_law_box) := ⟨rfl, rfl, rfl, by decide +kernel, rfl, by decide +kernel, by decide +kernel⟩
def o_law_box (script : (List Int)) : Out Empty Empty BoxD :=
  (.rt (⟨((script).map fun cell_111 => cell_111), 0, 0, 0⟩ : BoxD))
@[irreducible] def f_law_box (script : (List Int)) : BoxD := (o_law_box script).get
theorem f_law_box_eq (script : (List Int)) : f_law_box script = (o_law_box script).get := by delta f_law_box; rfl
section
variable {K : PySem.W.Frag} {cFrac : Addr} {cInvalidFraction : Addr}
abbrev sp_law_box : Sp := spF (K := K) (ι := (List Int)) (fun x => [.d (eL eI) x]) (fun _ => True) (retW mBox) (fun x => f_law_box x)
end
set_option maxHeartbeats 4000000 in
theorem at_law_box {P : Program} {w : World} {K : PySem.W.Frag} {mg : Str → Option Value} {base : Heap} {cFrac : Addr} {cInvalidFraction : Addr} (T : Txt K mg cFrac cInvalidFraction) : FnAt P w K mg base "_law_box" 1 ["script"] (sp_law_box (K := K)) := by
  obtain ⟨f, fd, F, mg_, bd_⟩ := T.d_law_box
  refine ⟨⟨f, fd, fn_okG (fun x => f_law_box_eq x) <| fn_okE (o := fun x : (List Int) => o_law_box x) (k := 0) F sc_law_box (fun x => rfl) (fun x i s h => noM_tail (by simp [Slot.isM]) h) (fun cdv A outer s H EX hr script hp => ?_), mg_, F.kp, bd_⟩⟩
  exact ⟨_, _, rfl,
    (pss_cons (ps_ret (pe_lst (pa_cons (pe_lc (own := [("cell", 1)]) (g := gName 1) (tt := tYes) rfl sc_law_box.nd (pi_list (pv 0)) (blkOk_by (N := N_law_box) (sc := defScope s_law_box) (by decide +kernel)) (fun _ _ _ _ _ => (pg_name (i := 1) sc_law_box.nd rfl (by first | exact Or.inl rfl | exact Or.inr rfl))) (fun _ _ _ _ _ => pts_nil) (fun _ _ _ _ _ => (pe_callTy call_int1 (by rfl) T.b_int (by decide +kernel) (pa_cons (pv 1) pa_nil)))) (pa_cons pe_int (pa_cons pe_int (pa_cons pe_int pa_nil)))))) pss_nil),
    (xb_retSW (ew_box (EvN.d (en_lcY (v := fun cell_111 : Int => cell_111) (ei_list (ev_var (i := 0) rfl)) eg_name (by decide) (noM_cons rfl noM_nil) (fun cell_111 hx_112 => (ev_eq (ev_int1 (ev_var (i := 1) rfl)) rfl))))) (.inl rfl) rfl rfl)⟩
/-! ### _law_draw -/
abbrev N_law_draw : List Str := ["box", "limit", "cells", "k", "cell", "mixed", "digit"]
theorem sc_law_draw : FnScope N_law_draw ["box", "limit"] (defScope s_law_draw) := ⟨rfl, rfl, rfl, by decide +kernel, rfl, by decide +kernel, by decide +kernel⟩
def o_law_draw (box : BoxD) (limit : Int) : Out Empty Empty (Int × BoxD) :=
  (lt box.cells fun cells_114 => (lt ({ box with a := (box.a + (1 : Int)) } : BoxD) fun bx_116 => (((FL.run (fun (t_119 : BoxD) (k_120 : Int) => (((bif ((decide (t_119.b = (0 : Int))) && (decide (t_119.c < ((cells_114).length : Int)))) then (lt (bif (decide (((10 : Int) ^ ((18 : Int)).toNat) ≤ (if (at_ cells_114 t_119.c) < 0 then -(at_ cells_114 t_119.c) else (at_ cells_114 t_119.c)))) then (lt ({ t_119 with b := (if (at_ cells_114 t_119.c) < 0 then -(at_ cells_114 t_119.c) else (at_ cells_114 t_119.c)) } : BoxD) fun bx_129 => bx_129) else t_119) fun z_131 => (lt ({ z_131 with c := (z_131.c + (1 : Int)) } : BoxD) fun bx_133 => (.nx bx_133))) else (.bk t_119) : Out BoxD BoxD (Int × BoxD)).bind fun z_135 => (.nx z_135)) : Out BoxD BoxD (Int × BoxD))) bx_116 (rng 0 ((cells_114).length : Int))).done : Out BoxD Empty (Int × BoxD)).bind fun s_137 => (bif (decide ((0 : Int) < s_137.b)) then ((lt (Int.fmod s_137.b limit) fun digit_141 => (lt ({ s_137 with b := (Int.fdiv s_137.b limit) } : BoxD) fun bx_144 => (.rt (digit_141, bx_144)))) : Out Empty Empty (Int × BoxD)).bind (fun z : Empty => nomatch z) else (lt (0 : Int) fun cell_146 => (lt (bif (decide ((0 : Int) < ((cells_114).length : Int))) then (lt (if (at_ cells_114 (Int.fmod s_137.a ((cells_114).length : Int))) < 0 then -(at_ cells_114 (Int.fmod s_137.a ((cells_114).length : Int))) else (at_ cells_114 (Int.fmod s_137.a ((cells_114).length : Int)))) fun cell_151 => cell_151) else cell_146) fun z_153 => (lt (Int.fmod (((z_153 * (48271 : Int)) + (s_137.a * (69621 : Int))) + (7 : Int)) (2147483647 : Int)) fun mixed_155 => (lt (Int.fmod (((mixed_155 * mixed_155) + (s_137.a * (7919 : Int))) + z_153) (1000003 : Int)) fun mixed_158 => (lt (Int.fmod ((((mixed_158 * mixed_158) * (16807 : Int)) + (Int.fdiv z_153 (5 : Int))) + (11 : Int)) (998244353 : Int)) fun mixed_161 => (.rt ((Int.fmod (Int.fdiv mixed_161 (3 : Int)) limit), s_137)))))))))))
@[irreducible] def f_law_draw (box : BoxD) (limit : Int) : (Int × BoxD) := (o_law_draw box limit).get
theorem f_law_draw_eq (box : BoxD) (limit : Int) : f_law_draw box limit = (o_law_draw box limit).get := by delta f_law_draw; rfl
def ok_law_draw (box : BoxD) (limit : Int) : Prop :=
  (∀ cells_114 (h_115 : cells_114 = box.cells), (∀ bx_116 (h_117 : bx_116 = ({ box with a := (box.a + (1 : Int)) } : BoxD)), (-100000 ≤ ((cells_114).length : Int) ∧ ((cells_114).length : Int) ≤ 100000) ∧ (∀ (i_121 : Nat) (k_120 : Int) (t_119 : BoxD) (hi_122 : ((rng 0 ((cells_114).length : Int)))[i_121]? = some k_120) (ht_123 : FL.run (fun (t_119 : BoxD) (k_120 : Int) => (((bif ((decide (t_119.b = (0 : Int))) && (decide (t_119.c < ((cells_114).length : Int)))) then (lt (bif (decide (((10 : Int) ^ ((18 : Int)).toNat) ≤ (if (at_ cells_114 t_119.c) < 0 then -(at_ cells_114 t_119.c) else (at_ cells_114 t_119.c)))) then (lt ({ t_119 with b := (if (at_ cells_114 t_119.c) < 0 then -(at_ cells_114 t_119.c) else (at_ cells_114 t_119.c)) } : BoxD) fun bx_129 => bx_129) else t_119) fun z_131 => (lt ({ z_131 with c := (z_131.c + (1 : Int)) } : BoxD) fun bx_133 => (.nx bx_133))) else (.bk t_119) : Out BoxD BoxD (Int × BoxD)).bind fun z_135 => (.nx z_135)) : Out BoxD BoxD (Int × BoxD))) bx_116 (((rng 0 ((cells_114).length : Int))).take i_121) = .nx t_119), (∀ (hc_125 : (((decide (t_119.b = (0 : Int))) && (decide (t_119.c < ((cells_114).length : Int))))) = true), (inIx (cells_114).length t_119.c) ∧ (∀ (hc_127 : ((decide (((10 : Int) ^ ((18 : Int)).toNat) ≤ (if (at_ cells_114 t_119.c) < 0 then -(at_ cells_114 t_119.c) else (at_ cells_114 t_119.c))))) = true), (inIx (cells_114).length t_119.c)))) ∧ (∀ (s_137 : BoxD) (hs_138 : (FL.run (fun (t_119 : BoxD) (k_120 : Int) => (((bif ((decide (t_119.b = (0 : Int))) && (decide (t_119.c < ((cells_114).length : Int)))) then (lt (bif (decide (((10 : Int) ^ ((18 : Int)).toNat) ≤ (if (at_ cells_114 t_119.c) < 0 then -(at_ cells_114 t_119.c) else (at_ cells_114 t_119.c)))) then (lt ({ t_119 with b := (if (at_ cells_114 t_119.c) < 0 then -(at_ cells_114 t_119.c) else (at_ cells_114 t_119.c)) } : BoxD) fun bx_129 => bx_129) else t_119) fun z_131 => (lt ({ z_131 with c := (z_131.c + (1 : Int)) } : BoxD) fun bx_133 => (.nx bx_133))) else (.bk t_119) : Out BoxD BoxD (Int × BoxD)).bind fun z_135 => (.nx z_135)) : Out BoxD BoxD (Int × BoxD))) bx_116 (rng 0 ((cells_114).length : Int))).done = (.nx s_137 : Out BoxD Empty (Int × BoxD))), (∀ (hc_139 : ((decide ((0 : Int) < s_137.b))) = true), (limit ≠ 0) ∧ (∀ digit_141 (h_142 : digit_141 = (Int.fmod s_137.b limit)), (CDivN s_137.b limit))) ∧ (∀ (hc_139 : ((decide ((0 : Int) < s_137.b))) = false), (∀ cell_146 (h_147 : cell_146 = (0 : Int)), (∀ (hc_148 : ((decide ((0 : Int) < ((cells_114).length : Int)))) = true), (((cells_114).length : Int) ≠ 0) ∧ (inIx (cells_114).length (Int.fmod s_137.a ((cells_114).length : Int)))) ∧ (∀ z_153 (h_154 : z_153 = (bif (decide ((0 : Int) < ((cells_114).length : Int))) then (lt (if (at_ cells_114 (Int.fmod s_137.a ((cells_114).length : Int))) < 0 then -(at_ cells_114 (Int.fmod s_137.a ((cells_114).length : Int))) else (at_ cells_114 (Int.fmod s_137.a ((cells_114).length : Int)))) fun cell_151 => cell_151) else cell_146)), (∀ mixed_155 (h_156 : mixed_155 = (Int.fmod (((z_153 * (48271 : Int)) + (s_137.a * (69621 : Int))) + (7 : Int)) (2147483647 : Int))), (CMul mixed_155 mixed_155) ∧ (∀ mixed_158 (h_159 : mixed_158 = (Int.fmod (((mixed_155 * mixed_155) + (s_137.a * (7919 : Int))) + z_153) (1000003 : Int))), (CMul mixed_158 mixed_158) ∧ (∀ mixed_161 (h_162 : mixed_161 = (Int.fmod ((((mixed_158 * mixed_158) * (16807 : Int)) + (Int.fdiv z_153 (5 : Int))) + (11 : Int)) (998244353 : Int))), (limit ≠ 0))))))))))
section
variable {K : PySem.W.Frag} {cFrac : Addr} {cInvalidFraction : Addr}
abbrev sp_law_draw : Sp := spF (K := K) (ι := (BoxD × Int)) (fun x => [.m mBox x.1, .d eI x.2]) (fun x => ok_law_draw x.1 x.2) (retM eI mBox) (fun x => f_law_draw x.1 x.2)
end
set_option maxHeartbeats 4000000 in
theorem at_law_draw {P : Program} {w : World} {K : PySem.W.Frag} {mg : Str → Option Value} {base : Heap} {cFrac : Addr} {cInvalidFraction : Addr} (T : Txt K mg cFrac cInvalidFraction) : FnAt P w K mg base "_law_draw" 1 ["box", "limit"] (sp_law_draw (K := K)) := by
  obtain ⟨f, fd, F, mg_, bd_⟩ := T.d_law_draw
  refine ⟨⟨f, fd, fn_okG (fun x => f_law_draw_eq x.1 x.2) <| fn_okE (o := fun x : (BoxD × Int) => o_law_draw x.1 x.2) (k := 0) F sc_law_draw (fun x => rfl) (fun x i s h => noM_tail (by simp [Slot.isM]) h) (fun cdv A outer s H EX hr x hp => ?_), mg_, F.kp, bd_⟩⟩
  obtain ⟨box, limit⟩ := x
  have okh : ok_law_draw box limit := hp
  exact ⟨_, _, rfl,
    (pss_cons (ps_set (i := 2) sc_law_draw.nd rfl (by first | exact Or.inl rfl | exact Or.inr rfl) (pe_ix (ixK (K := K) (r := rIxL) rfl ix_list) (pv 0) pe_int (fun _ _ => rfl))) (pss_cons (ps_asg (pe_op op_add (pe_ix (ixK (K := K) (r := rIxL) rfl ix_list) (pv 0) pe_int (fun _ _ => rfl)) pe_int) (pg_sub (pv 0) pe_int set_list)) (pss_cons (ps_for PassesOwn.never rfl (pi_range1 (by rfl) T.b_range (pa_cons (pe_callB call_len_seq (by rfl) T.b_len (by decide +kernel) (pa_cons (pv 2) pa_nil)) pa_nil)) (pg_name (i := 3) sc_law_draw.nd rfl (by first | exact Or.inl rfl | exact Or.inr rfl)) (pss_cons (ps_if (PW.pt (pw_and (pt_cmpR op_eq (pe_ix (ixK (K := K) (r := rIxL) rfl ix_list) (pv 0) pe_int (fun _ _ => rfl)) pe_int (nomark _)) (pw_and1 (pt_cmpR op_lt (pe_ix (ixK (K := K) (r := rIxL) rfl ix_list) (pv 0) pe_int (fun _ _ => rfl)) (pe_callB call_len_seq (by rfl) T.b_len (by decide +kernel) (pa_cons (pv 2) pa_nil)) (nomark _))))) (pss_cons (ps_if (pt_cmpR op_ge (pe_callB call_abs (by rfl) T.b_abs (by decide +kernel) (pa_cons (pe_ix (ixK (K := K) (r := rIxL) rfl ix_list) (pv 2) (pe_ix (ixK (K := K) (r := rIxL) rfl ix_list) (pv 0) pe_int (fun _ _ => rfl)) (fun _ _ => rfl)) pa_nil)) (pe_op op_pow pe_int pe_int) (nomark _)) (pss_cons (ps_asg (pe_callB call_abs (by rfl) T.b_abs (by decide +kernel) (pa_cons (pe_ix (ixK (K := K) (r := rIxL) rfl ix_list) (pv 2) (pe_ix (ixK (K := K) (r := rIxL) rfl ix_list) (pv 0) pe_int (fun _ _ => rfl)) (fun _ _ => rfl)) pa_nil)) (pg_sub (pv 0) pe_int set_list)) pss_nil) pss_nil) (pss_cons (ps_asg (pe_op op_add (pe_ix (ixK (K := K) (r := rIxL) rfl ix_list) (pv 0) pe_int (fun _ _ => rfl)) pe_int) (pg_sub (pv 0) pe_int set_list)) pss_nil)) (pss_cons ps_break pss_nil)) pss_nil)) (pss_cons (ps_if (pt_cmpR op_gt (pe_ix (ixK (K := K) (r := rIxL) rfl ix_list) (pv 0) pe_int (fun _ _ => rfl)) pe_int (nomark _)) (pss_cons (ps_set (i := 6) sc_law_draw.nd rfl (by first | exact Or.inl rfl | exact Or.inr rfl) (pe_op op_modN (pe_callTy call_int1 (by rfl) T.b_int (by decide +kernel) (pa_cons (pe_ix (ixK (K := K) (r := rIxL) rfl ix_list) (pv 0) pe_int (fun _ _ => rfl)) pa_nil)) (pv 1))) (pss_cons (ps_asg (pe_op op_fdivN (pe_ix (ixK (K := K) (r := rIxL) rfl ix_list) (pv 0) pe_int (fun _ _ => rfl)) (pv 1)) (pg_sub (pv 0) pe_int set_list)) (pss_cons (ps_ret (pv 6)) pss_nil))) pss_nil) (pss_cons (ps_set (i := 4) sc_law_draw.nd rfl (by first | exact Or.inl rfl | exact Or.inr rfl) pe_int) (pss_cons (ps_if (pt_cmpR op_gt (pe_callB call_len_seq (by rfl) T.b_len (by decide +kernel) (pa_cons (pv 2) pa_nil)) pe_int (nomark _)) (pss_cons (ps_set (i := 4) sc_law_draw.nd rfl (by first | exact Or.inl rfl | exact Or.inr rfl) (pe_callB call_abs (by rfl) T.b_abs (by decide +kernel) (pa_cons (pe_ix (ixK (K := K) (r := rIxL) rfl ix_list) (pv 2) (pe_op op_modN (pe_callTy call_int1 (by rfl) T.b_int (by decide +kernel) (pa_cons (pe_ix (ixK (K := K) (r := rIxL) rfl ix_list) (pv 0) pe_int (fun _ _ => rfl)) pa_nil)) (pe_callB call_len_seq (by rfl) T.b_len (by decide +kernel) (pa_cons (pv 2) pa_nil))) (fun _ _ => rfl)) pa_nil))) pss_nil) pss_nil) (pss_cons (ps_set (i := 5) sc_law_draw.nd rfl (by first | exact Or.inl rfl | exact Or.inr rfl) (pe_op op_modN (pe_callTy call_int1 (by rfl) T.b_int (by decide +kernel) (pa_cons (pe_op op_add (pe_op op_add (pe_op op_mul (pv 4) pe_int) (pe_op op_mul (pe_ix (ixK (K := K) (r := rIxL) rfl ix_list) (pv 0) pe_int (fun _ _ => rfl)) pe_int)) pe_int) pa_nil)) pe_int)) (pss_cons (ps_set (i := 5) sc_law_draw.nd rfl (by first | exact Or.inl rfl | exact Or.inr rfl) (pe_op op_modN (pe_callTy call_int1 (by rfl) T.b_int (by decide +kernel) (pa_cons (pe_op op_add (pe_op op_add (pe_op op_mul (pv 5) (pv 5)) (pe_op op_mul (pe_ix (ixK (K := K) (r := rIxL) rfl ix_list) (pv 0) pe_int (fun _ _ => rfl)) pe_int)) (pv 4)) pa_nil)) pe_int)) (pss_cons (ps_set (i := 5) sc_law_draw.nd rfl (by first | exact Or.inl rfl | exact Or.inr rfl) (pe_op op_modN (pe_callTy call_int1 (by rfl) T.b_int (by decide +kernel) (pa_cons (pe_op op_add (pe_op op_add (pe_op op_mul (pe_op op_mul (pv 5) (pv 5)) pe_int) (pe_op op_fdivN (pv 4) pe_int)) pe_int) pa_nil)) pe_int)) (pss_cons (ps_ret (pe_op op_modN (pe_callTy call_int1 (by rfl) T.b_int (by decide +kernel) (pa_cons (pe_op op_fdivN (pv 5) pe_int) pa_nil)) (pv 1))) pss_nil)))))))))),
    (xb_set (ev_eq (ev_box0 rfl) rfl) rfl (fun cells_114 h_115 => (xb_box1 (ev_eq (ev_I0 (ev_box1 rfl) ev_int) rfl) rfl (fun bx_116 h_117 => (xb_loop (fun t_119 : BoxD => [.m mBox t_119, .d eI limit, .d (eL eI) cells_114, .un, .un, .un, .un]) bx_116 (h := (fun (t_119 : BoxD) (k_120 : Int) => (((bif ((decide (t_119.b = (0 : Int))) && (decide (t_119.c < ((cells_114).length : Int)))) then (lt (bif (decide (((10 : Int) ^ ((18 : Int)).toNat) ≤ (if (at_ cells_114 t_119.c) < 0 then -(at_ cells_114 t_119.c) else (at_ cells_114 t_119.c)))) then (lt ({ t_119 with b := (if (at_ cells_114 t_119.c) < 0 then -(at_ cells_114 t_119.c) else (at_ cells_114 t_119.c)) } : BoxD) fun bx_129 => bx_129) else t_119) fun z_131 => (lt ({ z_131 with c := (z_131.c + (1 : Int)) } : BoxD) fun bx_133 => (.nx bx_133))) else (.bk t_119) : Out BoxD BoxD (Int × BoxD)).bind fun z_135 => (.nx z_135)) : Out BoxD BoxD (Int × BoxD)))) (ei_range1 (ev_lenL (ev_var (i := 2) rfl)) (((okh cells_114 h_115) bx_116 h_117).1)) (wk_S (wk_s (wk_s (wk_s (wk_s (wk_s (wk_s wk_n))))))) eg_name (fun _ => (noM_cons rfl noM_nil)) (fun i_121 k_120 t_119 hi_122 ht_123 => (xb_bind (E1 := fun t : BoxD => [.m mBox t, .d eI limit, .d (eL eI) cells_114, .d eI k_120, .un, .un, .un]) (xb_ifT (et_eq (et_and (et_test (ev_eqI (ev_box2 rfl) ev_int)) (fun hb_124 => (et_test (ev_IB (ev_box3 rfl) (ev_lenL (ev_var (i := 2) rfl)))))) rfl) (fun hc_125 => (xb_if (fun t : BoxD => [.m mBox t, .d eI limit, .d (eL eI) cells_114, .d eI k_120, .un, .un, .un]) (et_eq (et_test (ev_IB (ev_abs (ev_ixL (ev_var (i := 2) rfl) (ev_box3 rfl) (((((okh cells_114 h_115) bx_116 h_117).2.1 i_121 k_120 t_119 hi_122 ht_123) hc_125).1))) (ev_I ev_int ev_int ⟨by decide, by decide, by decide⟩))) rfl) (fun hc_127 => (xv_box2 (ev_eq (ev_abs (ev_ixL (ev_var (i := 2) rfl) (ev_box3 rfl) ((((((okh cells_114 h_115) bx_116 h_117).2.1 i_121 k_120 t_119 hi_122 ht_123) hc_125).2 hc_127)))) rfl) rfl (fun bx_129 h_130 => (xv_end (by exact (wk_S (wk_s (wk_s (wk_s (wk_s (wk_s (wk_s wk_n)))))))))))) (fun hc_127 => (xv_end (by exact (wk_S (wk_s (wk_s (wk_s (wk_s (wk_s (wk_s wk_n)))))))))) (fun z_131 h_132 => (xb_box3 (ev_eq (ev_I0 (ev_box3 rfl) ev_int) rfl) rfl (fun bx_133 h_134 => (xb_nil (by exact (wk_S (wk_s (wk_s (wk_s (wk_s (wk_s (wk_s wk_n)))))))))))))) (fun hc_125 => (xb_bkS (by exact (wk_S (wk_s (wk_s (wk_u (wk_s (wk_s (wk_s wk_n))))))))))) (fun z_135 hz_136 => (xb_nil (by exact (wk_S (wk_s (wk_s (wk_u (wk_s (wk_s (wk_s wk_n)))))))))))) (fun s_137 hs_138 => (xb_ifL (et_eq (et_test (ev_IB (ev_box2 rfl) ev_int)) rfl) (fun hc_139 => (xb_set (ev_eq (ev_I (ev_int1 (ev_box2 rfl)) (ev_var (i := 1) rfl) (((((okh cells_114 h_115) bx_116 h_117).2.2 s_137 hs_138).1 hc_139).1)) rfl) rfl (fun digit_141 h_142 => (xb_box2 (ev_eq (ev_I (ev_box2 rfl) (ev_var (i := 1) rfl) ((((((okh cells_114 h_115) bx_116 h_117).2.2 s_137 hs_138).1 hc_139).2 digit_141 h_142))) rfl) rfl (fun bx_144 h_145 => (xb_retS (ev_eq (ev_var (i := 6) rfl) rfl) (.inr rfl) rfl)))))) (fun hc_139 => (xb_set (ev_eq ev_int rfl) rfl (fun cell_146 h_147 => (xb_if (fun t : Int => [.m mBox s_137, .d eI limit, .d (eL eI) cells_114, .un, .d eI t, .un, .un]) (et_eq (et_test (ev_IB (ev_lenL (ev_var (i := 2) rfl)) ev_int)) rfl) (fun hc_148 => (xv_set (ev_eq (ev_abs (ev_ixL (ev_var (i := 2) rfl) (ev_I (ev_int1 (ev_box1 rfl)) (ev_lenL (ev_var (i := 2) rfl)) (((((((okh cells_114 h_115) bx_116 h_117).2.2 s_137 hs_138).2 hc_139) cell_146 h_147).1 hc_148).1)) (((((((okh cells_114 h_115) bx_116 h_117).2.2 s_137 hs_138).2 hc_139) cell_146 h_147).1 hc_148).2))) rfl) rfl (fun cell_151 h_152 => (xv_end (by exact (wk_S (wk_s (wk_s (wk_s (wk_s (wk_s (wk_s wk_n)))))))))))) (fun hc_148 => (xv_end (by exact (wk_S (wk_s (wk_s (wk_s (wk_s (wk_s (wk_s wk_n)))))))))) (fun z_153 h_154 => (xb_set (ev_eq (ev_I (ev_int1 (ev_I0 (ev_I0 (ev_I (ev_var (i := 4) rfl) ev_int (.inr (by decide))) (ev_I (ev_box1 rfl) ev_int (.inr (by decide)))) ev_int)) ev_int (by decide)) rfl) rfl (fun mixed_155 h_156 => (xb_set (ev_eq (ev_I (ev_int1 (ev_I0 (ev_I0 (ev_I (ev_var (i := 5) rfl) (ev_var (i := 5) rfl) ((((((((okh cells_114 h_115) bx_116 h_117).2.2 s_137 hs_138).2 hc_139) cell_146 h_147).2 z_153 h_154) mixed_155 h_156).1)) (ev_I (ev_box1 rfl) ev_int (.inr (by decide)))) (ev_var (i := 4) rfl))) ev_int (by decide)) rfl) rfl (fun mixed_158 h_159 => (xb_set (ev_eq (ev_I (ev_int1 (ev_I0 (ev_I0 (ev_I (ev_I (ev_var (i := 5) rfl) (ev_var (i := 5) rfl) (((((((((okh cells_114 h_115) bx_116 h_117).2.2 s_137 hs_138).2 hc_139) cell_146 h_147).2 z_153 h_154) mixed_155 h_156).2 mixed_158 h_159).1)) ev_int (.inr (by decide))) (ev_I (ev_var (i := 4) rfl) ev_int ⟨by decide, by decide⟩)) ev_int)) ev_int (by decide)) rfl) rfl (fun mixed_161 h_162 => (xb_retS (ev_eq (ev_I (ev_int1 (ev_I (ev_var (i := 5) rfl) ev_int ⟨by decide, by decide⟩)) (ev_var (i := 1) rfl) ((((((((((okh cells_114 h_115) bx_116 h_117).2.2 s_137 hs_138).2 hc_139) cell_146 h_147).2 z_153 h_154) mixed_155 h_156).2 mixed_158 h_159).2 mixed_161 h_162))) rfl) (.inr rfl) rfl)))))))))))))))))))⟩
/-! ### _law_gcd -/
abbrev N_law_gcd : List Str := ["one", "two", "k", "rest"]
theorem sc_law_gcd : FnScope N_law_gcd ["one", "two"] (defScope s_law_gcd) := ⟨rfl, rfl, rfl, by decide +kernel, rfl, by decide +kernel, by decide +kernel⟩
def o_law_gcd (one : Int) (two : Int) : Out Empty Empty Int :=
  (lt (if one < 0 then -one else one) fun one_164 => (lt (if two < 0 then -two else two) fun two_166 => (((FL.run (fun (t_169 : (Int × Int)) (k_170 : Int) => ((bif (decide (t_169.2 = (0 : Int))) then (.bk (t_169.1, t_169.2)) else (lt (Int.fmod t_169.1 t_169.2) fun rest_176 => (lt t_169.2 fun one_178 => (lt rest_176 fun two_180 => (.nx (one_178, two_180)))))) : Out (Int × Int) (Int × Int) Int)) (one_164, two_166) (rng 0 (((2 : Int) * (if ((PySem.Builtin.Int.intBits one_164 : Nat) : Int) < ((PySem.Builtin.Int.intBits two_166 : Nat) : Int) then ((PySem.Builtin.Int.intBits two_166 : Nat) : Int) else ((PySem.Builtin.Int.intBits one_164 : Nat) : Int))) + (2 : Int)))).done : Out (Int × Int) Empty Int).bind fun s_182 => (.rt s_182.1))))
@[irreducible] def f_law_gcd (one : Int) (two : Int) : Int := (o_law_gcd one two).get
theorem f_law_gcd_eq (one : Int) (two : Int) : f_law_gcd one two = (o_law_gcd one two).get := by delta f_law_gcd; rfl
def ok_law_gcd (one : Int) (two : Int) : Prop :=
  (∀ one_164 (h_165 : one_164 = (if one < 0 then -one else one)), (∀ two_166 (h_167 : two_166 = (if two < 0 then -two else two)), (-100000 ≤ (((2 : Int) * (if ((PySem.Builtin.Int.intBits one_164 : Nat) : Int) < ((PySem.Builtin.Int.intBits two_166 : Nat) : Int) then ((PySem.Builtin.Int.intBits two_166 : Nat) : Int) else ((PySem.Builtin.Int.intBits one_164 : Nat) : Int))) + (2 : Int)) ∧ (((2 : Int) * (if ((PySem.Builtin.Int.intBits one_164 : Nat) : Int) < ((PySem.Builtin.Int.intBits two_166 : Nat) : Int) then ((PySem.Builtin.Int.intBits two_166 : Nat) : Int) else ((PySem.Builtin.Int.intBits one_164 : Nat) : Int))) + (2 : Int)) ≤ 100000) ∧ (∀ (i_171 : Nat) (k_170 : Int) (t_169 : (Int × Int)) (hi_172 : ((rng 0 (((2 : Int) * (if ((PySem.Builtin.Int.intBits one_164 : Nat) : Int) < ((PySem.Builtin.Int.intBits two_166 : Nat) : Int) then ((PySem.Builtin.Int.intBits two_166 : Nat) : Int) else ((PySem.Builtin.Int.intBits one_164 : Nat) : Int))) + (2 : Int))))[i_171]? = some k_170) (ht_173 : FL.run (fun (t_169 : (Int × Int)) (k_170 : Int) => ((bif (decide (t_169.2 = (0 : Int))) then (.bk (t_169.1, t_169.2)) else (lt (Int.fmod t_169.1 t_169.2) fun rest_176 => (lt t_169.2 fun one_178 => (lt rest_176 fun two_180 => (.nx (one_178, two_180)))))) : Out (Int × Int) (Int × Int) Int)) (one_164, two_166) (((rng 0 (((2 : Int) * (if ((PySem.Builtin.Int.intBits one_164 : Nat) : Int) < ((PySem.Builtin.Int.intBits two_166 : Nat) : Int) then ((PySem.Builtin.Int.intBits two_166 : Nat) : Int) else ((PySem.Builtin.Int.intBits one_164 : Nat) : Int))) + (2 : Int)))).take i_171) = .nx t_169), (∀ (hc_174 : ((decide (t_169.2 = (0 : Int)))) = false), (t_169.2 ≠ 0)))))
section
variable {K : PySem.W.Frag} {cFrac : Addr} {cInvalidFraction : Addr}
abbrev sp_law_gcd : Sp := spF (K := K) (ι := (Int × Int)) (fun x => [.d eI x.1, .d eI x.2]) (fun x => ok_law_gcd x.1 x.2) (retD eI) (fun x => f_law_gcd x.1 x.2)
end
set_option maxHeartbeats 4000000 in
theorem at_law_gcd {P : Program} {w : World} {K : PySem.W.Frag} {mg : Str → Option Value} {base : Heap} {cFrac : Addr} {cInvalidFraction : Addr} (T : Txt K mg cFrac cInvalidFraction) : FnAt P w K mg base "_law_gcd" 1 ["one", "two"] (sp_law_gcd (K := K)) := by
  obtain ⟨f, fd, F, mg_, bd_⟩ := T.d_law_gcd
  refine ⟨⟨f, fd, fn_okG (fun x => f_law_gcd_eq x.1 x.2) <| fn_okE (o := fun x : (Int × Int) => o_law_gcd x.1 x.2) (k := 0) F sc_law_gcd (fun x => rfl) (fun x i s h => noM_tail (by simp [Slot.isM]) h) (fun cdv A outer s H EX hr x hp => ?_), mg_, F.kp, bd_⟩⟩
  obtain ⟨one, two⟩ := x
  have okh : ok_law_gcd one two := hp
  exact ⟨_, _, rfl,
    (pss_cons (ps_set (i := 0) sc_law_gcd.nd rfl (by first | exact Or.inl rfl | exact Or.inr rfl) (pe_callB call_abs (by rfl) T.b_abs (by decide +kernel) (pa_cons (pv 0) pa_nil))) (pss_cons (ps_set (i := 1) sc_law_gcd.nd rfl (by first | exact Or.inl rfl | exact Or.inr rfl) (pe_callB call_abs (by rfl) T.b_abs (by decide +kernel) (pa_cons (pv 1) pa_nil))) (pss_cons (ps_for PassesOwn.never rfl (pi_range1 (by rfl) T.b_range (pa_cons (pe_op op_add (pe_op op_mul pe_int (pe_callB (cr_max2 rfl) (by rfl) T.b_max (by decide +kernel) (pa_cons (pe_bits (pv 0)) (pa_cons (pe_bits (pv 1)) pa_nil)))) pe_int) pa_nil)) (pg_name (i := 2) sc_law_gcd.nd rfl (by first | exact Or.inl rfl | exact Or.inr rfl)) (pss_cons (ps_if (pt_cmpR op_eq (pv 1) pe_int (nomark _)) (pss_cons ps_break pss_nil) pss_nil) (pss_cons (ps_set (i := 3) sc_law_gcd.nd rfl (by first | exact Or.inl rfl | exact Or.inr rfl) (pe_op op_modN (pe_callTy call_int1 (by rfl) T.b_int (by decide +kernel) (pa_cons (pv 0) pa_nil)) (pv 1))) (pss_cons (ps_set (i := 0) sc_law_gcd.nd rfl (by first | exact Or.inl rfl | exact Or.inr rfl) (pv 1)) (pss_cons (ps_set (i := 1) sc_law_gcd.nd rfl (by first | exact Or.inl rfl | exact Or.inr rfl) (pv 3)) pss_nil))))) (pss_cons (ps_ret (pv 0)) pss_nil)))),
    (xb_set (ev_eq (ev_abs (ev_var (i := 0) rfl)) rfl) rfl (fun one_164 h_165 => (xb_set (ev_eq (ev_abs (ev_var (i := 1) rfl)) rfl) rfl (fun two_166 h_167 => (xb_loop (fun t_169 : (Int × Int) => [.d eI t_169.1, .d eI t_169.2, .un, .un]) (one_164, two_166) (h := (fun (t_169 : (Int × Int)) (k_170 : Int) => ((bif (decide (t_169.2 = (0 : Int))) then (.bk (t_169.1, t_169.2)) else (lt (Int.fmod t_169.1 t_169.2) fun rest_176 => (lt t_169.2 fun one_178 => (lt rest_176 fun two_180 => (.nx (one_178, two_180)))))) : Out (Int × Int) (Int × Int) Int))) (ei_range1 (ev_I0 (ev_I ev_int (ev_max2 (ev_bits (ev_var (i := 0) rfl)) (ev_bits (ev_var (i := 1) rfl))) (.inl (by decide))) ev_int) (((okh one_164 h_165) two_166 h_167).1)) (wk_S (wk_s (wk_s (wk_s wk_n)))) eg_name (fun _ => (noM_cons rfl noM_nil)) (fun i_171 k_170 t_169 hi_172 ht_173 => (xb_ifB (et_eq (et_test (ev_eqI (ev_var (i := 1) rfl) ev_int)) rfl) (fun hc_174 => (xb_bkS (by exact (wk_S (wk_s (wk_u (wk_s wk_n))))))) (fun hc_174 => (xb_set (ev_eq (ev_I (ev_int1 (ev_var (i := 0) rfl)) (ev_var (i := 1) rfl) (((((okh one_164 h_165) two_166 h_167).2 i_171 k_170 t_169 hi_172 ht_173) hc_174))) rfl) rfl (fun rest_176 h_177 => (xb_set (ev_eq (ev_var (i := 1) rfl) rfl) rfl (fun one_178 h_179 => (xb_set (ev_eq (ev_var (i := 3) rfl) rfl) rfl (fun two_180 h_181 => (xb_nil (by exact (wk_S (wk_s (wk_u (wk_u wk_n))))))))))))))) (fun s_182 hs_183 => (xb_retS (ev_eq (ev_var (i := 0) rfl) rfl) (.inl rfl) rfl)))))))⟩
/-! ### _law_low -/
abbrev N_law_low : List Str := ["num", "den", "shared"]
theorem sc_law_low : FnScope N_law_low ["num", "den"] (defScope s_law_low) := ⟨rfl, rfl, rfl, by decide +kernel, rfl, by decide +kernel, by decide +kernel⟩
def o_law_low (num : Int) (den : Int) : Out Empty Empty (Int × Int) :=
  (lt (f_law_gcd num den) fun shared_185 => (lt (bif (decide (den < (0 : Int))) then (lt (-shared_185) fun shared_188 => shared_188) else shared_185) fun z_190 => (.rt ((Int.fdiv num z_190), (Int.fdiv den z_190)))))
@[irreducible] def f_law_low (num : Int) (den : Int) : (Int × Int) := (o_law_low num den).get
theorem f_law_low_eq (num : Int) (den : Int) : f_law_low num den = (o_law_low num den).get := by delta f_law_low; rfl
def ok_law_low (num : Int) (den : Int) : Prop :=
  (ok_law_gcd num den) ∧ (∀ shared_185 (h_186 : shared_185 = (f_law_gcd num den)), (∀ z_190 (h_191 : z_190 = (bif (decide (den < (0 : Int))) then (lt (-shared_185) fun shared_188 => shared_188) else shared_185)), (CDivX num z_190) ∧ (CDivX den z_190)))
section
variable {K : PySem.W.Frag} {cFrac : Addr} {cInvalidFraction : Addr}
abbrev sp_law_low : Sp := spF (K := K) (ι := (Int × Int)) (fun x => [.d eI x.1, .d eI x.2]) (fun x => ok_law_low x.1 x.2) (retD (eP eI eI)) (fun x => f_law_low x.1 x.2)
end
set_option maxHeartbeats 4000000 in
theorem at_law_low {P : Program} {w : World} {K : PySem.W.Frag} {mg : Str → Option Value} {base : Heap} {cFrac : Addr} {cInvalidFraction : Addr} (T : Txt K mg cFrac cInvalidFraction) : FnAt P w K mg base "_law_low" 2 ["num", "den"] (sp_law_low (K := K)) := by
  obtain ⟨f, fd, F, mg_, bd_⟩ := T.d_law_low
  obtain ⟨⟨a_law_gcd, d_law_gcd, G_law_gcd, m_law_gcd, k_law_gcd, b_law_gcd⟩⟩ := at_law_gcd (P := P) (w := w) (base := base) T
  refine ⟨⟨f, fd, fn_okG (fun x => f_law_low_eq x.1 x.2) <| fn_okE (o := fun x : (Int × Int) => o_law_low x.1 x.2) (k := 1) F sc_law_low (fun x => rfl) (fun x i s h => noM_tail (by simp [Slot.isM]) h) (fun cdv A outer s H EX hr x hp => ?_), mg_, F.kp, bd_⟩⟩
  obtain ⟨num, den⟩ := x
  have okh : ok_law_low num den := hp
  exact ⟨_, _, rfl,
    (pss_cons (ps_set (i := 2) sc_law_low.nd rfl (by first | exact Or.inl rfl | exact Or.inr rfl) (pe_call G_law_gcd (hr.mono (by decide)) (by rfl) m_law_gcd k_law_gcd b_law_gcd .nil pass0 (pa_cons (pv 0) (pa_cons (pv 1) pa_nil)))) (pss_cons (ps_if (pt_cmpR op_lt (pv 1) pe_int (nomark _)) (pss_cons (ps_set (i := 2) sc_law_low.nd rfl (by first | exact Or.inl rfl | exact Or.inr rfl) (pe_un un_neg (pv 2))) pss_nil) pss_nil) (pss_cons (ps_ret (pe_tup (pa_cons (pe_op op_fdivX (pv 0) (pv 2)) (pa_cons (pe_op op_fdivX (pv 1) (pv 2)) pa_nil)))) pss_nil))),
    (xb_set (ev_eq (ev_call (num, den) (ea_cons (ev_eq (ev_var (i := 0) rfl) rfl) (ea_cons (ev_eq (ev_var (i := 1) rfl) rfl) ea_nil)) (okh.1) rfl rfl) rfl) rfl (fun shared_185 h_186 => (xb_if (fun t : Int => [.d eI num, .d eI den, .d eI t]) (et_eq (et_test (ev_IB (ev_var (i := 1) rfl) ev_int)) rfl) (fun hc_187 => (xv_set (ev_eq (ev_un (g := fun i => -i) (ev_var (i := 2) rfl)) rfl) rfl (fun shared_188 h_189 => (xv_end (by exact (wk_S (wk_s (wk_s wk_n)))))))) (fun hc_187 => (xv_end (by exact (wk_S (wk_s (wk_s wk_n)))))) (fun z_190 h_191 => (xb_retS (ev_eq (ev_pair (ev_I (ev_var (i := 0) rfl) (ev_var (i := 2) rfl) (((okh.2 shared_185 h_186) z_190 h_191).1)) (ev_I (ev_var (i := 1) rfl) (ev_var (i := 2) rfl) (((okh.2 shared_185 h_186) z_190 h_191).2))) rfl) (.inl rfl) rfl)))))⟩
/-! ### _law_number -/
abbrev N_law_number : List Str := ["box", "least", "shape", "number", "k"]
theorem sc_law_number : FnScope N_law_number ["box", "least"] (defScope s_law_number) := ⟨rfl, rfl, rfl, by decide +kernel, rfl, by decide +kernel, by decide +kernel⟩
def o_law_number (box : BoxD) (least : Int) : Out Empty Empty (Int × BoxD) :=
  (lt ((f_law_draw box (7 : Int)).1) fun shape_195 => (lt ((f_law_draw box (7 : Int)).2) fun bx_197 => (lt ((f_law_draw bx_197 (7 : Int)).1) fun number_200 => (lt ((f_law_draw bx_197 (7 : Int)).2) fun bx_202 => (lt (bif (decide (shape_195 = (0 : Int))) then (lt ((f_law_draw bx_202 (10000 : Int)).1) fun number_206 => (number_206, (f_law_draw bx_202 (10000 : Int)).2)) else (number_200, bx_202)) fun z_208 => (lt (bif (decide (shape_195 = (1 : Int))) then (lt (List.foldl (fun (t_211 : (Int × BoxD)) (k_212 : Int) => (lt ((t_211.1 * ((10 : Int) ^ ((40 : Int)).toNat)) + (f_law_draw t_211.2 (100003 : Int)).1) fun number_218 => (number_218, (f_law_draw t_211.2 (100003 : Int)).2))) (z_208.1, z_208.2) (rng 0 (9 : Int))) fun s_220 => (s_220.1, s_220.2)) else (z_208.1, z_208.2)) fun z_222 => (lt (bif (decide (shape_195 = (2 : Int))) then (lt (((10 : Int) ^ ((30 : Int)).toNat) + (f_law_draw z_222.2 (3 : Int)).1) fun number_226 => (number_226, (f_law_draw z_222.2 (3 : Int)).2)) else (z_222.1, z_222.2)) fun z_228 => (.rt ((if z_228.1 < least then least else z_228.1), z_228.2)))))))))
@[irreducible] def f_law_number (box : BoxD) (least : Int) : (Int × BoxD) := (o_law_number box least).get
theorem f_law_number_eq (box : BoxD) (least : Int) : f_law_number box least = (o_law_number box least).get := by delta f_law_number; rfl
def ok_law_number (box : BoxD) (least : Int) : Prop :=
  (ok_law_draw box (7 : Int)) ∧ (∀ shape_195 (h_196 : shape_195 = (f_law_draw box (7 : Int)).1), (∀ bx_197 (h_198 : bx_197 = (f_law_draw box (7 : Int)).2), (ok_law_draw bx_197 (7 : Int)) ∧ (∀ number_200 (h_201 : number_200 = (f_law_draw bx_197 (7 : Int)).1), (∀ bx_202 (h_203 : bx_202 = (f_law_draw bx_197 (7 : Int)).2), (∀ (hc_204 : ((decide (shape_195 = (0 : Int)))) = true), (ok_law_draw bx_202 (10000 : Int))) ∧ (∀ z_208 (h_209 : z_208 = (bif (decide (shape_195 = (0 : Int))) then (lt ((f_law_draw bx_202 (10000 : Int)).1) fun number_206 => (number_206, (f_law_draw bx_202 (10000 : Int)).2)) else (number_200, bx_202))), (∀ (hc_210 : ((decide (shape_195 = (1 : Int)))) = true), (∀ (i_213 : Nat) (k_212 : Int) (t_211 : (Int × BoxD)) (hi_214 : ((rng 0 (9 : Int)))[i_213]? = some k_212) (ht_215 : t_211 = (((rng 0 (9 : Int))).take i_213).foldl (fun (t_211 : (Int × BoxD)) (k_212 : Int) => (lt ((t_211.1 * ((10 : Int) ^ ((40 : Int)).toNat)) + (f_law_draw t_211.2 (100003 : Int)).1) fun number_218 => (number_218, (f_law_draw t_211.2 (100003 : Int)).2))) (z_208.1, z_208.2)), (CMulW t_211.1 ((10 : Int) ^ ((40 : Int)).toNat)) ∧ (ok_law_draw t_211.2 (100003 : Int)))) ∧ (∀ z_222 (h_223 : z_222 = (bif (decide (shape_195 = (1 : Int))) then (lt (List.foldl (fun (t_211 : (Int × BoxD)) (k_212 : Int) => (lt ((t_211.1 * ((10 : Int) ^ ((40 : Int)).toNat)) + (f_law_draw t_211.2 (100003 : Int)).1) fun number_218 => (number_218, (f_law_draw t_211.2 (100003 : Int)).2))) (z_208.1, z_208.2) (rng 0 (9 : Int))) fun s_220 => (s_220.1, s_220.2)) else (z_208.1, z_208.2))), (∀ (hc_224 : ((decide (shape_195 = (2 : Int)))) = true), (ok_law_draw z_222.2 (3 : Int)))))))))
section
variable {K : PySem.W.Frag} {cFrac : Addr} {cInvalidFraction : Addr}
abbrev sp_law_number : Sp := spF (K := K) (ι := (BoxD × Int)) (fun x => [.m mBox x.1, .d eI x.2]) (fun x => ok_law_number x.1 x.2) (retM eI mBox) (fun x => f_law_number x.1 x.2)
end
set_option maxHeartbeats 4000000 in
theorem at_law_number {P : Program} {w : World} {K : PySem.W.Frag} {mg : Str → Option Value} {base : Heap} {cFrac : Addr} {cInvalidFraction : Addr} (T : Txt K mg cFrac cInvalidFraction) : FnAt P w K mg base "_law_number" 2 ["box", "least"] (sp_law_number (K := K)) := by
  obtain ⟨f, fd, F, mg_, bd_⟩ := T.d_law_number
  obtain ⟨⟨a_law_draw, d_law_draw, G_law_draw, m_law_draw, k_law_draw, b_law_draw⟩⟩ := at_law_draw (P := P) (w := w) (base := base) T
  refine ⟨⟨f, fd, fn_okG (fun x => f_law_number_eq x.1 x.2) <| fn_okE (o := fun x : (BoxD × Int) => o_law_number x.1 x.2) (k := 1) F sc_law_number (fun x => rfl) (fun x i s h => noM_tail (by simp [Slot.isM]) h) (fun cdv A outer s H EX hr x hp => ?_), mg_, F.kp, bd_⟩⟩
  obtain ⟨box, least⟩ := x
  have okh : ok_law_number box least := hp
  exact ⟨_, _, rfl,
    (pss_cons (ps_set (i := 2) sc_law_number.nd rfl (by first | exact Or.inl rfl | exact Or.inr rfl) (pe_call G_law_draw (hr.mono (by decide)) (by rfl) m_law_draw k_law_draw b_law_draw .nil pass0 (pa_cons (pv 0) (pa_cons pe_int pa_nil)))) (pss_cons (ps_set (i := 3) sc_law_number.nd rfl (by first | exact Or.inl rfl | exact Or.inr rfl) (pe_call G_law_draw (hr.mono (by decide)) (by rfl) m_law_draw k_law_draw b_law_draw .nil pass0 (pa_cons (pv 0) (pa_cons pe_int pa_nil)))) (pss_cons (ps_if (pt_cmpR op_eq (pv 2) pe_int (nomark _)) (pss_cons (ps_set (i := 3) sc_law_number.nd rfl (by first | exact Or.inl rfl | exact Or.inr rfl) (pe_call G_law_draw (hr.mono (by decide)) (by rfl) m_law_draw k_law_draw b_law_draw .nil pass0 (pa_cons (pv 0) (pa_cons pe_int pa_nil)))) pss_nil) pss_nil) (pss_cons (ps_if (pt_cmpR op_eq (pv 2) pe_int (nomark _)) (pss_cons (ps_for PassesOwn.never rfl (pi_range1 (by rfl) T.b_range (pa_cons pe_int pa_nil)) (pg_name (i := 4) sc_law_number.nd rfl (by first | exact Or.inl rfl | exact Or.inr rfl)) (pss_cons (ps_set (i := 3) sc_law_number.nd rfl (by first | exact Or.inl rfl | exact Or.inr rfl) (pe_op op_add (pe_op op_mulW (pv 3) (pe_op op_pow pe_int pe_int)) (pe_call G_law_draw (hr.mono (by decide)) (by rfl) m_law_draw k_law_draw b_law_draw .nil pass0 (pa_cons (pv 0) (pa_cons pe_int pa_nil))))) pss_nil)) pss_nil) pss_nil) (pss_cons (ps_if (pt_cmpR op_eq (pv 2) pe_int (nomark _)) (pss_cons (ps_set (i := 3) sc_law_number.nd rfl (by first | exact Or.inl rfl | exact Or.inr rfl) (pe_op op_add (pe_op op_pow pe_int pe_int) (pe_call G_law_draw (hr.mono (by decide)) (by rfl) m_law_draw k_law_draw b_law_draw .nil pass0 (pa_cons (pv 0) (pa_cons pe_int pa_nil))))) pss_nil) pss_nil) (pss_cons (ps_ret (pe_callB (cr_max2 rfl) (by rfl) T.b_max (by decide +kernel) (pa_cons (pv 3) (pa_cons (pv 1) pa_nil)))) pss_nil)))))),
    (xb_set (ev_eq (ev_callM (j := 0) (box, (7 : Int)) rfl rfl (ea_cons (ev_eq ev_int rfl) ea_nil) rfl rfl rfl (okh.1) rfl rfl rfl) rfl) rfl (fun shape_195 h_196 => (xb_reb (fun bx_197 => [.m mBox bx_197, .d eI least, .d eI shape_195, .un, .un]) ((f_law_draw box (7 : Int)).2) (fun bx_197 h_198 => (xb_set (ev_eq (ev_callM (j := 0) (bx_197, (7 : Int)) rfl rfl (ea_cons (ev_eq ev_int rfl) ea_nil) rfl rfl rfl (((okh.2 shape_195 h_196) bx_197 h_198).1) rfl rfl rfl) rfl) rfl (fun number_200 h_201 => (xb_reb (fun bx_202 => [.m mBox bx_202, .d eI least, .d eI shape_195, .d eI number_200, .un]) ((f_law_draw bx_197 (7 : Int)).2) (fun bx_202 h_203 => (xb_if (fun t : (Int × BoxD) => [.m mBox t.2, .d eI least, .d eI shape_195, .d eI t.1, .un]) (et_eq (et_test (ev_eqI (ev_var (i := 2) rfl) ev_int)) rfl) (fun hc_204 => (xv_set (ev_eq (ev_callM (j := 0) (bx_202, (10000 : Int)) rfl rfl (ea_cons (ev_eq ev_int rfl) ea_nil) rfl rfl rfl ((((((okh.2 shape_195 h_196) bx_197 h_198).2 number_200 h_201) bx_202 h_203).1 hc_204)) rfl rfl rfl) rfl) rfl (fun number_206 h_207 => (xv_end (by exact (wk_S (wk_s (wk_s (wk_s (wk_s wk_n)))))))))) (fun hc_204 => (xv_end (by exact (wk_S (wk_s (wk_s (wk_s (wk_s wk_n)))))))) (fun z_208 h_209 => (xb_if (fun t : (Int × BoxD) => [.m mBox t.2, .d eI least, .d eI shape_195, .d eI t.1, .un]) (et_eq (et_test (ev_eqI (ev_var (i := 2) rfl) ev_int)) rfl) (fun hc_210 => (xv_for (fun t_211 : (Int × BoxD) => [.m mBox t_211.2, .d eI least, .d eI shape_195, .d eI t_211.1, .un]) (z_208.1, z_208.2) (h := (fun (t_211 : (Int × BoxD)) (k_212 : Int) => (lt ((t_211.1 * ((10 : Int) ^ ((40 : Int)).toNat)) + (f_law_draw t_211.2 (100003 : Int)).1) fun number_218 => (number_218, (f_law_draw t_211.2 (100003 : Int)).2)))) (ei_range1 ev_int (by decide)) (wk_S (wk_s (wk_s (wk_s (wk_s wk_n))))) eg_name (fun _ => (noM_cons rfl noM_nil)) (fun i_213 k_212 t_211 hi_214 ht_215 => (xv_set (ev_eq (ev_I0 (ev_I (ev_var (i := 3) rfl) (ev_I ev_int ev_int ⟨by decide, by decide, by decide⟩) ((((((((okh.2 shape_195 h_196) bx_197 h_198).2 number_200 h_201) bx_202 h_203).2 z_208 h_209).1 hc_210) i_213 k_212 t_211 hi_214 ht_215).1)) (ev_callM (j := 0) (t_211.2, (100003 : Int)) rfl rfl (ea_cons (ev_eq ev_int rfl) ea_nil) rfl rfl rfl ((((((((okh.2 shape_195 h_196) bx_197 h_198).2 number_200 h_201) bx_202 h_203).2 z_208 h_209).1 hc_210) i_213 k_212 t_211 hi_214 ht_215).2) rfl rfl rfl)) rfl) rfl (fun number_218 h_219 => (xv_end (by exact (wk_S (wk_s (wk_s (wk_s (wk_u wk_n)))))))))) (fun s_220 h_221 => (xv_end (by exact (wk_S (wk_s (wk_s (wk_s (wk_s wk_n)))))))))) (fun hc_210 => (xv_end (by exact (wk_S (wk_s (wk_s (wk_s (wk_s wk_n)))))))) (fun z_222 h_223 => (xb_if (fun t : (Int × BoxD) => [.m mBox t.2, .d eI least, .d eI shape_195, .d eI t.1, .un]) (et_eq (et_test (ev_eqI (ev_var (i := 2) rfl) ev_int)) rfl) (fun hc_224 => (xv_set (ev_eq (ev_I0 (ev_I ev_int ev_int ⟨by decide, by decide, by decide⟩) (ev_callM (j := 0) (z_222.2, (3 : Int)) rfl rfl (ea_cons (ev_eq ev_int rfl) ea_nil) rfl rfl rfl ((((((((okh.2 shape_195 h_196) bx_197 h_198).2 number_200 h_201) bx_202 h_203).2 z_208 h_209).2 z_222 h_223) hc_224)) rfl rfl rfl)) rfl) rfl (fun number_226 h_227 => (xv_end (by exact (wk_S (wk_s (wk_s (wk_s (wk_s wk_n)))))))))) (fun hc_224 => (xv_end (by exact (wk_S (wk_s (wk_s (wk_s (wk_s wk_n)))))))) (fun z_228 h_229 => (xb_retS (ev_eq (ev_max2 (ev_var (i := 3) rfl) (ev_var (i := 1) rfl)) rfl) (.inr rfl) rfl)))))))))))))))⟩
/-! ### _law_signed -/
abbrev N_law_signed : List Str := ["box", "number"]
theorem sc_law_signed : FnScope N_law_signed ["box", "number"] (defScope s_law_signed) := ⟨rfl, rfl, rfl, by decide +kernel, rfl, by decide +kernel, by decide +kernel⟩
def o_law_signed (box : BoxD) (number : Int) : Out Empty Empty (Int × BoxD) :=
  (bif (decide ((f_law_draw box (3 : Int)).1 = (0 : Int))) then (.rt ((-number), (f_law_draw box (3 : Int)).2)) else (.rt (number, (f_law_draw box (3 : Int)).2)))
@[irreducible] def f_law_signed (box : BoxD) (number : Int) : (Int × BoxD) := (o_law_signed box number).get
theorem f_law_signed_eq (box : BoxD) (number : Int) : f_law_signed box number = (o_law_signed box number).get := by delta f_law_signed; rfl
def ok_law_signed (box : BoxD) (number : Int) : Prop :=
  (ok_law_draw box (3 : Int))
section
variable {K : PySem.W.Frag} {cFrac : Addr} {cInvalidFraction : Addr}
abbrev sp_law_signed : Sp := spF (K := K) (ι := (BoxD × Int)) (fun x => [.m mBox x.1, .d eI x.2]) (fun x => ok_law_signed x.1 x.2) (retM eI mBox) (fun x => f_law_signed x.1 x.2)
end
set_option maxHeartbeats 4000000 in
theorem at_law_signed {P : Program} {w : World} {K : PySem.W.Frag} {mg : Str → Option Value} {base : Heap} {cFrac : Addr} {cInvalidFraction : Addr} (T : Txt K mg cFrac cInvalidFraction) : FnAt P w K mg base "_law_signed" 2 ["box", "number"] (sp_law_signed (K := K)) := by
  obtain ⟨f, fd, F, mg_, bd_⟩ := T.d_law_signed
  obtain ⟨⟨a_law_draw, d_law_draw, G_law_draw, m_law_draw, k_law_draw, b_law_draw⟩⟩ := at_law_draw (P := P) (w := w) (base := base) T
  refine ⟨⟨f, fd, fn_okG (fun x => f_law_signed_eq x.1 x.2) <| fn_okE (o := fun x : (BoxD × Int) => o_law_signed x.1 x.2) (k := 1) F sc_law_signed (fun x => rfl) (fun x i s h => noM_tail (by simp [Slot.isM]) h) (fun cdv A outer s H EX hr x hp => ?_), mg_, F.kp, bd_⟩⟩
  obtain ⟨box, number⟩ := x
  have okh : ok_law_signed box number := hp
  exact ⟨_, _, rfl,
    (pss_cons (ps_if (pt_cmpR op_eq (pe_call G_law_draw (hr.mono (by decide)) (by rfl) m_law_draw k_law_draw b_law_draw .nil pass0 (pa_cons (pv 0) (pa_cons pe_int pa_nil))) pe_int (nomark _)) (pss_cons (ps_ret (pe_un un_neg (pv 1))) pss_nil) pss_nil) (pss_cons (ps_ret (pv 1)) pss_nil)),
    (xb_ifR (et_eq (et_test (ev_eqI (ev_callM (j := 0) (box, (3 : Int)) rfl rfl (ea_cons (ev_eq ev_int rfl) ea_nil) rfl rfl rfl okh rfl rfl rfl) ev_int)) rfl) (fun hc_231 => (xb_retS (ev_eq (ev_un (g := fun i => -i) (ev_var (i := 1) rfl)) rfl) (.inr rfl) rfl)) (fun hc_231 => (xb_retS (ev_eq (ev_var (i := 1) rfl) rfl) (.inr rfl) rfl)))⟩
/-! ### _law_terms -/
abbrev N_law_terms : List Str := ["box", "factor", "num", "den"]
theorem sc_law_terms : FnScope N_law_terms ["box"] (defScope s_law_terms) := ⟨rfl, rfl, rfl, by decide +kernel, rfl, by decide +kernel, by decide +kernel⟩
def o_law_terms (box : BoxD) : Out Empty Empty ((Int × Int) × BoxD) :=
  (lt ((1 : Int) + (f_law_draw box (12 : Int)).1) fun factor_233 => (lt ((f_law_draw box (12 : Int)).2) fun bx_235 => (lt ((f_law_signed ((f_law_number bx_235 (0 : Int)).2) ((f_law_number bx_235 (0 : Int)).1 * factor_233)).1) fun num_240 => (lt ((f_law_signed ((f_law_number bx_235 (0 : Int)).2) ((f_law_number bx_235 (0 : Int)).1 * factor_233)).2) fun bx_242 => (lt ((f_law_signed ((f_law_number bx_242 (1 : Int)).2) ((f_law_number bx_242 (1 : Int)).1 * factor_233)).1) fun den_247 => (lt ((f_law_signed ((f_law_number bx_242 (1 : Int)).2) ((f_law_number bx_242 (1 : Int)).1 * factor_233)).2) fun bx_249 => (.rt ((num_240, den_247), bx_249))))))))
@[irreducible] def f_law_terms (box : BoxD) : ((Int × Int) × BoxD) := (o_law_terms box).get
theorem f_law_terms_eq (box : BoxD) : f_law_terms box = (o_law_terms box).get := by delta f_law_terms; rfl
def ok_law_terms (box : BoxD) : Prop :=
  (ok_law_draw box (12 : Int)) ∧ (∀ factor_233 (h_234 : factor_233 = ((1 : Int) + (f_law_draw box (12 : Int)).1)), (∀ bx_235 (h_236 : bx_235 = (f_law_draw box (12 : Int)).2), (ok_law_number bx_235 (0 : Int)) ∧ (CMulW ((f_law_number bx_235 (0 : Int)).1) factor_233) ∧ (ok_law_signed ((f_law_number bx_235 (0 : Int)).2) ((f_law_number bx_235 (0 : Int)).1 * factor_233)) ∧ (∀ num_240 (h_241 : num_240 = (f_law_signed ((f_law_number bx_235 (0 : Int)).2) ((f_law_number bx_235 (0 : Int)).1 * factor_233)).1), (∀ bx_242 (h_243 : bx_242 = (f_law_signed ((f_law_number bx_235 (0 : Int)).2) ((f_law_number bx_235 (0 : Int)).1 * factor_233)).2), (ok_law_number bx_242 (1 : Int)) ∧ (CMulW ((f_law_number bx_242 (1 : Int)).1) factor_233) ∧ (ok_law_signed ((f_law_number bx_242 (1 : Int)).2) ((f_law_number bx_242 (1 : Int)).1 * factor_233))))))
section
variable {K : PySem.W.Frag} {cFrac : Addr} {cInvalidFraction : Addr}
abbrev sp_law_terms : Sp := spF (K := K) (ι := BoxD) (fun x => [.m mBox x]) (fun x => ok_law_terms x) (retM (eP eI eI) mBox) (fun x => f_law_terms x)
end
set_option maxHeartbeats 4000000 in
theorem at_law_terms {P : Program} {w : World} {K : PySem.W.Frag} {mg : Str → Option Value} {base : Heap} {cFrac : Addr} {cInvalidFraction : Addr} (T : Txt K mg cFrac cInvalidFraction) : FnAt P w K mg base "_law_terms" 3 ["box"] (sp_law_terms (K := K)) := by
  obtain ⟨f, fd, F, mg_, bd_⟩ := T.d_law_terms
  obtain ⟨⟨a_law_draw, d_law_draw, G_law_draw, m_law_draw, k_law_draw, b_law_draw⟩⟩ := at_law_draw (P := P) (w := w) (base := base) T
  obtain ⟨⟨a_law_number, d_law_number, G_law_number, m_law_number, k_law_number, b_law_number⟩⟩ := at_law_number (P := P) (w := w) (base := base) T
  obtain ⟨⟨a_law_signed, d_law_signed, G_law_signed, m_law_signed, k_law_signed, b_law_signed⟩⟩ := at_law_signed (P := P) (w := w) (base := base) T
  refine ⟨⟨f, fd, fn_okG (fun x => f_law_terms_eq x) <| fn_okE (o := fun x : BoxD => o_law_terms x) (k := 2) F sc_law_terms (fun x => rfl) (fun x i s h => noM_tail (by simp [Slot.isM]) h) (fun cdv A outer s H EX hr box hp => ?_), mg_, F.kp, bd_⟩⟩
  have okh : ok_law_terms box := hp
  exact ⟨_, _, rfl,
    (pss_cons (ps_set (i := 1) sc_law_terms.nd rfl (by first | exact Or.inl rfl | exact Or.inr rfl) (pe_op op_add pe_int (pe_call G_law_draw (hr.mono (by decide)) (by rfl) m_law_draw k_law_draw b_law_draw .nil pass0 (pa_cons (pv 0) (pa_cons pe_int pa_nil))))) (pss_cons (ps_set (i := 2) sc_law_terms.nd rfl (by first | exact Or.inl rfl | exact Or.inr rfl) (pe_call G_law_signed (hr.mono (by decide)) (by rfl) m_law_signed k_law_signed b_law_signed .nil pass0 (pa_cons (pv 0) (pa_cons (pe_op op_mulW (pe_call G_law_number (hr.mono (by decide)) (by rfl) m_law_number k_law_number b_law_number .nil pass0 (pa_cons (pv 0) (pa_cons pe_int pa_nil))) (pv 1)) pa_nil)))) (pss_cons (ps_set (i := 3) sc_law_terms.nd rfl (by first | exact Or.inl rfl | exact Or.inr rfl) (pe_call G_law_signed (hr.mono (by decide)) (by rfl) m_law_signed k_law_signed b_law_signed .nil pass0 (pa_cons (pv 0) (pa_cons (pe_op op_mulW (pe_call G_law_number (hr.mono (by decide)) (by rfl) m_law_number k_law_number b_law_number .nil pass0 (pa_cons (pv 0) (pa_cons pe_int pa_nil))) (pv 1)) pa_nil)))) (pss_cons (ps_ret (pe_tup (pa_cons (pv 2) (pa_cons (pv 3) pa_nil)))) pss_nil)))),
    (xb_set (ev_eq (ev_I0 ev_int (ev_callM (j := 0) (box, (12 : Int)) rfl rfl (ea_cons (ev_eq ev_int rfl) ea_nil) rfl rfl rfl (okh.1) rfl rfl rfl)) rfl) rfl (fun factor_233 h_234 => (xb_reb (fun bx_235 => [.m mBox bx_235, .d eI factor_233, .un, .un]) ((f_law_draw box (12 : Int)).2) (fun bx_235 h_236 => (xb_set (ev_eq (ev_callM (j := 0) ((f_law_number bx_235 (0 : Int)).2, ((f_law_number bx_235 (0 : Int)).1 * factor_233)) rfl rfl (ea_cons (ev_eq (ev_I (ev_callM (j := 0) (bx_235, (0 : Int)) rfl rfl (ea_cons (ev_eq ev_int rfl) ea_nil) rfl rfl rfl (((okh.2 factor_233 h_234) bx_235 h_236).1) rfl rfl rfl) (ev_var (i := 1) rfl) (((okh.2 factor_233 h_234) bx_235 h_236).2.1)) rfl) ea_nil) rfl rfl rfl (((okh.2 factor_233 h_234) bx_235 h_236).2.2.1) rfl rfl rfl) rfl) rfl (fun num_240 h_241 => (xb_reb (fun bx_242 => [.m mBox bx_242, .d eI factor_233, .d eI num_240, .un]) ((f_law_signed ((f_law_number bx_235 (0 : Int)).2) ((f_law_number bx_235 (0 : Int)).1 * factor_233)).2) (fun bx_242 h_243 => (xb_set (ev_eq (ev_callM (j := 0) ((f_law_number bx_242 (1 : Int)).2, ((f_law_number bx_242 (1 : Int)).1 * factor_233)) rfl rfl (ea_cons (ev_eq (ev_I (ev_callM (j := 0) (bx_242, (1 : Int)) rfl rfl (ea_cons (ev_eq ev_int rfl) ea_nil) rfl rfl rfl (((((okh.2 factor_233 h_234) bx_235 h_236).2.2.2 num_240 h_241) bx_242 h_243).1) rfl rfl rfl) (ev_var (i := 1) rfl) (((((okh.2 factor_233 h_234) bx_235 h_236).2.2.2 num_240 h_241) bx_242 h_243).2.1)) rfl) ea_nil) rfl rfl rfl (((((okh.2 factor_233 h_234) bx_235 h_236).2.2.2 num_240 h_241) bx_242 h_243).2.2) rfl rfl rfl) rfl) rfl (fun den_247 h_248 => (xb_reb (fun bx_249 => [.m mBox bx_249, .d eI factor_233, .d eI num_240, .d eI den_247]) ((f_law_signed ((f_law_number bx_242 (1 : Int)).2) ((f_law_number bx_242 (1 : Int)).1 * factor_233)).2) (fun bx_249 h_250 => (xb_retS (ev_eq (ev_pair (ev_var (i := 2) rfl) (ev_var (i := 3) rfl)) rfl) (.inr rfl) rfl)))))))))))))⟩
/-! ### _law_second -/
abbrev N_law_second : List Str := ["box", "first", "shape"]
theorem sc_law_second : FnScope N_law_second ["box", "first"] (defScope s_law_second) := ⟨rfl, rfl, rfl, by decide +kernel, rfl, by decide +kernel, by decide +kernel⟩
def o_law_second (box : BoxD) (first : (Int × Int)) : Out Empty Empty ((Int × Int) × BoxD) :=
  (lt ((f_law_draw box (6 : Int)).1) fun shape_252 => (lt ((f_law_draw box (6 : Int)).2) fun bx_254 => (bif (decide (shape_252 = (0 : Int))) then (.rt (((first.1 * (3 : Int)), (first.2 * (3 : Int))), bx_254)) else (bif (decide (shape_252 = (1 : Int))) then (.rt ((first.1, (-first.2)), bx_254)) else (bif (decide (shape_252 = (2 : Int))) then (.rt (((0 : Int), (5 : Int)), bx_254)) else (bif ((decide (shape_252 = (3 : Int))) && ((decide ((if first.1 < 0 then -first.1 else first.1) < ((10 : Int) ^ ((60 : Int)).toNat))) && (decide ((if first.2 < 0 then -first.2 else first.2) < ((10 : Int) ^ ((60 : Int)).toNat))))) then (.rt (((((first.1 * ((10 : Int) ^ ((50 : Int)).toNat)) + (1 : Int)) - ((2 : Int) * (f_law_draw bx_254 (2 : Int)).1)), (first.2 * ((10 : Int) ^ ((50 : Int)).toNat))), (f_law_draw bx_254 (2 : Int)).2)) else (.rt ((f_law_terms bx_254).1, (f_law_terms bx_254).2))))))))
@[irreducible] def f_law_second (box : BoxD) (first : (Int × Int)) : ((Int × Int) × BoxD) := (o_law_second box first).get
theorem f_law_second_eq (box : BoxD) (first : (Int × Int)) : f_law_second box first = (o_law_second box first).get := by delta f_law_second; rfl
def ok_law_second (box : BoxD) (first : (Int × Int)) : Prop :=
  (ok_law_draw box (6 : Int)) ∧ (∀ shape_252 (h_253 : shape_252 = (f_law_draw box (6 : Int)).1), (∀ bx_254 (h_255 : bx_254 = (f_law_draw box (6 : Int)).2), (∀ (hc_256 : ((decide (shape_252 = (0 : Int)))) = false), (∀ (hc_257 : ((decide (shape_252 = (1 : Int)))) = false), (∀ (hc_258 : ((decide (shape_252 = (2 : Int)))) = false), (∀ (hc_261 : (((decide (shape_252 = (3 : Int))) && ((decide ((if first.1 < 0 then -first.1 else first.1) < ((10 : Int) ^ ((60 : Int)).toNat))) && (decide ((if first.2 < 0 then -first.2 else first.2) < ((10 : Int) ^ ((60 : Int)).toNat)))))) = true), (CMulW first.1 ((10 : Int) ^ ((50 : Int)).toNat)) ∧ (ok_law_draw bx_254 (2 : Int)) ∧ (CMulW first.2 ((10 : Int) ^ ((50 : Int)).toNat))) ∧ (∀ (hc_261 : (((decide (shape_252 = (3 : Int))) && ((decide ((if first.1 < 0 then -first.1 else first.1) < ((10 : Int) ^ ((60 : Int)).toNat))) && (decide ((if first.2 < 0 then -first.2 else first.2) < ((10 : Int) ^ ((60 : Int)).toNat)))))) = false), (ok_law_terms bx_254)))))))
section
variable {K : PySem.W.Frag} {cFrac : Addr} {cInvalidFraction : Addr}
abbrev sp_law_second : Sp := spF (K := K) (ι := (BoxD × (Int × Int))) (fun x => [.m mBox x.1, .d (eP eI eI) x.2]) (fun x => ok_law_second x.1 x.2) (retM (eP eI eI) mBox) (fun x => f_law_second x.1 x.2)
end
set_option maxHeartbeats 4000000 in
theorem at_law_second {P : Program} {w : World} {K : PySem.W.Frag} {mg : Str → Option Value} {base : Heap} {cFrac : Addr} {cInvalidFraction : Addr} (T : Txt K mg cFrac cInvalidFraction) : FnAt P w K mg base "_law_second" 4 ["box", "first"] (sp_law_second (K := K)) := by
  obtain ⟨f, fd, F, mg_, bd_⟩ := T.d_law_second
  obtain ⟨⟨a_law_draw, d_law_draw, G_law_draw, m_law_draw, k_law_draw, b_law_draw⟩⟩ := at_law_draw (P := P) (w := w) (base := base) T
  obtain ⟨⟨a_law_terms, d_law_terms, G_law_terms, m_law_terms, k_law_terms, b_law_terms⟩⟩ := at_law_terms (P := P) (w := w) (base := base) T
  refine ⟨⟨f, fd, fn_okG (fun x => f_law_second_eq x.1 x.2) <| fn_okE (o := fun x : (BoxD × (Int × Int)) => o_law_second x.1 x.2) (k := 3) F sc_law_second (fun x => rfl) (fun x i s h => noM_tail (by simp [Slot.isM]) h) (fun cdv A outer s H EX hr x hp => ?_), mg_, F.kp, bd_⟩⟩
  obtain ⟨box, first⟩ := x
  have okh : ok_law_second box first := hp
  exact ⟨_, _, rfl,
    (pss_cons (ps_set (i := 2) sc_law_second.nd rfl (by first | exact Or.inl rfl | exact Or.inr rfl) (pe_call G_law_draw (hr.mono (by decide)) (by rfl) m_law_draw k_law_draw b_law_draw .nil pass0 (pa_cons (pv 0) (pa_cons pe_int pa_nil)))) (pss_cons (ps_if (pt_cmpR op_eq (pv 2) pe_int (nomark _)) (pss_cons (ps_ret (pe_tup (pa_cons (pe_op op_mul (pe_ix (ixK (K := K) (r := rIxT) rfl ix_tup) (pv 1) pe_int (fun _ _ => rfl)) pe_int) (pa_cons (pe_op op_mul (pe_ix (ixK (K := K) (r := rIxT) rfl ix_tup) (pv 1) pe_int (fun _ _ => rfl)) pe_int) pa_nil)))) pss_nil) pss_nil) (pss_cons (ps_if (pt_cmpR op_eq (pv 2) pe_int (nomark _)) (pss_cons (ps_ret (pe_tup (pa_cons (pe_ix (ixK (K := K) (r := rIxT) rfl ix_tup) (pv 1) pe_int (fun _ _ => rfl)) (pa_cons (pe_un un_neg (pe_ix (ixK (K := K) (r := rIxT) rfl ix_tup) (pv 1) pe_int (fun _ _ => rfl))) pa_nil)))) pss_nil) pss_nil) (pss_cons (ps_if (pt_cmpR op_eq (pv 2) pe_int (nomark _)) (pss_cons (ps_ret (pe_tup (pa_cons pe_int (pa_cons pe_int pa_nil)))) pss_nil) pss_nil) (pss_cons (ps_if (PW.pt (pw_and (pt_cmpR op_eq (pv 2) pe_int (nomark _)) (pw_and (pt_cmpR op_lt (pe_callB call_abs (by rfl) T.b_abs (by decide +kernel) (pa_cons (pe_ix (ixK (K := K) (r := rIxT) rfl ix_tup) (pv 1) pe_int (fun _ _ => rfl)) pa_nil)) (pe_op op_pow pe_int pe_int) (nomark _)) (pw_and1 (pt_cmpR op_lt (pe_callB call_abs (by rfl) T.b_abs (by decide +kernel) (pa_cons (pe_ix (ixK (K := K) (r := rIxT) rfl ix_tup) (pv 1) pe_int (fun _ _ => rfl)) pa_nil)) (pe_op op_pow pe_int pe_int) (nomark _)))))) (pss_cons (ps_ret (pe_tup (pa_cons (pe_op op_sub (pe_op op_add (pe_op op_mulW (pe_ix (ixK (K := K) (r := rIxT) rfl ix_tup) (pv 1) pe_int (fun _ _ => rfl)) (pe_op op_pow pe_int pe_int)) pe_int) (pe_op op_mul pe_int (pe_call G_law_draw (hr.mono (by decide)) (by rfl) m_law_draw k_law_draw b_law_draw .nil pass0 (pa_cons (pv 0) (pa_cons pe_int pa_nil))))) (pa_cons (pe_op op_mulW (pe_ix (ixK (K := K) (r := rIxT) rfl ix_tup) (pv 1) pe_int (fun _ _ => rfl)) (pe_op op_pow pe_int pe_int)) pa_nil)))) pss_nil) pss_nil) (pss_cons (ps_ret (pe_call G_law_terms (hr.mono (by decide)) (by rfl) m_law_terms k_law_terms b_law_terms .nil pass0 (pa_cons (pv 0) pa_nil))) pss_nil)))))),
    (xb_set (ev_eq (ev_callM (j := 0) (box, (6 : Int)) rfl rfl (ea_cons (ev_eq ev_int rfl) ea_nil) rfl rfl rfl (okh.1) rfl rfl rfl) rfl) rfl (fun shape_252 h_253 => (xb_reb (fun bx_254 => [.m mBox bx_254, .d (eP eI eI) first, .d eI shape_252]) ((f_law_draw box (6 : Int)).2) (fun bx_254 h_255 => (xb_ifR (et_eq (et_test (ev_eqI (ev_var (i := 2) rfl) ev_int)) rfl) (fun hc_256 => (xb_retS (ev_eq (ev_pair (ev_I (ev_fst (ev_var (i := 1) rfl)) ev_int (.inr (by decide))) (ev_I (ev_snd (ev_var (i := 1) rfl)) ev_int (.inr (by decide)))) rfl) (.inr rfl) rfl)) (fun hc_256 => (xb_ifR (et_eq (et_test (ev_eqI (ev_var (i := 2) rfl) ev_int)) rfl) (fun hc_257 => (xb_retS (ev_eq (ev_pair (ev_fst (ev_var (i := 1) rfl)) (ev_un (g := fun i => -i) (ev_snd (ev_var (i := 1) rfl)))) rfl) (.inr rfl) rfl)) (fun hc_257 => (xb_ifR (et_eq (et_test (ev_eqI (ev_var (i := 2) rfl) ev_int)) rfl) (fun hc_258 => (xb_retS (ev_eq (ev_pair ev_int ev_int) rfl) (.inr rfl) rfl)) (fun hc_258 => (xb_ifR (et_eq (et_and (et_test (ev_eqI (ev_var (i := 2) rfl) ev_int)) (fun hb_259 => (et_and (et_test (ev_IB (ev_abs (ev_fst (ev_var (i := 1) rfl))) (ev_I ev_int ev_int ⟨by decide, by decide, by decide⟩))) (fun hb_260 => (et_test (ev_IB (ev_abs (ev_snd (ev_var (i := 1) rfl))) (ev_I ev_int ev_int ⟨by decide, by decide, by decide⟩))))))) rfl) (fun hc_261 => (xb_retS (ev_eq (ev_pair (ev_I0 (ev_I0 (ev_I (ev_fst (ev_var (i := 1) rfl)) (ev_I ev_int ev_int ⟨by decide, by decide, by decide⟩) (((((((okh.2 shape_252 h_253) bx_254 h_255) hc_256) hc_257) hc_258).1 hc_261).1)) ev_int) (ev_I ev_int (ev_callM (j := 0) (bx_254, (2 : Int)) rfl rfl (ea_cons (ev_eq ev_int rfl) ea_nil) rfl rfl rfl (((((((okh.2 shape_252 h_253) bx_254 h_255) hc_256) hc_257) hc_258).1 hc_261).2.1) rfl rfl rfl) (.inl (by decide)))) (ev_I (ev_snd (ev_var (i := 1) rfl)) (ev_I ev_int ev_int ⟨by decide, by decide, by decide⟩) (((((((okh.2 shape_252 h_253) bx_254 h_255) hc_256) hc_257) hc_258).1 hc_261).2.2))) rfl) (.inr rfl) rfl)) (fun hc_261 => (xb_retS (ev_eq (ev_callM (j := 0) bx_254 rfl rfl ea_nil rfl rfl rfl (((((((okh.2 shape_252 h_253) bx_254 h_255) hc_256) hc_257) hc_258).2 hc_261)) rfl rfl rfl) rfl) (.inr rfl) rfl)))))))))))))⟩
/-! ### _law_is -/
abbrev N_law_is : List Str := ["actual", "num", "den", "number"]
theorem sc_law_is : FnScope N_law_is ["actual", "num", "den"] (defScope s_law_is) := ⟨rfl, rfl, rfl, by decide +kernel, rfl, by decide +kernel, by decide +kernel⟩
def o_law_is (actual : Frac) (num : Int) (den : Int) : Out Empty Empty Bool :=
  (((FL.run (fun (t_266 : Unit) (number_267 : Int) => ((.nx ()) : Out Unit Unit Bool)) () [actual.num, actual.den]).done : Out Unit Empty Bool).bind fun s_272 => (.rt (decide ((pairL (actual.num, actual.den)) = (pairL (f_law_low num den))))))
@[irreducible] def f_law_is (actual : Frac) (num : Int) (den : Int) : Bool := (o_law_is actual num den).get
theorem f_law_is_eq (actual : Frac) (num : Int) (den : Int) : f_law_is actual num den = (o_law_is actual num den).get := by delta f_law_is; rfl
def ok_law_is (actual : Frac) (num : Int) (den : Int) : Prop :=
  (∀ (s_272 : Unit) (hs_273 : (FL.run (fun (t_266 : Unit) (number_267 : Int) => ((.nx ()) : Out Unit Unit Bool)) () [actual.num, actual.den]).done = (.nx s_272 : Out Unit Empty Bool)), (ok_law_low num den))
section
variable {K : PySem.W.Frag} {cFrac : Addr} {cInvalidFraction : Addr}
abbrev sp_law_is (cFrac : Addr) : Sp := spF (K := K) (ι := (Frac × Int × Int)) (fun x => [.d (eFrac cFrac) x.1, .d eI x.2.1, .d eI x.2.2]) (fun x => ok_law_is x.1 x.2.1 x.2.2) (retD eB) (fun x => f_law_is x.1 x.2.1 x.2.2)
end
set_option maxHeartbeats 4000000 in
theorem at_law_is {P : Program} {w : World} {K : PySem.W.Frag} {mg : Str → Option Value} {base : Heap} {cFrac : Addr} {cInvalidFraction : Addr} (T : Txt K mg cFrac cInvalidFraction) : FnAt P w K mg base "_law_is" 3 ["actual", "num", "den"] (sp_law_is cFrac (K := K)) := by
  obtain ⟨f, fd, F, mg_, bd_⟩ := T.d_law_is
  obtain ⟨⟨a_law_low, d_law_low, G_law_low, m_law_low, k_law_low, b_law_low⟩⟩ := at_law_low (P := P) (w := w) (base := base) T
  refine ⟨⟨f, fd, fn_okG (fun x => f_law_is_eq x.1 x.2.1 x.2.2) <| fn_okE (o := fun x : (Frac × Int × Int) => o_law_is x.1 x.2.1 x.2.2) (k := 2) F sc_law_is (fun x => rfl) (fun x i s h => noM_tail (by simp [Slot.isM]) h) (fun cdv A outer s H EX hr x hp => ?_), mg_, F.kp, bd_⟩⟩
  obtain ⟨actual, num, den⟩ := x
  have okh : ok_law_is actual num den := hp
  exact ⟨_, _, rfl,
    (pss_cons (ps_if (pt_not (pt_val (pe_callB call_isi (by rfl) T.b_isinstance (by decide +kernel) (pa_cons (pv 0) (pa_cons (pe_glob (v := .ref cFrac) (by rfl) T.mg_Frac rfl) pa_nil))))) pss_never pss_nil) (pss_cons (ps_for PassesOwn.never rfl (pi_list (pe_lst (pa_cons (pe_fld (pv 0) rfl) (pa_cons (pe_fld (pv 0) rfl) pa_nil)))) (pg_name (i := 3) sc_law_is.nd rfl (by first | exact Or.inl rfl | exact Or.inr rfl)) (pss_cons (ps_if (PW.pt (pw_or (pt_not (pt_val (pe_callB call_isi (by rfl) T.b_isinstance (by decide +kernel) (pa_cons (pv 3) (pa_cons (pe_bltn (v := .ty "int") (by rfl) T.b_int (by decide +kernel) rfl) pa_nil))))) (pw_or1 (pt_val (pe_callB call_isi (by rfl) T.b_isinstance (by decide +kernel) (pa_cons (pv 3) (pa_cons (pe_bltn (v := .ty "bool") (by rfl) T.b_bool (by decide +kernel) rfl) pa_nil))))))) pss_never pss_nil) pss_nil)) (pss_cons (ps_ret (pe_cmpR (op_eqD (room_u hr)) (pe_tup (pa_cons (pe_fld (pv 0) rfl) (pa_cons (pe_fld (pv 0) rfl) pa_nil))) (pe_call G_law_low (hr.mono (by decide)) (by rfl) m_law_low k_law_low b_law_low .nil pass0 (pa_cons (pv 1) (pa_cons (pv 2) pa_nil))) (nomark _))) pss_nil))),
    (xb_ifF (et_eq (et_not (et_B (ev_isiC (b := true) T.in_Frac (ev_var (i := 0) rfl) (.own _) T.ki_Frac_Frac))) rfl) rfl (xb_nx (xb_loop (fun t_266 : Unit => [.d (eFrac cFrac) actual, .d eI num, .d eI den, .un]) () (h := (fun (t_266 : Unit) (number_267 : Int) => ((.nx ()) : Out Unit Unit Bool))) (ei_list (EvN.d (en_lst (eas_cons (ev_fld (F := ⟨eI, Frac.num⟩) (ev_var (i := 0) rfl) 0 rfl flFrac_nd T.cl_Frac T.na_Frac_num) (eas_cons (ev_fld (F := ⟨eI, Frac.den⟩) (ev_var (i := 0) rfl) 1 rfl flFrac_nd T.cl_Frac T.na_Frac_den) eas_nil)) (by show 2 ≤ 100000; decide)))) (wk_S (wk_s (wk_s (wk_s wk_n)))) eg_name (fun _ => (noM_cons rfl noM_nil)) (fun i_268 number_267 t_266 hi_269 ht_270 => (xb_ifF (et_eq (et_or (et_not (et_B (ev_isi (b := true) (ev_var (i := 3) rfl) (by decide +kernel)))) (fun hb_271 => (et_B (ev_isi (b := false) (ev_var (i := 3) rfl) (by decide +kernel))))) rfl) rfl (xb_nx (xb_nil (by exact (wk_S (wk_s (wk_s (wk_u wk_n))))))))) (fun s_272 hs_273 => (xb_retS (ev_eq (ev_eqTI (ev_cv (f := (eT eI)) (u := pairL) (ev_pair (ev_fld (F := ⟨eI, Frac.num⟩) (ev_var (i := 0) rfl) 0 rfl flFrac_nd T.cl_Frac T.na_Frac_num) (ev_fld (F := ⟨eI, Frac.den⟩) (ev_var (i := 0) rfl) 1 rfl flFrac_nd T.cl_Frac T.na_Frac_den))) (ev_cv (f := (eT eI)) (u := pairL) (ev_call (num, den) (ea_cons (ev_eq (ev_var (i := 1) rfl) rfl) (ea_cons (ev_eq (ev_var (i := 2) rfl) rfl) ea_nil)) ((okh s_272 hs_273)) rfl rfl))) rfl) (.inl rfl) rfl)))))⟩
/-! ### _law_truth -/
abbrev N_law_truth : List Str := ["actual", "due"]
theorem sc_law_truth : FnScope N_law_truth ["actual", "due"] (defScope s_law_truth) := ⟨rfl, rfl, rfl, by decide +kernel, rfl, by decide +kernel, by decide +kernel⟩
def o_law_truth (actual : Bool) (due : Bool) : Out Empty Empty Bool :=
  (.rt (true && (decide (actual = due))))
@[irreducible] def f_law_truth (actual : Bool) (due : Bool) : Bool := (o_law_truth actual due).get
theorem f_law_truth_eq (actual : Bool) (due : Bool) : f_law_truth actual due = (o_law_truth actual due).get := by delta f_law_truth; rfl
section
variable {K : PySem.W.Frag} {cFrac : Addr} {cInvalidFraction : Addr}
abbrev sp_law_truth : Sp := spF (K := K) (ι := (Bool × Bool)) (fun x => [.d eB x.1, .d eB x.2]) (fun _ => True) (retD eB) (fun x => f_law_truth x.1 x.2)
end
set_option maxHeartbeats 4000000 in
theorem at_law_truth {P : Program} {w : World} {K : PySem.W.Frag} {mg : Str → Option Value} {base : Heap} {cFrac : Addr} {cInvalidFraction : Addr} (T : Txt K mg cFrac cInvalidFraction) : FnAt P w K mg base "_law_truth" 1 ["actual", "due"] (sp_law_truth (K := K)) := by
  obtain ⟨f, fd, F, mg_, bd_⟩ := T.d_law_truth
  refine ⟨⟨f, fd, fn_okG (fun x => f_law_truth_eq x.1 x.2) <| fn_okE (o := fun x : (Bool × Bool) => o_law_truth x.1 x.2) (k := 0) F sc_law_truth (fun x => rfl) (fun x i s h => noM_tail (by simp [Slot.isM]) h) (fun cdv A outer s H EX hr x hp => ?_), mg_, F.kp, bd_⟩⟩
  obtain ⟨actual, due⟩ := x
  exact ⟨_, _, rfl,
    (pss_cons (ps_ret (pe_and (pe_callB call_isi (by rfl) T.b_isinstance (by decide +kernel) (pa_cons (pv 0) (pa_cons (pe_bltn (v := .ty "bool") (by rfl) T.b_bool (by decide +kernel) rfl) pa_nil))) (pe_one (pe_cmpR op_eq (pv 0) (pv 1) (nomark _))))) pss_nil),
    (xb_retS (ev_eq (ev_andV (ev_isi (b := true) (ev_var (i := 0) rfl) (by decide +kernel)) (fun hb_275 => (ev_eqB (ev_var (i := 0) rfl) (ev_var (i := 1) rfl)))) rfl) (.inl rfl) rfl)⟩
/-! ### _law_wrong -/
abbrev N_law_wrong : List Str := ["box", "first", "shape"]
theorem sc_law_wrong : FnScope N_law_wrong ["box", "first"] (defScope s_law_wrong) := ⟨rfl, rfl, rfl, by decide +kernel, rfl, by decide +kernel, by decide +kernel⟩
def o_law_wrong (box : BoxD) (first : (Int × Int)) : Out Empty Empty ((Py Frac) × BoxD) :=
  (lt ((f_law_draw box (9 : Int)).1) fun shape_277 => (lt ((f_law_draw box (9 : Int)).2) fun bx_279 => (bif (decide (shape_277 < (2 : Int))) then (.rt (((Py.bl (F := Frac)) (decide (shape_277 = (0 : Int)))), bx_279)) else (bif (decide (shape_277 = (2 : Int))) then (.rt (((fun _ : Unit => (Py.non : Py Frac)) ()), bx_279)) else (bif (decide (shape_277 = (3 : Int))) then (.rt (((Py.str (F := Frac)) (strI ((f_law_draw bx_279 (100 : Int)).1))), (f_law_draw bx_279 (100 : Int)).2)) else (bif (decide (shape_277 = (4 : Int))) then (.rt (((Py.lst (F := Frac)) [((Py.int (F := Frac)) first.1), ((Py.lst (F := Frac)) [((Py.int (F := Frac)) first.2)])]), bx_279)) else (bif (decide (shape_277 = (5 : Int))) then (.rt (((Py.tup (F := Frac)) [((Py.int (F := Frac)) first.1), ((Py.int (F := Frac)) first.2)]), bx_279)) else (bif (decide (shape_277 = (6 : Int))) then (.rt (((Py.obj (F := Frac)) (f_Frac_init_I ((f_law_draw bx_279 (5 : Int)).1) (1 : Int))), (f_law_draw bx_279 (5 : Int)).2)) else (bif (decide (shape_277 = (7 : Int))) then (.rt (((Py.obj (F := Frac)) (f_Frac_init_I first.1 first.2)), bx_279)) else (.rt (((Py.str (F := Frac)) ("" : Str)), bx_279)))))))))))
@[irreducible] def f_law_wrong (box : BoxD) (first : (Int × Int)) : ((Py Frac) × BoxD) := (o_law_wrong box first).get
theorem f_law_wrong_eq (box : BoxD) (first : (Int × Int)) : f_law_wrong box first = (o_law_wrong box first).get := by delta f_law_wrong; rfl
def ok_law_wrong (box : BoxD) (first : (Int × Int)) : Prop :=
  (ok_law_draw box (9 : Int)) ∧ (∀ shape_277 (h_278 : shape_277 = (f_law_draw box (9 : Int)).1), (∀ bx_279 (h_280 : bx_279 = (f_law_draw box (9 : Int)).2), (∀ (hc_281 : ((decide (shape_277 < (2 : Int)))) = false), (∀ (hc_282 : ((decide (shape_277 = (2 : Int)))) = false), (∀ (hc_283 : ((decide (shape_277 = (3 : Int)))) = true), (ok_law_draw bx_279 (100 : Int)) ∧ (((f_law_draw bx_279 (100 : Int)).1).natAbs.log2 < 1920)) ∧ (∀ (hc_283 : ((decide (shape_277 = (3 : Int)))) = false), (∀ (hc_286 : ((decide (shape_277 = (4 : Int)))) = false), (∀ (hc_287 : ((decide (shape_277 = (5 : Int)))) = false), (∀ (hc_288 : ((decide (shape_277 = (6 : Int)))) = true), (ok_law_draw bx_279 (5 : Int)) ∧ (ok_Frac_init_I ((f_law_draw bx_279 (5 : Int)).1) (1 : Int))) ∧ (∀ (hc_288 : ((decide (shape_277 = (6 : Int)))) = false), (∀ (hc_291 : ((decide (shape_277 = (7 : Int)))) = true), (ok_Frac_init_I first.1 first.2))))))))))
section
variable {K : PySem.W.Frag} {cFrac : Addr} {cInvalidFraction : Addr}
abbrev sp_law_wrong (cFrac : Addr) : Sp := spF (K := K) (ι := (BoxD × (Int × Int))) (fun x => [.m mBox x.1, .d (eP eI eI) x.2]) (fun x => ok_law_wrong x.1 x.2) (retM (eD (eFrac cFrac)) mBox) (fun x => f_law_wrong x.1 x.2)
end
set_option maxHeartbeats 4000000 in
theorem at_law_wrong {P : Program} {w : World} {K : PySem.W.Frag} {mg : Str → Option Value} {base : Heap} {cFrac : Addr} {cInvalidFraction : Addr} (T : Txt K mg cFrac cInvalidFraction) : FnAt P w K mg base "_law_wrong" 4 ["box", "first"] (sp_law_wrong cFrac (K := K)) := by
  obtain ⟨f, fd, F, mg_, bd_⟩ := T.d_law_wrong
  obtain ⟨⟨a_Frac_init_I, d_Frac_init_I, G_Frac_init_I, mk_Frac_init_I, m_Frac_init_I, b_Frac_init_I, ⟨ds_Frac_init_I, vd_Frac_init_I, bd_Frac_init_I⟩, ⟨kg0_Frac_init_I, kb0_Frac_init_I⟩, ⟨kg1_Frac_init_I, kb1_Frac_init_I⟩⟩⟩ := at_Frac_init_I (P := P) (w := w) (base := base) T
  obtain ⟨⟨a_law_draw, d_law_draw, G_law_draw, m_law_draw, k_law_draw, b_law_draw⟩⟩ := at_law_draw (P := P) (w := w) (base := base) T
  refine ⟨⟨f, fd, fn_okG (fun x => f_law_wrong_eq x.1 x.2) <| fn_okE (o := fun x : (BoxD × (Int × Int)) => o_law_wrong x.1 x.2) (k := 3) F sc_law_wrong (fun x => rfl) (fun x i s h => noM_tail (by simp [Slot.isM]) h) (fun cdv A outer s H EX hr x hp => ?_), mg_, F.kp, bd_⟩⟩
  obtain ⟨box, first⟩ := x
  have okh : ok_law_wrong box first := hp
  exact ⟨_, _, rfl,
    (pss_cons (ps_set (i := 2) sc_law_wrong.nd rfl (by first | exact Or.inl rfl | exact Or.inr rfl) (pe_call G_law_draw (hr.mono (by decide)) (by rfl) m_law_draw k_law_draw b_law_draw .nil pass0 (pa_cons (pv 0) (pa_cons pe_int pa_nil)))) (pss_cons (ps_if (pt_cmpR op_lt (pv 2) pe_int (nomark _)) (pss_cons (ps_ret (pe_cmpR op_eq (pv 2) pe_int (nomark _))) pss_nil) pss_nil) (pss_cons (ps_if (pt_cmpR op_eq (pv 2) pe_int (nomark _)) (pss_cons (ps_ret pe_non) pss_nil) pss_nil) (pss_cons (ps_if (pt_cmpR op_eq (pv 2) pe_int (nomark _)) (pss_cons (ps_ret (pe_callTy call_strI (by rfl) T.b_str (by decide +kernel) (pa_cons (pe_call G_law_draw (hr.mono (by decide)) (by rfl) m_law_draw k_law_draw b_law_draw .nil pass0 (pa_cons (pv 0) (pa_cons pe_int pa_nil))) pa_nil))) pss_nil) pss_nil) (pss_cons (ps_if (pt_cmpR op_eq (pv 2) pe_int (nomark _)) (pss_cons (ps_ret (pe_lst (pa_cons (pe_ix (ixK (K := K) (r := rIxT) rfl ix_tup) (pv 1) pe_int (fun _ _ => rfl)) (pa_cons (pe_lst (pa_cons (pe_ix (ixK (K := K) (r := rIxT) rfl ix_tup) (pv 1) pe_int (fun _ _ => rfl)) pa_nil)) pa_nil)))) pss_nil) pss_nil) (pss_cons (ps_if (pt_cmpR op_eq (pv 2) pe_int (nomark _)) (pss_cons (ps_ret (pe_tup (pa_cons (pe_ix (ixK (K := K) (r := rIxT) rfl ix_tup) (pv 1) pe_int (fun _ _ => rfl)) (pa_cons (pe_ix (ixK (K := K) (r := rIxT) rfl ix_tup) (pv 1) pe_int (fun _ _ => rfl)) pa_nil)))) pss_nil) pss_nil) (pss_cons (ps_if (pt_cmpR op_eq (pv 2) pe_int (nomark _)) (pss_cons (ps_ret (pe_make mk_Frac_init_I G_Frac_init_I (hr.mono (by decide)) (by rfl) m_Frac_init_I bd_Frac_init_I vd_Frac_init_I pass0 (pa_cons (pe_call G_law_draw (hr.mono (by decide)) (by rfl) m_law_draw k_law_draw b_law_draw .nil pass0 (pa_cons (pv 0) (pa_cons pe_int pa_nil))) pa_nil))) pss_nil) pss_nil) (pss_cons (ps_if (pt_cmpR op_eq (pv 2) pe_int (nomark _)) (pss_cons (ps_ret (pe_make mk_Frac_init_I G_Frac_init_I (hr.mono (by decide)) (by rfl) m_Frac_init_I b_Frac_init_I .nil pass0 (pa_cons (pe_ix (ixK (K := K) (r := rIxT) rfl ix_tup) (pv 1) pe_int (fun _ _ => rfl)) (pa_cons (pe_ix (ixK (K := K) (r := rIxT) rfl ix_tup) (pv 1) pe_int (fun _ _ => rfl)) pa_nil)))) pss_nil) pss_nil) (pss_cons (ps_ret pe_str) pss_nil))))))))),
    (xb_set (ev_eq (ev_callM (j := 0) (box, (9 : Int)) rfl rfl (ea_cons (ev_eq ev_int rfl) ea_nil) rfl rfl rfl (okh.1) rfl rfl rfl) rfl) rfl (fun shape_277 h_278 => (xb_reb (fun bx_279 => [.m mBox bx_279, .d (eP eI eI) first, .d eI shape_277]) ((f_law_draw box (9 : Int)).2) (fun bx_279 h_280 => (xb_ifR (et_eq (et_test (ev_IB (ev_var (i := 2) rfl) ev_int)) rfl) (fun hc_281 => (xb_retS (ev_eq (ev_cv (f := (eD (eFrac cFrac))) (u := (Py.bl (F := Frac))) (ev_eqI (ev_var (i := 2) rfl) ev_int)) rfl) (.inr rfl) rfl)) (fun hc_281 => (xb_ifR (et_eq (et_test (ev_eqI (ev_var (i := 2) rfl) ev_int)) rfl) (fun hc_282 => (xb_retS (ev_eq (ev_cv (f := (eD (eFrac cFrac))) (u := (fun _ : Unit => (Py.non : Py Frac))) ev_non) rfl) (.inr rfl) rfl)) (fun hc_282 => (xb_ifR (et_eq (et_test (ev_eqI (ev_var (i := 2) rfl) ev_int)) rfl) (fun hc_283 => (xb_retS (ev_eq (ev_cv (f := (eD (eFrac cFrac))) (u := (Py.str (F := Frac))) (ev_strI (ev_callM (j := 0) (bx_279, (100 : Int)) rfl rfl (ea_cons (ev_eq ev_int rfl) ea_nil) rfl rfl rfl ((((((okh.2 shape_277 h_278) bx_279 h_280) hc_281) hc_282).1 hc_283).1) rfl rfl rfl) ((((((okh.2 shape_277 h_278) bx_279 h_280) hc_281) hc_282).1 hc_283).2))) rfl) (.inr rfl) rfl)) (fun hc_283 => (xb_ifR (et_eq (et_test (ev_eqI (ev_var (i := 2) rfl) ev_int)) rfl) (fun hc_286 => (xb_retS (ev_eq (ev_cv (f := (eD (eFrac cFrac))) (u := (Py.lst (F := Frac))) (EvN.d (en_lst (eas_cons (ev_cv (f := (eD (eFrac cFrac))) (u := (Py.int (F := Frac))) (ev_fst (ev_var (i := 1) rfl))) (eas_cons (ev_cv (f := (eD (eFrac cFrac))) (u := (Py.lst (F := Frac))) (EvN.d (en_lst (eas_cons (ev_cv (f := (eD (eFrac cFrac))) (u := (Py.int (F := Frac))) (ev_snd (ev_var (i := 1) rfl))) (eas_nil (e := (eD (eFrac cFrac))))) (by show 1 ≤ 100000; decide)))) (eas_nil (e := (eD (eFrac cFrac)))))) (by show 2 ≤ 100000; decide)))) rfl) (.inr rfl) rfl)) (fun hc_286 => (xb_ifR (et_eq (et_test (ev_eqI (ev_var (i := 2) rfl) ev_int)) rfl) (fun hc_287 => (xb_retS (ev_eq (ev_cv (f := (eD (eFrac cFrac))) (u := (Py.tup (F := Frac))) (ev_tup (eas_cons (ev_cv (f := (eD (eFrac cFrac))) (u := (Py.int (F := Frac))) (ev_fst (ev_var (i := 1) rfl))) (eas_cons (ev_cv (f := (eD (eFrac cFrac))) (u := (Py.int (F := Frac))) (ev_snd (ev_var (i := 1) rfl))) (eas_nil (e := (eD (eFrac cFrac)))))) (by show 2 ≤ 100000; decide))) rfl) (.inr rfl) rfl)) (fun hc_287 => (xb_ifR (et_eq (et_test (ev_eqI (ev_var (i := 2) rfl) ev_int)) rfl) (fun hc_288 => (xb_retS (ev_eq (ev_cv (f := (eD (eFrac cFrac))) (u := (Py.obj (F := Frac))) (ev_dflt (ev_make (fl := flFrac) ((f_law_draw bx_279 (5 : Int)).1, (1 : Int)) (ea_dfltI (ea_cons (ev_eq (ev_callM (j := 0) (bx_279, (5 : Int)) rfl rfl (ea_cons (ev_eq ev_int rfl) ea_nil) rfl rfl rfl (((((((((okh.2 shape_277 h_278) bx_279 h_280) hc_281) hc_282).2 hc_283) hc_286) hc_287).1 hc_288).1) rfl rfl rfl) rfl) ea_nil)) rfl (((((((((okh.2 shape_277 h_278) bx_279 h_280) hc_281) hc_282).2 hc_283) hc_286) hc_287).1 hc_288).2) (fun _ _ h => h) rfl rfl))) rfl) (.inr rfl) rfl)) (fun hc_288 => (xb_ifR (et_eq (et_test (ev_eqI (ev_var (i := 2) rfl) ev_int)) rfl) (fun hc_291 => (xb_retS (ev_eq (ev_cv (f := (eD (eFrac cFrac))) (u := (Py.obj (F := Frac))) (ev_make (fl := flFrac) (first.1, first.2) (ea_cons (ev_eq (ev_fst (ev_var (i := 1) rfl)) rfl) (ea_cons (ev_eq (ev_snd (ev_var (i := 1) rfl)) rfl) ea_nil)) rfl ((((((((((okh.2 shape_277 h_278) bx_279 h_280) hc_281) hc_282).2 hc_283) hc_286) hc_287).2 hc_288) hc_291)) (fun _ _ h => h) rfl rfl)) rfl) (.inr rfl) rfl)) (fun hc_291 => (xb_retS (ev_eq (ev_cv (f := (eD (eFrac cFrac))) (u := (Py.str (F := Frac))) ev_str) rfl) (.inr rfl) rfl)))))))))))))))))))⟩
/-! ### _law_kind@0 -/
abbrev N_law_kind : List Str := ["value", "part"]
theorem sc_law_kind : FnScope N_law_kind ["value"] (defScope s_law_kind) := ⟨rfl, rfl, rfl, by decide +kernel, rfl, by decide +kernel, by decide +kernel⟩
def o_law_kind_0 (value : (Py Frac)) : Out Empty Empty (List (Py Frac)) :=
  (bif ((value).sel false false false false true false false) then (.rt [((Py.str (F := Frac)) ("fraction" : Str)), ((Py.int (F := Frac)) ((value).o.num)), ((Py.int (F := Frac)) ((value).o.den))]) else (bif ((value).sel false true false false false false false) then (.rt [((Py.str (F := Frac)) ("truth" : Str)), value]) else (bif ((value).sel false true true false false false false) then (.rt [((Py.str (F := Frac)) ("integer" : Str)), value]) else (bif ((value).sel false false false true false false false) then (.rt [((Py.str (F := Frac)) ("string" : Str)), value]) else (bif ((value).isN) then (.rt [((Py.str (F := Frac)) ("none" : Str))]) else (bif ((value).sel false false false false false true false) then (.rt [((Py.str (F := Frac)) ("list" : Str)), ((Py.lst (F := Frac)) (((((value).cut none (some (3 : Int)))).q).map fun part_303 => ((Py.tup (F := Frac)) (default : (List (Py Frac)))))), ((Py.int (F := Frac)) (((value).q).length : Int))]) else (bif ((value).sel false false false false false false true) then (.rt [((Py.str (F := Frac)) ("tuple" : Str)), ((Py.lst (F := Frac)) (((((value).cut none (some (3 : Int)))).q).map fun part_311 => ((Py.tup (F := Frac)) (default : (List (Py Frac)))))), ((Py.int (F := Frac)) (((value).q).length : Int))]) else (.rt [((Py.str (F := Frac)) ("other" : Str))]))))))))
@[irreducible] def f_law_kind_0 (value : (Py Frac)) : (List (Py Frac)) := (o_law_kind_0 value).get
theorem f_law_kind_0_eq (value : (Py Frac)) : f_law_kind_0 value = (o_law_kind_0 value).get := by delta f_law_kind_0; rfl
def ok_law_kind_0 (value : (Py Frac)) : Prop :=
  (∀ (hc_293 : (((value).sel false false false false true false false)) = true), ((value).isO = true) ∧ ((value).isO = true)) ∧ (∀ (hc_293 : (((value).sel false false false false true false false)) = false), (∀ (hc_296 : (((value).sel false true false false false false false)) = false), (∀ (hc_297 : (((value).sel false true true false false false false)) = false), (∀ (hc_298 : (((value).sel false false false true false false false)) = false), (∀ (hc_299 : (((value).isN)) = false), (∀ (hc_300 : (((value).sel false false false false false true false)) = true), ((value).isQ = true) ∧ ((((value).cut none (some (3 : Int)))).isQ = true) ∧ (∀ (part_303 : (Py Frac)) (hx_304 : part_303 ∈ (((value).cut none (some (3 : Int)))).q), (False)) ∧ ((value).isQ = true)) ∧ (∀ (hc_300 : (((value).sel false false false false false true false)) = false), (∀ (hc_308 : (((value).sel false false false false false false true)) = true), ((value).isQ = true) ∧ ((((value).cut none (some (3 : Int)))).isQ = true) ∧ (∀ (part_311 : (Py Frac)) (hx_312 : part_311 ∈ (((value).cut none (some (3 : Int)))).q), (False)) ∧ ((value).isQ = true))))))))
section
variable {K : PySem.W.Frag} {cFrac : Addr} {cInvalidFraction : Addr}
abbrev sp_law_kind_0 (cFrac : Addr) : Sp := spF (K := K) (ι := (Py Frac)) (fun x => [.d (eD (eFrac cFrac)) x]) (fun x => ok_law_kind_0 x) (retD (eT (eD (eFrac cFrac)))) (fun x => f_law_kind_0 x)
end
set_option maxHeartbeats 4000000 in
theorem at_law_kind_0 {P : Program} {w : World} {K : PySem.W.Frag} {mg : Str → Option Value} {base : Heap} {cFrac : Addr} {cInvalidFraction : Addr} (T : Txt K mg cFrac cInvalidFraction) : FnAt P w K mg base "_law_kind" 1 ["value"] (sp_law_kind_0 cFrac (K := K)) := by
  obtain ⟨f, fd, F, mg_, bd_⟩ := T.d_law_kind
  refine ⟨⟨f, fd, fn_okG (fun x => f_law_kind_0_eq x) <| fn_okE (o := fun x : (Py Frac) => o_law_kind_0 x) (k := 0) F sc_law_kind (fun x => rfl) (fun x i s h => noM_tail (by simp [Slot.isM]) h) (fun cdv A outer s H EX hr value hp => ?_), mg_, F.kp, bd_⟩⟩
  have okh : ok_law_kind_0 value := hp
  exact ⟨_, _, rfl,
    (pss_cons (ps_if (pt_val (pe_callB call_isi (by rfl) T.b_isinstance (by decide +kernel) (pa_cons (pv 0) (pa_cons (pe_glob (v := .ref cFrac) (by rfl) T.mg_Frac rfl) pa_nil)))) (pss_cons (ps_ret (pe_tup (pa_cons pe_str (pa_cons (pe_fld (pv 0) rfl) (pa_cons (pe_fld (pv 0) rfl) pa_nil))))) pss_nil) pss_nil) (pss_cons (ps_if (pt_val (pe_callB call_isi (by rfl) T.b_isinstance (by decide +kernel) (pa_cons (pv 0) (pa_cons (pe_bltn (v := .ty "bool") (by rfl) T.b_bool (by decide +kernel) rfl) pa_nil)))) (pss_cons (ps_ret (pe_tup (pa_cons pe_str (pa_cons (pv 0) pa_nil)))) pss_nil) pss_nil) (pss_cons (ps_if (pt_val (pe_callB call_isi (by rfl) T.b_isinstance (by decide +kernel) (pa_cons (pv 0) (pa_cons (pe_bltn (v := .ty "int") (by rfl) T.b_int (by decide +kernel) rfl) pa_nil)))) (pss_cons (ps_ret (pe_tup (pa_cons pe_str (pa_cons (pv 0) pa_nil)))) pss_nil) pss_nil) (pss_cons (ps_if (pt_val (pe_callB call_isi (by rfl) T.b_isinstance (by decide +kernel) (pa_cons (pv 0) (pa_cons (pe_bltn (v := .ty "str") (by rfl) T.b_str (by decide +kernel) rfl) pa_nil)))) (pss_cons (ps_ret (pe_tup (pa_cons pe_str (pa_cons (pv 0) pa_nil)))) pss_nil) pss_nil) (pss_cons (ps_if (pt_cmpR op_isN (pv 0) pe_non (nomark _)) (pss_cons (ps_ret (pe_tup (pa_cons pe_str pa_nil))) pss_nil) pss_nil) (pss_cons (ps_if (pt_val (pe_callB call_isi (by rfl) T.b_isinstance (by decide +kernel) (pa_cons (pv 0) (pa_cons (pe_bltn (v := .ty "list") (by rfl) T.b_list (by decide +kernel) rfl) pa_nil)))) (pss_cons (ps_ret (pe_tup (pa_cons pe_str (pa_cons (pe_lc (own := [("part", 1)]) (g := gName 1) (tt := tYes) rfl sc_law_kind.nd (pi_seq (pe_slice (slK (K := K) rfl) (pv 0) po_none (po_some pe_int))) (blkOk_by (N := N_law_kind) (sc := defScope s_law_kind) (by decide +kernel)) (fun _ _ _ _ _ => (pg_name (i := 1) sc_law_kind.nd rfl (by first | exact Or.inl rfl | exact Or.inr rfl))) (fun _ _ _ _ _ => pts_nil) (fun _ _ _ _ _ => pe_never)) (pa_cons (pe_callB call_len_seq (by rfl) T.b_len (by decide +kernel) (pa_cons (pv 0) pa_nil)) pa_nil))))) pss_nil) pss_nil) (pss_cons (ps_if (pt_val (pe_callB call_isi (by rfl) T.b_isinstance (by decide +kernel) (pa_cons (pv 0) (pa_cons (pe_bltn (v := .ty "tuple") (by rfl) T.b_tuple (by decide +kernel) rfl) pa_nil)))) (pss_cons (ps_ret (pe_tup (pa_cons pe_str (pa_cons (pe_lc (own := [("part", 1)]) (g := gName 1) (tt := tYes) rfl sc_law_kind.nd (pi_seq (pe_slice (slK (K := K) rfl) (pv 0) po_none (po_some pe_int))) (blkOk_by (N := N_law_kind) (sc := defScope s_law_kind) (by decide +kernel)) (fun _ _ _ _ _ => (pg_name (i := 1) sc_law_kind.nd rfl (by first | exact Or.inl rfl | exact Or.inr rfl))) (fun _ _ _ _ _ => pts_nil) (fun _ _ _ _ _ => pe_never)) (pa_cons (pe_callB call_len_seq (by rfl) T.b_len (by decide +kernel) (pa_cons (pv 0) pa_nil)) pa_nil))))) pss_nil) pss_nil) (pss_cons (ps_ret (pe_tup (pa_cons pe_str pa_nil))) pss_nil)))))))),
    (xb_ifR (et_eq (et_B (ev_isiD T.in_Frac (ev_var (i := 0) rfl) (.own _) T.ki_NoneType_Frac T.ki_bool_Frac T.ki_int_Frac T.ki_str_Frac T.ki_Frac_Frac T.ki_list_Frac T.ki_tuple_Frac)) rfl) (fun hc_293 => (xb_retS (ev_eq (ev_tup (eas_cons (ev_cv (f := (eD (eFrac cFrac))) (u := (Py.str (F := Frac))) ev_str) (eas_cons (ev_cv (f := (eD (eFrac cFrac))) (u := (Py.int (F := Frac))) (ev_fld (F := ⟨eI, Frac.num⟩) (ev_dO (ev_var (i := 0) rfl) ((okh.1 hc_293).1)) 0 rfl flFrac_nd T.cl_Frac T.na_Frac_num)) (eas_cons (ev_cv (f := (eD (eFrac cFrac))) (u := (Py.int (F := Frac))) (ev_fld (F := ⟨eI, Frac.den⟩) (ev_dO (ev_var (i := 0) rfl) ((okh.1 hc_293).2)) 1 rfl flFrac_nd T.cl_Frac T.na_Frac_den)) (eas_nil (e := (eD (eFrac cFrac))))))) (by show 3 ≤ 100000; decide)) rfl) (.inl rfl) rfl)) (fun hc_293 => (xb_ifR (et_eq (et_B (ev_isiD T.in_Frac (ev_var (i := 0) rfl) (.ty _) (kit_ty (by decide +kernel)) (kit_ty (by decide +kernel)) (kit_ty (by decide +kernel)) (kit_ty (by decide +kernel)) T.ki_Frac_bool (kit_ty (by decide +kernel)) (kit_ty (by decide +kernel)))) rfl) (fun hc_296 => (xb_retS (ev_eq (ev_tup (eas_cons (ev_cv (f := (eD (eFrac cFrac))) (u := (Py.str (F := Frac))) ev_str) (eas_cons (ev_var (i := 0) rfl) (eas_nil (e := (eD (eFrac cFrac)))))) (by show 2 ≤ 100000; decide)) rfl) (.inl rfl) rfl)) (fun hc_296 => (xb_ifR (et_eq (et_B (ev_isiD T.in_Frac (ev_var (i := 0) rfl) (.ty _) (kit_ty (by decide +kernel)) (kit_ty (by decide +kernel)) (kit_ty (by decide +kernel)) (kit_ty (by decide +kernel)) T.ki_Frac_int (kit_ty (by decide +kernel)) (kit_ty (by decide +kernel)))) rfl) (fun hc_297 => (xb_retS (ev_eq (ev_tup (eas_cons (ev_cv (f := (eD (eFrac cFrac))) (u := (Py.str (F := Frac))) ev_str) (eas_cons (ev_var (i := 0) rfl) (eas_nil (e := (eD (eFrac cFrac)))))) (by show 2 ≤ 100000; decide)) rfl) (.inl rfl) rfl)) (fun hc_297 => (xb_ifR (et_eq (et_B (ev_isiD T.in_Frac (ev_var (i := 0) rfl) (.ty _) (kit_ty (by decide +kernel)) (kit_ty (by decide +kernel)) (kit_ty (by decide +kernel)) (kit_ty (by decide +kernel)) T.ki_Frac_str (kit_ty (by decide +kernel)) (kit_ty (by decide +kernel)))) rfl) (fun hc_298 => (xb_retS (ev_eq (ev_tup (eas_cons (ev_cv (f := (eD (eFrac cFrac))) (u := (Py.str (F := Frac))) ev_str) (eas_cons (ev_var (i := 0) rfl) (eas_nil (e := (eD (eFrac cFrac)))))) (by show 2 ≤ 100000; decide)) rfl) (.inl rfl) rfl)) (fun hc_298 => (xb_ifR (et_eq (et_test (ev_isD (ev_var (i := 0) rfl) rfl)) rfl) (fun hc_299 => (xb_retS (ev_eq (ev_tup (eas_cons (ev_cv (f := (eD (eFrac cFrac))) (u := (Py.str (F := Frac))) ev_str) (eas_nil (e := (eD (eFrac cFrac))))) (by show 1 ≤ 100000; decide)) rfl) (.inl rfl) rfl)) (fun hc_299 => (xb_ifR (et_eq (et_B (ev_isiD T.in_Frac (ev_var (i := 0) rfl) (.ty _) (kit_ty (by decide +kernel)) (kit_ty (by decide +kernel)) (kit_ty (by decide +kernel)) (kit_ty (by decide +kernel)) T.ki_Frac_list (kit_ty (by decide +kernel)) (kit_ty (by decide +kernel)))) rfl) (fun hc_300 => (xb_retS (ev_eq (ev_tup (eas_cons (ev_cv (f := (eD (eFrac cFrac))) (u := (Py.str (F := Frac))) ev_str) (eas_cons (ev_cv (f := (eD (eFrac cFrac))) (u := (Py.lst (F := Frac))) (EvN.d (en_lcY (v := fun part_303 : (Py Frac) => ((Py.tup (F := Frac)) (default : (List (Py Frac))))) (ei_seq (ev_dQ (ev_slD (ev_var (i := 0) rfl) eo_none (eo_some ev_int) (((((((okh.2 hc_293) hc_296) hc_297) hc_298) hc_299).1 hc_300).1)) (((((((okh.2 hc_293) hc_296) hc_297) hc_298) hc_299).1 hc_300).2.1))) eg_name (by decide) (noM_cons rfl noM_nil) (fun part_303 hx_304 => (ev_eq (ev_cv (f := (eD (eFrac cFrac))) (u := (Py.tup (F := Frac))) (ev_never (e := (eT (eD (eFrac cFrac)))) ((((((((okh.2 hc_293) hc_296) hc_297) hc_298) hc_299).1 hc_300).2.2.1 part_303 hx_304)))) rfl))))) (eas_cons (ev_cv (f := (eD (eFrac cFrac))) (u := (Py.int (F := Frac))) (ev_lenQ (ev_dQ (ev_var (i := 0) rfl) (((((((okh.2 hc_293) hc_296) hc_297) hc_298) hc_299).1 hc_300).2.2.2)))) (eas_nil (e := (eD (eFrac cFrac))))))) (by show 3 ≤ 100000; decide)) rfl) (.inl rfl) rfl)) (fun hc_300 => (xb_ifR (et_eq (et_B (ev_isiD T.in_Frac (ev_var (i := 0) rfl) (.ty _) (kit_ty (by decide +kernel)) (kit_ty (by decide +kernel)) (kit_ty (by decide +kernel)) (kit_ty (by decide +kernel)) T.ki_Frac_tuple (kit_ty (by decide +kernel)) (kit_ty (by decide +kernel)))) rfl) (fun hc_308 => (xb_retS (ev_eq (ev_tup (eas_cons (ev_cv (f := (eD (eFrac cFrac))) (u := (Py.str (F := Frac))) ev_str) (eas_cons (ev_cv (f := (eD (eFrac cFrac))) (u := (Py.lst (F := Frac))) (EvN.d (en_lcY (v := fun part_311 : (Py Frac) => ((Py.tup (F := Frac)) (default : (List (Py Frac))))) (ei_seq (ev_dQ (ev_slD (ev_var (i := 0) rfl) eo_none (eo_some ev_int) ((((((((okh.2 hc_293) hc_296) hc_297) hc_298) hc_299).2 hc_300) hc_308).1)) ((((((((okh.2 hc_293) hc_296) hc_297) hc_298) hc_299).2 hc_300) hc_308).2.1))) eg_name (by decide) (noM_cons rfl noM_nil) (fun part_311 hx_312 => (ev_eq (ev_cv (f := (eD (eFrac cFrac))) (u := (Py.tup (F := Frac))) (ev_never (e := (eT (eD (eFrac cFrac)))) (((((((((okh.2 hc_293) hc_296) hc_297) hc_298) hc_299).2 hc_300) hc_308).2.2.1 part_311 hx_312)))) rfl))))) (eas_cons (ev_cv (f := (eD (eFrac cFrac))) (u := (Py.int (F := Frac))) (ev_lenQ (ev_dQ (ev_var (i := 0) rfl) ((((((((okh.2 hc_293) hc_296) hc_297) hc_298) hc_299).2 hc_300) hc_308).2.2.2)))) (eas_nil (e := (eD (eFrac cFrac))))))) (by show 3 ≤ 100000; decide)) rfl) (.inl rfl) rfl)) (fun hc_308 => (xb_retS (ev_eq (ev_tup (eas_cons (ev_cv (f := (eD (eFrac cFrac))) (u := (Py.str (F := Frac))) ev_str) (eas_nil (e := (eD (eFrac cFrac))))) (by show 1 ≤ 100000; decide)) rfl) (.inl rfl) rfl)))))))))))))))⟩
set_option maxHeartbeats 4000000 in
theorem atH_law_kind_0 {P : Program} {w : World} {K : PySem.W.Frag} {mg : Str → Option Value} {base : Heap} {cFrac : Addr} {cInvalidFraction : Addr} (T : Txt K mg cFrac cInvalidFraction) : FnAtH P w K mg base "_law_kind" 1 ["value"] (sp_law_kind_0 cFrac (K := K)) := by
  obtain ⟨f, fd, F, mg_, bd_⟩ := T.d_law_kind
  refine ⟨⟨f, fd, fn_okH (k := 0) (fl := fun _ t => nomatch t) (o := fun x : (Py Frac) => o_law_kind_0 x) (E := fun _ z => nomatch z) F sc_law_kind (fun x => f_law_kind_0_eq x) (fun x => rfl) (fun x i s h => noM_tail (by simp [Slot.isM]) h) (fun _ t => nomatch t) (fun cdv A outer s H EX p hot hr x hp => ?_), mg_, F.kp, bd_⟩⟩
  revert hp; revert x; intro value hp
  have okh : ok_law_kind_0 value := hp
  exact ⟨_, _, rfl,
    (pss_cons (ps_if (pt_val (pe_callB call_isi (by rfl) T.b_isinstance (by decide +kernel) (pa_cons (pv 0) (pa_cons (pe_glob (v := .ref cFrac) (by rfl) T.mg_Frac rfl) pa_nil)))) (pss_cons (ps_ret (pe_tup (pa_cons pe_str (pa_cons (pe_fld (pv 0) rfl) (pa_cons (pe_fld (pv 0) rfl) pa_nil))))) pss_nil) pss_nil) (pss_cons (ps_if (pt_val (pe_callB call_isi (by rfl) T.b_isinstance (by decide +kernel) (pa_cons (pv 0) (pa_cons (pe_bltn (v := .ty "bool") (by rfl) T.b_bool (by decide +kernel) rfl) pa_nil)))) (pss_cons (ps_ret (pe_tup (pa_cons pe_str (pa_cons (pv 0) pa_nil)))) pss_nil) pss_nil) (pss_cons (ps_if (pt_val (pe_callB call_isi (by rfl) T.b_isinstance (by decide +kernel) (pa_cons (pv 0) (pa_cons (pe_bltn (v := .ty "int") (by rfl) T.b_int (by decide +kernel) rfl) pa_nil)))) (pss_cons (ps_ret (pe_tup (pa_cons pe_str (pa_cons (pv 0) pa_nil)))) pss_nil) pss_nil) (pss_cons (ps_if (pt_val (pe_callB call_isi (by rfl) T.b_isinstance (by decide +kernel) (pa_cons (pv 0) (pa_cons (pe_bltn (v := .ty "str") (by rfl) T.b_str (by decide +kernel) rfl) pa_nil)))) (pss_cons (ps_ret (pe_tup (pa_cons pe_str (pa_cons (pv 0) pa_nil)))) pss_nil) pss_nil) (pss_cons (ps_if (pt_cmpR op_isN (pv 0) pe_non (nomark _)) (pss_cons (ps_ret (pe_tup (pa_cons pe_str pa_nil))) pss_nil) pss_nil) (pss_cons (ps_if (pt_val (pe_callB call_isi (by rfl) T.b_isinstance (by decide +kernel) (pa_cons (pv 0) (pa_cons (pe_bltn (v := .ty "list") (by rfl) T.b_list (by decide +kernel) rfl) pa_nil)))) (pss_cons (ps_ret (pe_tup (pa_cons pe_str (pa_cons (FLH.pe_lcP (own := [("part", 1)]) (g := gName 1) (tt := tYes) (hotX hot) sc_law_kind.nd (FLH.pi_seqP (pe_slice (slK (K := K) rfl) (pv 0) po_none (po_some pe_int))) (blkOk_by (N := N_law_kind) (sc := defScope s_law_kind) (by decide +kernel)) (fun _ _ _ _ _ => (pg_name (i := 1) sc_law_kind.nd rfl (by first | exact Or.inl rfl | exact Or.inr rfl))) (fun _ _ _ _ _ => pts_nil) (fun _ _ _ _ _ => pe_never)) (pa_cons (pe_callB call_len_seq (by rfl) T.b_len (by decide +kernel) (pa_cons (pv 0) pa_nil)) pa_nil))))) pss_nil) pss_nil) (pss_cons (ps_if (pt_val (pe_callB call_isi (by rfl) T.b_isinstance (by decide +kernel) (pa_cons (pv 0) (pa_cons (pe_bltn (v := .ty "tuple") (by rfl) T.b_tuple (by decide +kernel) rfl) pa_nil)))) (pss_cons (ps_ret (pe_tup (pa_cons pe_str (pa_cons (FLH.pe_lcP (own := [("part", 1)]) (g := gName 1) (tt := tYes) (hotX hot) sc_law_kind.nd (FLH.pi_seqP (pe_slice (slK (K := K) rfl) (pv 0) po_none (po_some pe_int))) (blkOk_by (N := N_law_kind) (sc := defScope s_law_kind) (by decide +kernel)) (fun _ _ _ _ _ => (pg_name (i := 1) sc_law_kind.nd rfl (by first | exact Or.inl rfl | exact Or.inr rfl))) (fun _ _ _ _ _ => pts_nil) (fun _ _ _ _ _ => pe_never)) (pa_cons (pe_callB call_len_seq (by rfl) T.b_len (by decide +kernel) (pa_cons (pv 0) pa_nil)) pa_nil))))) pss_nil) pss_nil) (pss_cons (ps_ret (pe_tup (pa_cons pe_str pa_nil))) pss_nil)))))))),
    (xb_ifR (et_eq (et_B (ev_isiD T.in_Frac (ev_var (i := 0) rfl) (.own _) T.ki_NoneType_Frac T.ki_bool_Frac T.ki_int_Frac T.ki_str_Frac T.ki_Frac_Frac T.ki_list_Frac T.ki_tuple_Frac)) rfl) (fun hc_293 => (xb_retS (ev_eq (ev_tup (eas_cons (ev_cv (f := (eD (eFrac cFrac))) (u := (Py.str (F := Frac))) ev_str) (eas_cons (ev_cv (f := (eD (eFrac cFrac))) (u := (Py.int (F := Frac))) (ev_fld (F := ⟨eI, Frac.num⟩) (ev_dO (ev_var (i := 0) rfl) ((okh.1 hc_293).1)) 0 rfl flFrac_nd T.cl_Frac T.na_Frac_num)) (eas_cons (ev_cv (f := (eD (eFrac cFrac))) (u := (Py.int (F := Frac))) (ev_fld (F := ⟨eI, Frac.den⟩) (ev_dO (ev_var (i := 0) rfl) ((okh.1 hc_293).2)) 1 rfl flFrac_nd T.cl_Frac T.na_Frac_den)) (eas_nil (e := (eD (eFrac cFrac))))))) (by show 3 ≤ 100000; decide)) rfl) (.inl rfl) rfl)) (fun hc_293 => (xb_ifR (et_eq (et_B (ev_isiD T.in_Frac (ev_var (i := 0) rfl) (.ty _) (kit_ty (by decide +kernel)) (kit_ty (by decide +kernel)) (kit_ty (by decide +kernel)) (kit_ty (by decide +kernel)) T.ki_Frac_bool (kit_ty (by decide +kernel)) (kit_ty (by decide +kernel)))) rfl) (fun hc_296 => (xb_retS (ev_eq (ev_tup (eas_cons (ev_cv (f := (eD (eFrac cFrac))) (u := (Py.str (F := Frac))) ev_str) (eas_cons (ev_var (i := 0) rfl) (eas_nil (e := (eD (eFrac cFrac)))))) (by show 2 ≤ 100000; decide)) rfl) (.inl rfl) rfl)) (fun hc_296 => (xb_ifR (et_eq (et_B (ev_isiD T.in_Frac (ev_var (i := 0) rfl) (.ty _) (kit_ty (by decide +kernel)) (kit_ty (by decide +kernel)) (kit_ty (by decide +kernel)) (kit_ty (by decide +kernel)) T.ki_Frac_int (kit_ty (by decide +kernel)) (kit_ty (by decide +kernel)))) rfl) (fun hc_297 => (xb_retS (ev_eq (ev_tup (eas_cons (ev_cv (f := (eD (eFrac cFrac))) (u := (Py.str (F := Frac))) ev_str) (eas_cons (ev_var (i := 0) rfl) (eas_nil (e := (eD (eFrac cFrac)))))) (by show 2 ≤ 100000; decide)) rfl) (.inl rfl) rfl)) (fun hc_297 => (xb_ifR (et_eq (et_B (ev_isiD T.in_Frac (ev_var (i := 0) rfl) (.ty _) (kit_ty (by decide +kernel)) (kit_ty (by decide +kernel)) (kit_ty (by decide +kernel)) (kit_ty (by decide +kernel)) T.ki_Frac_str (kit_ty (by decide +kernel)) (kit_ty (by decide +kernel)))) rfl) (fun hc_298 => (xb_retS (ev_eq (ev_tup (eas_cons (ev_cv (f := (eD (eFrac cFrac))) (u := (Py.str (F := Frac))) ev_str) (eas_cons (ev_var (i := 0) rfl) (eas_nil (e := (eD (eFrac cFrac)))))) (by show 2 ≤ 100000; decide)) rfl) (.inl rfl) rfl)) (fun hc_298 => (xb_ifR (et_eq (et_test (ev_isD (ev_var (i := 0) rfl) rfl)) rfl) (fun hc_299 => (xb_retS (ev_eq (ev_tup (eas_cons (ev_cv (f := (eD (eFrac cFrac))) (u := (Py.str (F := Frac))) ev_str) (eas_nil (e := (eD (eFrac cFrac))))) (by show 1 ≤ 100000; decide)) rfl) (.inl rfl) rfl)) (fun hc_299 => (xb_ifR (et_eq (et_B (ev_isiD T.in_Frac (ev_var (i := 0) rfl) (.ty _) (kit_ty (by decide +kernel)) (kit_ty (by decide +kernel)) (kit_ty (by decide +kernel)) (kit_ty (by decide +kernel)) T.ki_Frac_list (kit_ty (by decide +kernel)) (kit_ty (by decide +kernel)))) rfl) (fun hc_300 => (xb_retS (ev_eq (ev_tup (eas_cons (ev_cv (f := (eD (eFrac cFrac))) (u := (Py.str (F := Frac))) ev_str) (eas_cons (ev_cv (f := (eD (eFrac cFrac))) (u := (Py.lst (F := Frac))) (EvN.d (en_lcY (v := fun part_303 : (Py Frac) => ((Py.tup (F := Frac)) (default : (List (Py Frac))))) (ei_seq (ev_dQ (ev_slD (ev_var (i := 0) rfl) eo_none (eo_some ev_int) (((((((okh.2 hc_293) hc_296) hc_297) hc_298) hc_299).1 hc_300).1)) (((((((okh.2 hc_293) hc_296) hc_297) hc_298) hc_299).1 hc_300).2.1))) eg_name (by decide) (noM_cons rfl noM_nil) (fun part_303 hx_304 => (ev_eq (ev_cv (f := (eD (eFrac cFrac))) (u := (Py.tup (F := Frac))) (ev_never (e := (eT (eD (eFrac cFrac)))) ((((((((okh.2 hc_293) hc_296) hc_297) hc_298) hc_299).1 hc_300).2.2.1 part_303 hx_304)))) rfl))))) (eas_cons (ev_cv (f := (eD (eFrac cFrac))) (u := (Py.int (F := Frac))) (ev_lenQ (ev_dQ (ev_var (i := 0) rfl) (((((((okh.2 hc_293) hc_296) hc_297) hc_298) hc_299).1 hc_300).2.2.2)))) (eas_nil (e := (eD (eFrac cFrac))))))) (by show 3 ≤ 100000; decide)) rfl) (.inl rfl) rfl)) (fun hc_300 => (xb_ifR (et_eq (et_B (ev_isiD T.in_Frac (ev_var (i := 0) rfl) (.ty _) (kit_ty (by decide +kernel)) (kit_ty (by decide +kernel)) (kit_ty (by decide +kernel)) (kit_ty (by decide +kernel)) T.ki_Frac_tuple (kit_ty (by decide +kernel)) (kit_ty (by decide +kernel)))) rfl) (fun hc_308 => (xb_retS (ev_eq (ev_tup (eas_cons (ev_cv (f := (eD (eFrac cFrac))) (u := (Py.str (F := Frac))) ev_str) (eas_cons (ev_cv (f := (eD (eFrac cFrac))) (u := (Py.lst (F := Frac))) (EvN.d (en_lcY (v := fun part_311 : (Py Frac) => ((Py.tup (F := Frac)) (default : (List (Py Frac))))) (ei_seq (ev_dQ (ev_slD (ev_var (i := 0) rfl) eo_none (eo_some ev_int) ((((((((okh.2 hc_293) hc_296) hc_297) hc_298) hc_299).2 hc_300) hc_308).1)) ((((((((okh.2 hc_293) hc_296) hc_297) hc_298) hc_299).2 hc_300) hc_308).2.1))) eg_name (by decide) (noM_cons rfl noM_nil) (fun part_311 hx_312 => (ev_eq (ev_cv (f := (eD (eFrac cFrac))) (u := (Py.tup (F := Frac))) (ev_never (e := (eT (eD (eFrac cFrac)))) (((((((((okh.2 hc_293) hc_296) hc_297) hc_298) hc_299).2 hc_300) hc_308).2.2.1 part_311 hx_312)))) rfl))))) (eas_cons (ev_cv (f := (eD (eFrac cFrac))) (u := (Py.int (F := Frac))) (ev_lenQ (ev_dQ (ev_var (i := 0) rfl) ((((((((okh.2 hc_293) hc_296) hc_297) hc_298) hc_299).2 hc_300) hc_308).2.2.2)))) (eas_nil (e := (eD (eFrac cFrac))))))) (by show 3 ≤ 100000; decide)) rfl) (.inl rfl) rfl)) (fun hc_308 => (xb_retS (ev_eq (ev_tup (eas_cons (ev_cv (f := (eD (eFrac cFrac))) (u := (Py.str (F := Frac))) ev_str) (eas_nil (e := (eD (eFrac cFrac))))) (by show 1 ≤ 100000; decide)) rfl) (.inl rfl) rfl)))))))))))))))⟩
/-! ### _law_kind@1 -/
def o_law_kind_1 (value : (Py Frac)) : Out Empty Empty (List (Py Frac)) :=
  (bif ((value).sel false false false false true false false) then (.rt [((Py.str (F := Frac)) ("fraction" : Str)), ((Py.int (F := Frac)) ((value).o.num)), ((Py.int (F := Frac)) ((value).o.den))]) else (bif ((value).sel false true false false false false false) then (.rt [((Py.str (F := Frac)) ("truth" : Str)), value]) else (bif ((value).sel false true true false false false false) then (.rt [((Py.str (F := Frac)) ("integer" : Str)), value]) else (bif ((value).sel false false false true false false false) then (.rt [((Py.str (F := Frac)) ("string" : Str)), value]) else (bif ((value).isN) then (.rt [((Py.str (F := Frac)) ("none" : Str))]) else (bif ((value).sel false false false false false true false) then (.rt [((Py.str (F := Frac)) ("list" : Str)), ((Py.lst (F := Frac)) (((((value).cut none (some (3 : Int)))).q).map fun part_326 => ((Py.tup (F := Frac)) (f_law_kind_0 part_326)))), ((Py.int (F := Frac)) (((value).q).length : Int))]) else (bif ((value).sel false false false false false false true) then (.rt [((Py.str (F := Frac)) ("tuple" : Str)), ((Py.lst (F := Frac)) (((((value).cut none (some (3 : Int)))).q).map fun part_334 => ((Py.tup (F := Frac)) (f_law_kind_0 part_334)))), ((Py.int (F := Frac)) (((value).q).length : Int))]) else (.rt [((Py.str (F := Frac)) ("other" : Str))]))))))))
@[irreducible] def f_law_kind_1 (value : (Py Frac)) : (List (Py Frac)) := (o_law_kind_1 value).get
theorem f_law_kind_1_eq (value : (Py Frac)) : f_law_kind_1 value = (o_law_kind_1 value).get := by delta f_law_kind_1; rfl
def ok_law_kind_1 (value : (Py Frac)) : Prop :=
  (∀ (hc_316 : (((value).sel false false false false true false false)) = true), ((value).isO = true) ∧ ((value).isO = true)) ∧ (∀ (hc_316 : (((value).sel false false false false true false false)) = false), (∀ (hc_319 : (((value).sel false true false false false false false)) = false), (∀ (hc_320 : (((value).sel false true true false false false false)) = false), (∀ (hc_321 : (((value).sel false false false true false false false)) = false), (∀ (hc_322 : (((value).isN)) = false), (∀ (hc_323 : (((value).sel false false false false false true false)) = true), ((value).isQ = true) ∧ ((((value).cut none (some (3 : Int)))).isQ = true) ∧ (∀ (part_326 : (Py Frac)) (hx_327 : part_326 ∈ (((value).cut none (some (3 : Int)))).q), (ok_law_kind_0 part_326)) ∧ ((value).isQ = true)) ∧ (∀ (hc_323 : (((value).sel false false false false false true false)) = false), (∀ (hc_331 : (((value).sel false false false false false false true)) = true), ((value).isQ = true) ∧ ((((value).cut none (some (3 : Int)))).isQ = true) ∧ (∀ (part_334 : (Py Frac)) (hx_335 : part_334 ∈ (((value).cut none (some (3 : Int)))).q), (ok_law_kind_0 part_334)) ∧ ((value).isQ = true))))))))
section
variable {K : PySem.W.Frag} {cFrac : Addr} {cInvalidFraction : Addr}
abbrev sp_law_kind_1 (cFrac : Addr) : Sp := spF (K := K) (ι := (Py Frac)) (fun x => [.d (eD (eFrac cFrac)) x]) (fun x => ok_law_kind_1 x) (retD (eT (eD (eFrac cFrac)))) (fun x => f_law_kind_1 x)
end
set_option maxHeartbeats 4000000 in
theorem at_law_kind_1 {P : Program} {w : World} {K : PySem.W.Frag} {mg : Str → Option Value} {base : Heap} {cFrac : Addr} {cInvalidFraction : Addr} (T : Txt K mg cFrac cInvalidFraction) : FnAt P w K mg base "_law_kind" 2 ["value"] (sp_law_kind_1 cFrac (K := K)) := by
  obtain ⟨f, fd, F, mg_, bd_⟩ := T.d_law_kind
  obtain ⟨⟨a_law_kind_0, d_law_kind_0, G_law_kind_0, m_law_kind_0, k_law_kind_0, b_law_kind_0⟩⟩ := at_law_kind_0 (P := P) (w := w) (base := base) T
  refine ⟨⟨f, fd, fn_okG (fun x => f_law_kind_1_eq x) <| fn_okE (o := fun x : (Py Frac) => o_law_kind_1 x) (k := 1) F sc_law_kind (fun x => rfl) (fun x i s h => noM_tail (by simp [Slot.isM]) h) (fun cdv A outer s H EX hr value hp => ?_), mg_, F.kp, bd_⟩⟩
  have okh : ok_law_kind_1 value := hp
  exact ⟨_, _, rfl,
    (pss_cons (ps_if (pt_val (pe_callB call_isi (by rfl) T.b_isinstance (by decide +kernel) (pa_cons (pv 0) (pa_cons (pe_glob (v := .ref cFrac) (by rfl) T.mg_Frac rfl) pa_nil)))) (pss_cons (ps_ret (pe_tup (pa_cons pe_str (pa_cons (pe_fld (pv 0) rfl) (pa_cons (pe_fld (pv 0) rfl) pa_nil))))) pss_nil) pss_nil) (pss_cons (ps_if (pt_val (pe_callB call_isi (by rfl) T.b_isinstance (by decide +kernel) (pa_cons (pv 0) (pa_cons (pe_bltn (v := .ty "bool") (by rfl) T.b_bool (by decide +kernel) rfl) pa_nil)))) (pss_cons (ps_ret (pe_tup (pa_cons pe_str (pa_cons (pv 0) pa_nil)))) pss_nil) pss_nil) (pss_cons (ps_if (pt_val (pe_callB call_isi (by rfl) T.b_isinstance (by decide +kernel) (pa_cons (pv 0) (pa_cons (pe_bltn (v := .ty "int") (by rfl) T.b_int (by decide +kernel) rfl) pa_nil)))) (pss_cons (ps_ret (pe_tup (pa_cons pe_str (pa_cons (pv 0) pa_nil)))) pss_nil) pss_nil) (pss_cons (ps_if (pt_val (pe_callB call_isi (by rfl) T.b_isinstance (by decide +kernel) (pa_cons (pv 0) (pa_cons (pe_bltn (v := .ty "str") (by rfl) T.b_str (by decide +kernel) rfl) pa_nil)))) (pss_cons (ps_ret (pe_tup (pa_cons pe_str (pa_cons (pv 0) pa_nil)))) pss_nil) pss_nil) (pss_cons (ps_if (pt_cmpR op_isN (pv 0) pe_non (nomark _)) (pss_cons (ps_ret (pe_tup (pa_cons pe_str pa_nil))) pss_nil) pss_nil) (pss_cons (ps_if (pt_val (pe_callB call_isi (by rfl) T.b_isinstance (by decide +kernel) (pa_cons (pv 0) (pa_cons (pe_bltn (v := .ty "list") (by rfl) T.b_list (by decide +kernel) rfl) pa_nil)))) (pss_cons (ps_ret (pe_tup (pa_cons pe_str (pa_cons (pe_lc (own := [("part", 1)]) (g := gName 1) (tt := tYes) rfl sc_law_kind.nd (pi_seq (pe_slice (slK (K := K) rfl) (pv 0) po_none (po_some pe_int))) (blkOk_by (N := N_law_kind) (sc := defScope s_law_kind) (by decide +kernel)) (fun _ _ _ _ _ => (pg_name (i := 1) sc_law_kind.nd rfl (by first | exact Or.inl rfl | exact Or.inr rfl))) (fun _ _ _ _ _ => pts_nil) (fun _ _ _ _ _ => (pe_call G_law_kind_0 (hr.mono (by decide)) (by rfl) m_law_kind_0 k_law_kind_0 b_law_kind_0 .nil pass0 (pa_cons (pv 1) pa_nil)))) (pa_cons (pe_callB call_len_seq (by rfl) T.b_len (by decide +kernel) (pa_cons (pv 0) pa_nil)) pa_nil))))) pss_nil) pss_nil) (pss_cons (ps_if (pt_val (pe_callB call_isi (by rfl) T.b_isinstance (by decide +kernel) (pa_cons (pv 0) (pa_cons (pe_bltn (v := .ty "tuple") (by rfl) T.b_tuple (by decide +kernel) rfl) pa_nil)))) (pss_cons (ps_ret (pe_tup (pa_cons pe_str (pa_cons (pe_lc (own := [("part", 1)]) (g := gName 1) (tt := tYes) rfl sc_law_kind.nd (pi_seq (pe_slice (slK (K := K) rfl) (pv 0) po_none (po_some pe_int))) (blkOk_by (N := N_law_kind) (sc := defScope s_law_kind) (by decide +kernel)) (fun _ _ _ _ _ => (pg_name (i := 1) sc_law_kind.nd rfl (by first | exact Or.inl rfl | exact Or.inr rfl))) (fun _ _ _ _ _ => pts_nil) (fun _ _ _ _ _ => (pe_call G_law_kind_0 (hr.mono (by decide)) (by rfl) m_law_kind_0 k_law_kind_0 b_law_kind_0 .nil pass0 (pa_cons (pv 1) pa_nil)))) (pa_cons (pe_callB call_len_seq (by rfl) T.b_len (by decide +kernel) (pa_cons (pv 0) pa_nil)) pa_nil))))) pss_nil) pss_nil) (pss_cons (ps_ret (pe_tup (pa_cons pe_str pa_nil))) pss_nil)))))))),
    (xb_ifR (et_eq (et_B (ev_isiD T.in_Frac (ev_var (i := 0) rfl) (.own _) T.ki_NoneType_Frac T.ki_bool_Frac T.ki_int_Frac T.ki_str_Frac T.ki_Frac_Frac T.ki_list_Frac T.ki_tuple_Frac)) rfl) (fun hc_316 => (xb_retS (ev_eq (ev_tup (eas_cons (ev_cv (f := (eD (eFrac cFrac))) (u := (Py.str (F := Frac))) ev_str) (eas_cons (ev_cv (f := (eD (eFrac cFrac))) (u := (Py.int (F := Frac))) (ev_fld (F := ⟨eI, Frac.num⟩) (ev_dO (ev_var (i := 0) rfl) ((okh.1 hc_316).1)) 0 rfl flFrac_nd T.cl_Frac T.na_Frac_num)) (eas_cons (ev_cv (f := (eD (eFrac cFrac))) (u := (Py.int (F := Frac))) (ev_fld (F := ⟨eI, Frac.den⟩) (ev_dO (ev_var (i := 0) rfl) ((okh.1 hc_316).2)) 1 rfl flFrac_nd T.cl_Frac T.na_Frac_den)) (eas_nil (e := (eD (eFrac cFrac))))))) (by show 3 ≤ 100000; decide)) rfl) (.inl rfl) rfl)) (fun hc_316 => (xb_ifR (et_eq (et_B (ev_isiD T.in_Frac (ev_var (i := 0) rfl) (.ty _) (kit_ty (by decide +kernel)) (kit_ty (by decide +kernel)) (kit_ty (by decide +kernel)) (kit_ty (by decide +kernel)) T.ki_Frac_bool (kit_ty (by decide +kernel)) (kit_ty (by decide +kernel)))) rfl) (fun hc_319 => (xb_retS (ev_eq (ev_tup (eas_cons (ev_cv (f := (eD (eFrac cFrac))) (u := (Py.str (F := Frac))) ev_str) (eas_cons (ev_var (i := 0) rfl) (eas_nil (e := (eD (eFrac cFrac)))))) (by show 2 ≤ 100000; decide)) rfl) (.inl rfl) rfl)) (fun hc_319 => (xb_ifR (et_eq (et_B (ev_isiD T.in_Frac (ev_var (i := 0) rfl) (.ty _) (kit_ty (by decide +kernel)) (kit_ty (by decide +kernel)) (kit_ty (by decide +kernel)) (kit_ty (by decide +kernel)) T.ki_Frac_int (kit_ty (by decide +kernel)) (kit_ty (by decide +kernel)))) rfl) (fun hc_320 => (xb_retS (ev_eq (ev_tup (eas_cons (ev_cv (f := (eD (eFrac cFrac))) (u := (Py.str (F := Frac))) ev_str) (eas_cons (ev_var (i := 0) rfl) (eas_nil (e := (eD (eFrac cFrac)))))) (by show 2 ≤ 100000; decide)) rfl) (.inl rfl) rfl)) (fun hc_320 => (xb_ifR (et_eq (et_B (ev_isiD T.in_Frac (ev_var (i := 0) rfl) (.ty _) (kit_ty (by decide +kernel)) (kit_ty (by decide +kernel)) (kit_ty (by decide +kernel)) (kit_ty (by decide +kernel)) T.ki_Frac_str (kit_ty (by decide +kernel)) (kit_ty (by decide +kernel)))) rfl) (fun hc_321 => (xb_retS (ev_eq (ev_tup (eas_cons (ev_cv (f := (eD (eFrac cFrac))) (u := (Py.str (F := Frac))) ev_str) (eas_cons (ev_var (i := 0) rfl) (eas_nil (e := (eD (eFrac cFrac)))))) (by show 2 ≤ 100000; decide)) rfl) (.inl rfl) rfl)) (fun hc_321 => (xb_ifR (et_eq (et_test (ev_isD (ev_var (i := 0) rfl) rfl)) rfl) (fun hc_322 => (xb_retS (ev_eq (ev_tup (eas_cons (ev_cv (f := (eD (eFrac cFrac))) (u := (Py.str (F := Frac))) ev_str) (eas_nil (e := (eD (eFrac cFrac))))) (by show 1 ≤ 100000; decide)) rfl) (.inl rfl) rfl)) (fun hc_322 => (xb_ifR (et_eq (et_B (ev_isiD T.in_Frac (ev_var (i := 0) rfl) (.ty _) (kit_ty (by decide +kernel)) (kit_ty (by decide +kernel)) (kit_ty (by decide +kernel)) (kit_ty (by decide +kernel)) T.ki_Frac_list (kit_ty (by decide +kernel)) (kit_ty (by decide +kernel)))) rfl) (fun hc_323 => (xb_retS (ev_eq (ev_tup (eas_cons (ev_cv (f := (eD (eFrac cFrac))) (u := (Py.str (F := Frac))) ev_str) (eas_cons (ev_cv (f := (eD (eFrac cFrac))) (u := (Py.lst (F := Frac))) (EvN.d (en_lcY (v := fun part_326 : (Py Frac) => ((Py.tup (F := Frac)) (f_law_kind_0 part_326))) (ei_seq (ev_dQ (ev_slD (ev_var (i := 0) rfl) eo_none (eo_some ev_int) (((((((okh.2 hc_316) hc_319) hc_320) hc_321) hc_322).1 hc_323).1)) (((((((okh.2 hc_316) hc_319) hc_320) hc_321) hc_322).1 hc_323).2.1))) eg_name (by decide) (noM_cons rfl noM_nil) (fun part_326 hx_327 => (ev_eq (ev_cv (f := (eD (eFrac cFrac))) (u := (Py.tup (F := Frac))) (ev_call part_326 (ea_cons (ev_eq (ev_var (i := 1) rfl) rfl) ea_nil) ((((((((okh.2 hc_316) hc_319) hc_320) hc_321) hc_322).1 hc_323).2.2.1 part_326 hx_327)) rfl rfl)) rfl))))) (eas_cons (ev_cv (f := (eD (eFrac cFrac))) (u := (Py.int (F := Frac))) (ev_lenQ (ev_dQ (ev_var (i := 0) rfl) (((((((okh.2 hc_316) hc_319) hc_320) hc_321) hc_322).1 hc_323).2.2.2)))) (eas_nil (e := (eD (eFrac cFrac))))))) (by show 3 ≤ 100000; decide)) rfl) (.inl rfl) rfl)) (fun hc_323 => (xb_ifR (et_eq (et_B (ev_isiD T.in_Frac (ev_var (i := 0) rfl) (.ty _) (kit_ty (by decide +kernel)) (kit_ty (by decide +kernel)) (kit_ty (by decide +kernel)) (kit_ty (by decide +kernel)) T.ki_Frac_tuple (kit_ty (by decide +kernel)) (kit_ty (by decide +kernel)))) rfl) (fun hc_331 => (xb_retS (ev_eq (ev_tup (eas_cons (ev_cv (f := (eD (eFrac cFrac))) (u := (Py.str (F := Frac))) ev_str) (eas_cons (ev_cv (f := (eD (eFrac cFrac))) (u := (Py.lst (F := Frac))) (EvN.d (en_lcY (v := fun part_334 : (Py Frac) => ((Py.tup (F := Frac)) (f_law_kind_0 part_334))) (ei_seq (ev_dQ (ev_slD (ev_var (i := 0) rfl) eo_none (eo_some ev_int) ((((((((okh.2 hc_316) hc_319) hc_320) hc_321) hc_322).2 hc_323) hc_331).1)) ((((((((okh.2 hc_316) hc_319) hc_320) hc_321) hc_322).2 hc_323) hc_331).2.1))) eg_name (by decide) (noM_cons rfl noM_nil) (fun part_334 hx_335 => (ev_eq (ev_cv (f := (eD (eFrac cFrac))) (u := (Py.tup (F := Frac))) (ev_call part_334 (ea_cons (ev_eq (ev_var (i := 1) rfl) rfl) ea_nil) (((((((((okh.2 hc_316) hc_319) hc_320) hc_321) hc_322).2 hc_323) hc_331).2.2.1 part_334 hx_335)) rfl rfl)) rfl))))) (eas_cons (ev_cv (f := (eD (eFrac cFrac))) (u := (Py.int (F := Frac))) (ev_lenQ (ev_dQ (ev_var (i := 0) rfl) ((((((((okh.2 hc_316) hc_319) hc_320) hc_321) hc_322).2 hc_323) hc_331).2.2.2)))) (eas_nil (e := (eD (eFrac cFrac))))))) (by show 3 ≤ 100000; decide)) rfl) (.inl rfl) rfl)) (fun hc_331 => (xb_retS (ev_eq (ev_tup (eas_cons (ev_cv (f := (eD (eFrac cFrac))) (u := (Py.str (F := Frac))) ev_str) (eas_nil (e := (eD (eFrac cFrac))))) (by show 1 ≤ 100000; decide)) rfl) (.inl rfl) rfl)))))))))))))))⟩
set_option maxHeartbeats 4000000 in
theorem atH_law_kind_1 {P : Program} {w : World} {K : PySem.W.Frag} {mg : Str → Option Value} {base : Heap} {cFrac : Addr} {cInvalidFraction : Addr} (T : Txt K mg cFrac cInvalidFraction) : FnAtH P w K mg base "_law_kind" 2 ["value"] (sp_law_kind_1 cFrac (K := K)) := by
  obtain ⟨f, fd, F, mg_, bd_⟩ := T.d_law_kind
  obtain ⟨⟨aH_law_kind_0, dH_law_kind_0, GH_law_kind_0, mH_law_kind_0, kH_law_kind_0, bH_law_kind_0⟩⟩ := atH_law_kind_0 (P := P) (w := w) (base := base) T
  refine ⟨⟨f, fd, fn_okH (k := 1) (fl := fun _ t => nomatch t) (o := fun x : (Py Frac) => o_law_kind_1 x) (E := fun _ z => nomatch z) F sc_law_kind (fun x => f_law_kind_1_eq x) (fun x => rfl) (fun x i s h => noM_tail (by simp [Slot.isM]) h) (fun _ t => nomatch t) (fun cdv A outer s H EX p hot hr x hp => ?_), mg_, F.kp, bd_⟩⟩
  revert hp; revert x; intro value hp
  have okh : ok_law_kind_1 value := hp
  exact ⟨_, _, rfl,
    (pss_cons (ps_if (pt_val (pe_callB call_isi (by rfl) T.b_isinstance (by decide +kernel) (pa_cons (pv 0) (pa_cons (pe_glob (v := .ref cFrac) (by rfl) T.mg_Frac rfl) pa_nil)))) (pss_cons (ps_ret (pe_tup (pa_cons pe_str (pa_cons (pe_fld (pv 0) rfl) (pa_cons (pe_fld (pv 0) rfl) pa_nil))))) pss_nil) pss_nil) (pss_cons (ps_if (pt_val (pe_callB call_isi (by rfl) T.b_isinstance (by decide +kernel) (pa_cons (pv 0) (pa_cons (pe_bltn (v := .ty "bool") (by rfl) T.b_bool (by decide +kernel) rfl) pa_nil)))) (pss_cons (ps_ret (pe_tup (pa_cons pe_str (pa_cons (pv 0) pa_nil)))) pss_nil) pss_nil) (pss_cons (ps_if (pt_val (pe_callB call_isi (by rfl) T.b_isinstance (by decide +kernel) (pa_cons (pv 0) (pa_cons (pe_bltn (v := .ty "int") (by rfl) T.b_int (by decide +kernel) rfl) pa_nil)))) (pss_cons (ps_ret (pe_tup (pa_cons pe_str (pa_cons (pv 0) pa_nil)))) pss_nil) pss_nil) (pss_cons (ps_if (pt_val (pe_callB call_isi (by rfl) T.b_isinstance (by decide +kernel) (pa_cons (pv 0) (pa_cons (pe_bltn (v := .ty "str") (by rfl) T.b_str (by decide +kernel) rfl) pa_nil)))) (pss_cons (ps_ret (pe_tup (pa_cons pe_str (pa_cons (pv 0) pa_nil)))) pss_nil) pss_nil) (pss_cons (ps_if (pt_cmpR op_isN (pv 0) pe_non (nomark _)) (pss_cons (ps_ret (pe_tup (pa_cons pe_str pa_nil))) pss_nil) pss_nil) (pss_cons (ps_if (pt_val (pe_callB call_isi (by rfl) T.b_isinstance (by decide +kernel) (pa_cons (pv 0) (pa_cons (pe_bltn (v := .ty "list") (by rfl) T.b_list (by decide +kernel) rfl) pa_nil)))) (pss_cons (ps_ret (pe_tup (pa_cons pe_str (pa_cons (FLH.pe_lcPH (own := [("part", 1)]) (g := gName 1) (tt := tYes) (hotX hot) sc_law_kind.nd (FLH.pi_seqP (pe_slice (slK (K := K) rfl) (pv 0) po_none (po_some pe_int))) (blkOk_by (N := N_law_kind) (sc := defScope s_law_kind) (by decide +kernel)) (fun _ _ _ _ _ => (pg_name (i := 1) sc_law_kind.nd rfl (by first | exact Or.inl rfl | exact Or.inr rfl))) (fun _ _ _ _ _ => pts_nil) (fun p_ hp_ _ _ _ _ _ => (L2H.pe_callH GH_law_kind_0 (hr.mono (by decide)) (FLH.hotP hp_) (by rfl) mH_law_kind_0 kH_law_kind_0 bH_law_kind_0 (passH0 (E := fun _ => E0)) (pa_cons (pv 1) pa_nil)))) (pa_cons (pe_callB call_len_seq (by rfl) T.b_len (by decide +kernel) (pa_cons (pv 0) pa_nil)) pa_nil))))) pss_nil) pss_nil) (pss_cons (ps_if (pt_val (pe_callB call_isi (by rfl) T.b_isinstance (by decide +kernel) (pa_cons (pv 0) (pa_cons (pe_bltn (v := .ty "tuple") (by rfl) T.b_tuple (by decide +kernel) rfl) pa_nil)))) (pss_cons (ps_ret (pe_tup (pa_cons pe_str (pa_cons (FLH.pe_lcPH (own := [("part", 1)]) (g := gName 1) (tt := tYes) (hotX hot) sc_law_kind.nd (FLH.pi_seqP (pe_slice (slK (K := K) rfl) (pv 0) po_none (po_some pe_int))) (blkOk_by (N := N_law_kind) (sc := defScope s_law_kind) (by decide +kernel)) (fun _ _ _ _ _ => (pg_name (i := 1) sc_law_kind.nd rfl (by first | exact Or.inl rfl | exact Or.inr rfl))) (fun _ _ _ _ _ => pts_nil) (fun p_ hp_ _ _ _ _ _ => (L2H.pe_callH GH_law_kind_0 (hr.mono (by decide)) (FLH.hotP hp_) (by rfl) mH_law_kind_0 kH_law_kind_0 bH_law_kind_0 (passH0 (E := fun _ => E0)) (pa_cons (pv 1) pa_nil)))) (pa_cons (pe_callB call_len_seq (by rfl) T.b_len (by decide +kernel) (pa_cons (pv 0) pa_nil)) pa_nil))))) pss_nil) pss_nil) (pss_cons (ps_ret (pe_tup (pa_cons pe_str pa_nil))) pss_nil)))))))),
    (xb_ifR (et_eq (et_B (ev_isiD T.in_Frac (ev_var (i := 0) rfl) (.own _) T.ki_NoneType_Frac T.ki_bool_Frac T.ki_int_Frac T.ki_str_Frac T.ki_Frac_Frac T.ki_list_Frac T.ki_tuple_Frac)) rfl) (fun hc_316 => (xb_retS (ev_eq (ev_tup (eas_cons (ev_cv (f := (eD (eFrac cFrac))) (u := (Py.str (F := Frac))) ev_str) (eas_cons (ev_cv (f := (eD (eFrac cFrac))) (u := (Py.int (F := Frac))) (ev_fld (F := ⟨eI, Frac.num⟩) (ev_dO (ev_var (i := 0) rfl) ((okh.1 hc_316).1)) 0 rfl flFrac_nd T.cl_Frac T.na_Frac_num)) (eas_cons (ev_cv (f := (eD (eFrac cFrac))) (u := (Py.int (F := Frac))) (ev_fld (F := ⟨eI, Frac.den⟩) (ev_dO (ev_var (i := 0) rfl) ((okh.1 hc_316).2)) 1 rfl flFrac_nd T.cl_Frac T.na_Frac_den)) (eas_nil (e := (eD (eFrac cFrac))))))) (by show 3 ≤ 100000; decide)) rfl) (.inl rfl) rfl)) (fun hc_316 => (xb_ifR (et_eq (et_B (ev_isiD T.in_Frac (ev_var (i := 0) rfl) (.ty _) (kit_ty (by decide +kernel)) (kit_ty (by decide +kernel)) (kit_ty (by decide +kernel)) (kit_ty (by decide +kernel)) T.ki_Frac_bool (kit_ty (by decide +kernel)) (kit_ty (by decide +kernel)))) rfl) (fun hc_319 => (xb_retS (ev_eq (ev_tup (eas_cons (ev_cv (f := (eD (eFrac cFrac))) (u := (Py.str (F := Frac))) ev_str) (eas_cons (ev_var (i := 0) rfl) (eas_nil (e := (eD (eFrac cFrac)))))) (by show 2 ≤ 100000; decide)) rfl) (.inl rfl) rfl)) (fun hc_319 => (xb_ifR (et_eq (et_B (ev_isiD T.in_Frac (ev_var (i := 0) rfl) (.ty _) (kit_ty (by decide +kernel)) (kit_ty (by decide +kernel)) (kit_ty (by decide +kernel)) (kit_ty (by decide +kernel)) T.ki_Frac_int (kit_ty (by decide +kernel)) (kit_ty (by decide +kernel)))) rfl) (fun hc_320 => (xb_retS (ev_eq (ev_tup (eas_cons (ev_cv (f := (eD (eFrac cFrac))) (u := (Py.str (F := Frac))) ev_str) (eas_cons (ev_var (i := 0) rfl) (eas_nil (e := (eD (eFrac cFrac)))))) (by show 2 ≤ 100000; decide)) rfl) (.inl rfl) rfl)) (fun hc_320 => (xb_ifR (et_eq (et_B (ev_isiD T.in_Frac (ev_var (i := 0) rfl) (.ty _) (kit_ty (by decide +kernel)) (kit_ty (by decide +kernel)) (kit_ty (by decide +kernel)) (kit_ty (by decide +kernel)) T.ki_Frac_str (kit_ty (by decide +kernel)) (kit_ty (by decide +kernel)))) rfl) (fun hc_321 => (xb_retS (ev_eq (ev_tup (eas_cons (ev_cv (f := (eD (eFrac cFrac))) (u := (Py.str (F := Frac))) ev_str) (eas_cons (ev_var (i := 0) rfl) (eas_nil (e := (eD (eFrac cFrac)))))) (by show 2 ≤ 100000; decide)) rfl) (.inl rfl) rfl)) (fun hc_321 => (xb_ifR (et_eq (et_test (ev_isD (ev_var (i := 0) rfl) rfl)) rfl) (fun hc_322 => (xb_retS (ev_eq (ev_tup (eas_cons (ev_cv (f := (eD (eFrac cFrac))) (u := (Py.str (F := Frac))) ev_str) (eas_nil (e := (eD (eFrac cFrac))))) (by show 1 ≤ 100000; decide)) rfl) (.inl rfl) rfl)) (fun hc_322 => (xb_ifR (et_eq (et_B (ev_isiD T.in_Frac (ev_var (i := 0) rfl) (.ty _) (kit_ty (by decide +kernel)) (kit_ty (by decide +kernel)) (kit_ty (by decide +kernel)) (kit_ty (by decide +kernel)) T.ki_Frac_list (kit_ty (by decide +kernel)) (kit_ty (by decide +kernel)))) rfl) (fun hc_323 => (xb_retS (ev_eq (ev_tup (eas_cons (ev_cv (f := (eD (eFrac cFrac))) (u := (Py.str (F := Frac))) ev_str) (eas_cons (ev_cv (f := (eD (eFrac cFrac))) (u := (Py.lst (F := Frac))) (EvN.d (en_lcY (v := fun part_326 : (Py Frac) => ((Py.tup (F := Frac)) (f_law_kind_0 part_326))) (ei_seq (ev_dQ (ev_slD (ev_var (i := 0) rfl) eo_none (eo_some ev_int) (((((((okh.2 hc_316) hc_319) hc_320) hc_321) hc_322).1 hc_323).1)) (((((((okh.2 hc_316) hc_319) hc_320) hc_321) hc_322).1 hc_323).2.1))) eg_name (by decide) (noM_cons rfl noM_nil) (fun part_326 hx_327 => (ev_eq (ev_cv (f := (eD (eFrac cFrac))) (u := (Py.tup (F := Frac))) (ev_callS part_326 (ea_cons (ev_eq (ev_var (i := 1) rfl) rfl) ea_nil) ((((((((okh.2 hc_316) hc_319) hc_320) hc_321) hc_322).1 hc_323).2.2.1 part_326 hx_327)) rfl rfl)) rfl))))) (eas_cons (ev_cv (f := (eD (eFrac cFrac))) (u := (Py.int (F := Frac))) (ev_lenQ (ev_dQ (ev_var (i := 0) rfl) (((((((okh.2 hc_316) hc_319) hc_320) hc_321) hc_322).1 hc_323).2.2.2)))) (eas_nil (e := (eD (eFrac cFrac))))))) (by show 3 ≤ 100000; decide)) rfl) (.inl rfl) rfl)) (fun hc_323 => (xb_ifR (et_eq (et_B (ev_isiD T.in_Frac (ev_var (i := 0) rfl) (.ty _) (kit_ty (by decide +kernel)) (kit_ty (by decide +kernel)) (kit_ty (by decide +kernel)) (kit_ty (by decide +kernel)) T.ki_Frac_tuple (kit_ty (by decide +kernel)) (kit_ty (by decide +kernel)))) rfl) (fun hc_331 => (xb_retS (ev_eq (ev_tup (eas_cons (ev_cv (f := (eD (eFrac cFrac))) (u := (Py.str (F := Frac))) ev_str) (eas_cons (ev_cv (f := (eD (eFrac cFrac))) (u := (Py.lst (F := Frac))) (EvN.d (en_lcY (v := fun part_334 : (Py Frac) => ((Py.tup (F := Frac)) (f_law_kind_0 part_334))) (ei_seq (ev_dQ (ev_slD (ev_var (i := 0) rfl) eo_none (eo_some ev_int) ((((((((okh.2 hc_316) hc_319) hc_320) hc_321) hc_322).2 hc_323) hc_331).1)) ((((((((okh.2 hc_316) hc_319) hc_320) hc_321) hc_322).2 hc_323) hc_331).2.1))) eg_name (by decide) (noM_cons rfl noM_nil) (fun part_334 hx_335 => (ev_eq (ev_cv (f := (eD (eFrac cFrac))) (u := (Py.tup (F := Frac))) (ev_callS part_334 (ea_cons (ev_eq (ev_var (i := 1) rfl) rfl) ea_nil) (((((((((okh.2 hc_316) hc_319) hc_320) hc_321) hc_322).2 hc_323) hc_331).2.2.1 part_334 hx_335)) rfl rfl)) rfl))))) (eas_cons (ev_cv (f := (eD (eFrac cFrac))) (u := (Py.int (F := Frac))) (ev_lenQ (ev_dQ (ev_var (i := 0) rfl) ((((((((okh.2 hc_316) hc_319) hc_320) hc_321) hc_322).2 hc_323) hc_331).2.2.2)))) (eas_nil (e := (eD (eFrac cFrac))))))) (by show 3 ≤ 100000; decide)) rfl) (.inl rfl) rfl)) (fun hc_331 => (xb_retS (ev_eq (ev_tup (eas_cons (ev_cv (f := (eD (eFrac cFrac))) (u := (Py.str (F := Frac))) ev_str) (eas_nil (e := (eD (eFrac cFrac))))) (by show 1 ≤ 100000; decide)) rfl) (.inl rfl) rfl)))))))))))))))⟩
/-! ### _law_kind@2 -/
def o_law_kind_2 (value : (Py Frac)) : Out Empty Empty (List (Py Frac)) :=
  (bif ((value).sel false false false false true false false) then (.rt [((Py.str (F := Frac)) ("fraction" : Str)), ((Py.int (F := Frac)) ((value).o.num)), ((Py.int (F := Frac)) ((value).o.den))]) else (bif ((value).sel false true false false false false false) then (.rt [((Py.str (F := Frac)) ("truth" : Str)), value]) else (bif ((value).sel false true true false false false false) then (.rt [((Py.str (F := Frac)) ("integer" : Str)), value]) else (bif ((value).sel false false false true false false false) then (.rt [((Py.str (F := Frac)) ("string" : Str)), value]) else (bif ((value).isN) then (.rt [((Py.str (F := Frac)) ("none" : Str))]) else (bif ((value).sel false false false false false true false) then (.rt [((Py.str (F := Frac)) ("list" : Str)), ((Py.lst (F := Frac)) (((((value).cut none (some (3 : Int)))).q).map fun part_349 => ((Py.tup (F := Frac)) (f_law_kind_1 part_349)))), ((Py.int (F := Frac)) (((value).q).length : Int))]) else (bif ((value).sel false false false false false false true) then (.rt [((Py.str (F := Frac)) ("tuple" : Str)), ((Py.lst (F := Frac)) (((((value).cut none (some (3 : Int)))).q).map fun part_357 => ((Py.tup (F := Frac)) (f_law_kind_1 part_357)))), ((Py.int (F := Frac)) (((value).q).length : Int))]) else (.rt [((Py.str (F := Frac)) ("other" : Str))]))))))))
@[irreducible] def f_law_kind_2 (value : (Py Frac)) : (List (Py Frac)) := (o_law_kind_2 value).get
theorem f_law_kind_2_eq (value : (Py Frac)) : f_law_kind_2 value = (o_law_kind_2 value).get := by delta f_law_kind_2; rfl
def ok_law_kind_2 (value : (Py Frac)) : Prop :=
  (∀ (hc_339 : (((value).sel false false false false true false false)) = true), ((value).isO = true) ∧ ((value).isO = true)) ∧ (∀ (hc_339 : (((value).sel false false false false true false false)) = false), (∀ (hc_342 : (((value).sel false true false false false false false)) = false), (∀ (hc_343 : (((value).sel false true true false false false false)) = false), (∀ (hc_344 : (((value).sel false false false true false false false)) = false), (∀ (hc_345 : (((value).isN)) = false), (∀ (hc_346 : (((value).sel false false false false false true false)) = true), ((value).isQ = true) ∧ ((((value).cut none (some (3 : Int)))).isQ = true) ∧ (∀ (part_349 : (Py Frac)) (hx_350 : part_349 ∈ (((value).cut none (some (3 : Int)))).q), (ok_law_kind_1 part_349)) ∧ ((value).isQ = true)) ∧ (∀ (hc_346 : (((value).sel false false false false false true false)) = false), (∀ (hc_354 : (((value).sel false false false false false false true)) = true), ((value).isQ = true) ∧ ((((value).cut none (some (3 : Int)))).isQ = true) ∧ (∀ (part_357 : (Py Frac)) (hx_358 : part_357 ∈ (((value).cut none (some (3 : Int)))).q), (ok_law_kind_1 part_357)) ∧ ((value).isQ = true))))))))
section
variable {K : PySem.W.Frag} {cFrac : Addr} {cInvalidFraction : Addr}
abbrev sp_law_kind_2 (cFrac : Addr) : Sp := spF (K := K) (ι := (Py Frac)) (fun x => [.d (eD (eFrac cFrac)) x]) (fun x => ok_law_kind_2 x) (retD (eT (eD (eFrac cFrac)))) (fun x => f_law_kind_2 x)
end
set_option maxHeartbeats 4000000 in
theorem at_law_kind_2 {P : Program} {w : World} {K : PySem.W.Frag} {mg : Str → Option Value} {base : Heap} {cFrac : Addr} {cInvalidFraction : Addr} (T : Txt K mg cFrac cInvalidFraction) : FnAt P w K mg base "_law_kind" 3 ["value"] (sp_law_kind_2 cFrac (K := K)) := by
  obtain ⟨f, fd, F, mg_, bd_⟩ := T.d_law_kind
  obtain ⟨⟨a_law_kind_1, d_law_kind_1, G_law_kind_1, m_law_kind_1, k_law_kind_1, b_law_kind_1⟩⟩ := at_law_kind_1 (P := P) (w := w) (base := base) T
  refine ⟨⟨f, fd, fn_okG (fun x => f_law_kind_2_eq x) <| fn_okE (o := fun x : (Py Frac) => o_law_kind_2 x) (k := 2) F sc_law_kind (fun x => rfl) (fun x i s h => noM_tail (by simp [Slot.isM]) h) (fun cdv A outer s H EX hr value hp => ?_), mg_, F.kp, bd_⟩⟩
  have okh : ok_law_kind_2 value := hp
  exact ⟨_, _, rfl,
    (pss_cons (ps_if (pt_val (pe_callB call_isi (by rfl) T.b_isinstance (by decide +kernel) (pa_cons (pv 0) (pa_cons (pe_glob (v := .ref cFrac) (by rfl) T.mg_Frac rfl) pa_nil)))) (pss_cons (ps_ret (pe_tup (pa_cons pe_str (pa_cons (pe_fld (pv 0) rfl) (pa_cons (pe_fld (pv 0) rfl) pa_nil))))) pss_nil) pss_nil) (pss_cons (ps_if (pt_val (pe_callB call_isi (by rfl) T.b_isinstance (by decide +kernel) (pa_cons (pv 0) (pa_cons (pe_bltn (v := .ty "bool") (by rfl) T.b_bool (by decide +kernel) rfl) pa_nil)))) (pss_cons (ps_ret (pe_tup (pa_cons pe_str (pa_cons (pv 0) pa_nil)))) pss_nil) pss_nil) (pss_cons (ps_if (pt_val (pe_callB call_isi (by rfl) T.b_isinstance (by decide +kernel) (pa_cons (pv 0) (pa_cons (pe_bltn (v := .ty "int") (by rfl) T.b_int (by decide +kernel) rfl) pa_nil)))) (pss_cons (ps_ret (pe_tup (pa_cons pe_str (pa_cons (pv 0) pa_nil)))) pss_nil) pss_nil) (pss_cons (ps_if (pt_val (pe_callB call_isi (by rfl) T.b_isinstance (by decide +kernel) (pa_cons (pv 0) (pa_cons (pe_bltn (v := .ty "str") (by rfl) T.b_str (by decide +kernel) rfl) pa_nil)))) (pss_cons (ps_ret (pe_tup (pa_cons pe_str (pa_cons (pv 0) pa_nil)))) pss_nil) pss_nil) (pss_cons (ps_if (pt_cmpR op_isN (pv 0) pe_non (nomark _)) (pss_cons (ps_ret (pe_tup (pa_cons pe_str pa_nil))) pss_nil) pss_nil) (pss_cons (ps_if (pt_val (pe_callB call_isi (by rfl) T.b_isinstance (by decide +kernel) (pa_cons (pv 0) (pa_cons (pe_bltn (v := .ty "list") (by rfl) T.b_list (by decide +kernel) rfl) pa_nil)))) (pss_cons (ps_ret (pe_tup (pa_cons pe_str (pa_cons (pe_lc (own := [("part", 1)]) (g := gName 1) (tt := tYes) rfl sc_law_kind.nd (pi_seq (pe_slice (slK (K := K) rfl) (pv 0) po_none (po_some pe_int))) (blkOk_by (N := N_law_kind) (sc := defScope s_law_kind) (by decide +kernel)) (fun _ _ _ _ _ => (pg_name (i := 1) sc_law_kind.nd rfl (by first | exact Or.inl rfl | exact Or.inr rfl))) (fun _ _ _ _ _ => pts_nil) (fun _ _ _ _ _ => (pe_call G_law_kind_1 (hr.mono (by decide)) (by rfl) m_law_kind_1 k_law_kind_1 b_law_kind_1 .nil pass0 (pa_cons (pv 1) pa_nil)))) (pa_cons (pe_callB call_len_seq (by rfl) T.b_len (by decide +kernel) (pa_cons (pv 0) pa_nil)) pa_nil))))) pss_nil) pss_nil) (pss_cons (ps_if (pt_val (pe_callB call_isi (by rfl) T.b_isinstance (by decide +kernel) (pa_cons (pv 0) (pa_cons (pe_bltn (v := .ty "tuple") (by rfl) T.b_tuple (by decide +kernel) rfl) pa_nil)))) (pss_cons (ps_ret (pe_tup (pa_cons pe_str (pa_cons (pe_lc (own := [("part", 1)]) (g := gName 1) (tt := tYes) rfl sc_law_kind.nd (pi_seq (pe_slice (slK (K := K) rfl) (pv 0) po_none (po_some pe_int))) (blkOk_by (N := N_law_kind) (sc := defScope s_law_kind) (by decide +kernel)) (fun _ _ _ _ _ => (pg_name (i := 1) sc_law_kind.nd rfl (by first | exact Or.inl rfl | exact Or.inr rfl))) (fun _ _ _ _ _ => pts_nil) (fun _ _ _ _ _ => (pe_call G_law_kind_1 (hr.mono (by decide)) (by rfl) m_law_kind_1 k_law_kind_1 b_law_kind_1 .nil pass0 (pa_cons (pv 1) pa_nil)))) (pa_cons (pe_callB call_len_seq (by rfl) T.b_len (by decide +kernel) (pa_cons (pv 0) pa_nil)) pa_nil))))) pss_nil) pss_nil) (pss_cons (ps_ret (pe_tup (pa_cons pe_str pa_nil))) pss_nil)))))))),
    (xb_ifR (et_eq (et_B (ev_isiD T.in_Frac (ev_var (i := 0) rfl) (.own _) T.ki_NoneType_Frac T.ki_bool_Frac T.ki_int_Frac T.ki_str_Frac T.ki_Frac_Frac T.ki_list_Frac T.ki_tuple_Frac)) rfl) (fun hc_339 => (xb_retS (ev_eq (ev_tup (eas_cons (ev_cv (f := (eD (eFrac cFrac))) (u := (Py.str (F := Frac))) ev_str) (eas_cons (ev_cv (f := (eD (eFrac cFrac))) (u := (Py.int (F := Frac))) (ev_fld (F := ⟨eI, Frac.num⟩) (ev_dO (ev_var (i := 0) rfl) ((okh.1 hc_339).1)) 0 rfl flFrac_nd T.cl_Frac T.na_Frac_num)) (eas_cons (ev_cv (f := (eD (eFrac cFrac))) (u := (Py.int (F := Frac))) (ev_fld (F := ⟨eI, Frac.den⟩) (ev_dO (ev_var (i := 0) rfl) ((okh.1 hc_339).2)) 1 rfl flFrac_nd T.cl_Frac T.na_Frac_den)) (eas_nil (e := (eD (eFrac cFrac))))))) (by show 3 ≤ 100000; decide)) rfl) (.inl rfl) rfl)) (fun hc_339 => (xb_ifR (et_eq (et_B (ev_isiD T.in_Frac (ev_var (i := 0) rfl) (.ty _) (kit_ty (by decide +kernel)) (kit_ty (by decide +kernel)) (kit_ty (by decide +kernel)) (kit_ty (by decide +kernel)) T.ki_Frac_bool (kit_ty (by decide +kernel)) (kit_ty (by decide +kernel)))) rfl) (fun hc_342 => (xb_retS (ev_eq (ev_tup (eas_cons (ev_cv (f := (eD (eFrac cFrac))) (u := (Py.str (F := Frac))) ev_str) (eas_cons (ev_var (i := 0) rfl) (eas_nil (e := (eD (eFrac cFrac)))))) (by show 2 ≤ 100000; decide)) rfl) (.inl rfl) rfl)) (fun hc_342 => (xb_ifR (et_eq (et_B (ev_isiD T.in_Frac (ev_var (i := 0) rfl) (.ty _) (kit_ty (by decide +kernel)) (kit_ty (by decide +kernel)) (kit_ty (by decide +kernel)) (kit_ty (by decide +kernel)) T.ki_Frac_int (kit_ty (by decide +kernel)) (kit_ty (by decide +kernel)))) rfl) (fun hc_343 => (xb_retS (ev_eq (ev_tup (eas_cons (ev_cv (f := (eD (eFrac cFrac))) (u := (Py.str (F := Frac))) ev_str) (eas_cons (ev_var (i := 0) rfl) (eas_nil (e := (eD (eFrac cFrac)))))) (by show 2 ≤ 100000; decide)) rfl) (.inl rfl) rfl)) (fun hc_343 => (xb_ifR (et_eq (et_B (ev_isiD T.in_Frac (ev_var (i := 0) rfl) (.ty _) (kit_ty (by decide +kernel)) (kit_ty (by decide +kernel)) (kit_ty (by decide +kernel)) (kit_ty (by decide +kernel)) T.ki_Frac_str (kit_ty (by decide +kernel)) (kit_ty (by decide +kernel)))) rfl) (fun hc_344 => (xb_retS (ev_eq (ev_tup (eas_cons (ev_cv (f := (eD (eFrac cFrac))) (u := (Py.str (F := Frac))) ev_str) (eas_cons (ev_var (i := 0) rfl) (eas_nil (e := (eD (eFrac cFrac)))))) (by show 2 ≤ 100000; decide)) rfl) (.inl rfl) rfl)) (fun hc_344 => (xb_ifR (et_eq (et_test (ev_isD (ev_var (i := 0) rfl) rfl)) rfl) (fun hc_345 => (xb_retS (ev_eq (ev_tup (eas_cons (ev_cv (f := (eD (eFrac cFrac))) (u := (Py.str (F := Frac))) ev_str) (eas_nil (e := (eD (eFrac cFrac))))) (by show 1 ≤ 100000; decide)) rfl) (.inl rfl) rfl)) (fun hc_345 => (xb_ifR (et_eq (et_B (ev_isiD T.in_Frac (ev_var (i := 0) rfl) (.ty _) (kit_ty (by decide +kernel)) (kit_ty (by decide +kernel)) (kit_ty (by decide +kernel)) (kit_ty (by decide +kernel)) T.ki_Frac_list (kit_ty (by decide +kernel)) (kit_ty (by decide +kernel)))) rfl) (fun hc_346 => (xb_retS (ev_eq (ev_tup (eas_cons (ev_cv (f := (eD (eFrac cFrac))) (u := (Py.str (F := Frac))) ev_str) (eas_cons (ev_cv (f := (eD (eFrac cFrac))) (u := (Py.lst (F := Frac))) (EvN.d (en_lcY (v := fun part_349 : (Py Frac) => ((Py.tup (F := Frac)) (f_law_kind_1 part_349))) (ei_seq (ev_dQ (ev_slD (ev_var (i := 0) rfl) eo_none (eo_some ev_int) (((((((okh.2 hc_339) hc_342) hc_343) hc_344) hc_345).1 hc_346).1)) (((((((okh.2 hc_339) hc_342) hc_343) hc_344) hc_345).1 hc_346).2.1))) eg_name (by decide) (noM_cons rfl noM_nil) (fun part_349 hx_350 => (ev_eq (ev_cv (f := (eD (eFrac cFrac))) (u := (Py.tup (F := Frac))) (ev_call part_349 (ea_cons (ev_eq (ev_var (i := 1) rfl) rfl) ea_nil) ((((((((okh.2 hc_339) hc_342) hc_343) hc_344) hc_345).1 hc_346).2.2.1 part_349 hx_350)) rfl rfl)) rfl))))) (eas_cons (ev_cv (f := (eD (eFrac cFrac))) (u := (Py.int (F := Frac))) (ev_lenQ (ev_dQ (ev_var (i := 0) rfl) (((((((okh.2 hc_339) hc_342) hc_343) hc_344) hc_345).1 hc_346).2.2.2)))) (eas_nil (e := (eD (eFrac cFrac))))))) (by show 3 ≤ 100000; decide)) rfl) (.inl rfl) rfl)) (fun hc_346 => (xb_ifR (et_eq (et_B (ev_isiD T.in_Frac (ev_var (i := 0) rfl) (.ty _) (kit_ty (by decide +kernel)) (kit_ty (by decide +kernel)) (kit_ty (by decide +kernel)) (kit_ty (by decide +kernel)) T.ki_Frac_tuple (kit_ty (by decide +kernel)) (kit_ty (by decide +kernel)))) rfl) (fun hc_354 => (xb_retS (ev_eq (ev_tup (eas_cons (ev_cv (f := (eD (eFrac cFrac))) (u := (Py.str (F := Frac))) ev_str) (eas_cons (ev_cv (f := (eD (eFrac cFrac))) (u := (Py.lst (F := Frac))) (EvN.d (en_lcY (v := fun part_357 : (Py Frac) => ((Py.tup (F := Frac)) (f_law_kind_1 part_357))) (ei_seq (ev_dQ (ev_slD (ev_var (i := 0) rfl) eo_none (eo_some ev_int) ((((((((okh.2 hc_339) hc_342) hc_343) hc_344) hc_345).2 hc_346) hc_354).1)) ((((((((okh.2 hc_339) hc_342) hc_343) hc_344) hc_345).2 hc_346) hc_354).2.1))) eg_name (by decide) (noM_cons rfl noM_nil) (fun part_357 hx_358 => (ev_eq (ev_cv (f := (eD (eFrac cFrac))) (u := (Py.tup (F := Frac))) (ev_call part_357 (ea_cons (ev_eq (ev_var (i := 1) rfl) rfl) ea_nil) (((((((((okh.2 hc_339) hc_342) hc_343) hc_344) hc_345).2 hc_346) hc_354).2.2.1 part_357 hx_358)) rfl rfl)) rfl))))) (eas_cons (ev_cv (f := (eD (eFrac cFrac))) (u := (Py.int (F := Frac))) (ev_lenQ (ev_dQ (ev_var (i := 0) rfl) ((((((((okh.2 hc_339) hc_342) hc_343) hc_344) hc_345).2 hc_346) hc_354).2.2.2)))) (eas_nil (e := (eD (eFrac cFrac))))))) (by show 3 ≤ 100000; decide)) rfl) (.inl rfl) rfl)) (fun hc_354 => (xb_retS (ev_eq (ev_tup (eas_cons (ev_cv (f := (eD (eFrac cFrac))) (u := (Py.str (F := Frac))) ev_str) (eas_nil (e := (eD (eFrac cFrac))))) (by show 1 ≤ 100000; decide)) rfl) (.inl rfl) rfl)))))))))))))))⟩
set_option maxHeartbeats 4000000 in
theorem atH_law_kind_2 {P : Program} {w : World} {K : PySem.W.Frag} {mg : Str → Option Value} {base : Heap} {cFrac : Addr} {cInvalidFraction : Addr} (T : Txt K mg cFrac cInvalidFraction) : FnAtH P w K mg base "_law_kind" 3 ["value"] (sp_law_kind_2 cFrac (K := K)) := by
  obtain ⟨f, fd, F, mg_, bd_⟩ := T.d_law_kind
  obtain ⟨⟨aH_law_kind_1, dH_law_kind_1, GH_law_kind_1, mH_law_kind_1, kH_law_kind_1, bH_law_kind_1⟩⟩ := atH_law_kind_1 (P := P) (w := w) (base := base) T
  refine ⟨⟨f, fd, fn_okH (k := 2) (fl := fun _ t => nomatch t) (o := fun x : (Py Frac) => o_law_kind_2 x) (E := fun _ z => nomatch z) F sc_law_kind (fun x => f_law_kind_2_eq x) (fun x => rfl) (fun x i s h => noM_tail (by simp [Slot.isM]) h) (fun _ t => nomatch t) (fun cdv A outer s H EX p hot hr x hp => ?_), mg_, F.kp, bd_⟩⟩
  revert hp; revert x; intro value hp
  have okh : ok_law_kind_2 value := hp
  exact ⟨_, _, rfl,
    (pss_cons (ps_if (pt_val (pe_callB call_isi (by rfl) T.b_isinstance (by decide +kernel) (pa_cons (pv 0) (pa_cons (pe_glob (v := .ref cFrac) (by rfl) T.mg_Frac rfl) pa_nil)))) (pss_cons (ps_ret (pe_tup (pa_cons pe_str (pa_cons (pe_fld (pv 0) rfl) (pa_cons (pe_fld (pv 0) rfl) pa_nil))))) pss_nil) pss_nil) (pss_cons (ps_if (pt_val (pe_callB call_isi (by rfl) T.b_isinstance (by decide +kernel) (pa_cons (pv 0) (pa_cons (pe_bltn (v := .ty "bool") (by rfl) T.b_bool (by decide +kernel) rfl) pa_nil)))) (pss_cons (ps_ret (pe_tup (pa_cons pe_str (pa_cons (pv 0) pa_nil)))) pss_nil) pss_nil) (pss_cons (ps_if (pt_val (pe_callB call_isi (by rfl) T.b_isinstance (by decide +kernel) (pa_cons (pv 0) (pa_cons (pe_bltn (v := .ty "int") (by rfl) T.b_int (by decide +kernel) rfl) pa_nil)))) (pss_cons (ps_ret (pe_tup (pa_cons pe_str (pa_cons (pv 0) pa_nil)))) pss_nil) pss_nil) (pss_cons (ps_if (pt_val (pe_callB call_isi (by rfl) T.b_isinstance (by decide +kernel) (pa_cons (pv 0) (pa_cons (pe_bltn (v := .ty "str") (by rfl) T.b_str (by decide +kernel) rfl) pa_nil)))) (pss_cons (ps_ret (pe_tup (pa_cons pe_str (pa_cons (pv 0) pa_nil)))) pss_nil) pss_nil) (pss_cons (ps_if (pt_cmpR op_isN (pv 0) pe_non (nomark _)) (pss_cons (ps_ret (pe_tup (pa_cons pe_str pa_nil))) pss_nil) pss_nil) (pss_cons (ps_if (pt_val (pe_callB call_isi (by rfl) T.b_isinstance (by decide +kernel) (pa_cons (pv 0) (pa_cons (pe_bltn (v := .ty "list") (by rfl) T.b_list (by decide +kernel) rfl) pa_nil)))) (pss_cons (ps_ret (pe_tup (pa_cons pe_str (pa_cons (FLH.pe_lcPH (own := [("part", 1)]) (g := gName 1) (tt := tYes) (hotX hot) sc_law_kind.nd (FLH.pi_seqP (pe_slice (slK (K := K) rfl) (pv 0) po_none (po_some pe_int))) (blkOk_by (N := N_law_kind) (sc := defScope s_law_kind) (by decide +kernel)) (fun _ _ _ _ _ => (pg_name (i := 1) sc_law_kind.nd rfl (by first | exact Or.inl rfl | exact Or.inr rfl))) (fun _ _ _ _ _ => pts_nil) (fun p_ hp_ _ _ _ _ _ => (L2H.pe_callH GH_law_kind_1 (hr.mono (by decide)) (FLH.hotP hp_) (by rfl) mH_law_kind_1 kH_law_kind_1 bH_law_kind_1 (passH0 (E := fun _ => E0)) (pa_cons (pv 1) pa_nil)))) (pa_cons (pe_callB call_len_seq (by rfl) T.b_len (by decide +kernel) (pa_cons (pv 0) pa_nil)) pa_nil))))) pss_nil) pss_nil) (pss_cons (ps_if (pt_val (pe_callB call_isi (by rfl) T.b_isinstance (by decide +kernel) (pa_cons (pv 0) (pa_cons (pe_bltn (v := .ty "tuple") (by rfl) T.b_tuple (by decide +kernel) rfl) pa_nil)))) (pss_cons (ps_ret (pe_tup (pa_cons pe_str (pa_cons (FLH.pe_lcPH (own := [("part", 1)]) (g := gName 1) (tt := tYes) (hotX hot) sc_law_kind.nd (FLH.pi_seqP (pe_slice (slK (K := K) rfl) (pv 0) po_none (po_some pe_int))) (blkOk_by (N := N_law_kind) (sc := defScope s_law_kind) (by decide +kernel)) (fun _ _ _ _ _ => (pg_name (i := 1) sc_law_kind.nd rfl (by first | exact Or.inl rfl | exact Or.inr rfl))) (fun _ _ _ _ _ => pts_nil) (fun p_ hp_ _ _ _ _ _ => (L2H.pe_callH GH_law_kind_1 (hr.mono (by decide)) (FLH.hotP hp_) (by rfl) mH_law_kind_1 kH_law_kind_1 bH_law_kind_1 (passH0 (E := fun _ => E0)) (pa_cons (pv 1) pa_nil)))) (pa_cons (pe_callB call_len_seq (by rfl) T.b_len (by decide +kernel) (pa_cons (pv 0) pa_nil)) pa_nil))))) pss_nil) pss_nil) (pss_cons (ps_ret (pe_tup (pa_cons pe_str pa_nil))) pss_nil)))))))),
    (xb_ifR (et_eq (et_B (ev_isiD T.in_Frac (ev_var (i := 0) rfl) (.own _) T.ki_NoneType_Frac T.ki_bool_Frac T.ki_int_Frac T.ki_str_Frac T.ki_Frac_Frac T.ki_list_Frac T.ki_tuple_Frac)) rfl) (fun hc_339 => (xb_retS (ev_eq (ev_tup (eas_cons (ev_cv (f := (eD (eFrac cFrac))) (u := (Py.str (F := Frac))) ev_str) (eas_cons (ev_cv (f := (eD (eFrac cFrac))) (u := (Py.int (F := Frac))) (ev_fld (F := ⟨eI, Frac.num⟩) (ev_dO (ev_var (i := 0) rfl) ((okh.1 hc_339).1)) 0 rfl flFrac_nd T.cl_Frac T.na_Frac_num)) (eas_cons (ev_cv (f := (eD (eFrac cFrac))) (u := (Py.int (F := Frac))) (ev_fld (F := ⟨eI, Frac.den⟩) (ev_dO (ev_var (i := 0) rfl) ((okh.1 hc_339).2)) 1 rfl flFrac_nd T.cl_Frac T.na_Frac_den)) (eas_nil (e := (eD (eFrac cFrac))))))) (by show 3 ≤ 100000; decide)) rfl) (.inl rfl) rfl)) (fun hc_339 => (xb_ifR (et_eq (et_B (ev_isiD T.in_Frac (ev_var (i := 0) rfl) (.ty _) (kit_ty (by decide +kernel)) (kit_ty (by decide +kernel)) (kit_ty (by decide +kernel)) (kit_ty (by decide +kernel)) T.ki_Frac_bool (kit_ty (by decide +kernel)) (kit_ty (by decide +kernel)))) rfl) (fun hc_342 => (xb_retS (ev_eq (ev_tup (eas_cons (ev_cv (f := (eD (eFrac cFrac))) (u := (Py.str (F := Frac))) ev_str) (eas_cons (ev_var (i := 0) rfl) (eas_nil (e := (eD (eFrac cFrac)))))) (by show 2 ≤ 100000; decide)) rfl) (.inl rfl) rfl)) (fun hc_342 => (xb_ifR (et_eq (et_B (ev_isiD T.in_Frac (ev_var (i := 0) rfl) (.ty _) (kit_ty (by decide +kernel)) (kit_ty (by decide +kernel)) (kit_ty (by decide +kernel)) (kit_ty (by decide +kernel)) T.ki_Frac_int (kit_ty (by decide +kernel)) (kit_ty (by decide +kernel)))) rfl) (fun hc_343 => (xb_retS (ev_eq (ev_tup (eas_cons (ev_cv (f := (eD (eFrac cFrac))) (u := (Py.str (F := Frac))) ev_str) (eas_cons (ev_var (i := 0) rfl) (eas_nil (e := (eD (eFrac cFrac)))))) (by show 2 ≤ 100000; decide)) rfl) (.inl rfl) rfl)) (fun hc_343 => (xb_ifR (et_eq (et_B (ev_isiD T.in_Frac (ev_var (i := 0) rfl) (.ty _) (kit_ty (by decide +kernel)) (kit_ty (by decide +kernel)) (kit_ty (by decide +kernel)) (kit_ty (by decide +kernel)) T.ki_Frac_str (kit_ty (by decide +kernel)) (kit_ty (by decide +kernel)))) rfl) (fun hc_344 => (xb_retS (ev_eq (ev_tup (eas_cons (ev_cv (f := (eD (eFrac cFrac))) (u := (Py.str (F := Frac))) ev_str) (eas_cons (ev_var (i := 0) rfl) (eas_nil (e := (eD (eFrac cFrac)))))) (by show 2 ≤ 100000; decide)) rfl) (.inl rfl) rfl)) (fun hc_344 => (xb_ifR (et_eq (et_test (ev_isD (ev_var (i := 0) rfl) rfl)) rfl) (fun hc_345 => (xb_retS (ev_eq (ev_tup (eas_cons (ev_cv (f := (eD (eFrac cFrac))) (u := (Py.str (F := Frac))) ev_str) (eas_nil (e := (eD (eFrac cFrac))))) (by show 1 ≤ 100000; decide)) rfl) (.inl rfl) rfl)) (fun hc_345 => (xb_ifR (et_eq (et_B (ev_isiD T.in_Frac (ev_var (i := 0) rfl) (.ty _) (kit_ty (by decide +kernel)) (kit_ty (by decide +kernel)) (kit_ty (by decide +kernel)) (kit_ty (by decide +kernel)) T.ki_Frac_list (kit_ty (by decide +kernel)) (kit_ty (by decide +kernel)))) rfl) (fun hc_346 => (xb_retS (ev_eq (ev_tup (eas_cons (ev_cv (f := (eD (eFrac cFrac))) (u := (Py.str (F := Frac))) ev_str) (eas_cons (ev_cv (f := (eD (eFrac cFrac))) (u := (Py.lst (F := Frac))) (EvN.d (en_lcY (v := fun part_349 : (Py Frac) => ((Py.tup (F := Frac)) (f_law_kind_1 part_349))) (ei_seq (ev_dQ (ev_slD (ev_var (i := 0) rfl) eo_none (eo_some ev_int) (((((((okh.2 hc_339) hc_342) hc_343) hc_344) hc_345).1 hc_346).1)) (((((((okh.2 hc_339) hc_342) hc_343) hc_344) hc_345).1 hc_346).2.1))) eg_name (by decide) (noM_cons rfl noM_nil) (fun part_349 hx_350 => (ev_eq (ev_cv (f := (eD (eFrac cFrac))) (u := (Py.tup (F := Frac))) (ev_callS part_349 (ea_cons (ev_eq (ev_var (i := 1) rfl) rfl) ea_nil) ((((((((okh.2 hc_339) hc_342) hc_343) hc_344) hc_345).1 hc_346).2.2.1 part_349 hx_350)) rfl rfl)) rfl))))) (eas_cons (ev_cv (f := (eD (eFrac cFrac))) (u := (Py.int (F := Frac))) (ev_lenQ (ev_dQ (ev_var (i := 0) rfl) (((((((okh.2 hc_339) hc_342) hc_343) hc_344) hc_345).1 hc_346).2.2.2)))) (eas_nil (e := (eD (eFrac cFrac))))))) (by show 3 ≤ 100000; decide)) rfl) (.inl rfl) rfl)) (fun hc_346 => (xb_ifR (et_eq (et_B (ev_isiD T.in_Frac (ev_var (i := 0) rfl) (.ty _) (kit_ty (by decide +kernel)) (kit_ty (by decide +kernel)) (kit_ty (by decide +kernel)) (kit_ty (by decide +kernel)) T.ki_Frac_tuple (kit_ty (by decide +kernel)) (kit_ty (by decide +kernel)))) rfl) (fun hc_354 => (xb_retS (ev_eq (ev_tup (eas_cons (ev_cv (f := (eD (eFrac cFrac))) (u := (Py.str (F := Frac))) ev_str) (eas_cons (ev_cv (f := (eD (eFrac cFrac))) (u := (Py.lst (F := Frac))) (EvN.d (en_lcY (v := fun part_357 : (Py Frac) => ((Py.tup (F := Frac)) (f_law_kind_1 part_357))) (ei_seq (ev_dQ (ev_slD (ev_var (i := 0) rfl) eo_none (eo_some ev_int) ((((((((okh.2 hc_339) hc_342) hc_343) hc_344) hc_345).2 hc_346) hc_354).1)) ((((((((okh.2 hc_339) hc_342) hc_343) hc_344) hc_345).2 hc_346) hc_354).2.1))) eg_name (by decide) (noM_cons rfl noM_nil) (fun part_357 hx_358 => (ev_eq (ev_cv (f := (eD (eFrac cFrac))) (u := (Py.tup (F := Frac))) (ev_callS part_357 (ea_cons (ev_eq (ev_var (i := 1) rfl) rfl) ea_nil) (((((((((okh.2 hc_339) hc_342) hc_343) hc_344) hc_345).2 hc_346) hc_354).2.2.1 part_357 hx_358)) rfl rfl)) rfl))))) (eas_cons (ev_cv (f := (eD (eFrac cFrac))) (u := (Py.int (F := Frac))) (ev_lenQ (ev_dQ (ev_var (i := 0) rfl) ((((((((okh.2 hc_339) hc_342) hc_343) hc_344) hc_345).2 hc_346) hc_354).2.2.2)))) (eas_nil (e := (eD (eFrac cFrac))))))) (by show 3 ≤ 100000; decide)) rfl) (.inl rfl) rfl)) (fun hc_354 => (xb_retS (ev_eq (ev_tup (eas_cons (ev_cv (f := (eD (eFrac cFrac))) (u := (Py.str (F := Frac))) ev_str) (eas_nil (e := (eD (eFrac cFrac))))) (by show 1 ≤ 100000; decide)) rfl) (.inl rfl) rfl)))))))))))))))⟩
/-! ### _law_kind@3 -/
def o_law_kind_3 (value : (Py Frac)) : Out Empty Empty (List (Py Frac)) :=
  (bif ((value).sel false false false false true false false) then (.rt [((Py.str (F := Frac)) ("fraction" : Str)), ((Py.int (F := Frac)) ((value).o.num)), ((Py.int (F := Frac)) ((value).o.den))]) else (bif ((value).sel false true false false false false false) then (.rt [((Py.str (F := Frac)) ("truth" : Str)), value]) else (bif ((value).sel false true true false false false false) then (.rt [((Py.str (F := Frac)) ("integer" : Str)), value]) else (bif ((value).sel false false false true false false false) then (.rt [((Py.str (F := Frac)) ("string" : Str)), value]) else (bif ((value).isN) then (.rt [((Py.str (F := Frac)) ("none" : Str))]) else (bif ((value).sel false false false false false true false) then (.rt [((Py.str (F := Frac)) ("list" : Str)), ((Py.lst (F := Frac)) (((((value).cut none (some (3 : Int)))).q).map fun part_372 => ((Py.tup (F := Frac)) (f_law_kind_2 part_372)))), ((Py.int (F := Frac)) (((value).q).length : Int))]) else (bif ((value).sel false false false false false false true) then (.rt [((Py.str (F := Frac)) ("tuple" : Str)), ((Py.lst (F := Frac)) (((((value).cut none (some (3 : Int)))).q).map fun part_380 => ((Py.tup (F := Frac)) (f_law_kind_2 part_380)))), ((Py.int (F := Frac)) (((value).q).length : Int))]) else (.rt [((Py.str (F := Frac)) ("other" : Str))]))))))))
@[irreducible] def f_law_kind_3 (value : (Py Frac)) : (List (Py Frac)) := (o_law_kind_3 value).get
theorem f_law_kind_3_eq (value : (Py Frac)) : f_law_kind_3 value = (o_law_kind_3 value).get := by delta f_law_kind_3; rfl
def ok_law_kind_3 (value : (Py Frac)) : Prop :=
  (∀ (hc_362 : (((value).sel false false false false true false false)) = true), ((value).isO = true) ∧ ((value).isO = true)) ∧ (∀ (hc_362 : (((value).sel false false false false true false false)) = false), (∀ (hc_365 : (((value).sel false true false false false false false)) = false), (∀ (hc_366 : (((value).sel false true true false false false false)) = false), (∀ (hc_367 : (((value).sel false false false true false false false)) = false), (∀ (hc_368 : (((value).isN)) = false), (∀ (hc_369 : (((value).sel false false false false false true false)) = true), ((value).isQ = true) ∧ ((((value).cut none (some (3 : Int)))).isQ = true) ∧ (∀ (part_372 : (Py Frac)) (hx_373 : part_372 ∈ (((value).cut none (some (3 : Int)))).q), (ok_law_kind_2 part_372)) ∧ ((value).isQ = true)) ∧ (∀ (hc_369 : (((value).sel false false false false false true false)) = false), (∀ (hc_377 : (((value).sel false false false false false false true)) = true), ((value).isQ = true) ∧ ((((value).cut none (some (3 : Int)))).isQ = true) ∧ (∀ (part_380 : (Py Frac)) (hx_381 : part_380 ∈ (((value).cut none (some (3 : Int)))).q), (ok_law_kind_2 part_380)) ∧ ((value).isQ = true))))))))
section
variable {K : PySem.W.Frag} {cFrac : Addr} {cInvalidFraction : Addr}
abbrev sp_law_kind_3 (cFrac : Addr) : Sp := spF (K := K) (ι := (Py Frac)) (fun x => [.d (eD (eFrac cFrac)) x]) (fun x => ok_law_kind_3 x) (retD (eT (eD (eFrac cFrac)))) (fun x => f_law_kind_3 x)
end
set_option maxHeartbeats 4000000 in
theorem at_law_kind_3 {P : Program} {w : World} {K : PySem.W.Frag} {mg : Str → Option Value} {base : Heap} {cFrac : Addr} {cInvalidFraction : Addr} (T : Txt K mg cFrac cInvalidFraction) : FnAt P w K mg base "_law_kind" 4 ["value"] (sp_law_kind_3 cFrac (K := K)) := by
  obtain ⟨f, fd, F, mg_, bd_⟩ := T.d_law_kind
  obtain ⟨⟨a_law_kind_2, d_law_kind_2, G_law_kind_2, m_law_kind_2, k_law_kind_2, b_law_kind_2⟩⟩ := at_law_kind_2 (P := P) (w := w) (base := base) T
  refine ⟨⟨f, fd, fn_okG (fun x => f_law_kind_3_eq x) <| fn_okE (o := fun x : (Py Frac) => o_law_kind_3 x) (k := 3) F sc_law_kind (fun x => rfl) (fun x i s h => noM_tail (by simp [Slot.isM]) h) (fun cdv A outer s H EX hr value hp => ?_), mg_, F.kp, bd_⟩⟩
  have okh : ok_law_kind_3 value := hp
  exact ⟨_, _, rfl,
    (pss_cons (ps_if (pt_val (pe_callB call_isi (by rfl) T.b_isinstance (by decide +kernel) (pa_cons (pv 0) (pa_cons (pe_glob (v := .ref cFrac) (by rfl) T.mg_Frac rfl) pa_nil)))) (pss_cons (ps_ret (pe_tup (pa_cons pe_str (pa_cons (pe_fld (pv 0) rfl) (pa_cons (pe_fld (pv 0) rfl) pa_nil))))) pss_nil) pss_nil) (pss_cons (ps_if (pt_val (pe_callB call_isi (by rfl) T.b_isinstance (by decide +kernel) (pa_cons (pv 0) (pa_cons (pe_bltn (v := .ty "bool") (by rfl) T.b_bool (by decide +kernel) rfl) pa_nil)))) (pss_cons (ps_ret (pe_tup (pa_cons pe_str (pa_cons (pv 0) pa_nil)))) pss_nil) pss_nil) (pss_cons (ps_if (pt_val (pe_callB call_isi (by rfl) T.b_isinstance (by decide +kernel) (pa_cons (pv 0) (pa_cons (pe_bltn (v := .ty "int") (by rfl) T.b_int (by decide +kernel) rfl) pa_nil)))) (pss_cons (ps_ret (pe_tup (pa_cons pe_str (pa_cons (pv 0) pa_nil)))) pss_nil) pss_nil) (pss_cons (ps_if (pt_val (pe_callB call_isi (by rfl) T.b_isinstance (by decide +kernel) (pa_cons (pv 0) (pa_cons (pe_bltn (v := .ty "str") (by rfl) T.b_str (by decide +kernel) rfl) pa_nil)))) (pss_cons (ps_ret (pe_tup (pa_cons pe_str (pa_cons (pv 0) pa_nil)))) pss_nil) pss_nil) (pss_cons (ps_if (pt_cmpR op_isN (pv 0) pe_non (nomark _)) (pss_cons (ps_ret (pe_tup (pa_cons pe_str pa_nil))) pss_nil) pss_nil) (pss_cons (ps_if (pt_val (pe_callB call_isi (by rfl) T.b_isinstance (by decide +kernel) (pa_cons (pv 0) (pa_cons (pe_bltn (v := .ty "list") (by rfl) T.b_list (by decide +kernel) rfl) pa_nil)))) (pss_cons (ps_ret (pe_tup (pa_cons pe_str (pa_cons (pe_lc (own := [("part", 1)]) (g := gName 1) (tt := tYes) rfl sc_law_kind.nd (pi_seq (pe_slice (slK (K := K) rfl) (pv 0) po_none (po_some pe_int))) (blkOk_by (N := N_law_kind) (sc := defScope s_law_kind) (by decide +kernel)) (fun _ _ _ _ _ => (pg_name (i := 1) sc_law_kind.nd rfl (by first | exact Or.inl rfl | exact Or.inr rfl))) (fun _ _ _ _ _ => pts_nil) (fun _ _ _ _ _ => (pe_call G_law_kind_2 (hr.mono (by decide)) (by rfl) m_law_kind_2 k_law_kind_2 b_law_kind_2 .nil pass0 (pa_cons (pv 1) pa_nil)))) (pa_cons (pe_callB call_len_seq (by rfl) T.b_len (by decide +kernel) (pa_cons (pv 0) pa_nil)) pa_nil))))) pss_nil) pss_nil) (pss_cons (ps_if (pt_val (pe_callB call_isi (by rfl) T.b_isinstance (by decide +kernel) (pa_cons (pv 0) (pa_cons (pe_bltn (v := .ty "tuple") (by rfl) T.b_tuple (by decide +kernel) rfl) pa_nil)))) (pss_cons (ps_ret (pe_tup (pa_cons pe_str (pa_cons (pe_lc (own := [("part", 1)]) (g := gName 1) (tt := tYes) rfl sc_law_kind.nd (pi_seq (pe_slice (slK (K := K) rfl) (pv 0) po_none (po_some pe_int))) (blkOk_by (N := N_law_kind) (sc := defScope s_law_kind) (by decide +kernel)) (fun _ _ _ _ _ => (pg_name (i := 1) sc_law_kind.nd rfl (by first | exact Or.inl rfl | exact Or.inr rfl))) (fun _ _ _ _ _ => pts_nil) (fun _ _ _ _ _ => (pe_call G_law_kind_2 (hr.mono (by decide)) (by rfl) m_law_kind_2 k_law_kind_2 b_law_kind_2 .nil pass0 (pa_cons (pv 1) pa_nil)))) (pa_cons (pe_callB call_len_seq (by rfl) T.b_len (by decide +kernel) (pa_cons (pv 0) pa_nil)) pa_nil))))) pss_nil) pss_nil) (pss_cons (ps_ret (pe_tup (pa_cons pe_str pa_nil))) pss_nil)))))))),
    (xb_ifR (et_eq (et_B (ev_isiD T.in_Frac (ev_var (i := 0) rfl) (.own _) T.ki_NoneType_Frac T.ki_bool_Frac T.ki_int_Frac T.ki_str_Frac T.ki_Frac_Frac T.ki_list_Frac T.ki_tuple_Frac)) rfl) (fun hc_362 => (xb_retS (ev_eq (ev_tup (eas_cons (ev_cv (f := (eD (eFrac cFrac))) (u := (Py.str (F := Frac))) ev_str) (eas_cons (ev_cv (f := (eD (eFrac cFrac))) (u := (Py.int (F := Frac))) (ev_fld (F := ⟨eI, Frac.num⟩) (ev_dO (ev_var (i := 0) rfl) ((okh.1 hc_362).1)) 0 rfl flFrac_nd T.cl_Frac T.na_Frac_num)) (eas_cons (ev_cv (f := (eD (eFrac cFrac))) (u := (Py.int (F := Frac))) (ev_fld (F := ⟨eI, Frac.den⟩) (ev_dO (ev_var (i := 0) rfl) ((okh.1 hc_362).2)) 1 rfl flFrac_nd T.cl_Frac T.na_Frac_den)) (eas_nil (e := (eD (eFrac cFrac))))))) (by show 3 ≤ 100000; decide)) rfl) (.inl rfl) rfl)) (fun hc_362 => (xb_ifR (et_eq (et_B (ev_isiD T.in_Frac (ev_var (i := 0) rfl) (.ty _) (kit_ty (by decide +kernel)) (kit_ty (by decide +kernel)) (kit_ty (by decide +kernel)) (kit_ty (by decide +kernel)) T.ki_Frac_bool (kit_ty (by decide +kernel)) (kit_ty (by decide +kernel)))) rfl) (fun hc_365 => (xb_retS (ev_eq (ev_tup (eas_cons (ev_cv (f := (eD (eFrac cFrac))) (u := (Py.str (F := Frac))) ev_str) (eas_cons (ev_var (i := 0) rfl) (eas_nil (e := (eD (eFrac cFrac)))))) (by show 2 ≤ 100000; decide)) rfl) (.inl rfl) rfl)) (fun hc_365 => (xb_ifR (et_eq (et_B (ev_isiD T.in_Frac (ev_var (i := 0) rfl) (.ty _) (kit_ty (by decide +kernel)) (kit_ty (by decide +kernel)) (kit_ty (by decide +kernel)) (kit_ty (by decide +kernel)) T.ki_Frac_int (kit_ty (by decide +kernel)) (kit_ty (by decide +kernel)))) rfl) (fun hc_366 => (xb_retS (ev_eq (ev_tup (eas_cons (ev_cv (f := (eD (eFrac cFrac))) (u := (Py.str (F := Frac))) ev_str) (eas_cons (ev_var (i := 0) rfl) (eas_nil (e := (eD (eFrac cFrac)))))) (by show 2 ≤ 100000; decide)) rfl) (.inl rfl) rfl)) (fun hc_366 => (xb_ifR (et_eq (et_B (ev_isiD T.in_Frac (ev_var (i := 0) rfl) (.ty _) (kit_ty (by decide +kernel)) (kit_ty (by decide +kernel)) (kit_ty (by decide +kernel)) (kit_ty (by decide +kernel)) T.ki_Frac_str (kit_ty (by decide +kernel)) (kit_ty (by decide +kernel)))) rfl) (fun hc_367 => (xb_retS (ev_eq (ev_tup (eas_cons (ev_cv (f := (eD (eFrac cFrac))) (u := (Py.str (F := Frac))) ev_str) (eas_cons (ev_var (i := 0) rfl) (eas_nil (e := (eD (eFrac cFrac)))))) (by show 2 ≤ 100000; decide)) rfl) (.inl rfl) rfl)) (fun hc_367 => (xb_ifR (et_eq (et_test (ev_isD (ev_var (i := 0) rfl) rfl)) rfl) (fun hc_368 => (xb_retS (ev_eq (ev_tup (eas_cons (ev_cv (f := (eD (eFrac cFrac))) (u := (Py.str (F := Frac))) ev_str) (eas_nil (e := (eD (eFrac cFrac))))) (by show 1 ≤ 100000; decide)) rfl) (.inl rfl) rfl)) (fun hc_368 => (xb_ifR (et_eq (et_B (ev_isiD T.in_Frac (ev_var (i := 0) rfl) (.ty _) (kit_ty (by decide +kernel)) (kit_ty (by decide +kernel)) (kit_ty (by decide +kernel)) (kit_ty (by decide +kernel)) T.ki_Frac_list (kit_ty (by decide +kernel)) (kit_ty (by decide +kernel)))) rfl) (fun hc_369 => (xb_retS (ev_eq (ev_tup (eas_cons (ev_cv (f := (eD (eFrac cFrac))) (u := (Py.str (F := Frac))) ev_str) (eas_cons (ev_cv (f := (eD (eFrac cFrac))) (u := (Py.lst (F := Frac))) (EvN.d (en_lcY (v := fun part_372 : (Py Frac) => ((Py.tup (F := Frac)) (f_law_kind_2 part_372))) (ei_seq (ev_dQ (ev_slD (ev_var (i := 0) rfl) eo_none (eo_some ev_int) (((((((okh.2 hc_362) hc_365) hc_366) hc_367) hc_368).1 hc_369).1)) (((((((okh.2 hc_362) hc_365) hc_366) hc_367) hc_368).1 hc_369).2.1))) eg_name (by decide) (noM_cons rfl noM_nil) (fun part_372 hx_373 => (ev_eq (ev_cv (f := (eD (eFrac cFrac))) (u := (Py.tup (F := Frac))) (ev_call part_372 (ea_cons (ev_eq (ev_var (i := 1) rfl) rfl) ea_nil) ((((((((okh.2 hc_362) hc_365) hc_366) hc_367) hc_368).1 hc_369).2.2.1 part_372 hx_373)) rfl rfl)) rfl))))) (eas_cons (ev_cv (f := (eD (eFrac cFrac))) (u := (Py.int (F := Frac))) (ev_lenQ (ev_dQ (ev_var (i := 0) rfl) (((((((okh.2 hc_362) hc_365) hc_366) hc_367) hc_368).1 hc_369).2.2.2)))) (eas_nil (e := (eD (eFrac cFrac))))))) (by show 3 ≤ 100000; decide)) rfl) (.inl rfl) rfl)) (fun hc_369 => (xb_ifR (et_eq (et_B (ev_isiD T.in_Frac (ev_var (i := 0) rfl) (.ty _) (kit_ty (by decide +kernel)) (kit_ty (by decide +kernel)) (kit_ty (by decide +kernel)) (kit_ty (by decide +kernel)) T.ki_Frac_tuple (kit_ty (by decide +kernel)) (kit_ty (by decide +kernel)))) rfl) (fun hc_377 => (xb_retS (ev_eq (ev_tup (eas_cons (ev_cv (f := (eD (eFrac cFrac))) (u := (Py.str (F := Frac))) ev_str) (eas_cons (ev_cv (f := (eD (eFrac cFrac))) (u := (Py.lst (F := Frac))) (EvN.d (en_lcY (v := fun part_380 : (Py Frac) => ((Py.tup (F := Frac)) (f_law_kind_2 part_380))) (ei_seq (ev_dQ (ev_slD (ev_var (i := 0) rfl) eo_none (eo_some ev_int) ((((((((okh.2 hc_362) hc_365) hc_366) hc_367) hc_368).2 hc_369) hc_377).1)) ((((((((okh.2 hc_362) hc_365) hc_366) hc_367) hc_368).2 hc_369) hc_377).2.1))) eg_name (by decide) (noM_cons rfl noM_nil) (fun part_380 hx_381 => (ev_eq (ev_cv (f := (eD (eFrac cFrac))) (u := (Py.tup (F := Frac))) (ev_call part_380 (ea_cons (ev_eq (ev_var (i := 1) rfl) rfl) ea_nil) (((((((((okh.2 hc_362) hc_365) hc_366) hc_367) hc_368).2 hc_369) hc_377).2.2.1 part_380 hx_381)) rfl rfl)) rfl))))) (eas_cons (ev_cv (f := (eD (eFrac cFrac))) (u := (Py.int (F := Frac))) (ev_lenQ (ev_dQ (ev_var (i := 0) rfl) ((((((((okh.2 hc_362) hc_365) hc_366) hc_367) hc_368).2 hc_369) hc_377).2.2.2)))) (eas_nil (e := (eD (eFrac cFrac))))))) (by show 3 ≤ 100000; decide)) rfl) (.inl rfl) rfl)) (fun hc_377 => (xb_retS (ev_eq (ev_tup (eas_cons (ev_cv (f := (eD (eFrac cFrac))) (u := (Py.str (F := Frac))) ev_str) (eas_nil (e := (eD (eFrac cFrac))))) (by show 1 ≤ 100000; decide)) rfl) (.inl rfl) rfl)))))))))))))))⟩
set_option maxHeartbeats 4000000 in
theorem atH_law_kind_3 {P : Program} {w : World} {K : PySem.W.Frag} {mg : Str → Option Value} {base : Heap} {cFrac : Addr} {cInvalidFraction : Addr} (T : Txt K mg cFrac cInvalidFraction) : FnAtH P w K mg base "_law_kind" 4 ["value"] (sp_law_kind_3 cFrac (K := K)) := by
  obtain ⟨f, fd, F, mg_, bd_⟩ := T.d_law_kind
  obtain ⟨⟨aH_law_kind_2, dH_law_kind_2, GH_law_kind_2, mH_law_kind_2, kH_law_kind_2, bH_law_kind_2⟩⟩ := atH_law_kind_2 (P := P) (w := w) (base := base) T
  refine ⟨⟨f, fd, fn_okH (k := 3) (fl := fun _ t => nomatch t) (o := fun x : (Py Frac) => o_law_kind_3 x) (E := fun _ z => nomatch z) F sc_law_kind (fun x => f_law_kind_3_eq x) (fun x => rfl) (fun x i s h => noM_tail (by simp [Slot.isM]) h) (fun _ t => nomatch t) (fun cdv A outer s H EX p hot hr x hp => ?_), mg_, F.kp, bd_⟩⟩
  revert hp; revert x; intro value hp
  have okh : ok_law_kind_3 value := hp
  exact ⟨_, _, rfl,
    (pss_cons (ps_if (pt_val (pe_callB call_isi (by rfl) T.b_isinstance (by decide +kernel) (pa_cons (pv 0) (pa_cons (pe_glob (v := .ref cFrac) (by rfl) T.mg_Frac rfl) pa_nil)))) (pss_cons (ps_ret (pe_tup (pa_cons pe_str (pa_cons (pe_fld (pv 0) rfl) (pa_cons (pe_fld (pv 0) rfl) pa_nil))))) pss_nil) pss_nil) (pss_cons (ps_if (pt_val (pe_callB call_isi (by rfl) T.b_isinstance (by decide +kernel) (pa_cons (pv 0) (pa_cons (pe_bltn (v := .ty "bool") (by rfl) T.b_bool (by decide +kernel) rfl) pa_nil)))) (pss_cons (ps_ret (pe_tup (pa_cons pe_str (pa_cons (pv 0) pa_nil)))) pss_nil) pss_nil) (pss_cons (ps_if (pt_val (pe_callB call_isi (by rfl) T.b_isinstance (by decide +kernel) (pa_cons (pv 0) (pa_cons (pe_bltn (v := .ty "int") (by rfl) T.b_int (by decide +kernel) rfl) pa_nil)))) (pss_cons (ps_ret (pe_tup (pa_cons pe_str (pa_cons (pv 0) pa_nil)))) pss_nil) pss_nil) (pss_cons (ps_if (pt_val (pe_callB call_isi (by rfl) T.b_isinstance (by decide +kernel) (pa_cons (pv 0) (pa_cons (pe_bltn (v := .ty "str") (by rfl) T.b_str (by decide +kernel) rfl) pa_nil)))) (pss_cons (ps_ret (pe_tup (pa_cons pe_str (pa_cons (pv 0) pa_nil)))) pss_nil) pss_nil) (pss_cons (ps_if (pt_cmpR op_isN (pv 0) pe_non (nomark _)) (pss_cons (ps_ret (pe_tup (pa_cons pe_str pa_nil))) pss_nil) pss_nil) (pss_cons (ps_if (pt_val (pe_callB call_isi (by rfl) T.b_isinstance (by decide +kernel) (pa_cons (pv 0) (pa_cons (pe_bltn (v := .ty "list") (by rfl) T.b_list (by decide +kernel) rfl) pa_nil)))) (pss_cons (ps_ret (pe_tup (pa_cons pe_str (pa_cons (FLH.pe_lcPH (own := [("part", 1)]) (g := gName 1) (tt := tYes) (hotX hot) sc_law_kind.nd (FLH.pi_seqP (pe_slice (slK (K := K) rfl) (pv 0) po_none (po_some pe_int))) (blkOk_by (N := N_law_kind) (sc := defScope s_law_kind) (by decide +kernel)) (fun _ _ _ _ _ => (pg_name (i := 1) sc_law_kind.nd rfl (by first | exact Or.inl rfl | exact Or.inr rfl))) (fun _ _ _ _ _ => pts_nil) (fun p_ hp_ _ _ _ _ _ => (L2H.pe_callH GH_law_kind_2 (hr.mono (by decide)) (FLH.hotP hp_) (by rfl) mH_law_kind_2 kH_law_kind_2 bH_law_kind_2 (passH0 (E := fun _ => E0)) (pa_cons (pv 1) pa_nil)))) (pa_cons (pe_callB call_len_seq (by rfl) T.b_len (by decide +kernel) (pa_cons (pv 0) pa_nil)) pa_nil))))) pss_nil) pss_nil) (pss_cons (ps_if (pt_val (pe_callB call_isi (by rfl) T.b_isinstance (by decide +kernel) (pa_cons (pv 0) (pa_cons (pe_bltn (v := .ty "tuple") (by rfl) T.b_tuple (by decide +kernel) rfl) pa_nil)))) (pss_cons (ps_ret (pe_tup (pa_cons pe_str (pa_cons (FLH.pe_lcPH (own := [("part", 1)]) (g := gName 1) (tt := tYes) (hotX hot) sc_law_kind.nd (FLH.pi_seqP (pe_slice (slK (K := K) rfl) (pv 0) po_none (po_some pe_int))) (blkOk_by (N := N_law_kind) (sc := defScope s_law_kind) (by decide +kernel)) (fun _ _ _ _ _ => (pg_name (i := 1) sc_law_kind.nd rfl (by first | exact Or.inl rfl | exact Or.inr rfl))) (fun _ _ _ _ _ => pts_nil) (fun p_ hp_ _ _ _ _ _ => (L2H.pe_callH GH_law_kind_2 (hr.mono (by decide)) (FLH.hotP hp_) (by rfl) mH_law_kind_2 kH_law_kind_2 bH_law_kind_2 (passH0 (E := fun _ => E0)) (pa_cons (pv 1) pa_nil)))) (pa_cons (pe_callB call_len_seq (by rfl) T.b_len (by decide +kernel) (pa_cons (pv 0) pa_nil)) pa_nil))))) pss_nil) pss_nil) (pss_cons (ps_ret (pe_tup (pa_cons pe_str pa_nil))) pss_nil)))))))),
    (xb_ifR (et_eq (et_B (ev_isiD T.in_Frac (ev_var (i := 0) rfl) (.own _) T.ki_NoneType_Frac T.ki_bool_Frac T.ki_int_Frac T.ki_str_Frac T.ki_Frac_Frac T.ki_list_Frac T.ki_tuple_Frac)) rfl) (fun hc_362 => (xb_retS (ev_eq (ev_tup (eas_cons (ev_cv (f := (eD (eFrac cFrac))) (u := (Py.str (F := Frac))) ev_str) (eas_cons (ev_cv (f := (eD (eFrac cFrac))) (u := (Py.int (F := Frac))) (ev_fld (F := ⟨eI, Frac.num⟩) (ev_dO (ev_var (i := 0) rfl) ((okh.1 hc_362).1)) 0 rfl flFrac_nd T.cl_Frac T.na_Frac_num)) (eas_cons (ev_cv (f := (eD (eFrac cFrac))) (u := (Py.int (F := Frac))) (ev_fld (F := ⟨eI, Frac.den⟩) (ev_dO (ev_var (i := 0) rfl) ((okh.1 hc_362).2)) 1 rfl flFrac_nd T.cl_Frac T.na_Frac_den)) (eas_nil (e := (eD (eFrac cFrac))))))) (by show 3 ≤ 100000; decide)) rfl) (.inl rfl) rfl)) (fun hc_362 => (xb_ifR (et_eq (et_B (ev_isiD T.in_Frac (ev_var (i := 0) rfl) (.ty _) (kit_ty (by decide +kernel)) (kit_ty (by decide +kernel)) (kit_ty (by decide +kernel)) (kit_ty (by decide +kernel)) T.ki_Frac_bool (kit_ty (by decide +kernel)) (kit_ty (by decide +kernel)))) rfl) (fun hc_365 => (xb_retS (ev_eq (ev_tup (eas_cons (ev_cv (f := (eD (eFrac cFrac))) (u := (Py.str (F := Frac))) ev_str) (eas_cons (ev_var (i := 0) rfl) (eas_nil (e := (eD (eFrac cFrac)))))) (by show 2 ≤ 100000; decide)) rfl) (.inl rfl) rfl)) (fun hc_365 => (xb_ifR (et_eq (et_B (ev_isiD T.in_Frac (ev_var (i := 0) rfl) (.ty _) (kit_ty (by decide +kernel)) (kit_ty (by decide +kernel)) (kit_ty (by decide +kernel)) (kit_ty (by decide +kernel)) T.ki_Frac_int (kit_ty (by decide +kernel)) (kit_ty (by decide +kernel)))) rfl) (fun hc_366 => (xb_retS (ev_eq (ev_tup (eas_cons (ev_cv (f := (eD (eFrac cFrac))) (u := (Py.str (F := Frac))) ev_str) (eas_cons (ev_var (i := 0) rfl) (eas_nil (e := (eD (eFrac cFrac)))))) (by show 2 ≤ 100000; decide)) rfl) (.inl rfl) rfl)) (fun hc_366 => (xb_ifR (et_eq (et_B (ev_isiD T.in_Frac (ev_var (i := 0) rfl) (.ty _) (kit_ty (by decide +kernel)) (kit_ty (by decide +kernel)) (kit_ty (by decide +kernel)) (kit_ty (by decide +kernel)) T.ki_Frac_str (kit_ty (by decide +kernel)) (kit_ty (by decide +kernel)))) rfl) (fun hc_367 => (xb_retS (ev_eq (ev_tup (eas_cons (ev_cv (f := (eD (eFrac cFrac))) (u := (Py.str (F := Frac))) ev_str) (eas_cons (ev_var (i := 0) rfl) (eas_nil (e := (eD (eFrac cFrac)))))) (by show 2 ≤ 100000; decide)) rfl) (.inl rfl) rfl)) (fun hc_367 => (xb_ifR (et_eq (et_test (ev_isD (ev_var (i := 0) rfl) rfl)) rfl) (fun hc_368 => (xb_retS (ev_eq (ev_tup (eas_cons (ev_cv (f := (eD (eFrac cFrac))) (u := (Py.str (F := Frac))) ev_str) (eas_nil (e := (eD (eFrac cFrac))))) (by show 1 ≤ 100000; decide)) rfl) (.inl rfl) rfl)) (fun hc_368 => (xb_ifR (et_eq (et_B (ev_isiD T.in_Frac (ev_var (i := 0) rfl) (.ty _) (kit_ty (by decide +kernel)) (kit_ty (by decide +kernel)) (kit_ty (by decide +kernel)) (kit_ty (by decide +kernel)) T.ki_Frac_list (kit_ty (by decide +kernel)) (kit_ty (by decide +kernel)))) rfl) (fun hc_369 => (xb_retS (ev_eq (ev_tup (eas_cons (ev_cv (f := (eD (eFrac cFrac))) (u := (Py.str (F := Frac))) ev_str) (eas_cons (ev_cv (f := (eD (eFrac cFrac))) (u := (Py.lst (F := Frac))) (EvN.d (en_lcY (v := fun part_372 : (Py Frac) => ((Py.tup (F := Frac)) (f_law_kind_2 part_372))) (ei_seq (ev_dQ (ev_slD (ev_var (i := 0) rfl) eo_none (eo_some ev_int) (((((((okh.2 hc_362) hc_365) hc_366) hc_367) hc_368).1 hc_369).1)) (((((((okh.2 hc_362) hc_365) hc_366) hc_367) hc_368).1 hc_369).2.1))) eg_name (by decide) (noM_cons rfl noM_nil) (fun part_372 hx_373 => (ev_eq (ev_cv (f := (eD (eFrac cFrac))) (u := (Py.tup (F := Frac))) (ev_callS part_372 (ea_cons (ev_eq (ev_var (i := 1) rfl) rfl) ea_nil) ((((((((okh.2 hc_362) hc_365) hc_366) hc_367) hc_368).1 hc_369).2.2.1 part_372 hx_373)) rfl rfl)) rfl))))) (eas_cons (ev_cv (f := (eD (eFrac cFrac))) (u := (Py.int (F := Frac))) (ev_lenQ (ev_dQ (ev_var (i := 0) rfl) (((((((okh.2 hc_362) hc_365) hc_366) hc_367) hc_368).1 hc_369).2.2.2)))) (eas_nil (e := (eD (eFrac cFrac))))))) (by show 3 ≤ 100000; decide)) rfl) (.inl rfl) rfl)) (fun hc_369 => (xb_ifR (et_eq (et_B (ev_isiD T.in_Frac (ev_var (i := 0) rfl) (.ty _) (kit_ty (by decide +kernel)) (kit_ty (by decide +kernel)) (kit_ty (by decide +kernel)) (kit_ty (by decide +kernel)) T.ki_Frac_tuple (kit_ty (by decide +kernel)) (kit_ty (by decide +kernel)))) rfl) (fun hc_377 => (xb_retS (ev_eq (ev_tup (eas_cons (ev_cv (f := (eD (eFrac cFrac))) (u := (Py.str (F := Frac))) ev_str) (eas_cons (ev_cv (f := (eD (eFrac cFrac))) (u := (Py.lst (F := Frac))) (EvN.d (en_lcY (v := fun part_380 : (Py Frac) => ((Py.tup (F := Frac)) (f_law_kind_2 part_380))) (ei_seq (ev_dQ (ev_slD (ev_var (i := 0) rfl) eo_none (eo_some ev_int) ((((((((okh.2 hc_362) hc_365) hc_366) hc_367) hc_368).2 hc_369) hc_377).1)) ((((((((okh.2 hc_362) hc_365) hc_366) hc_367) hc_368).2 hc_369) hc_377).2.1))) eg_name (by decide) (noM_cons rfl noM_nil) (fun part_380 hx_381 => (ev_eq (ev_cv (f := (eD (eFrac cFrac))) (u := (Py.tup (F := Frac))) (ev_callS part_380 (ea_cons (ev_eq (ev_var (i := 1) rfl) rfl) ea_nil) (((((((((okh.2 hc_362) hc_365) hc_366) hc_367) hc_368).2 hc_369) hc_377).2.2.1 part_380 hx_381)) rfl rfl)) rfl))))) (eas_cons (ev_cv (f := (eD (eFrac cFrac))) (u := (Py.int (F := Frac))) (ev_lenQ (ev_dQ (ev_var (i := 0) rfl) ((((((((okh.2 hc_362) hc_365) hc_366) hc_367) hc_368).2 hc_369) hc_377).2.2.2)))) (eas_nil (e := (eD (eFrac cFrac))))))) (by show 3 ≤ 100000; decide)) rfl) (.inl rfl) rfl)) (fun hc_377 => (xb_retS (ev_eq (ev_tup (eas_cons (ev_cv (f := (eD (eFrac cFrac))) (u := (Py.str (F := Frac))) ev_str) (eas_nil (e := (eD (eFrac cFrac))))) (by show 1 ≤ 100000; decide)) rfl) (.inl rfl) rfl)))))))))))))))⟩
/-! ### _law_refused -/
abbrev N_law_refused : List Str := ["num", "den", "shape", "due", "e"]
theorem sc_law_refused : FnScope N_law_refused ["num", "den", "shape"] (defScope s_law_refused) := ⟨rfl, rfl, rfl, by decide +kernel, rfl, by decide +kernel, by decide +kernel⟩
def o_law_refused (num : (Py Frac)) (den : (Py Frac)) (shape : Int) : Out Empty Empty Bool :=
  (lt (f_law_kind_3 ((Py.tup (F := Frac)) [num, den])) fun due_386 => (lt (bif (decide (shape = (0 : Int))) then (due_386, ((r_Frac_init_D num den).getD default)) else (bif (decide (shape = (1 : Int))) then (due_386, ((r_Frac_init_D num den).getD default)) else ((f_law_kind_3 ((Py.tup (F := Frac)) [num, ((Py.int (F := Frac)) (1 : Int))])), ((r_Frac_init_D num ((Py.int (F := Frac)) (1 : Int))).getD default)))) fun t_388 => ((.rt (((t_388.2).sel false false false false false false true) && ((decide ((((t_388.2).q).length : Int) = (2 : Int))) && ((((Py.tup (F := Frac)) (f_law_kind_3 t_388.2))).eqv ((Py.tup (F := Frac)) t_388.1))))) : Out Empty Empty Bool).lift))
@[irreducible] def f_law_refused (num : (Py Frac)) (den : (Py Frac)) (shape : Int) : Bool := (o_law_refused num den shape).get
theorem f_law_refused_eq (num : (Py Frac)) (den : (Py Frac)) (shape : Int) : f_law_refused num den shape = (o_law_refused num den shape).get := by delta f_law_refused; rfl
def ok_law_refused (num : (Py Frac)) (den : (Py Frac)) (shape : Int) : Prop :=
  (ok_law_kind_3 ((Py.tup (F := Frac)) [num, den])) ∧ (∀ due_386 (h_387 : due_386 = (f_law_kind_3 ((Py.tup (F := Frac)) [num, den]))), (∀ (hc_389 : ((decide (shape = (0 : Int)))) = true), ((r_Frac_init_D num den).isSome = true) ∧ (okx_Frac_init_D num den)) ∧ (∀ (hc_389 : ((decide (shape = (0 : Int)))) = false), (∀ (hc_392 : ((decide (shape = (1 : Int)))) = true), ((r_Frac_init_D num den).isSome = true) ∧ (okx_Frac_init_D num den)) ∧ (∀ (hc_392 : ((decide (shape = (1 : Int)))) = false), (ok_law_kind_3 ((Py.tup (F := Frac)) [num, ((Py.int (F := Frac)) (1 : Int))])) ∧ ((r_Frac_init_D num ((Py.int (F := Frac)) (1 : Int))).isSome = true) ∧ (okx_Frac_init_D num ((Py.int (F := Frac)) (1 : Int))))) ∧ (∀ (t_388 : ((List (Py Frac)) × (Py Frac))) (h_398 : t_388 = (bif (decide (shape = (0 : Int))) then (due_386, ((r_Frac_init_D num den).getD default)) else (bif (decide (shape = (1 : Int))) then (due_386, ((r_Frac_init_D num den).getD default)) else ((f_law_kind_3 ((Py.tup (F := Frac)) [num, ((Py.int (F := Frac)) (1 : Int))])), ((r_Frac_init_D num ((Py.int (F := Frac)) (1 : Int))).getD default))))), (∀ (hb_401 : (((t_388.2).sel false false false false false false true)) = true), ((t_388.2).isQ = true) ∧ (∀ (hb_403 : ((decide ((((t_388.2).q).length : Int) = (2 : Int)))) = true), (ok_law_kind_3 t_388.2) ∧ ((((Py.tup (F := Frac)) (f_law_kind_3 t_388.2))).shp = true ∧ (((Py.tup (F := Frac)) t_388.1)).shp = true)))))
section
variable {K : PySem.W.Frag} {cFrac : Addr} {cInvalidFraction : Addr}
abbrev sp_law_refused (cFrac : Addr) : Sp := spF (K := K) (ι := ((Py Frac) × (Py Frac) × Int)) (fun x => [.d (eD (eFrac cFrac)) x.1, .d (eD (eFrac cFrac)) x.2.1, .d eI x.2.2]) (fun x => ok_law_refused x.1 x.2.1 x.2.2) (retD eB) (fun x => f_law_refused x.1 x.2.1 x.2.2)
end
set_option maxHeartbeats 4000000 in
theorem at_law_refused {P : Program} {w : World} {K : PySem.W.Frag} {mg : Str → Option Value} {base : Heap} {cFrac : Addr} {cInvalidFraction : Addr} (T : Txt K mg cFrac cInvalidFraction) : FnAt P w K mg base "_law_refused" 6 ["num", "den", "shape"] (sp_law_refused cFrac (K := K)) := by
  obtain ⟨f, fd, F, mg_, bd_⟩ := T.d_law_refused
  obtain ⟨⟨a_Frac_init_D, d_Frac_init_D, G_Frac_init_D, mk_Frac_init_D, m_Frac_init_D, b_Frac_init_D, ⟨ds_Frac_init_D, vd_Frac_init_D, bd_Frac_init_D⟩, ⟨kg0_Frac_init_D, kb0_Frac_init_D⟩, ⟨kg1_Frac_init_D, kb1_Frac_init_D⟩⟩⟩ := at_Frac_init_D (P := P) (w := w) (base := base) T
  obtain ⟨⟨a_law_kind_3, d_law_kind_3, G_law_kind_3, m_law_kind_3, k_law_kind_3, b_law_kind_3⟩⟩ := at_law_kind_3 (P := P) (w := w) (base := base) T
  obtain ⟨⟨aH_law_kind_3, dH_law_kind_3, GH_law_kind_3, mH_law_kind_3, kH_law_kind_3, bH_law_kind_3⟩⟩ := atH_law_kind_3 (P := P) (w := w) (base := base) T
  obtain ⟨fI_InvalidFraction, dI_InvalidFraction, GI_InvalidFraction, x_InvalidFraction, bI_InvalidFraction⟩ := at_InvalidFraction (P := P) (w := w) (base := base) T
  refine ⟨⟨f, fd, fn_okG (fun x => f_law_refused_eq x.1 x.2.1 x.2.2) <| fn_okE (o := fun x : ((Py Frac) × (Py Frac) × Int) => o_law_refused x.1 x.2.1 x.2.2) (k := 5) F sc_law_refused (fun x => rfl) (fun x i s h => noM_tail (by simp [Slot.isM]) h) (fun cdv A outer s H EX hr x hp => ?_), mg_, F.kp, bd_⟩⟩
  obtain ⟨num, den, shape⟩ := x
  have okh : ok_law_refused num den shape := hp
  exact ⟨_, _, rfl,
    (pss_cons (ps_set (i := 3) sc_law_refused.nd rfl (by first | exact Or.inl rfl | exact Or.inr rfl) (pe_call G_law_kind_3 (hr.mono (by decide)) (by rfl) m_law_kind_3 k_law_kind_3 b_law_kind_3 .nil pass0 (pa_cons (pe_tup (pa_cons (pv 0) (pa_cons (pv 1) pa_nil))) pa_nil))) (pss_cons (ps_tryAll (i := 4) rfl rfl sc_law_refused.nd rfl rfl ⟨rfl, by decide, Or.inl x_InvalidFraction.m⟩ takesN (fun Wx pn xe tk _ => (pss_cons (ps_if (pt_cmpR op_eq (pv 2) pe_int (nomark _)) (pss_cons (ps_expr (pe_makeSD mk_Frac_init_D G_Frac_init_D (hr.mono (by decide)) (by rfl) m_Frac_init_D b_Frac_init_D .nil (fun σ => L2N.passAt tk σ) (pa_cons (pv 0) (pa_cons (pv 1) pa_nil)))) pss_nil) (pss_cons (ps_if (pt_cmpR op_eq (pv 2) pe_int (nomark _)) (pss_cons (ps_expr (pe_makeSK mk_Frac_init_D G_Frac_init_D (hr.mono (by decide)) (by rfl) m_Frac_init_D kb0_Frac_init_D (fun σ => L2N.passAt tk σ) (pk_cons (pv 1) (pk_cons (pv 0) pk_nil)))) pss_nil) (pss_cons (ps_set (i := 3) sc_law_refused.nd rfl (by first | exact Or.inl rfl | exact Or.inr rfl) (pe_call G_law_kind_3 (hr.mono (by decide)) (by rfl) m_law_kind_3 k_law_kind_3 b_law_kind_3 .nil pass0 (pa_cons (pe_tup (pa_cons (pv 0) (pa_cons pe_int pa_nil))) pa_nil))) (pss_cons (ps_expr (pe_makeSD mk_Frac_init_D G_Frac_init_D (hr.mono (by decide)) (by rfl) m_Frac_init_D bd_Frac_init_D vd_Frac_init_D (fun σ => L2N.passAt tk σ) (pa_cons (pv 0) pa_nil))) pss_nil))) pss_nil)) pss_nil)) (fun ao oe cls d pn hz hf => (pss_cons (ps_ret (pe_and (pe_callB call_isi (by rfl) T.b_isinstance (by decide +kernel) (pa_cons (pe_xf x_InvalidFraction.xf T.no_InvalidFraction_value hz.zc hf (pv 4)) (pa_cons (pe_bltn (v := .ty "tuple") (by rfl) T.b_tuple (by decide +kernel) rfl) pa_nil))) (pe_and (pe_cmpR op_eq (pe_callB call_len_seq (by rfl) T.b_len (by decide +kernel) (pa_cons (pe_xf x_InvalidFraction.xf T.no_InvalidFraction_value hz.zc hf (pv 4)) pa_nil)) pe_int (nomark _)) (pe_one (pe_cmpR (op_eqD (FLH.roomH_u (roomH_mk hr _))) (L2H.pe_callH GH_law_kind_3 (roomH_mk (hr.mono (by decide)) _) (hotS hz hf) (by rfl) mH_law_kind_3 kH_law_kind_3 bH_law_kind_3 (passH0 (E := fun _ => E0)) (pa_cons (pe_xf x_InvalidFraction.xf T.no_InvalidFraction_value hz.zc hf (pv 4)) pa_nil)) (pv 3) (nomark _)))))) pss_nil))) pss_never)),
    (xb_set (ev_eq (ev_call ((Py.tup (F := Frac)) [num, den]) (ea_cons (ev_eq (ev_cv (f := (eD (eFrac cFrac))) (u := (Py.tup (F := Frac))) (ev_tup (eas_cons (ev_var (i := 0) rfl) (eas_cons (ev_var (i := 1) rfl) (eas_nil (e := (eD (eFrac cFrac)))))) (by show 2 ≤ 100000; decide))) rfl) ea_nil) (okh.1) rfl rfl) rfl) rfl (fun due_386 h_387 => (xb_tryAllT (i := 4) (xf := xf_InvalidFraction cFrac) (fun t_388 : ((List (Py Frac)) × (Py Frac)) => [.d (eD (eFrac cFrac)) num, .d (eD (eFrac cFrac)) den, .d eI shape, .d (eT (eD (eFrac cFrac))) t_388.1, .un]) (fun t_388 : ((List (Py Frac)) × (Py Frac)) => t_388.2) (bif (decide (shape = (0 : Int))) then (due_386, ((r_Frac_init_D num den).getD default)) else (bif (decide (shape = (1 : Int))) then (due_386, ((r_Frac_init_D num den).getD default)) else ((f_law_kind_3 ((Py.tup (F := Frac)) [num, ((Py.int (F := Frac)) (1 : Int))])), ((r_Frac_init_D num ((Py.int (F := Frac)) (1 : Int))).getD default)))) (fun W => by exact (xt_ifG (fun t_388 : ((List (Py Frac)) × (Py Frac)) => [.d (eD (eFrac cFrac)) num, .d (eD (eFrac cFrac)) den, .d eI shape, .d (eT (eD (eFrac cFrac))) t_388.1, .un]) (fun t_388 : ((List (Py Frac)) × (Py Frac)) => t_388.2) (et_eq (et_test (ev_eqI (ev_var (i := 2) rfl) ev_int)) rfl) (fun hc_389 => (xt_env (K := K) ((fun t_388 : ((List (Py Frac)) × (Py Frac)) => [.d (eD (eFrac cFrac)) num, .d (eD (eFrac cFrac)) den, .d eI shape, .d (eT (eD (eFrac cFrac))) t_388.1, .un]) (due_386, ((r_Frac_init_D num den).getD default))) rfl (xt_drop (xd_make (d2 := []) (ds := fun x : ((Py Frac) × (Py Frac)) => [.i cFrac [], .d (eD (eFrac cFrac)) x.1, .d (eD (eFrac cFrac)) x.2]) (r := fun x : ((Py Frac) × (Py Frac)) => r_Frac_init_D x.1 x.2) (prx := fun x : ((Py Frac) × (Py Frac)) => okx_Frac_init_D x.1 x.2) (xf := xf_InvalidFraction cFrac) (num, den) (ea_cons (ev_eq (ev_var (i := 0) rfl) rfl) (ea_cons (ev_eq (ev_var (i := 1) rfl) rfl) ea_nil)) rfl (fun _ _ => .nil) (some_of (((okh.2 due_386 h_387).1 hc_389).1)) (((okh.2 due_386 h_387).1 hc_389).2))))) (fun hc_389 => (xt_ifG (fun t_388 : ((List (Py Frac)) × (Py Frac)) => [.d (eD (eFrac cFrac)) num, .d (eD (eFrac cFrac)) den, .d eI shape, .d (eT (eD (eFrac cFrac))) t_388.1, .un]) (fun t_388 : ((List (Py Frac)) × (Py Frac)) => t_388.2) (et_eq (et_test (ev_eqI (ev_var (i := 2) rfl) ev_int)) rfl) (fun hc_392 => (xt_env (K := K) ((fun t_388 : ((List (Py Frac)) × (Py Frac)) => [.d (eD (eFrac cFrac)) num, .d (eD (eFrac cFrac)) den, .d eI shape, .d (eT (eD (eFrac cFrac))) t_388.1, .un]) (due_386, ((r_Frac_init_D num den).getD default))) rfl (xt_drop (xd_makeK (ds := fun x : ((Py Frac) × (Py Frac)) => [.i cFrac [], .d (eD (eFrac cFrac)) x.1, .d (eD (eFrac cFrac)) x.2]) (r := fun x : ((Py Frac) × (Py Frac)) => r_Frac_init_D x.1 x.2) (prx := fun x : ((Py Frac) × (Py Frac)) => okx_Frac_init_D x.1 x.2) (xf := xf_InvalidFraction cFrac) (num, den) (ea_cons (ev_eq (ev_var (i := 1) rfl) rfl) (ea_cons (ev_eq (ev_var (i := 0) rfl) rfl) ea_nil)) rfl rfl kY_hd (by intro v zs Hk H h0 h; exact match zs, h with | [_, _], .cons a0 (.cons a1 .nil) => .cons h0 (.cons a1 (.cons a0 .nil))) (some_of ((((okh.2 due_386 h_387).2.1 hc_389).1 hc_392).1)) ((((okh.2 due_386 h_387).2.1 hc_389).1 hc_392).2))))) (fun hc_392 => (xt_seq (xs_set (ev_eq (ev_call ((Py.tup (F := Frac)) [num, ((Py.int (F := Frac)) (1 : Int))]) (ea_cons (ev_eq (ev_cv (f := (eD (eFrac cFrac))) (u := (Py.tup (F := Frac))) (ev_tup (eas_cons (ev_var (i := 0) rfl) (eas_cons (ev_cv (f := (eD (eFrac cFrac))) (u := (Py.int (F := Frac))) ev_int) (eas_nil (e := (eD (eFrac cFrac)))))) (by show 2 ≤ 100000; decide))) rfl) ea_nil) ((((okh.2 due_386 h_387).2.1 hc_389).2 hc_392).1) rfl rfl) rfl) rfl) (xt_env (K := K) ((fun t_388 : ((List (Py Frac)) × (Py Frac)) => [.d (eD (eFrac cFrac)) num, .d (eD (eFrac cFrac)) den, .d eI shape, .d (eT (eD (eFrac cFrac))) t_388.1, .un]) ((f_law_kind_3 ((Py.tup (F := Frac)) [num, ((Py.int (F := Frac)) (1 : Int))])), ((r_Frac_init_D num ((Py.int (F := Frac)) (1 : Int))).getD default))) rfl (xt_drop (xd_make (d2 := [.d (eD (eFrac cFrac)) ((Py.int (F := Frac)) (1 : Int))]) (ds := fun x : ((Py Frac) × (Py Frac)) => [.i cFrac [], .d (eD (eFrac cFrac)) x.1, .d (eD (eFrac cFrac)) x.2]) (r := fun x : ((Py Frac) × (Py Frac)) => r_Frac_init_D x.1 x.2) (prx := fun x : ((Py Frac) × (Py Frac)) => okx_Frac_init_D x.1 x.2) (xf := xf_InvalidFraction cFrac) (num, ((Py.int (F := Frac)) (1 : Int))) (ea_cons (ev_eq (ev_var (i := 0) rfl) rfl) ea_nil) rfl (fun _ _ => .cons ⟨_, rfl, (rep_int.mpr rfl)⟩ .nil) (some_of ((((okh.2 due_386 h_387).2.1 hc_389).2 hc_392).2.1)) ((((okh.2 due_386 h_387).2.1 hc_389).2 hc_392).2.2)))))))))) (fun _ => rfl) x_InvalidFraction.e (fun t_388 h_398 a_399 d_400 => (xb_retS (ev_eq (ev_andV (ev_isiD T.in_Frac (ev_xf (y := ⟨(eD (eFrac cFrac)), t_388.2⟩) (ev_var rfl) List.mem_cons_self) (.ty _) (kit_ty (by decide +kernel)) (kit_ty (by decide +kernel)) (kit_ty (by decide +kernel)) (kit_ty (by decide +kernel)) T.ki_Frac_tuple (kit_ty (by decide +kernel)) (kit_ty (by decide +kernel))) (fun hb_401 => (ev_andV (ev_eqI (ev_lenQ (ev_dQ (ev_xf (y := ⟨(eD (eFrac cFrac)), t_388.2⟩) (ev_var rfl) List.mem_cons_self) ((((okh.2 due_386 h_387).2.2 t_388 h_398) hb_401).1))) ev_int) (fun hb_403 => (ev_eqD (ev_cv (f := (eD (eFrac cFrac))) (u := (Py.tup (F := Frac))) (ev_callS t_388.2 (ea_cons (ev_eq (ev_xf (y := ⟨(eD (eFrac cFrac)), t_388.2⟩) (ev_var rfl) List.mem_cons_self) rfl) ea_nil) (((((okh.2 due_386 h_387).2.2 t_388 h_398) hb_401).2 hb_403).1) rfl rfl)) (ev_cv (f := (eD (eFrac cFrac))) (u := (Py.tup (F := Frac))) (ev_var (i := 3) rfl)) (((((okh.2 due_386 h_387).2.2 t_388 h_398) hb_401).2 hb_403).2)))))) rfl) (.inl rfl) rfl)))))⟩
/-! ### _law_not_divided -/
abbrev N_law_not_divided : List Str := ["one", "other", "due", "e"]
theorem sc_law_not_divided : FnScope N_law_not_divided ["one", "other"] (defScope s_law_not_divided) := ⟨rfl, rfl, rfl, by decide +kernel, rfl, by decide +kernel, by decide +kernel⟩
def o_law_not_divided (one : Frac) (other : (Py Frac)) : Out Empty Empty Bool :=
  (lt (f_law_kind_3 other) fun due_407 => (lt ((r_Frac_divided_by_D one other).getD default) fun t_409 => ((.rt ((((Py.tup (F := Frac)) (f_law_kind_3 t_409))).eqv ((Py.tup (F := Frac)) due_407))) : Out Empty Empty Bool).lift))
@[irreducible] def f_law_not_divided (one : Frac) (other : (Py Frac)) : Bool := (o_law_not_divided one other).get
theorem f_law_not_divided_eq (one : Frac) (other : (Py Frac)) : f_law_not_divided one other = (o_law_not_divided one other).get := by delta f_law_not_divided; rfl
def ok_law_not_divided (one : Frac) (other : (Py Frac)) : Prop :=
  (ok_law_kind_3 other) ∧ (∀ due_407 (h_408 : due_407 = (f_law_kind_3 other)), ((r_Frac_divided_by_D one other).isSome = true) ∧ (okx_Frac_divided_by_D one other) ∧ (∀ (t_409 : (Py Frac)) (h_412 : t_409 = ((r_Frac_divided_by_D one other).getD default)), (ok_law_kind_3 t_409) ∧ ((((Py.tup (F := Frac)) (f_law_kind_3 t_409))).shp = true ∧ (((Py.tup (F := Frac)) due_407)).shp = true)))
section
variable {K : PySem.W.Frag} {cFrac : Addr} {cInvalidFraction : Addr}
abbrev sp_law_not_divided (cFrac : Addr) : Sp := spF (K := K) (ι := (Frac × (Py Frac))) (fun x => [.d (eFrac cFrac) x.1, .d (eD (eFrac cFrac)) x.2]) (fun x => ok_law_not_divided x.1 x.2) (retD eB) (fun x => f_law_not_divided x.1 x.2)
end
set_option maxHeartbeats 4000000 in
theorem at_law_not_divided {P : Program} {w : World} {K : PySem.W.Frag} {mg : Str → Option Value} {base : Heap} {cFrac : Addr} {cInvalidFraction : Addr} (T : Txt K mg cFrac cInvalidFraction) : FnAt P w K mg base "_law_not_divided" 5 ["one", "other"] (sp_law_not_divided cFrac (K := K)) := by
  obtain ⟨f, fd, F, mg_, bd_⟩ := T.d_law_not_divided
  obtain ⟨⟨a_Frac_divided_by_D, d_Frac_divided_by_D, G_Frac_divided_by_D, mt_Frac_divided_by_D, b_Frac_divided_by_D, ⟨kg0_Frac_divided_by_D, kb0_Frac_divided_by_D⟩⟩⟩ := at_Frac_divided_by_D (P := P) (w := w) (base := base) T
  obtain ⟨⟨a_law_kind_3, d_law_kind_3, G_law_kind_3, m_law_kind_3, k_law_kind_3, b_law_kind_3⟩⟩ := at_law_kind_3 (P := P) (w := w) (base := base) T
  obtain ⟨⟨aH_law_kind_3, dH_law_kind_3, GH_law_kind_3, mH_law_kind_3, kH_law_kind_3, bH_law_kind_3⟩⟩ := atH_law_kind_3 (P := P) (w := w) (base := base) T
  obtain ⟨fI_InvalidFraction, dI_InvalidFraction, GI_InvalidFraction, x_InvalidFraction, bI_InvalidFraction⟩ := at_InvalidFraction (P := P) (w := w) (base := base) T
  refine ⟨⟨f, fd, fn_okG (fun x => f_law_not_divided_eq x.1 x.2) <| fn_okE (o := fun x : (Frac × (Py Frac)) => o_law_not_divided x.1 x.2) (k := 4) F sc_law_not_divided (fun x => rfl) (fun x i s h => noM_tail (by simp [Slot.isM]) h) (fun cdv A outer s H EX hr x hp => ?_), mg_, F.kp, bd_⟩⟩
  obtain ⟨one, other⟩ := x
  have okh : ok_law_not_divided one other := hp
  exact ⟨_, _, rfl,
    (pss_cons (ps_set (i := 2) sc_law_not_divided.nd rfl (by first | exact Or.inl rfl | exact Or.inr rfl) (pe_call G_law_kind_3 (hr.mono (by decide)) (by rfl) m_law_kind_3 k_law_kind_3 b_law_kind_3 .nil pass0 (pa_cons (pv 1) pa_nil))) (pss_cons (ps_tryAll (i := 3) rfl rfl sc_law_not_divided.nd rfl rfl ⟨rfl, by decide, Or.inl x_InvalidFraction.m⟩ takesN (fun Wx pn xe tk _ => (pss_cons (ps_expr (pe_methS2 (pv 0) T.cl_Frac mt_Frac_divided_by_D G_Frac_divided_by_D (hr.mono (by decide)) b_Frac_divided_by_D (fun σ => L2N.passAt tk σ) (pa_cons (pv 1) pa_nil))) pss_nil)) (fun ao oe cls d pn hz hf => (pss_cons (ps_ret (pe_cmpR (op_eqD (FLH.roomH_u (roomH_mk hr _))) (L2H.pe_callH GH_law_kind_3 (roomH_mk (hr.mono (by decide)) _) (hotS hz hf) (by rfl) mH_law_kind_3 kH_law_kind_3 bH_law_kind_3 (passH0 (E := fun _ => E0)) (pa_cons (pe_xf x_InvalidFraction.xf T.no_InvalidFraction_value hz.zc hf (pv 3)) pa_nil)) (pv 2) (nomark _))) pss_nil))) pss_never)),
    (xb_set (ev_eq (ev_call other (ea_cons (ev_eq (ev_var (i := 1) rfl) rfl) ea_nil) (okh.1) rfl rfl) rfl) rfl (fun due_407 h_408 => (xb_tryAllT (i := 3) (xf := xf_InvalidFraction cFrac) (fun t_409 : (Py Frac) => [.d (eFrac cFrac) one, .d (eD (eFrac cFrac)) other, .d (eT (eD (eFrac cFrac))) due_407, .un]) (fun t_409 : (Py Frac) => t_409) ((r_Frac_divided_by_D one other).getD default) (fun W => by exact (xt_env (K := K) ((fun t_409 : (Py Frac) => [.d (eFrac cFrac) one, .d (eD (eFrac cFrac)) other, .d (eT (eD (eFrac cFrac))) due_407, .un]) ((r_Frac_divided_by_D one other).getD default)) rfl (xt_drop (xd_meth (fl := flFrac) (m := ("divided_by" : Str)) (ds := fun x : (Frac × (Py Frac)) => [.d (eFrac cFrac) x.1, .d (eD (eFrac cFrac)) x.2]) (r := fun x : (Frac × (Py Frac)) => r_Frac_divided_by_D x.1 x.2) (prx := fun x : (Frac × (Py Frac)) => okx_Frac_divided_by_D x.1 x.2) (xf := xf_InvalidFraction cFrac) (one, other) (ev_var (i := 0) rfl) (by show ("divided_by" : Str) ∉ (["num", "den"] : List Str); decide +kernel) (ea_cons (ev_eq (ev_var (i := 1) rfl) rfl) ea_nil) rfl (some_of ((okh.2 due_407 h_408).1)) ((okh.2 due_407 h_408).2.1))))) (fun _ => rfl) x_InvalidFraction.e (fun t_409 h_412 a_413 d_414 => (xb_retS (ev_eq (ev_eqD (ev_cv (f := (eD (eFrac cFrac))) (u := (Py.tup (F := Frac))) (ev_callS t_409 (ea_cons (ev_eq (ev_xf (y := ⟨(eD (eFrac cFrac)), t_409⟩) (ev_var rfl) List.mem_cons_self) rfl) ea_nil) (((okh.2 due_407 h_408).2.2 t_409 h_412).1) rfl rfl)) (ev_cv (f := (eD (eFrac cFrac))) (u := (Py.tup (F := Frac))) (ev_var (i := 2) rfl)) (((okh.2 due_407 h_408).2.2 t_409 h_412).2)) rfl) (.inl rfl) rfl)))))⟩
/-! ### _law_bad -/
abbrev N_law_bad : List Str := ["box", "first", "wrong", "shape"]
theorem sc_law_bad : FnScope N_law_bad ["box", "first"] (defScope s_law_bad) := ⟨rfl, rfl, rfl, by decide +kernel, rfl, by decide +kernel, by decide +kernel⟩
def o_law_bad (box : BoxD) (first : (Int × Int)) : Out Empty Empty (Bool × BoxD) :=
  (lt ((f_law_wrong box first).1) fun wrong_418 => (lt ((f_law_wrong box first).2) fun bx_420 => (lt ((f_law_draw bx_420 (4 : Int)).1) fun shape_423 => (lt ((f_law_draw bx_420 (4 : Int)).2) fun bx_425 => (bif (decide (shape_423 = (0 : Int))) then (.rt ((f_law_refused wrong_418 ((Py.int (F := Frac)) first.2) ((f_law_draw bx_425 (3 : Int)).1)), (f_law_draw bx_425 (3 : Int)).2)) else (bif (decide (shape_423 = (1 : Int))) then (.rt ((f_law_refused ((Py.int (F := Frac)) first.1) wrong_418 ((f_law_draw bx_425 (2 : Int)).1)), (f_law_draw bx_425 (2 : Int)).2)) else (bif (decide (shape_423 = (2 : Int))) then (.rt ((f_law_refused ((Py.int (F := Frac)) first.1) ((Py.int (F := Frac)) (0 : Int)) ((f_law_draw bx_425 (2 : Int)).1)), (f_law_draw bx_425 (2 : Int)).2)) else (.rt ((f_law_refused wrong_418 ((Py.int (F := Frac)) (0 : Int)) ((f_law_draw bx_425 (2 : Int)).1)), (f_law_draw bx_425 (2 : Int)).2)))))))))
@[irreducible] def f_law_bad (box : BoxD) (first : (Int × Int)) : (Bool × BoxD) := (o_law_bad box first).get
theorem f_law_bad_eq (box : BoxD) (first : (Int × Int)) : f_law_bad box first = (o_law_bad box first).get := by delta f_law_bad; rfl
def ok_law_bad (box : BoxD) (first : (Int × Int)) : Prop :=
  (ok_law_wrong box first) ∧ (∀ wrong_418 (h_419 : wrong_418 = (f_law_wrong box first).1), (∀ bx_420 (h_421 : bx_420 = (f_law_wrong box first).2), (ok_law_draw bx_420 (4 : Int)) ∧ (∀ shape_423 (h_424 : shape_423 = (f_law_draw bx_420 (4 : Int)).1), (∀ bx_425 (h_426 : bx_425 = (f_law_draw bx_420 (4 : Int)).2), (∀ (hc_427 : ((decide (shape_423 = (0 : Int)))) = true), (ok_law_draw bx_425 (3 : Int)) ∧ (ok_law_refused wrong_418 ((Py.int (F := Frac)) first.2) ((f_law_draw bx_425 (3 : Int)).1))) ∧ (∀ (hc_427 : ((decide (shape_423 = (0 : Int)))) = false), (∀ (hc_430 : ((decide (shape_423 = (1 : Int)))) = true), (ok_law_draw bx_425 (2 : Int)) ∧ (ok_law_refused ((Py.int (F := Frac)) first.1) wrong_418 ((f_law_draw bx_425 (2 : Int)).1))) ∧ (∀ (hc_430 : ((decide (shape_423 = (1 : Int)))) = false), (∀ (hc_433 : ((decide (shape_423 = (2 : Int)))) = true), (ok_law_draw bx_425 (2 : Int)) ∧ (ok_law_refused ((Py.int (F := Frac)) first.1) ((Py.int (F := Frac)) (0 : Int)) ((f_law_draw bx_425 (2 : Int)).1))) ∧ (∀ (hc_433 : ((decide (shape_423 = (2 : Int)))) = false), (ok_law_draw bx_425 (2 : Int)) ∧ (ok_law_refused wrong_418 ((Py.int (F := Frac)) (0 : Int)) ((f_law_draw bx_425 (2 : Int)).1)))))))))
section
variable {K : PySem.W.Frag} {cFrac : Addr} {cInvalidFraction : Addr}
abbrev sp_law_bad : Sp := spF (K := K) (ι := (BoxD × (Int × Int))) (fun x => [.m mBox x.1, .d (eP eI eI) x.2]) (fun x => ok_law_bad x.1 x.2) (retM eB mBox) (fun x => f_law_bad x.1 x.2)
end
set_option maxHeartbeats 4000000 in
theorem at_law_bad {P : Program} {w : World} {K : PySem.W.Frag} {mg : Str → Option Value} {base : Heap} {cFrac : Addr} {cInvalidFraction : Addr} (T : Txt K mg cFrac cInvalidFraction) : FnAt P w K mg base "_law_bad" 7 ["box", "first"] (sp_law_bad (K := K)) := by
  obtain ⟨f, fd, F, mg_, bd_⟩ := T.d_law_bad
  obtain ⟨⟨a_law_draw, d_law_draw, G_law_draw, m_law_draw, k_law_draw, b_law_draw⟩⟩ := at_law_draw (P := P) (w := w) (base := base) T
  obtain ⟨⟨a_law_refused, d_law_refused, G_law_refused, m_law_refused, k_law_refused, b_law_refused⟩⟩ := at_law_refused (P := P) (w := w) (base := base) T
  obtain ⟨⟨a_law_wrong, d_law_wrong, G_law_wrong, m_law_wrong, k_law_wrong, b_law_wrong⟩⟩ := at_law_wrong (P := P) (w := w) (base := base) T
  refine ⟨⟨f, fd, fn_okG (fun x => f_law_bad_eq x.1 x.2) <| fn_okE (o := fun x : (BoxD × (Int × Int)) => o_law_bad x.1 x.2) (k := 6) F sc_law_bad (fun x => rfl) (fun x i s h => noM_tail (by simp [Slot.isM]) h) (fun cdv A outer s H EX hr x hp => ?_), mg_, F.kp, bd_⟩⟩
  obtain ⟨box, first⟩ := x
  have okh : ok_law_bad box first := hp
  exact ⟨_, _, rfl,
    (pss_cons (ps_set (i := 2) sc_law_bad.nd rfl (by first | exact Or.inl rfl | exact Or.inr rfl) (pe_call G_law_wrong (hr.mono (by decide)) (by rfl) m_law_wrong k_law_wrong b_law_wrong .nil pass0 (pa_cons (pv 0) (pa_cons (pv 1) pa_nil)))) (pss_cons (ps_set (i := 3) sc_law_bad.nd rfl (by first | exact Or.inl rfl | exact Or.inr rfl) (pe_call G_law_draw (hr.mono (by decide)) (by rfl) m_law_draw k_law_draw b_law_draw .nil pass0 (pa_cons (pv 0) (pa_cons pe_int pa_nil)))) (pss_cons (ps_if (pt_cmpR op_eq (pv 3) pe_int (nomark _)) (pss_cons (ps_ret (pe_call G_law_refused (hr.mono (by decide)) (by rfl) m_law_refused k_law_refused b_law_refused .nil pass0 (pa_cons (pv 2) (pa_cons (pe_ix (ixK (K := K) (r := rIxT) rfl ix_tup) (pv 1) pe_int (fun _ _ => rfl)) (pa_cons (pe_call G_law_draw (hr.mono (by decide)) (by rfl) m_law_draw k_law_draw b_law_draw .nil pass0 (pa_cons (pv 0) (pa_cons pe_int pa_nil))) pa_nil))))) pss_nil) pss_nil) (pss_cons (ps_if (pt_cmpR op_eq (pv 3) pe_int (nomark _)) (pss_cons (ps_ret (pe_call G_law_refused (hr.mono (by decide)) (by rfl) m_law_refused k_law_refused b_law_refused .nil pass0 (pa_cons (pe_ix (ixK (K := K) (r := rIxT) rfl ix_tup) (pv 1) pe_int (fun _ _ => rfl)) (pa_cons (pv 2) (pa_cons (pe_call G_law_draw (hr.mono (by decide)) (by rfl) m_law_draw k_law_draw b_law_draw .nil pass0 (pa_cons (pv 0) (pa_cons pe_int pa_nil))) pa_nil))))) pss_nil) pss_nil) (pss_cons (ps_if (pt_cmpR op_eq (pv 3) pe_int (nomark _)) (pss_cons (ps_ret (pe_call G_law_refused (hr.mono (by decide)) (by rfl) m_law_refused k_law_refused b_law_refused .nil pass0 (pa_cons (pe_ix (ixK (K := K) (r := rIxT) rfl ix_tup) (pv 1) pe_int (fun _ _ => rfl)) (pa_cons pe_int (pa_cons (pe_call G_law_draw (hr.mono (by decide)) (by rfl) m_law_draw k_law_draw b_law_draw .nil pass0 (pa_cons (pv 0) (pa_cons pe_int pa_nil))) pa_nil))))) pss_nil) pss_nil) (pss_cons (ps_ret (pe_call G_law_refused (hr.mono (by decide)) (by rfl) m_law_refused k_law_refused b_law_refused .nil pass0 (pa_cons (pv 2) (pa_cons pe_int (pa_cons (pe_call G_law_draw (hr.mono (by decide)) (by rfl) m_law_draw k_law_draw b_law_draw .nil pass0 (pa_cons (pv 0) (pa_cons pe_int pa_nil))) pa_nil))))) pss_nil)))))),
    (xb_set (ev_eq (ev_callM (j := 0) (box, first) rfl rfl (ea_cons (ev_eq (ev_var (i := 1) rfl) rfl) ea_nil) rfl rfl rfl (okh.1) rfl rfl rfl) rfl) rfl (fun wrong_418 h_419 => (xb_reb (fun bx_420 => [.m mBox bx_420, .d (eP eI eI) first, .d (eD (eFrac cFrac)) wrong_418, .un]) ((f_law_wrong box first).2) (fun bx_420 h_421 => (xb_set (ev_eq (ev_callM (j := 0) (bx_420, (4 : Int)) rfl rfl (ea_cons (ev_eq ev_int rfl) ea_nil) rfl rfl rfl (((okh.2 wrong_418 h_419) bx_420 h_421).1) rfl rfl rfl) rfl) rfl (fun shape_423 h_424 => (xb_reb (fun bx_425 => [.m mBox bx_425, .d (eP eI eI) first, .d (eD (eFrac cFrac)) wrong_418, .d eI shape_423]) ((f_law_draw bx_420 (4 : Int)).2) (fun bx_425 h_426 => (xb_ifR (et_eq (et_test (ev_eqI (ev_var (i := 3) rfl) ev_int)) rfl) (fun hc_427 => (xb_retS (ev_eq (ev_call (wrong_418, ((Py.int (F := Frac)) first.2), (f_law_draw bx_425 (3 : Int)).1) (ea_cons (ev_eq (ev_var (i := 2) rfl) rfl) (ea_cons (ev_eq (ev_cv (f := (eD (eFrac cFrac))) (u := (Py.int (F := Frac))) (ev_snd (ev_var (i := 1) rfl))) rfl) (ea_cons (ev_eq (ev_callM (j := 0) (bx_425, (3 : Int)) rfl rfl (ea_cons (ev_eq ev_int rfl) ea_nil) rfl rfl rfl ((((((okh.2 wrong_418 h_419) bx_420 h_421).2 shape_423 h_424) bx_425 h_426).1 hc_427).1) rfl rfl rfl) rfl) ea_nil))) ((((((okh.2 wrong_418 h_419) bx_420 h_421).2 shape_423 h_424) bx_425 h_426).1 hc_427).2) rfl rfl) rfl) (.inr rfl) rfl)) (fun hc_427 => (xb_ifR (et_eq (et_test (ev_eqI (ev_var (i := 3) rfl) ev_int)) rfl) (fun hc_430 => (xb_retS (ev_eq (ev_call (((Py.int (F := Frac)) first.1), wrong_418, (f_law_draw bx_425 (2 : Int)).1) (ea_cons (ev_eq (ev_cv (f := (eD (eFrac cFrac))) (u := (Py.int (F := Frac))) (ev_fst (ev_var (i := 1) rfl))) rfl) (ea_cons (ev_eq (ev_var (i := 2) rfl) rfl) (ea_cons (ev_eq (ev_callM (j := 0) (bx_425, (2 : Int)) rfl rfl (ea_cons (ev_eq ev_int rfl) ea_nil) rfl rfl rfl (((((((okh.2 wrong_418 h_419) bx_420 h_421).2 shape_423 h_424) bx_425 h_426).2 hc_427).1 hc_430).1) rfl rfl rfl) rfl) ea_nil))) (((((((okh.2 wrong_418 h_419) bx_420 h_421).2 shape_423 h_424) bx_425 h_426).2 hc_427).1 hc_430).2) rfl rfl) rfl) (.inr rfl) rfl)) (fun hc_430 => (xb_ifR (et_eq (et_test (ev_eqI (ev_var (i := 3) rfl) ev_int)) rfl) (fun hc_433 => (xb_retS (ev_eq (ev_call (((Py.int (F := Frac)) first.1), ((Py.int (F := Frac)) (0 : Int)), (f_law_draw bx_425 (2 : Int)).1) (ea_cons (ev_eq (ev_cv (f := (eD (eFrac cFrac))) (u := (Py.int (F := Frac))) (ev_fst (ev_var (i := 1) rfl))) rfl) (ea_cons (ev_eq (ev_cv (f := (eD (eFrac cFrac))) (u := (Py.int (F := Frac))) ev_int) rfl) (ea_cons (ev_eq (ev_callM (j := 0) (bx_425, (2 : Int)) rfl rfl (ea_cons (ev_eq ev_int rfl) ea_nil) rfl rfl rfl ((((((((okh.2 wrong_418 h_419) bx_420 h_421).2 shape_423 h_424) bx_425 h_426).2 hc_427).2 hc_430).1 hc_433).1) rfl rfl rfl) rfl) ea_nil))) ((((((((okh.2 wrong_418 h_419) bx_420 h_421).2 shape_423 h_424) bx_425 h_426).2 hc_427).2 hc_430).1 hc_433).2) rfl rfl) rfl) (.inr rfl) rfl)) (fun hc_433 => (xb_retS (ev_eq (ev_call (wrong_418, ((Py.int (F := Frac)) (0 : Int)), (f_law_draw bx_425 (2 : Int)).1) (ea_cons (ev_eq (ev_var (i := 2) rfl) rfl) (ea_cons (ev_eq (ev_cv (f := (eD (eFrac cFrac))) (u := (Py.int (F := Frac))) ev_int) rfl) (ea_cons (ev_eq (ev_callM (j := 0) (bx_425, (2 : Int)) rfl rfl (ea_cons (ev_eq ev_int rfl) ea_nil) rfl rfl rfl ((((((((okh.2 wrong_418 h_419) bx_420 h_421).2 shape_423 h_424) bx_425 h_426).2 hc_427).2 hc_430).2 hc_433).1) rfl rfl rfl) rfl) ea_nil))) ((((((((okh.2 wrong_418 h_419) bx_420 h_421).2 shape_423 h_424) bx_425 h_426).2 hc_427).2 hc_430).2 hc_433).2) rfl rfl) rfl) (.inr rfl) rfl)))))))))))))))⟩
/-! ### _law_pair -/
abbrev N_law_pair : List Str := ["one", "two", "first", "second", "num", "more", "den", "sign"]
theorem sc_law_pair : FnScope N_law_pair ["one", "two", "first", "second"] (defScope s_law_pair) := ⟨rfl, rfl, rfl, by decide +kernel, rfl, by decide +kernel, by decide +kernel⟩
def o_law_pair (one : Frac) (two : Frac) (first : (Int × Int)) (second : (Int × Int)) : Out Empty Empty Bool :=
  (lt (first.1 * second.2) fun num_439 => (lt (second.1 * first.2) fun more_442 => (lt (first.2 * second.2) fun den_445 => (bif ((!(f_law_is (f_Frac_add one two) (num_439 + more_442) den_445)) || (!(f_law_is (f_Frac_sub one two) (num_439 - more_442) den_445))) then (.rt false) else (bif (!(f_law_is (f_Frac_mul one two) (first.1 * second.1) den_445)) then (.rt false) else (lt ((1 : Int) - ((2 : Int) * (if (decide (den_445 < (0 : Int))) then (1 : Int) else 0))) fun sign_457 => (bif ((!(f_law_truth (f_Frac_eq one ((Py.obj (F := Frac)) two)) (decide (num_439 = more_442)))) || (!(f_law_truth (f_Frac_is_below one two) (decide ((num_439 * sign_457) < (more_442 * sign_457)))))) then (.rt false) else (bif (decide (second.1 = (0 : Int))) then (.rt (f_law_not_divided one ((Py.obj (F := Frac)) two))) else (.rt (f_law_is (f_Frac_divided_by_C one two) (first.1 * second.2) (first.2 * second.1)))))))))))
@[irreducible] def f_law_pair (one : Frac) (two : Frac) (first : (Int × Int)) (second : (Int × Int)) : Bool := (o_law_pair one two first second).get
theorem f_law_pair_eq (one : Frac) (two : Frac) (first : (Int × Int)) (second : (Int × Int)) : f_law_pair one two first second = (o_law_pair one two first second).get := by delta f_law_pair; rfl
def ok_law_pair (one : Frac) (two : Frac) (first : (Int × Int)) (second : (Int × Int)) : Prop :=
  (CMulW first.1 second.2) ∧ (∀ num_439 (h_440 : num_439 = (first.1 * second.2)), (CMulW second.1 first.2) ∧ (∀ more_442 (h_443 : more_442 = (second.1 * first.2)), (CMulW first.2 second.2) ∧ (∀ den_445 (h_446 : den_445 = (first.2 * second.2)), (ok_Frac_add one two) ∧ (ok_law_is (f_Frac_add one two) (num_439 + more_442) den_445) ∧ (∀ (hb_449 : ((!(f_law_is (f_Frac_add one two) (num_439 + more_442) den_445))) = false), (ok_Frac_sub one two) ∧ (ok_law_is (f_Frac_sub one two) (num_439 - more_442) den_445)) ∧ (∀ (hc_452 : (((!(f_law_is (f_Frac_add one two) (num_439 + more_442) den_445)) || (!(f_law_is (f_Frac_sub one two) (num_439 - more_442) den_445)))) = false), (ok_Frac_mul one two) ∧ (CMulW first.1 second.1) ∧ (ok_law_is (f_Frac_mul one two) (first.1 * second.1) den_445) ∧ (∀ (hc_456 : ((!(f_law_is (f_Frac_mul one two) (first.1 * second.1) den_445))) = false), (∀ sign_457 (h_458 : sign_457 = ((1 : Int) - ((2 : Int) * (if (decide (den_445 < (0 : Int))) then (1 : Int) else 0)))), (ok_Frac_eq one ((Py.obj (F := Frac)) two)) ∧ (∀ (hb_460 : ((!(f_law_truth (f_Frac_eq one ((Py.obj (F := Frac)) two)) (decide (num_439 = more_442))))) = false), (ok_Frac_is_below one two) ∧ (CMulW num_439 sign_457) ∧ (CMulW more_442 sign_457)) ∧ (∀ (hc_464 : (((!(f_law_truth (f_Frac_eq one ((Py.obj (F := Frac)) two)) (decide (num_439 = more_442)))) || (!(f_law_truth (f_Frac_is_below one two) (decide ((num_439 * sign_457) < (more_442 * sign_457))))))) = false), (∀ (hc_465 : ((decide (second.1 = (0 : Int)))) = true), (ok_law_not_divided one ((Py.obj (F := Frac)) two))) ∧ (∀ (hc_465 : ((decide (second.1 = (0 : Int)))) = false), (ok_Frac_divided_by_C one two) ∧ (CMulW first.1 second.2) ∧ (CMulW first.2 second.1) ∧ (ok_law_is (f_Frac_divided_by_C one two) (first.1 * second.2) (first.2 * second.1))))))))))
section
variable {K : PySem.W.Frag} {cFrac : Addr} {cInvalidFraction : Addr}
abbrev sp_law_pair (cFrac : Addr) : Sp := spF (K := K) (ι := (Frac × Frac × (Int × Int) × (Int × Int))) (fun x => [.d (eFrac cFrac) x.1, .d (eFrac cFrac) x.2.1, .d (eP eI eI) x.2.2.1, .d (eP eI eI) x.2.2.2]) (fun x => ok_law_pair x.1 x.2.1 x.2.2.1 x.2.2.2) (retD eB) (fun x => f_law_pair x.1 x.2.1 x.2.2.1 x.2.2.2)
end
set_option maxHeartbeats 4000000 in
theorem at_law_pair {P : Program} {w : World} {K : PySem.W.Frag} {mg : Str → Option Value} {base : Heap} {cFrac : Addr} {cInvalidFraction : Addr} (T : Txt K mg cFrac cInvalidFraction) : FnAt P w K mg base "_law_pair" 6 ["one", "two", "first", "second"] (sp_law_pair cFrac (K := K)) := by
  obtain ⟨f, fd, F, mg_, bd_⟩ := T.d_law_pair
  obtain ⟨⟨a_Frac_add, d_Frac_add, G_Frac_add, mt_Frac_add, b_Frac_add⟩⟩ := at_Frac_add (P := P) (w := w) (base := base) T
  obtain ⟨⟨a_Frac_eq, d_Frac_eq, G_Frac_eq, mt_Frac_eq, b_Frac_eq⟩⟩ := at_Frac_eq (P := P) (w := w) (base := base) T
  obtain ⟨⟨a_Frac_mul, d_Frac_mul, G_Frac_mul, mt_Frac_mul, b_Frac_mul⟩⟩ := at_Frac_mul (P := P) (w := w) (base := base) T
  obtain ⟨⟨a_Frac_sub, d_Frac_sub, G_Frac_sub, mt_Frac_sub, b_Frac_sub⟩⟩ := at_Frac_sub (P := P) (w := w) (base := base) T
  obtain ⟨⟨a_Frac_divided_by_C, d_Frac_divided_by_C, G_Frac_divided_by_C, mt_Frac_divided_by_C, b_Frac_divided_by_C, ⟨kg0_Frac_divided_by_C, kb0_Frac_divided_by_C⟩⟩⟩ := at_Frac_divided_by_C (P := P) (w := w) (base := base) T
  obtain ⟨⟨a_Frac_is_below, d_Frac_is_below, G_Frac_is_below, mt_Frac_is_below, b_Frac_is_below, ⟨kg0_Frac_is_below, kb0_Frac_is_below⟩⟩⟩ := at_Frac_is_below (P := P) (w := w) (base := base) T
  obtain ⟨⟨a_law_is, d_law_is, G_law_is, m_law_is, k_law_is, b_law_is⟩⟩ := at_law_is (P := P) (w := w) (base := base) T
  obtain ⟨⟨a_law_not_divided, d_law_not_divided, G_law_not_divided, m_law_not_divided, k_law_not_divided, b_law_not_divided⟩⟩ := at_law_not_divided (P := P) (w := w) (base := base) T
  obtain ⟨⟨a_law_truth, d_law_truth, G_law_truth, m_law_truth, k_law_truth, b_law_truth⟩⟩ := at_law_truth (P := P) (w := w) (base := base) T
  refine ⟨⟨f, fd, fn_okG (fun x => f_law_pair_eq x.1 x.2.1 x.2.2.1 x.2.2.2) <| fn_okE (o := fun x : (Frac × Frac × (Int × Int) × (Int × Int)) => o_law_pair x.1 x.2.1 x.2.2.1 x.2.2.2) (k := 5) F sc_law_pair (fun x => rfl) (fun x i s h => noM_tail (by simp [Slot.isM]) h) (fun cdv A outer s H EX hr x hp => ?_), mg_, F.kp, bd_⟩⟩
  obtain ⟨one, two, first, second⟩ := x
  have okh : ok_law_pair one two first second := hp
  exact ⟨_, _, rfl,
    (pss_cons (ps_set (i := 4) sc_law_pair.nd rfl (by first | exact Or.inl rfl | exact Or.inr rfl) (pe_op op_mulW (pe_ix (ixK (K := K) (r := rIxT) rfl ix_tup) (pv 2) pe_int (fun _ _ => rfl)) (pe_ix (ixK (K := K) (r := rIxT) rfl ix_tup) (pv 3) pe_int (fun _ _ => rfl)))) (pss_cons (ps_set (i := 5) sc_law_pair.nd rfl (by first | exact Or.inl rfl | exact Or.inr rfl) (pe_op op_mulW (pe_ix (ixK (K := K) (r := rIxT) rfl ix_tup) (pv 3) pe_int (fun _ _ => rfl)) (pe_ix (ixK (K := K) (r := rIxT) rfl ix_tup) (pv 2) pe_int (fun _ _ => rfl)))) (pss_cons (ps_set (i := 6) sc_law_pair.nd rfl (by first | exact Or.inl rfl | exact Or.inr rfl) (pe_op op_mulW (pe_ix (ixK (K := K) (r := rIxT) rfl ix_tup) (pv 2) pe_int (fun _ _ => rfl)) (pe_ix (ixK (K := K) (r := rIxT) rfl ix_tup) (pv 3) pe_int (fun _ _ => rfl)))) (pss_cons (ps_if (PW.pt (pw_or (pt_not (pt_val (pe_call G_law_is (hr.mono (by decide)) (by rfl) m_law_is k_law_is b_law_is .nil pass0 (pa_cons (pe_op (op_ownB (op := .Add) mt_Frac_add.at_ mt_Frac_add.fn T.sf_Frac G_Frac_add (hr.mono (by decide)) b_Frac_add pass0) (pv 0) (pv 1)) (pa_cons (pe_op op_add (pv 4) (pv 5)) (pa_cons (pv 6) pa_nil)))))) (pw_or1 (pt_not (pt_val (pe_call G_law_is (hr.mono (by decide)) (by rfl) m_law_is k_law_is b_law_is .nil pass0 (pa_cons (pe_op (op_ownB (op := .Sub) mt_Frac_sub.at_ mt_Frac_sub.fn T.sf_Frac G_Frac_sub (hr.mono (by decide)) b_Frac_sub pass0) (pv 0) (pv 1)) (pa_cons (pe_op op_sub (pv 4) (pv 5)) (pa_cons (pv 6) pa_nil))))))))) (pss_cons (ps_ret pe_bl) pss_nil) pss_nil) (pss_cons (ps_if (pt_not (pt_val (pe_call G_law_is (hr.mono (by decide)) (by rfl) m_law_is k_law_is b_law_is .nil pass0 (pa_cons (pe_op (op_ownB (op := .Mult) mt_Frac_mul.at_ mt_Frac_mul.fn T.sf_Frac G_Frac_mul (hr.mono (by decide)) b_Frac_mul pass0) (pv 0) (pv 1)) (pa_cons (pe_op op_mulW (pe_ix (ixK (K := K) (r := rIxT) rfl ix_tup) (pv 2) pe_int (fun _ _ => rfl)) (pe_ix (ixK (K := K) (r := rIxT) rfl ix_tup) (pv 3) pe_int (fun _ _ => rfl))) (pa_cons (pv 6) pa_nil)))))) (pss_cons (ps_ret pe_bl) pss_nil) pss_nil) (pss_cons (ps_set (i := 7) sc_law_pair.nd rfl (by first | exact Or.inl rfl | exact Or.inr rfl) (pe_op op_sub pe_int (pe_op op_mul pe_int (pe_callTy call_intB (by rfl) T.b_int (by decide +kernel) (pa_cons (pe_cmpR op_lt (pv 6) pe_int (nomark _)) pa_nil))))) (pss_cons (ps_if (PW.pt (pw_or (pt_not (pt_val (pe_call G_law_truth (hr.mono (by decide)) (by rfl) m_law_truth k_law_truth b_law_truth .nil pass0 (pa_cons (pe_cmpR (op_ownE mt_Frac_eq.at_ mt_Frac_eq.fn G_Frac_eq (hr.mono (by decide)) b_Frac_eq pass0) (pv 0) (pv 1) (nomark _)) (pa_cons (pe_cmpR op_eq (pv 4) (pv 5) (nomark _)) pa_nil))))) (pw_or1 (pt_not (pt_val (pe_call G_law_truth (hr.mono (by decide)) (by rfl) m_law_truth k_law_truth b_law_truth .nil pass0 (pa_cons (pe_meth (pv 0) T.cl_Frac mt_Frac_is_below G_Frac_is_below (hr.mono (by decide)) b_Frac_is_below .nil pass0 (pa_cons (pv 1) pa_nil)) (pa_cons (pe_cmpR op_lt (pe_op op_mulW (pv 4) (pv 7)) (pe_op op_mulW (pv 5) (pv 7)) (nomark _)) pa_nil)))))))) (pss_cons (ps_ret pe_bl) pss_nil) pss_nil) (pss_cons (ps_if (pt_cmpR op_eq (pe_ix (ixK (K := K) (r := rIxT) rfl ix_tup) (pv 3) pe_int (fun _ _ => rfl)) pe_int (nomark _)) (pss_cons (ps_ret (pe_call G_law_not_divided (hr.mono (by decide)) (by rfl) m_law_not_divided k_law_not_divided b_law_not_divided .nil pass0 (pa_cons (pv 0) (pa_cons (pv 1) pa_nil)))) pss_nil) pss_nil) (pss_cons (ps_ret (pe_call G_law_is (hr.mono (by decide)) (by rfl) m_law_is k_law_is b_law_is .nil pass0 (pa_cons (pe_methK (pv 0) T.cl_Frac mt_Frac_divided_by_C G_Frac_divided_by_C (hr.mono (by decide)) kb0_Frac_divided_by_C pass0 (pk_cons (pv 1) pk_nil)) (pa_cons (pe_op op_mulW (pe_ix (ixK (K := K) (r := rIxT) rfl ix_tup) (pv 2) pe_int (fun _ _ => rfl)) (pe_ix (ixK (K := K) (r := rIxT) rfl ix_tup) (pv 3) pe_int (fun _ _ => rfl))) (pa_cons (pe_op op_mulW (pe_ix (ixK (K := K) (r := rIxT) rfl ix_tup) (pv 2) pe_int (fun _ _ => rfl)) (pe_ix (ixK (K := K) (r := rIxT) rfl ix_tup) (pv 3) pe_int (fun _ _ => rfl))) pa_nil))))) pss_nil))))))))),
    (xb_set (ev_eq (ev_I (ev_fst (ev_var (i := 2) rfl)) (ev_snd (ev_var (i := 3) rfl)) (okh.1)) rfl) rfl (fun num_439 h_440 => (xb_set (ev_eq (ev_I (ev_fst (ev_var (i := 3) rfl)) (ev_snd (ev_var (i := 2) rfl)) ((okh.2 num_439 h_440).1)) rfl) rfl (fun more_442 h_443 => (xb_set (ev_eq (ev_I (ev_snd (ev_var (i := 2) rfl)) (ev_snd (ev_var (i := 3) rfl)) (((okh.2 num_439 h_440).2 more_442 h_443).1)) rfl) rfl (fun den_445 h_446 => (xb_ifR (et_eq (et_or (et_not (et_B (ev_call ((f_Frac_add one two), (num_439 + more_442), den_445) (ea_cons (ev_eq (ev_ownB (one, two) (ev_var (i := 0) rfl) (ev_var (i := 1) rfl) rfl ((((okh.2 num_439 h_440).2 more_442 h_443).2 den_445 h_446).1) rfl) rfl) (ea_cons (ev_eq (ev_I0 (ev_var (i := 4) rfl) (ev_var (i := 5) rfl)) rfl) (ea_cons (ev_eq (ev_var (i := 6) rfl) rfl) ea_nil))) ((((okh.2 num_439 h_440).2 more_442 h_443).2 den_445 h_446).2.1) rfl rfl))) (fun hb_449 => (et_not (et_B (ev_call ((f_Frac_sub one two), (num_439 - more_442), den_445) (ea_cons (ev_eq (ev_ownB (one, two) (ev_var (i := 0) rfl) (ev_var (i := 1) rfl) rfl (((((okh.2 num_439 h_440).2 more_442 h_443).2 den_445 h_446).2.2.1 hb_449).1) rfl) rfl) (ea_cons (ev_eq (ev_I0 (ev_var (i := 4) rfl) (ev_var (i := 5) rfl)) rfl) (ea_cons (ev_eq (ev_var (i := 6) rfl) rfl) ea_nil))) (((((okh.2 num_439 h_440).2 more_442 h_443).2 den_445 h_446).2.2.1 hb_449).2) rfl rfl))))) rfl) (fun hc_452 => (xb_retS (ev_eq ev_bl rfl) (.inl rfl) rfl)) (fun hc_452 => (xb_ifR (et_eq (et_not (et_B (ev_call ((f_Frac_mul one two), (first.1 * second.1), den_445) (ea_cons (ev_eq (ev_ownB (one, two) (ev_var (i := 0) rfl) (ev_var (i := 1) rfl) rfl (((((okh.2 num_439 h_440).2 more_442 h_443).2 den_445 h_446).2.2.2 hc_452).1) rfl) rfl) (ea_cons (ev_eq (ev_I (ev_fst (ev_var (i := 2) rfl)) (ev_fst (ev_var (i := 3) rfl)) (((((okh.2 num_439 h_440).2 more_442 h_443).2 den_445 h_446).2.2.2 hc_452).2.1)) rfl) (ea_cons (ev_eq (ev_var (i := 6) rfl) rfl) ea_nil))) (((((okh.2 num_439 h_440).2 more_442 h_443).2 den_445 h_446).2.2.2 hc_452).2.2.1) rfl rfl))) rfl) (fun hc_456 => (xb_retS (ev_eq ev_bl rfl) (.inl rfl) rfl)) (fun hc_456 => (xb_set (ev_eq (ev_I0 ev_int (ev_I ev_int (ev_intB (ev_IB (ev_var (i := 6) rfl) ev_int)) (.inl (by decide)))) rfl) rfl (fun sign_457 h_458 => (xb_ifR (et_eq (et_or (et_not (et_B (ev_call ((f_Frac_eq one ((Py.obj (F := Frac)) two)), (decide (num_439 = more_442))) (ea_cons (ev_eq (ev_ownE T.in_Frac T.nf_Frac (one, ((Py.obj (F := Frac)) two)) (ev_var (i := 0) rfl) (ev_cv (f := (eD (eFrac cFrac))) (u := (Py.obj (F := Frac))) (ev_var (i := 1) rfl)) rfl (((((((okh.2 num_439 h_440).2 more_442 h_443).2 den_445 h_446).2.2.2 hc_452).2.2.2 hc_456) sign_457 h_458).1) rfl) rfl) (ea_cons (ev_eq (ev_eqI (ev_var (i := 4) rfl) (ev_var (i := 5) rfl)) rfl) ea_nil)) trivial rfl rfl))) (fun hb_460 => (et_not (et_B (ev_call ((f_Frac_is_below one two), (decide ((num_439 * sign_457) < (more_442 * sign_457)))) (ea_cons (ev_eq (ev_meth (one, two) (ev_var (i := 0) rfl) (by show ("is_below" : Str) ∉ (["num", "den"] : List Str); decide +kernel) (ea_cons (ev_eq (ev_var (i := 1) rfl) rfl) ea_nil) rfl ((((((((okh.2 num_439 h_440).2 more_442 h_443).2 den_445 h_446).2.2.2 hc_452).2.2.2 hc_456) sign_457 h_458).2.1 hb_460).1) rfl) rfl) (ea_cons (ev_eq (ev_IB (ev_I (ev_var (i := 4) rfl) (ev_var (i := 7) rfl) ((((((((okh.2 num_439 h_440).2 more_442 h_443).2 den_445 h_446).2.2.2 hc_452).2.2.2 hc_456) sign_457 h_458).2.1 hb_460).2.1)) (ev_I (ev_var (i := 5) rfl) (ev_var (i := 7) rfl) ((((((((okh.2 num_439 h_440).2 more_442 h_443).2 den_445 h_446).2.2.2 hc_452).2.2.2 hc_456) sign_457 h_458).2.1 hb_460).2.2))) rfl) ea_nil)) trivial rfl rfl))))) rfl) (fun hc_464 => (xb_retS (ev_eq ev_bl rfl) (.inl rfl) rfl)) (fun hc_464 => (xb_ifR (et_eq (et_test (ev_eqI (ev_fst (ev_var (i := 3) rfl)) ev_int)) rfl) (fun hc_465 => (xb_retS (ev_eq (ev_call (one, ((Py.obj (F := Frac)) two)) (ea_cons (ev_eq (ev_var (i := 0) rfl) rfl) (ea_cons (ev_eq (ev_cv (f := (eD (eFrac cFrac))) (u := (Py.obj (F := Frac))) (ev_var (i := 1) rfl)) rfl) ea_nil)) (((((((((okh.2 num_439 h_440).2 more_442 h_443).2 den_445 h_446).2.2.2 hc_452).2.2.2 hc_456) sign_457 h_458).2.2 hc_464).1 hc_465)) rfl rfl) rfl) (.inl rfl) rfl)) (fun hc_465 => (xb_retS (ev_eq (ev_call ((f_Frac_divided_by_C one two), (first.1 * second.2), (first.2 * second.1)) (ea_cons (ev_eq (ev_methK (one, two) (ev_var (i := 0) rfl) (by show ("divided_by" : Str) ∉ (["num", "den"] : List Str); decide +kernel) (ea_cons (ev_eq (ev_var (i := 1) rfl) rfl) ea_nil) rfl rfl (by intro v zs r h0 h; exact match zs, h with | [_], .cons a0 .nil => .cons h0 (.cons a0 .nil)) (((((((((okh.2 num_439 h_440).2 more_442 h_443).2 den_445 h_446).2.2.2 hc_452).2.2.2 hc_456) sign_457 h_458).2.2 hc_464).2 hc_465).1) rfl) rfl) (ea_cons (ev_eq (ev_I (ev_fst (ev_var (i := 2) rfl)) (ev_snd (ev_var (i := 3) rfl)) (((((((((okh.2 num_439 h_440).2 more_442 h_443).2 den_445 h_446).2.2.2 hc_452).2.2.2 hc_456) sign_457 h_458).2.2 hc_464).2 hc_465).2.1)) rfl) (ea_cons (ev_eq (ev_I (ev_snd (ev_var (i := 2) rfl)) (ev_fst (ev_var (i := 3) rfl)) (((((((((okh.2 num_439 h_440).2 more_442 h_443).2 den_445 h_446).2.2.2 hc_452).2.2.2 hc_456) sign_457 h_458).2.2 hc_464).2 hc_465).2.2.1)) rfl) ea_nil))) (((((((((okh.2 num_439 h_440).2 more_442 h_443).2 den_445 h_446).2.2.2 hc_452).2.2.2 hc_456) sign_457 h_458).2.2 hc_464).2 hc_465).2.2.2) rfl rfl) rfl) (.inl rfl) rfl)))))))))))))))))⟩
/-! ### _law_all -/
abbrev N_law_all : List Str := ["script", "box", "first", "second", "two", "other", "one"]
theorem sc_law_all : FnScope N_law_all ["script"] (defScope s_law_all) := ⟨rfl, rfl, rfl, by decide +kernel, rfl, by decide +kernel, by decide +kernel⟩
def o_law_all (script : (List Int)) : Out Empty Empty Bool :=
  (lt (f_law_box script) fun box_471 => (lt ((f_law_terms box_471).1) fun first_474 => (lt ((f_law_terms box_471).2) fun bx_476 => (lt ((f_law_second bx_476 first_474).1) fun second_479 => (lt ((f_law_second bx_476 first_474).2) fun bx_481 => (lt (bif (decide ((f_law_draw bx_481 (2 : Int)).1 = (0 : Int))) then (lt (f_Frac_init_I first_474.1 first_474.2) fun one_486 => one_486) else (lt (f_Frac_init_I first_474.1 first_474.2) fun one_489 => one_489)) fun z_491 => (lt ((f_law_draw bx_481 (2 : Int)).2) fun bx_493 => (lt (f_Frac_init_I second_479.1 second_479.2) fun two_496 => (bif ((!(f_law_is z_491 first_474.1 first_474.2)) || (!(f_law_is two_496 second_479.1 second_479.2))) then (.rt false) else (bif ((!(f_law_is (f_Frac_init_I first_474.1 (1 : Int)) first_474.1 (1 : Int))) || (!(f_law_is (f_Frac_init_I second_479.2 (1 : Int)) second_479.2 (1 : Int)))) then (.rt false) else (bif ((!(f_law_pair z_491 two_496 first_474 second_479)) || (!(f_law_pair two_496 z_491 second_479 first_474))) then (.rt false) else (bif ((!(f_law_pair z_491 z_491 first_474 first_474)) || (!(f_law_truth (f_Frac_is_below z_491 z_491) false))) then (.rt false) else (bif (!(f_law_bad bx_493 first_474).1) then (.rt false) else (lt ((f_law_wrong ((f_law_bad bx_493 first_474).2) first_474).1) fun other_519 => (lt ((f_law_wrong ((f_law_bad bx_493 first_474).2) first_474).2) fun bx_521 => ((bif (!((other_519).sel false false false false true false false)) then (bif ((!(decide ((f_Frac_eq z_491 other_519) = false))) || (!(f_law_not_divided z_491 other_519))) then (.rt false) else (.nx ())) else (.nx ()) : Out Unit Empty Bool).bind fun z_528 => (((FL.run (fun (t_530 : Unit) (other_531 : (Py Frac)) => ((bif (!(decide ((f_Frac_eq z_491 other_531) = false))) then (.rt false) else (.nx ())) : Out Unit Unit Bool)) () [((Py.int (F := Frac)) z_491.num), ((Py.int (F := Frac)) z_491.den), ((Py.tup (F := Frac)) [((Py.int (F := Frac)) z_491.num), ((Py.int (F := Frac)) z_491.den)]), ((Py.lst (F := Frac)) [((Py.int (F := Frac)) z_491.num), ((Py.int (F := Frac)) z_491.den)]), ((fun _ : Unit => (Py.non : Py Frac)) ()), ((Py.bl (F := Frac)) true), ((Py.bl (F := Frac)) false), ((Py.str (F := Frac)) ("" : Str))]).done : Out Unit Empty Bool).bind fun s_537 => (bif (!(f_law_not_divided two_496 ((Py.int (F := Frac)) z_491.den))) then (.rt false) else (.rt ((f_law_is z_491 first_474.1 first_474.2) && (f_law_is two_496 second_479.1 second_479.2)))))))))))))))))))))
@[irreducible] def f_law_all (script : (List Int)) : Bool := (o_law_all script).get
theorem f_law_all_eq (script : (List Int)) : f_law_all script = (o_law_all script).get := by delta f_law_all; rfl
def ok_law_all (script : (List Int)) : Prop :=
  (∀ box_471 (h_472 : box_471 = (f_law_box script)), (ok_law_terms box_471) ∧ (∀ first_474 (h_475 : first_474 = (f_law_terms box_471).1), (∀ bx_476 (h_477 : bx_476 = (f_law_terms box_471).2), (ok_law_second bx_476 first_474) ∧ (∀ second_479 (h_480 : second_479 = (f_law_second bx_476 first_474).1), (∀ bx_481 (h_482 : bx_481 = (f_law_second bx_476 first_474).2), (ok_law_draw bx_481 (2 : Int)) ∧ (∀ (hc_484 : ((decide ((f_law_draw bx_481 (2 : Int)).1 = (0 : Int)))) = true), (ok_Frac_init_I first_474.1 first_474.2)) ∧ (∀ (hc_484 : ((decide ((f_law_draw bx_481 (2 : Int)).1 = (0 : Int)))) = false), (ok_Frac_init_I first_474.1 first_474.2)) ∧ (∀ z_491 (h_492 : z_491 = (bif (decide ((f_law_draw bx_481 (2 : Int)).1 = (0 : Int))) then (lt (f_Frac_init_I first_474.1 first_474.2) fun one_486 => one_486) else (lt (f_Frac_init_I first_474.1 first_474.2) fun one_489 => one_489))), (∀ bx_493 (h_494 : bx_493 = (f_law_draw bx_481 (2 : Int)).2), (ok_Frac_init_I second_479.1 second_479.2) ∧ (∀ two_496 (h_497 : two_496 = (f_Frac_init_I second_479.1 second_479.2)), (ok_law_is z_491 first_474.1 first_474.2) ∧ (∀ (hb_499 : ((!(f_law_is z_491 first_474.1 first_474.2))) = false), (ok_law_is two_496 second_479.1 second_479.2)) ∧ (∀ (hc_501 : (((!(f_law_is z_491 first_474.1 first_474.2)) || (!(f_law_is two_496 second_479.1 second_479.2)))) = false), (ok_Frac_init_I first_474.1 (1 : Int)) ∧ (ok_law_is (f_Frac_init_I first_474.1 (1 : Int)) first_474.1 (1 : Int)) ∧ (∀ (hb_504 : ((!(f_law_is (f_Frac_init_I first_474.1 (1 : Int)) first_474.1 (1 : Int)))) = false), (ok_Frac_init_I second_479.2 (1 : Int)) ∧ (ok_law_is (f_Frac_init_I second_479.2 (1 : Int)) second_479.2 (1 : Int))) ∧ (∀ (hc_507 : (((!(f_law_is (f_Frac_init_I first_474.1 (1 : Int)) first_474.1 (1 : Int))) || (!(f_law_is (f_Frac_init_I second_479.2 (1 : Int)) second_479.2 (1 : Int))))) = false), (ok_law_pair z_491 two_496 first_474 second_479) ∧ (∀ (hb_509 : ((!(f_law_pair z_491 two_496 first_474 second_479))) = false), (ok_law_pair two_496 z_491 second_479 first_474)) ∧ (∀ (hc_511 : (((!(f_law_pair z_491 two_496 first_474 second_479)) || (!(f_law_pair two_496 z_491 second_479 first_474)))) = false), (ok_law_pair z_491 z_491 first_474 first_474) ∧ (∀ (hb_513 : ((!(f_law_pair z_491 z_491 first_474 first_474))) = false), (ok_Frac_is_below z_491 z_491)) ∧ (∀ (hc_515 : (((!(f_law_pair z_491 z_491 first_474 first_474)) || (!(f_law_truth (f_Frac_is_below z_491 z_491) false)))) = false), (ok_law_bad bx_493 first_474) ∧ (∀ (hc_517 : ((!(f_law_bad bx_493 first_474).1)) = false), (ok_law_wrong ((f_law_bad bx_493 first_474).2) first_474) ∧ (∀ other_519 (h_520 : other_519 = (f_law_wrong ((f_law_bad bx_493 first_474).2) first_474).1), (∀ bx_521 (h_522 : bx_521 = (f_law_wrong ((f_law_bad bx_493 first_474).2) first_474).2), (∀ (hc_523 : ((!((other_519).sel false false false false true false false))) = true), (ok_Frac_eq z_491 other_519) ∧ (∀ (hb_525 : ((!(decide ((f_Frac_eq z_491 other_519) = false)))) = false), (ok_law_not_divided z_491 other_519))) ∧ (∀ (z_528 : Unit) (hz_529 : (bif (!((other_519).sel false false false false true false false)) then (bif ((!(decide ((f_Frac_eq z_491 other_519) = false))) || (!(f_law_not_divided z_491 other_519))) then (.rt false) else (.nx ())) else (.nx ()) : Out Unit Empty Bool) = .nx z_528), (∀ (i_532 : Nat) (other_531 : (Py Frac)) (t_530 : Unit) (hi_533 : ([((Py.int (F := Frac)) z_491.num), ((Py.int (F := Frac)) z_491.den), ((Py.tup (F := Frac)) [((Py.int (F := Frac)) z_491.num), ((Py.int (F := Frac)) z_491.den)]), ((Py.lst (F := Frac)) [((Py.int (F := Frac)) z_491.num), ((Py.int (F := Frac)) z_491.den)]), ((fun _ : Unit => (Py.non : Py Frac)) ()), ((Py.bl (F := Frac)) true), ((Py.bl (F := Frac)) false), ((Py.str (F := Frac)) ("" : Str))])[i_532]? = some other_531) (ht_534 : FL.run (fun (t_530 : Unit) (other_531 : (Py Frac)) => ((bif (!(decide ((f_Frac_eq z_491 other_531) = false))) then (.rt false) else (.nx ())) : Out Unit Unit Bool)) () (([((Py.int (F := Frac)) z_491.num), ((Py.int (F := Frac)) z_491.den), ((Py.tup (F := Frac)) [((Py.int (F := Frac)) z_491.num), ((Py.int (F := Frac)) z_491.den)]), ((Py.lst (F := Frac)) [((Py.int (F := Frac)) z_491.num), ((Py.int (F := Frac)) z_491.den)]), ((fun _ : Unit => (Py.non : Py Frac)) ()), ((Py.bl (F := Frac)) true), ((Py.bl (F := Frac)) false), ((Py.str (F := Frac)) ("" : Str))]).take i_532) = .nx t_530), (ok_Frac_eq z_491 other_531)) ∧ (∀ (s_537 : Unit) (hs_538 : (FL.run (fun (t_530 : Unit) (other_531 : (Py Frac)) => ((bif (!(decide ((f_Frac_eq z_491 other_531) = false))) then (.rt false) else (.nx ())) : Out Unit Unit Bool)) () [((Py.int (F := Frac)) z_491.num), ((Py.int (F := Frac)) z_491.den), ((Py.tup (F := Frac)) [((Py.int (F := Frac)) z_491.num), ((Py.int (F := Frac)) z_491.den)]), ((Py.lst (F := Frac)) [((Py.int (F := Frac)) z_491.num), ((Py.int (F := Frac)) z_491.den)]), ((fun _ : Unit => (Py.non : Py Frac)) ()), ((Py.bl (F := Frac)) true), ((Py.bl (F := Frac)) false), ((Py.str (F := Frac)) ("" : Str))]).done = (.nx s_537 : Out Unit Empty Bool)), (ok_law_not_divided two_496 ((Py.int (F := Frac)) z_491.den)) ∧ (∀ (hc_540 : ((!(f_law_not_divided two_496 ((Py.int (F := Frac)) z_491.den)))) = false), (ok_law_is z_491 first_474.1 first_474.2) ∧ (∀ (hb_542 : ((f_law_is z_491 first_474.1 first_474.2)) = true), (ok_law_is two_496 second_479.1 second_479.2))))))))))))))))))))
section
variable {K : PySem.W.Frag} {cFrac : Addr} {cInvalidFraction : Addr}
abbrev sp_law_all : Sp := spF (K := K) (ι := (List Int)) (fun x => [.d (eL eI) x]) (fun x => ok_law_all x) (retD eB) (fun x => f_law_all x)
end
set_option maxHeartbeats 4000000 in
theorem at_law_all {P : Program} {w : World} {K : PySem.W.Frag} {mg : Str → Option Value} {base : Heap} {cFrac : Addr} {cInvalidFraction : Addr} (T : Txt K mg cFrac cInvalidFraction) : FnAt P w K mg base "_law_all" 8 ["script"] (sp_law_all (K := K)) := by
  obtain ⟨f, fd, F, mg_, bd_⟩ := T.d_law_all
  obtain ⟨⟨a_Frac_eq, d_Frac_eq, G_Frac_eq, mt_Frac_eq, b_Frac_eq⟩⟩ := at_Frac_eq (P := P) (w := w) (base := base) T
  obtain ⟨⟨a_Frac_init_I, d_Frac_init_I, G_Frac_init_I, mk_Frac_init_I, m_Frac_init_I, b_Frac_init_I, ⟨ds_Frac_init_I, vd_Frac_init_I, bd_Frac_init_I⟩, ⟨kg0_Frac_init_I, kb0_Frac_init_I⟩, ⟨kg1_Frac_init_I, kb1_Frac_init_I⟩⟩⟩ := at_Frac_init_I (P := P) (w := w) (base := base) T
  obtain ⟨⟨a_Frac_is_below, d_Frac_is_below, G_Frac_is_below, mt_Frac_is_below, b_Frac_is_below, ⟨kg0_Frac_is_below, kb0_Frac_is_below⟩⟩⟩ := at_Frac_is_below (P := P) (w := w) (base := base) T
  obtain ⟨⟨a_law_bad, d_law_bad, G_law_bad, m_law_bad, k_law_bad, b_law_bad⟩⟩ := at_law_bad (P := P) (w := w) (base := base) T
  obtain ⟨⟨a_law_box, d_law_box, G_law_box, m_law_box, k_law_box, b_law_box⟩⟩ := at_law_box (P := P) (w := w) (base := base) T
  obtain ⟨⟨a_law_draw, d_law_draw, G_law_draw, m_law_draw, k_law_draw, b_law_draw⟩⟩ := at_law_draw (P := P) (w := w) (base := base) T
  obtain ⟨⟨a_law_is, d_law_is, G_law_is, m_law_is, k_law_is, b_law_is⟩⟩ := at_law_is (P := P) (w := w) (base := base) T
  obtain ⟨⟨a_law_not_divided, d_law_not_divided, G_law_not_divided, m_law_not_divided, k_law_not_divided, b_law_not_divided⟩⟩ := at_law_not_divided (P := P) (w := w) (base := base) T
  obtain ⟨⟨a_law_pair, d_law_pair, G_law_pair, m_law_pair, k_law_pair, b_law_pair⟩⟩ := at_law_pair (P := P) (w := w) (base := base) T
  obtain ⟨⟨a_law_second, d_law_second, G_law_second, m_law_second, k_law_second, b_law_second⟩⟩ := at_law_second (P := P) (w := w) (base := base) T
  obtain ⟨⟨a_law_terms, d_law_terms, G_law_terms, m_law_terms, k_law_terms, b_law_terms⟩⟩ := at_law_terms (P := P) (w := w) (base := base) T
  obtain ⟨⟨a_law_truth, d_law_truth, G_law_truth, m_law_truth, k_law_truth, b_law_truth⟩⟩ := at_law_truth (P := P) (w := w) (base := base) T
  obtain ⟨⟨a_law_wrong, d_law_wrong, G_law_wrong, m_law_wrong, k_law_wrong, b_law_wrong⟩⟩ := at_law_wrong (P := P) (w := w) (base := base) T
  refine ⟨⟨f, fd, fn_okG (fun x => f_law_all_eq x) <| fn_okE (o := fun x : (List Int) => o_law_all x) (k := 7) F sc_law_all (fun x => rfl) (fun x i s h => noM_tail (by simp [Slot.isM]) h) (fun cdv A outer s H EX hr script hp => ?_), mg_, F.kp, bd_⟩⟩
  have okh : ok_law_all script := hp
  exact ⟨_, _, rfl,
    (pss_cons (ps_set (i := 1) sc_law_all.nd rfl (by first | exact Or.inl rfl | exact Or.inr rfl) (pe_call G_law_box (hr.mono (by decide)) (by rfl) m_law_box k_law_box b_law_box .nil pass0 (pa_cons (pv 0) pa_nil))) (pss_cons (ps_set (i := 2) sc_law_all.nd rfl (by first | exact Or.inl rfl | exact Or.inr rfl) (pe_call G_law_terms (hr.mono (by decide)) (by rfl) m_law_terms k_law_terms b_law_terms .nil pass0 (pa_cons (pv 1) pa_nil))) (pss_cons (ps_set (i := 3) sc_law_all.nd rfl (by first | exact Or.inl rfl | exact Or.inr rfl) (pe_call G_law_second (hr.mono (by decide)) (by rfl) m_law_second k_law_second b_law_second .nil pass0 (pa_cons (pv 1) (pa_cons (pv 2) pa_nil)))) (pss_cons (ps_if (pt_cmpR op_eq (pe_call G_law_draw (hr.mono (by decide)) (by rfl) m_law_draw k_law_draw b_law_draw .nil pass0 (pa_cons (pv 1) (pa_cons pe_int pa_nil))) pe_int (nomark _)) (pss_cons (ps_set (i := 6) sc_law_all.nd rfl (by first | exact Or.inl rfl | exact Or.inr rfl) (pe_make mk_Frac_init_I G_Frac_init_I (hr.mono (by decide)) (by rfl) m_Frac_init_I b_Frac_init_I .nil pass0 (pa_cons (pe_ix (ixK (K := K) (r := rIxT) rfl ix_tup) (pv 2) pe_int (fun _ _ => rfl)) (pa_cons (pe_ix (ixK (K := K) (r := rIxT) rfl ix_tup) (pv 2) pe_int (fun _ _ => rfl)) pa_nil)))) pss_nil) (pss_cons (ps_set (i := 6) sc_law_all.nd rfl (by first | exact Or.inl rfl | exact Or.inr rfl) (pe_makeK0 mk_Frac_init_I G_Frac_init_I (hr.mono (by decide)) (by rfl) m_Frac_init_I kb0_Frac_init_I pass0 (pk_cons (pe_ix (ixK (K := K) (r := rIxT) rfl ix_tup) (pv 2) pe_int (fun _ _ => rfl)) (pk_cons (pe_ix (ixK (K := K) (r := rIxT) rfl ix_tup) (pv 2) pe_int (fun _ _ => rfl)) pk_nil)))) pss_nil)) (pss_cons (ps_set (i := 4) sc_law_all.nd rfl (by first | exact Or.inl rfl | exact Or.inr rfl) (pe_make mk_Frac_init_I G_Frac_init_I (hr.mono (by decide)) (by rfl) m_Frac_init_I b_Frac_init_I .nil pass0 (pa_cons (pe_ix (ixK (K := K) (r := rIxT) rfl ix_tup) (pv 3) pe_int (fun _ _ => rfl)) (pa_cons (pe_ix (ixK (K := K) (r := rIxT) rfl ix_tup) (pv 3) pe_int (fun _ _ => rfl)) pa_nil)))) (pss_cons (ps_if (PW.pt (pw_or (pt_not (pt_val (pe_call G_law_is (hr.mono (by decide)) (by rfl) m_law_is k_law_is b_law_is .nil pass0 (pa_cons (pv 6) (pa_cons (pe_ix (ixK (K := K) (r := rIxT) rfl ix_tup) (pv 2) pe_int (fun _ _ => rfl)) (pa_cons (pe_ix (ixK (K := K) (r := rIxT) rfl ix_tup) (pv 2) pe_int (fun _ _ => rfl)) pa_nil)))))) (pw_or1 (pt_not (pt_val (pe_call G_law_is (hr.mono (by decide)) (by rfl) m_law_is k_law_is b_law_is .nil pass0 (pa_cons (pv 4) (pa_cons (pe_ix (ixK (K := K) (r := rIxT) rfl ix_tup) (pv 3) pe_int (fun _ _ => rfl)) (pa_cons (pe_ix (ixK (K := K) (r := rIxT) rfl ix_tup) (pv 3) pe_int (fun _ _ => rfl)) pa_nil))))))))) (pss_cons (ps_ret pe_bl) pss_nil) pss_nil) (pss_cons (ps_if (PW.pt (pw_or (pt_not (pt_val (pe_call G_law_is (hr.mono (by decide)) (by rfl) m_law_is k_law_is b_law_is .nil pass0 (pa_cons (pe_make mk_Frac_init_I G_Frac_init_I (hr.mono (by decide)) (by rfl) m_Frac_init_I bd_Frac_init_I vd_Frac_init_I pass0 (pa_cons (pe_ix (ixK (K := K) (r := rIxT) rfl ix_tup) (pv 2) pe_int (fun _ _ => rfl)) pa_nil)) (pa_cons (pe_ix (ixK (K := K) (r := rIxT) rfl ix_tup) (pv 2) pe_int (fun _ _ => rfl)) (pa_cons pe_int pa_nil)))))) (pw_or1 (pt_not (pt_val (pe_call G_law_is (hr.mono (by decide)) (by rfl) m_law_is k_law_is b_law_is .nil pass0 (pa_cons (pe_makeK0 mk_Frac_init_I G_Frac_init_I (hr.mono (by decide)) (by rfl) m_Frac_init_I kb1_Frac_init_I pass0 (pk_cons (pe_ix (ixK (K := K) (r := rIxT) rfl ix_tup) (pv 3) pe_int (fun _ _ => rfl)) pk_nil)) (pa_cons (pe_ix (ixK (K := K) (r := rIxT) rfl ix_tup) (pv 3) pe_int (fun _ _ => rfl)) (pa_cons pe_int pa_nil))))))))) (pss_cons (ps_ret pe_bl) pss_nil) pss_nil) (pss_cons (ps_if (PW.pt (pw_or (pt_not (pt_val (pe_call G_law_pair (hr.mono (by decide)) (by rfl) m_law_pair k_law_pair b_law_pair .nil pass0 (pa_cons (pv 6) (pa_cons (pv 4) (pa_cons (pv 2) (pa_cons (pv 3) pa_nil))))))) (pw_or1 (pt_not (pt_val (pe_call G_law_pair (hr.mono (by decide)) (by rfl) m_law_pair k_law_pair b_law_pair .nil pass0 (pa_cons (pv 4) (pa_cons (pv 6) (pa_cons (pv 3) (pa_cons (pv 2) pa_nil)))))))))) (pss_cons (ps_ret pe_bl) pss_nil) pss_nil) (pss_cons (ps_if (PW.pt (pw_or (pt_not (pt_val (pe_call G_law_pair (hr.mono (by decide)) (by rfl) m_law_pair k_law_pair b_law_pair .nil pass0 (pa_cons (pv 6) (pa_cons (pv 6) (pa_cons (pv 2) (pa_cons (pv 2) pa_nil))))))) (pw_or1 (pt_not (pt_val (pe_call G_law_truth (hr.mono (by decide)) (by rfl) m_law_truth k_law_truth b_law_truth .nil pass0 (pa_cons (pe_methK (pv 6) T.cl_Frac mt_Frac_is_below G_Frac_is_below (hr.mono (by decide)) kb0_Frac_is_below pass0 (pk_cons (pv 6) pk_nil)) (pa_cons pe_bl pa_nil)))))))) (pss_cons (ps_ret pe_bl) pss_nil) pss_nil) (pss_cons (ps_if (pt_not (pt_val (pe_call G_law_bad (hr.mono (by decide)) (by rfl) m_law_bad k_law_bad b_law_bad .nil pass0 (pa_cons (pv 1) (pa_cons (pv 2) pa_nil))))) (pss_cons (ps_ret pe_bl) pss_nil) pss_nil) (pss_cons (ps_set (i := 5) sc_law_all.nd rfl (by first | exact Or.inl rfl | exact Or.inr rfl) (pe_call G_law_wrong (hr.mono (by decide)) (by rfl) m_law_wrong k_law_wrong b_law_wrong .nil pass0 (pa_cons (pv 1) (pa_cons (pv 2) pa_nil)))) (pss_cons (ps_if (pt_not (pt_val (pe_callB call_isi (by rfl) T.b_isinstance (by decide +kernel) (pa_cons (pv 5) (pa_cons (pe_glob (v := .ref cFrac) (by rfl) T.mg_Frac rfl) pa_nil))))) (pss_cons (ps_if (PW.pt (pw_or (pt_not (pt_cmpR op_isBl2 (pe_cmpR (op_ownE mt_Frac_eq.at_ mt_Frac_eq.fn G_Frac_eq (hr.mono (by decide)) b_Frac_eq pass0) (pv 6) (pv 5) (nomark _)) pe_bl (nomark _))) (pw_or1 (pt_not (pt_val (pe_call G_law_not_divided (hr.mono (by decide)) (by rfl) m_law_not_divided k_law_not_divided b_law_not_divided .nil pass0 (pa_cons (pv 6) (pa_cons (pv 5) pa_nil)))))))) (pss_cons (ps_ret pe_bl) pss_nil) pss_nil) pss_nil) pss_nil) (pss_cons (ps_for PassesOwn.never rfl (pi_list (pe_lst (pa_cons (pe_fld (pv 6) rfl) (pa_cons (pe_fld (pv 6) rfl) (pa_cons (pe_tup (pa_cons (pe_fld (pv 6) rfl) (pa_cons (pe_fld (pv 6) rfl) pa_nil))) (pa_cons (pe_lst (pa_cons (pe_fld (pv 6) rfl) (pa_cons (pe_fld (pv 6) rfl) pa_nil))) (pa_cons pe_non (pa_cons pe_bl (pa_cons pe_bl (pa_cons pe_str pa_nil)))))))))) (pg_name (i := 5) sc_law_all.nd rfl (by first | exact Or.inl rfl | exact Or.inr rfl)) (pss_cons (ps_if (pt_not (pt_cmpR op_isBl2 (pe_cmpR (op_ownE mt_Frac_eq.at_ mt_Frac_eq.fn G_Frac_eq (hr.mono (by decide)) b_Frac_eq pass0) (pv 6) (pv 5) (nomark _)) pe_bl (nomark _))) (pss_cons (ps_ret pe_bl) pss_nil) pss_nil) pss_nil)) (pss_cons (ps_if (pt_not (pt_val (pe_call G_law_not_divided (hr.mono (by decide)) (by rfl) m_law_not_divided k_law_not_divided b_law_not_divided .nil pass0 (pa_cons (pv 4) (pa_cons (pe_fld (pv 6) rfl) pa_nil))))) (pss_cons (ps_ret pe_bl) pss_nil) pss_nil) (pss_cons (ps_ret (pe_and (pe_call G_law_is (hr.mono (by decide)) (by rfl) m_law_is k_law_is b_law_is .nil pass0 (pa_cons (pv 6) (pa_cons (pe_ix (ixK (K := K) (r := rIxT) rfl ix_tup) (pv 2) pe_int (fun _ _ => rfl)) (pa_cons (pe_ix (ixK (K := K) (r := rIxT) rfl ix_tup) (pv 2) pe_int (fun _ _ => rfl)) pa_nil)))) (pe_one (pe_call G_law_is (hr.mono (by decide)) (by rfl) m_law_is k_law_is b_law_is .nil pass0 (pa_cons (pv 4) (pa_cons (pe_ix (ixK (K := K) (r := rIxT) rfl ix_tup) (pv 3) pe_int (fun _ _ => rfl)) (pa_cons (pe_ix (ixK (K := K) (r := rIxT) rfl ix_tup) (pv 3) pe_int (fun _ _ => rfl)) pa_nil))))))) pss_nil))))))))))))))),
    (xb_new (ev_callW script (ea_cons (ev_eq (ev_var (i := 0) rfl) rfl) ea_nil) trivial rfl rfl) rfl (fun box_471 h_472 => (xb_set (ev_eq (ev_callM (j := 1) box_471 rfl rfl ea_nil rfl rfl rfl ((okh box_471 h_472).1) rfl rfl rfl) rfl) rfl (fun first_474 h_475 => (xb_reb (fun bx_476 => [.d (eL eI) script, .m mBox bx_476, .d (eP eI eI) first_474, .un, .un, .un, .un]) ((f_law_terms box_471).2) (fun bx_476 h_477 => (xb_set (ev_eq (ev_callM (j := 1) (bx_476, first_474) rfl rfl (ea_cons (ev_eq (ev_var (i := 2) rfl) rfl) ea_nil) rfl rfl rfl ((((okh box_471 h_472).2 first_474 h_475) bx_476 h_477).1) rfl rfl rfl) rfl) rfl (fun second_479 h_480 => (xb_reb (fun bx_481 => [.d (eL eI) script, .m mBox bx_481, .d (eP eI eI) first_474, .d (eP eI eI) second_479, .un, .un, .un]) ((f_law_second bx_476 first_474).2) (fun bx_481 h_482 => (xb_if (fun t : Frac => [.d (eL eI) script, .m mBox (f_law_draw bx_481 (2 : Int)).2, .d (eP eI eI) first_474, .d (eP eI eI) second_479, .un, .un, .d (eFrac cFrac) t]) (et_eq (et_test (ev_eqI (ev_callM (j := 1) (bx_481, (2 : Int)) rfl rfl (ea_cons (ev_eq ev_int rfl) ea_nil) rfl rfl rfl ((((((okh box_471 h_472).2 first_474 h_475) bx_476 h_477).2 second_479 h_480) bx_481 h_482).1) rfl rfl rfl) ev_int)) rfl) (fun hc_484 => (xv_set (ev_eq (ev_make (fl := flFrac) (first_474.1, first_474.2) (ea_cons (ev_eq (ev_fst (ev_var (i := 2) rfl)) rfl) (ea_cons (ev_eq (ev_snd (ev_var (i := 2) rfl)) rfl) ea_nil)) rfl (((((((okh box_471 h_472).2 first_474 h_475) bx_476 h_477).2 second_479 h_480) bx_481 h_482).2.1 hc_484)) (fun _ _ h => h) rfl rfl) rfl) rfl (fun one_486 h_487 => (xv_end (by exact (wk_S (wk_s (wk_s (wk_s (wk_s (wk_s (wk_s wk_n)))))))))))) (fun hc_484 => (xv_set (ev_eq (ev_makeK (fl := flFrac) (first_474.1, first_474.2) (ea_cons (ev_eq (ev_snd (ev_var (i := 2) rfl)) rfl) (ea_cons (ev_eq (ev_fst (ev_var (i := 2) rfl)) rfl) ea_nil)) rfl rfl kY_hd (by intro v zs Hk H h0 h; exact match zs, h with | [_, _], .cons a0 (.cons a1 .nil) => .cons h0 (.cons a1 (.cons a0 .nil))) (((((((okh box_471 h_472).2 first_474 h_475) bx_476 h_477).2 second_479 h_480) bx_481 h_482).2.2.1 hc_484)) (fun _ _ h => h) rfl rfl) rfl) rfl (fun one_489 h_490 => (xv_end (by exact (wk_S (wk_s (wk_s (wk_s (wk_s (wk_s (wk_s wk_n)))))))))))) (fun z_491 h_492 => (xb_reb (fun bx_493 => [.d (eL eI) script, .m mBox bx_493, .d (eP eI eI) first_474, .d (eP eI eI) second_479, .un, .un, .d (eFrac cFrac) z_491]) ((f_law_draw bx_481 (2 : Int)).2) (fun bx_493 h_494 => (xb_set (ev_eq (ev_make (fl := flFrac) (second_479.1, second_479.2) (ea_cons (ev_eq (ev_fst (ev_var (i := 3) rfl)) rfl) (ea_cons (ev_eq (ev_snd (ev_var (i := 3) rfl)) rfl) ea_nil)) rfl ((((((((okh box_471 h_472).2 first_474 h_475) bx_476 h_477).2 second_479 h_480) bx_481 h_482).2.2.2 z_491 h_492) bx_493 h_494).1) (fun _ _ h => h) rfl rfl) rfl) rfl (fun two_496 h_497 => (xb_ifR (et_eq (et_or (et_not (et_B (ev_call (z_491, first_474.1, first_474.2) (ea_cons (ev_eq (ev_var (i := 6) rfl) rfl) (ea_cons (ev_eq (ev_fst (ev_var (i := 2) rfl)) rfl) (ea_cons (ev_eq (ev_snd (ev_var (i := 2) rfl)) rfl) ea_nil))) (((((((((okh box_471 h_472).2 first_474 h_475) bx_476 h_477).2 second_479 h_480) bx_481 h_482).2.2.2 z_491 h_492) bx_493 h_494).2 two_496 h_497).1) rfl rfl))) (fun hb_499 => (et_not (et_B (ev_call (two_496, second_479.1, second_479.2) (ea_cons (ev_eq (ev_var (i := 4) rfl) rfl) (ea_cons (ev_eq (ev_fst (ev_var (i := 3) rfl)) rfl) (ea_cons (ev_eq (ev_snd (ev_var (i := 3) rfl)) rfl) ea_nil))) ((((((((((okh box_471 h_472).2 first_474 h_475) bx_476 h_477).2 second_479 h_480) bx_481 h_482).2.2.2 z_491 h_492) bx_493 h_494).2 two_496 h_497).2.1 hb_499)) rfl rfl))))) rfl) (fun hc_501 => (xb_retS (ev_eq ev_bl rfl) (.inl rfl) rfl)) (fun hc_501 => (xb_ifR (et_eq (et_or (et_not (et_B (ev_call ((f_Frac_init_I first_474.1 (1 : Int)), first_474.1, (1 : Int)) (ea_cons (ev_eq (ev_dflt (ev_make (fl := flFrac) (first_474.1, (1 : Int)) (ea_dfltI (ea_cons (ev_eq (ev_fst (ev_var (i := 2) rfl)) rfl) ea_nil)) rfl ((((((((((okh box_471 h_472).2 first_474 h_475) bx_476 h_477).2 second_479 h_480) bx_481 h_482).2.2.2 z_491 h_492) bx_493 h_494).2 two_496 h_497).2.2 hc_501).1) (fun _ _ h => h) rfl rfl)) rfl) (ea_cons (ev_eq (ev_fst (ev_var (i := 2) rfl)) rfl) (ea_cons (ev_eq ev_int rfl) ea_nil))) ((((((((((okh box_471 h_472).2 first_474 h_475) bx_476 h_477).2 second_479 h_480) bx_481 h_482).2.2.2 z_491 h_492) bx_493 h_494).2 two_496 h_497).2.2 hc_501).2.1) rfl rfl))) (fun hb_504 => (et_not (et_B (ev_call ((f_Frac_init_I second_479.2 (1 : Int)), second_479.2, (1 : Int)) (ea_cons (ev_eq (ev_makeK (fl := flFrac) (second_479.2, (1 : Int)) (ea_cons (ev_eq (ev_snd (ev_var (i := 3) rfl)) rfl) ea_nil) rfl rfl kY_hd (by intro v zs Hk H h0 h; exact match zs, h with | [_], .cons a0 .nil => .cons h0 (.cons a0 (.cons ⟨_, rfl, rfl⟩ .nil))) (((((((((((okh box_471 h_472).2 first_474 h_475) bx_476 h_477).2 second_479 h_480) bx_481 h_482).2.2.2 z_491 h_492) bx_493 h_494).2 two_496 h_497).2.2 hc_501).2.2.1 hb_504).1) (fun _ _ h => h) rfl rfl) rfl) (ea_cons (ev_eq (ev_snd (ev_var (i := 3) rfl)) rfl) (ea_cons (ev_eq ev_int rfl) ea_nil))) (((((((((((okh box_471 h_472).2 first_474 h_475) bx_476 h_477).2 second_479 h_480) bx_481 h_482).2.2.2 z_491 h_492) bx_493 h_494).2 two_496 h_497).2.2 hc_501).2.2.1 hb_504).2) rfl rfl))))) rfl) (fun hc_507 => (xb_retS (ev_eq ev_bl rfl) (.inl rfl) rfl)) (fun hc_507 => (xb_ifR (et_eq (et_or (et_not (et_B (ev_call (z_491, two_496, first_474, second_479) (ea_cons (ev_eq (ev_var (i := 6) rfl) rfl) (ea_cons (ev_eq (ev_var (i := 4) rfl) rfl) (ea_cons (ev_eq (ev_var (i := 2) rfl) rfl) (ea_cons (ev_eq (ev_var (i := 3) rfl) rfl) ea_nil)))) (((((((((((okh box_471 h_472).2 first_474 h_475) bx_476 h_477).2 second_479 h_480) bx_481 h_482).2.2.2 z_491 h_492) bx_493 h_494).2 two_496 h_497).2.2 hc_501).2.2.2 hc_507).1) rfl rfl))) (fun hb_509 => (et_not (et_B (ev_call (two_496, z_491, second_479, first_474) (ea_cons (ev_eq (ev_var (i := 4) rfl) rfl) (ea_cons (ev_eq (ev_var (i := 6) rfl) rfl) (ea_cons (ev_eq (ev_var (i := 3) rfl) rfl) (ea_cons (ev_eq (ev_var (i := 2) rfl) rfl) ea_nil)))) ((((((((((((okh box_471 h_472).2 first_474 h_475) bx_476 h_477).2 second_479 h_480) bx_481 h_482).2.2.2 z_491 h_492) bx_493 h_494).2 two_496 h_497).2.2 hc_501).2.2.2 hc_507).2.1 hb_509)) rfl rfl))))) rfl) (fun hc_511 => (xb_retS (ev_eq ev_bl rfl) (.inl rfl) rfl)) (fun hc_511 => (xb_ifR (et_eq (et_or (et_not (et_B (ev_call (z_491, z_491, first_474, first_474) (ea_cons (ev_eq (ev_var (i := 6) rfl) rfl) (ea_cons (ev_eq (ev_var (i := 6) rfl) rfl) (ea_cons (ev_eq (ev_var (i := 2) rfl) rfl) (ea_cons (ev_eq (ev_var (i := 2) rfl) rfl) ea_nil)))) ((((((((((((okh box_471 h_472).2 first_474 h_475) bx_476 h_477).2 second_479 h_480) bx_481 h_482).2.2.2 z_491 h_492) bx_493 h_494).2 two_496 h_497).2.2 hc_501).2.2.2 hc_507).2.2 hc_511).1) rfl rfl))) (fun hb_513 => (et_not (et_B (ev_call ((f_Frac_is_below z_491 z_491), false) (ea_cons (ev_eq (ev_methK (z_491, z_491) (ev_var (i := 6) rfl) (by show ("is_below" : Str) ∉ (["num", "den"] : List Str); decide +kernel) (ea_cons (ev_eq (ev_var (i := 6) rfl) rfl) ea_nil) rfl rfl (by intro v zs r h0 h; exact match zs, h with | [_], .cons a0 .nil => .cons h0 (.cons a0 .nil)) (((((((((((((okh box_471 h_472).2 first_474 h_475) bx_476 h_477).2 second_479 h_480) bx_481 h_482).2.2.2 z_491 h_492) bx_493 h_494).2 two_496 h_497).2.2 hc_501).2.2.2 hc_507).2.2 hc_511).2.1 hb_513)) rfl) rfl) (ea_cons (ev_eq ev_bl rfl) ea_nil)) trivial rfl rfl))))) rfl) (fun hc_515 => (xb_retS (ev_eq ev_bl rfl) (.inl rfl) rfl)) (fun hc_515 => (xb_ifR (et_eq (et_not (et_B (ev_callM (j := 1) (bx_493, first_474) rfl rfl (ea_cons (ev_eq (ev_var (i := 2) rfl) rfl) ea_nil) rfl rfl rfl (((((((((((((okh box_471 h_472).2 first_474 h_475) bx_476 h_477).2 second_479 h_480) bx_481 h_482).2.2.2 z_491 h_492) bx_493 h_494).2 two_496 h_497).2.2 hc_501).2.2.2 hc_507).2.2 hc_511).2.2 hc_515).1) rfl rfl rfl))) rfl) (fun hc_517 => (xb_retS (ev_eq ev_bl rfl) (.inl rfl) rfl)) (fun hc_517 => (xb_set (ev_eq (ev_callM (j := 1) ((f_law_bad bx_493 first_474).2, first_474) rfl rfl (ea_cons (ev_eq (ev_var (i := 2) rfl) rfl) ea_nil) rfl rfl rfl ((((((((((((((okh box_471 h_472).2 first_474 h_475) bx_476 h_477).2 second_479 h_480) bx_481 h_482).2.2.2 z_491 h_492) bx_493 h_494).2 two_496 h_497).2.2 hc_501).2.2.2 hc_507).2.2 hc_511).2.2 hc_515).2 hc_517).1) rfl rfl rfl) rfl) rfl (fun other_519 h_520 => (xb_reb (fun bx_521 => [.d (eL eI) script, .m mBox bx_521, .d (eP eI eI) first_474, .d (eP eI eI) second_479, .d (eFrac cFrac) two_496, .d (eD (eFrac cFrac)) other_519, .d (eFrac cFrac) z_491]) ((f_law_wrong ((f_law_bad bx_493 first_474).2) first_474).2) (fun bx_521 h_522 => (xb_bind (E1 := fun t : Unit => [.d (eL eI) script, .m mBox bx_521, .d (eP eI eI) first_474, .d (eP eI eI) second_479, .d (eFrac cFrac) two_496, .d (eD (eFrac cFrac)) other_519, .d (eFrac cFrac) z_491]) (xb_ifT (et_eq (et_not (et_B (ev_isiD T.in_Frac (ev_var (i := 5) rfl) (.own _) T.ki_NoneType_Frac T.ki_bool_Frac T.ki_int_Frac T.ki_str_Frac T.ki_Frac_Frac T.ki_list_Frac T.ki_tuple_Frac))) rfl) (fun hc_523 => (xb_ifR (et_eq (et_or (et_not (et_test (ev_isB (ev_ownE T.in_Frac T.nf_Frac (z_491, other_519) (ev_var (i := 6) rfl) (ev_var (i := 5) rfl) rfl (((((((((((((((((okh box_471 h_472).2 first_474 h_475) bx_476 h_477).2 second_479 h_480) bx_481 h_482).2.2.2 z_491 h_492) bx_493 h_494).2 two_496 h_497).2.2 hc_501).2.2.2 hc_507).2.2 hc_511).2.2 hc_515).2 hc_517).2 other_519 h_520) bx_521 h_522).1 hc_523).1) rfl) ev_bl))) (fun hb_525 => (et_not (et_B (ev_call (z_491, other_519) (ea_cons (ev_eq (ev_var (i := 6) rfl) rfl) (ea_cons (ev_eq (ev_var (i := 5) rfl) rfl) ea_nil)) ((((((((((((((((((okh box_471 h_472).2 first_474 h_475) bx_476 h_477).2 second_479 h_480) bx_481 h_482).2.2.2 z_491 h_492) bx_493 h_494).2 two_496 h_497).2.2 hc_501).2.2.2 hc_507).2.2 hc_511).2.2 hc_515).2 hc_517).2 other_519 h_520) bx_521 h_522).1 hc_523).2 hb_525)) rfl rfl))))) rfl) (fun hc_527 => (xb_retS (ev_eq ev_bl rfl) (.inl rfl) rfl)) (fun hc_527 => (xb_nil (by exact (wk_S (wk_s (wk_s (wk_s (wk_s (wk_s (wk_s wk_n)))))))))))) (fun hc_523 => (xb_nil (by exact (wk_S (wk_s (wk_s (wk_s (wk_s (wk_s (wk_s wk_n))))))))))) (fun z_528 hz_529 => (xb_loop (fun t_530 : Unit => [.d (eL eI) script, .m mBox bx_521, .d (eP eI eI) first_474, .d (eP eI eI) second_479, .d (eFrac cFrac) two_496, .un, .d (eFrac cFrac) z_491]) () (h := (fun (t_530 : Unit) (other_531 : (Py Frac)) => ((bif (!(decide ((f_Frac_eq z_491 other_531) = false))) then (.rt false) else (.nx ())) : Out Unit Unit Bool))) (ei_list (EvN.d (en_lst (eas_cons (ev_cv (f := (eD (eFrac cFrac))) (u := (Py.int (F := Frac))) (ev_fld (F := ⟨eI, Frac.num⟩) (ev_var (i := 6) rfl) 0 rfl flFrac_nd T.cl_Frac T.na_Frac_num)) (eas_cons (ev_cv (f := (eD (eFrac cFrac))) (u := (Py.int (F := Frac))) (ev_fld (F := ⟨eI, Frac.den⟩) (ev_var (i := 6) rfl) 1 rfl flFrac_nd T.cl_Frac T.na_Frac_den)) (eas_cons (ev_cv (f := (eD (eFrac cFrac))) (u := (Py.tup (F := Frac))) (ev_tup (eas_cons (ev_cv (f := (eD (eFrac cFrac))) (u := (Py.int (F := Frac))) (ev_fld (F := ⟨eI, Frac.num⟩) (ev_var (i := 6) rfl) 0 rfl flFrac_nd T.cl_Frac T.na_Frac_num)) (eas_cons (ev_cv (f := (eD (eFrac cFrac))) (u := (Py.int (F := Frac))) (ev_fld (F := ⟨eI, Frac.den⟩) (ev_var (i := 6) rfl) 1 rfl flFrac_nd T.cl_Frac T.na_Frac_den)) (eas_nil (e := (eD (eFrac cFrac)))))) (by show 2 ≤ 100000; decide))) (eas_cons (ev_cv (f := (eD (eFrac cFrac))) (u := (Py.lst (F := Frac))) (EvN.d (en_lst (eas_cons (ev_cv (f := (eD (eFrac cFrac))) (u := (Py.int (F := Frac))) (ev_fld (F := ⟨eI, Frac.num⟩) (ev_var (i := 6) rfl) 0 rfl flFrac_nd T.cl_Frac T.na_Frac_num)) (eas_cons (ev_cv (f := (eD (eFrac cFrac))) (u := (Py.int (F := Frac))) (ev_fld (F := ⟨eI, Frac.den⟩) (ev_var (i := 6) rfl) 1 rfl flFrac_nd T.cl_Frac T.na_Frac_den)) (eas_nil (e := (eD (eFrac cFrac)))))) (by show 2 ≤ 100000; decide)))) (eas_cons (ev_cv (f := (eD (eFrac cFrac))) (u := (fun _ : Unit => (Py.non : Py Frac))) ev_non) (eas_cons (ev_cv (f := (eD (eFrac cFrac))) (u := (Py.bl (F := Frac))) ev_bl) (eas_cons (ev_cv (f := (eD (eFrac cFrac))) (u := (Py.bl (F := Frac))) ev_bl) (eas_cons (ev_cv (f := (eD (eFrac cFrac))) (u := (Py.str (F := Frac))) ev_str) (eas_nil (e := (eD (eFrac cFrac)))))))))))) (by show 8 ≤ 100000; decide)))) (wk_S (wk_s (wk_s (wk_s (wk_s (wk_u (wk_s wk_n))))))) eg_name (fun _ => (noM_cons rfl noM_nil)) (fun i_532 other_531 t_530 hi_533 ht_534 => (xb_ifR (et_eq (et_not (et_test (ev_isB (ev_ownE T.in_Frac T.nf_Frac (z_491, other_531) (ev_var (i := 6) rfl) (ev_var (i := 5) rfl) rfl ((((((((((((((((((okh box_471 h_472).2 first_474 h_475) bx_476 h_477).2 second_479 h_480) bx_481 h_482).2.2.2 z_491 h_492) bx_493 h_494).2 two_496 h_497).2.2 hc_501).2.2.2 hc_507).2.2 hc_511).2.2 hc_515).2 hc_517).2 other_519 h_520) bx_521 h_522).2 z_528 hz_529).1 i_532 other_531 t_530 hi_533 ht_534)) rfl) ev_bl))) rfl) (fun hc_536 => (xb_retS (ev_eq ev_bl rfl) (.inl rfl) rfl)) (fun hc_536 => (xb_nil (by exact (wk_S (wk_s (wk_s (wk_s (wk_s (wk_u (wk_s wk_n)))))))))))) (fun s_537 hs_538 => (xb_ifR (et_eq (et_not (et_B (ev_call (two_496, ((Py.int (F := Frac)) z_491.den)) (ea_cons (ev_eq (ev_var (i := 4) rfl) rfl) (ea_cons (ev_eq (ev_cv (f := (eD (eFrac cFrac))) (u := (Py.int (F := Frac))) (ev_fld (F := ⟨eI, Frac.den⟩) (ev_var (i := 6) rfl) 1 rfl flFrac_nd T.cl_Frac T.na_Frac_den)) rfl) ea_nil)) ((((((((((((((((((okh box_471 h_472).2 first_474 h_475) bx_476 h_477).2 second_479 h_480) bx_481 h_482).2.2.2 z_491 h_492) bx_493 h_494).2 two_496 h_497).2.2 hc_501).2.2.2 hc_507).2.2 hc_511).2.2 hc_515).2 hc_517).2 other_519 h_520) bx_521 h_522).2 z_528 hz_529).2 s_537 hs_538).1) rfl rfl))) rfl) (fun hc_540 => (xb_retS (ev_eq ev_bl rfl) (.inl rfl) rfl)) (fun hc_540 => (xb_retS (ev_eq (ev_andV (ev_call (z_491, first_474.1, first_474.2) (ea_cons (ev_eq (ev_var (i := 6) rfl) rfl) (ea_cons (ev_eq (ev_fst (ev_var (i := 2) rfl)) rfl) (ea_cons (ev_eq (ev_snd (ev_var (i := 2) rfl)) rfl) ea_nil))) (((((((((((((((((((okh box_471 h_472).2 first_474 h_475) bx_476 h_477).2 second_479 h_480) bx_481 h_482).2.2.2 z_491 h_492) bx_493 h_494).2 two_496 h_497).2.2 hc_501).2.2.2 hc_507).2.2 hc_511).2.2 hc_515).2 hc_517).2 other_519 h_520) bx_521 h_522).2 z_528 hz_529).2 s_537 hs_538).2 hc_540).1) rfl rfl) (fun hb_542 => (ev_call (two_496, second_479.1, second_479.2) (ea_cons (ev_eq (ev_var (i := 4) rfl) rfl) (ea_cons (ev_eq (ev_fst (ev_var (i := 3) rfl)) rfl) (ea_cons (ev_eq (ev_snd (ev_var (i := 3) rfl)) rfl) ea_nil))) ((((((((((((((((((((okh box_471 h_472).2 first_474 h_475) bx_476 h_477).2 second_479 h_480) bx_481 h_482).2.2.2 z_491 h_492) bx_493 h_494).2 two_496 h_497).2.2 hc_501).2.2.2 hc_507).2.2 hc_511).2.2 hc_515).2 hc_517).2 other_519 h_520) bx_521 h_522).2 z_528 hz_529).2 s_537 hs_538).2 hc_540).2 hb_542)) rfl rfl))) rfl) (.inl rfl) rfl)))))))))))))))))))))))))))))))))))))⟩
/-! ### law -/
abbrev N_law : List Str := ["script"]
theorem sc_law : FnScope N_law ["script"] (defScope s_law) := ⟨rfl, rfl, rfl, by decide +kernel, rfl, by decide +kernel, by decide +kernel⟩
def o_law (script : (List Int)) : Out Empty Empty Bool :=
  (.rt (f_law_all script))
@[irreducible] def f_law (script : (List Int)) : Bool := (o_law script).get
theorem f_law_eq (script : (List Int)) : f_law script = (o_law script).get := by delta f_law; rfl
def ok_law (script : (List Int)) : Prop :=
  (ok_law_all script)
section
variable {K : PySem.W.Frag} {cFrac : Addr} {cInvalidFraction : Addr}
abbrev sp_law : Sp := spF (K := K) (ι := (List Int)) (fun x => [.d (eL eI) x]) (fun x => ok_law x) (retD eB) (fun x => f_law x)
end
set_option maxHeartbeats 4000000 in
theorem at_law {P : Program} {w : World} {K : PySem.W.Frag} {mg : Str → Option Value} {base : Heap} {cFrac : Addr} {cInvalidFraction : Addr} (T : Txt K mg cFrac cInvalidFraction) {f : Addr} {fd : FuncData} (F : Fun K "law" "law" s_law f fd) : FnOk P w K mg base CX0 9 f fd ["script"] (sp_law (K := K)) := by
  obtain ⟨⟨a_law_all, d_law_all, G_law_all, m_law_all, k_law_all, b_law_all⟩⟩ := at_law_all (P := P) (w := w) (base := base) T
  refine fn_okG (fun x => f_law_eq x) <| fn_okE (o := fun x : (List Int) => o_law x) (k := 8) F sc_law (fun x => rfl) (fun x i s h => noM_tail (by simp [Slot.isM]) h) (fun cdv A outer s H EX hr script hp => ?_)
  have okh : ok_law script := hp
  exact ⟨_, _, rfl,
    (pss_cons (ps_try_thru0 (pss_cons (ps_ret (pe_call G_law_all (hr.mono (by decide)) (by rfl) m_law_all k_law_all b_law_all .nil pass0 (pa_cons (pv 0) pa_nil))) pss_nil)) pss_nil),
    (xb_thru (xb_retS (ev_eq (ev_call script (ea_cons (ev_eq (ev_var (i := 0) rfl) rfl) ea_nil) okh rfl rfl) rfl) (.inl rfl) rfl))⟩
theorem all_mk {l : PySem.W.OpenLaw} {w : World} {K : PySem.W.Frag} {h : Heap} {mg : Str → Option Value} {fa cFrac cInvalidFraction f_InvalidFraction_init f_is_integer f_Frac_init f_Frac_add f_Frac_sub f_Frac_mul f_Frac_eq f_Frac_is_below f_Frac_divided_by f_law_box f_law_draw f_law_gcd f_law_low f_law_number f_law_signed f_law_terms f_law_second f_law_is f_law_truth f_law_wrong f_law_kind f_law_refused f_law_not_divided f_law_bad f_law_pair f_law_all f_law : Addr} (X : K.In h) (G : h.Ns mainGlobals mg) (hfa : mg "law" = some (.ref fa))
    {od_is_integer an_is_integer : Option Addr} {sl_is_integer : Array (Option Value)} {oc_is_integer kV_is_integer dc_is_integer pm_is_integer cd_is_integer ct_is_integer : Value}
    {od_Frac_init an_Frac_init : Option Addr} {sl_Frac_init : Array (Option Value)} {oc_Frac_init kV_Frac_init dc_Frac_init pm_Frac_init cd_Frac_init ct_Frac_init : Value}
    {dT_Frac_init : Addr} {oT_Frac_init : Value} {uT_Frac_init : Option Addr} {tT_Frac_init : _} {nT_Frac_init : Nat} {sT_Frac_init : Array (Option Value)}
    {od_Frac_add an_Frac_add : Option Addr} {sl_Frac_add : Array (Option Value)} {oc_Frac_add kV_Frac_add dc_Frac_add pm_Frac_add cd_Frac_add ct_Frac_add : Value}
    {od_Frac_sub an_Frac_sub : Option Addr} {sl_Frac_sub : Array (Option Value)} {oc_Frac_sub kV_Frac_sub dc_Frac_sub pm_Frac_sub cd_Frac_sub ct_Frac_sub : Value}
    {od_Frac_mul an_Frac_mul : Option Addr} {sl_Frac_mul : Array (Option Value)} {oc_Frac_mul kV_Frac_mul dc_Frac_mul pm_Frac_mul cd_Frac_mul ct_Frac_mul : Value}
    {od_Frac_eq an_Frac_eq : Option Addr} {sl_Frac_eq : Array (Option Value)} {oc_Frac_eq kV_Frac_eq dc_Frac_eq pm_Frac_eq cd_Frac_eq ct_Frac_eq : Value}
    {od_Frac_is_below an_Frac_is_below : Option Addr} {sl_Frac_is_below : Array (Option Value)} {oc_Frac_is_below kV_Frac_is_below dc_Frac_is_below pm_Frac_is_below cd_Frac_is_below ct_Frac_is_below : Value}
    {od_Frac_divided_by an_Frac_divided_by : Option Addr} {sl_Frac_divided_by : Array (Option Value)} {oc_Frac_divided_by kV_Frac_divided_by dc_Frac_divided_by pm_Frac_divided_by cd_Frac_divided_by ct_Frac_divided_by : Value}
    {od_law_box an_law_box : Option Addr} {sl_law_box : Array (Option Value)} {oc_law_box kV_law_box dc_law_box pm_law_box cd_law_box ct_law_box : Value}
    {od_law_draw an_law_draw : Option Addr} {sl_law_draw : Array (Option Value)} {oc_law_draw kV_law_draw dc_law_draw pm_law_draw cd_law_draw ct_law_draw : Value}
    {od_law_gcd an_law_gcd : Option Addr} {sl_law_gcd : Array (Option Value)} {oc_law_gcd kV_law_gcd dc_law_gcd pm_law_gcd cd_law_gcd ct_law_gcd : Value}
    {od_law_low an_law_low : Option Addr} {sl_law_low : Array (Option Value)} {oc_law_low kV_law_low dc_law_low pm_law_low cd_law_low ct_law_low : Value}
    {od_law_number an_law_number : Option Addr} {sl_law_number : Array (Option Value)} {oc_law_number kV_law_number dc_law_number pm_law_number cd_law_number ct_law_number : Value}
    {od_law_signed an_law_signed : Option Addr} {sl_law_signed : Array (Option Value)} {oc_law_signed kV_law_signed dc_law_signed pm_law_signed cd_law_signed ct_law_signed : Value}
    {od_law_terms an_law_terms : Option Addr} {sl_law_terms : Array (Option Value)} {oc_law_terms kV_law_terms dc_law_terms pm_law_terms cd_law_terms ct_law_terms : Value}
    {od_law_second an_law_second : Option Addr} {sl_law_second : Array (Option Value)} {oc_law_second kV_law_second dc_law_second pm_law_second cd_law_second ct_law_second : Value}
    {od_law_is an_law_is : Option Addr} {sl_law_is : Array (Option Value)} {oc_law_is kV_law_is dc_law_is pm_law_is cd_law_is ct_law_is : Value}
    {od_law_truth an_law_truth : Option Addr} {sl_law_truth : Array (Option Value)} {oc_law_truth kV_law_truth dc_law_truth pm_law_truth cd_law_truth ct_law_truth : Value}
    {od_law_wrong an_law_wrong : Option Addr} {sl_law_wrong : Array (Option Value)} {oc_law_wrong kV_law_wrong dc_law_wrong pm_law_wrong cd_law_wrong ct_law_wrong : Value}
    {od_law_kind an_law_kind : Option Addr} {sl_law_kind : Array (Option Value)} {oc_law_kind kV_law_kind dc_law_kind pm_law_kind cd_law_kind ct_law_kind : Value}
    {od_law_refused an_law_refused : Option Addr} {sl_law_refused : Array (Option Value)} {oc_law_refused kV_law_refused dc_law_refused pm_law_refused cd_law_refused ct_law_refused : Value}
    {od_law_not_divided an_law_not_divided : Option Addr} {sl_law_not_divided : Array (Option Value)} {oc_law_not_divided kV_law_not_divided dc_law_not_divided pm_law_not_divided cd_law_not_divided ct_law_not_divided : Value}
    {od_law_bad an_law_bad : Option Addr} {sl_law_bad : Array (Option Value)} {oc_law_bad kV_law_bad dc_law_bad pm_law_bad cd_law_bad ct_law_bad : Value}
    {od_law_pair an_law_pair : Option Addr} {sl_law_pair : Array (Option Value)} {oc_law_pair kV_law_pair dc_law_pair pm_law_pair cd_law_pair ct_law_pair : Value}
    {od_law_all an_law_all : Option Addr} {sl_law_all : Array (Option Value)} {oc_law_all kV_law_all dc_law_all pm_law_all cd_law_all ct_law_all : Value}
    {od_law an_law : Option Addr} {sl_law : Array (Option Value)} {oc_law kV_law dc_law pm_law cd_law ct_law : Value}
    {nm_InvalidFraction qn_InvalidFraction : Str} {N_InvalidFraction : Addr} {bs_InvalidFraction : List Value} {sn_InvalidFraction : List Str} {sub_InvalidFraction : List Value} {ab_InvalidFraction : Bool} {col_InvalidFraction : Option Bool} {dd_InvalidFraction : Option Addr} {m0_InvalidFraction m1_InvalidFraction m2_InvalidFraction m3_InvalidFraction m5_InvalidFraction : Option Value} {u0_InvalidFraction : Addr}
    {od_InvalidFraction_init an_InvalidFraction_init : Option Addr} {sl_InvalidFraction_init : Array (Option Value)} {oc_InvalidFraction_init kV_InvalidFraction_init dc_InvalidFraction_init pm_InvalidFraction_init cd_InvalidFraction_init ct_InvalidFraction_init : Value}
    (aC_Frac : PySem.W.nsIn K mainGlobals "Frac" = some (some (.ref cFrac)))
    (a_is_integer : PySem.W.nsIn K mainGlobals "is_integer" = some (some (.ref f_is_integer)))
    (l_is_integer : K.lookup f_is_integer = some ⟨oc_is_integer, od_is_integer, .func (PySem.W.fnOf "is_integer" "is_integer" (defArgs s_is_integer) (defBody s_is_integer) (defScope s_is_integer) .none kV_is_integer dc_is_integer pm_is_integer an_is_integer cd_is_integer ct_is_integer), sl_is_integer⟩)
    (cc_is_integer : PySem.W.codeIn K cd_is_integer "is_integer" = true)
    (k_is_integer : PySem.W.keepIn K (.ref f_is_integer) = true)
    (a_Frac_init : PySem.W.findIn K (.ref cFrac) "__init__" = some (some (.ref f_Frac_init)))
    (i_Frac_init : PySem.W.isFn K (.ref f_Frac_init) = true)
    (l_Frac_init : K.lookup f_Frac_init = some ⟨oc_Frac_init, od_Frac_init, .func (PySem.W.fnOf "__init__" "Frac.__init__" (defArgs s_Frac_init) (defBody s_Frac_init) (defScope s_Frac_init) (.ref dT_Frac_init) kV_Frac_init dc_Frac_init pm_Frac_init an_Frac_init cd_Frac_init ct_Frac_init), sl_Frac_init⟩)
    (lT_Frac_init : K.lookup dT_Frac_init = some ⟨oT_Frac_init, uT_Frac_init, .seq [Value.int 1 tT_Frac_init].toArray nT_Frac_init, sT_Frac_init⟩)
    (cc_Frac_init : PySem.W.codeIn K cd_Frac_init "Frac.__init__" = true)
    (k_Frac_init : PySem.W.keepIn K (.ref f_Frac_init) = true)
    (a_Frac_add : PySem.W.findIn K (.ref cFrac) "__add__" = some (some (.ref f_Frac_add)))
    (i_Frac_add : PySem.W.isFn K (.ref f_Frac_add) = true)
    (l_Frac_add : K.lookup f_Frac_add = some ⟨oc_Frac_add, od_Frac_add, .func (PySem.W.fnOf "__add__" "Frac.__add__" (defArgs s_Frac_add) (defBody s_Frac_add) (defScope s_Frac_add) .none kV_Frac_add dc_Frac_add pm_Frac_add an_Frac_add cd_Frac_add ct_Frac_add), sl_Frac_add⟩)
    (cc_Frac_add : PySem.W.codeIn K cd_Frac_add "Frac.__add__" = true)
    (k_Frac_add : PySem.W.keepIn K (.ref f_Frac_add) = true)
    (a_Frac_sub : PySem.W.findIn K (.ref cFrac) "__sub__" = some (some (.ref f_Frac_sub)))
    (i_Frac_sub : PySem.W.isFn K (.ref f_Frac_sub) = true)
    (l_Frac_sub : K.lookup f_Frac_sub = some ⟨oc_Frac_sub, od_Frac_sub, .func (PySem.W.fnOf "__sub__" "Frac.__sub__" (defArgs s_Frac_sub) (defBody s_Frac_sub) (defScope s_Frac_sub) .none kV_Frac_sub dc_Frac_sub pm_Frac_sub an_Frac_sub cd_Frac_sub ct_Frac_sub), sl_Frac_sub⟩)
    (cc_Frac_sub : PySem.W.codeIn K cd_Frac_sub "Frac.__sub__" = true)
    (k_Frac_sub : PySem.W.keepIn K (.ref f_Frac_sub) = true)
    (a_Frac_mul : PySem.W.findIn K (.ref cFrac) "__mul__" = some (some (.ref f_Frac_mul)))
    (i_Frac_mul : PySem.W.isFn K (.ref f_Frac_mul) = true)
    (l_Frac_mul : K.lookup f_Frac_mul = some ⟨oc_Frac_mul, od_Frac_mul, .func (PySem.W.fnOf "__mul__" "Frac.__mul__" (defArgs s_Frac_mul) (defBody s_Frac_mul) (defScope s_Frac_mul) .none kV_Frac_mul dc_Frac_mul pm_Frac_mul an_Frac_mul cd_Frac_mul ct_Frac_mul), sl_Frac_mul⟩)
    (cc_Frac_mul : PySem.W.codeIn K cd_Frac_mul "Frac.__mul__" = true)
    (k_Frac_mul : PySem.W.keepIn K (.ref f_Frac_mul) = true)
    (a_Frac_eq : PySem.W.findIn K (.ref cFrac) "__eq__" = some (some (.ref f_Frac_eq)))
    (i_Frac_eq : PySem.W.isFn K (.ref f_Frac_eq) = true)
    (l_Frac_eq : K.lookup f_Frac_eq = some ⟨oc_Frac_eq, od_Frac_eq, .func (PySem.W.fnOf "__eq__" "Frac.__eq__" (defArgs s_Frac_eq) (defBody s_Frac_eq) (defScope s_Frac_eq) .none kV_Frac_eq dc_Frac_eq pm_Frac_eq an_Frac_eq cd_Frac_eq ct_Frac_eq), sl_Frac_eq⟩)
    (cc_Frac_eq : PySem.W.codeIn K cd_Frac_eq "Frac.__eq__" = true)
    (k_Frac_eq : PySem.W.keepIn K (.ref f_Frac_eq) = true)
    (a_Frac_is_below : PySem.W.findIn K (.ref cFrac) "is_below" = some (some (.ref f_Frac_is_below)))
    (i_Frac_is_below : PySem.W.isFn K (.ref f_Frac_is_below) = true)
    (l_Frac_is_below : K.lookup f_Frac_is_below = some ⟨oc_Frac_is_below, od_Frac_is_below, .func (PySem.W.fnOf "is_below" "Frac.is_below" (defArgs s_Frac_is_below) (defBody s_Frac_is_below) (defScope s_Frac_is_below) .none kV_Frac_is_below dc_Frac_is_below pm_Frac_is_below an_Frac_is_below cd_Frac_is_below ct_Frac_is_below), sl_Frac_is_below⟩)
    (cc_Frac_is_below : PySem.W.codeIn K cd_Frac_is_below "Frac.is_below" = true)
    (k_Frac_is_below : PySem.W.keepIn K (.ref f_Frac_is_below) = true)
    (a_Frac_divided_by : PySem.W.findIn K (.ref cFrac) "divided_by" = some (some (.ref f_Frac_divided_by)))
    (i_Frac_divided_by : PySem.W.isFn K (.ref f_Frac_divided_by) = true)
    (l_Frac_divided_by : K.lookup f_Frac_divided_by = some ⟨oc_Frac_divided_by, od_Frac_divided_by, .func (PySem.W.fnOf "divided_by" "Frac.divided_by" (defArgs s_Frac_divided_by) (defBody s_Frac_divided_by) (defScope s_Frac_divided_by) .none kV_Frac_divided_by dc_Frac_divided_by pm_Frac_divided_by an_Frac_divided_by cd_Frac_divided_by ct_Frac_divided_by), sl_Frac_divided_by⟩)
    (cc_Frac_divided_by : PySem.W.codeIn K cd_Frac_divided_by "Frac.divided_by" = true)
    (k_Frac_divided_by : PySem.W.keepIn K (.ref f_Frac_divided_by) = true)
    (a_law_box : PySem.W.nsIn K mainGlobals "_law_box" = some (some (.ref f_law_box)))
    (l_law_box : K.lookup f_law_box = some ⟨oc_law_box, od_law_box, .func (PySem.W.fnOf "_law_box" "_law_box" (defArgs s_law_box) (defBody s_law_box) (defScope s_law_box) .none kV_law_box dc_law_box pm_law_box an_law_box cd_law_box ct_law_box), sl_law_box⟩)
    (cc_law_box : PySem.W.codeIn K cd_law_box "_law_box" = true)
    (k_law_box : PySem.W.keepIn K (.ref f_law_box) = true)
    (a_law_draw : PySem.W.nsIn K mainGlobals "_law_draw" = some (some (.ref f_law_draw)))
    (l_law_draw : K.lookup f_law_draw = some ⟨oc_law_draw, od_law_draw, .func (PySem.W.fnOf "_law_draw" "_law_draw" (defArgs s_law_draw) (defBody s_law_draw) (defScope s_law_draw) .none kV_law_draw dc_law_draw pm_law_draw an_law_draw cd_law_draw ct_law_draw), sl_law_draw⟩)
    (cc_law_draw : PySem.W.codeIn K cd_law_draw "_law_draw" = true)
    (k_law_draw : PySem.W.keepIn K (.ref f_law_draw) = true)
    (a_law_gcd : PySem.W.nsIn K mainGlobals "_law_gcd" = some (some (.ref f_law_gcd)))
    (l_law_gcd : K.lookup f_law_gcd = some ⟨oc_law_gcd, od_law_gcd, .func (PySem.W.fnOf "_law_gcd" "_law_gcd" (defArgs s_law_gcd) (defBody s_law_gcd) (defScope s_law_gcd) .none kV_law_gcd dc_law_gcd pm_law_gcd an_law_gcd cd_law_gcd ct_law_gcd), sl_law_gcd⟩)
    (cc_law_gcd : PySem.W.codeIn K cd_law_gcd "_law_gcd" = true)
    (k_law_gcd : PySem.W.keepIn K (.ref f_law_gcd) = true)
    (a_law_low : PySem.W.nsIn K mainGlobals "_law_low" = some (some (.ref f_law_low)))
    (l_law_low : K.lookup f_law_low = some ⟨oc_law_low, od_law_low, .func (PySem.W.fnOf "_law_low" "_law_low" (defArgs s_law_low) (defBody s_law_low) (defScope s_law_low) .none kV_law_low dc_law_low pm_law_low an_law_low cd_law_low ct_law_low), sl_law_low⟩)
    (cc_law_low : PySem.W.codeIn K cd_law_low "_law_low" = true)
    (k_law_low : PySem.W.keepIn K (.ref f_law_low) = true)
    (a_law_number : PySem.W.nsIn K mainGlobals "_law_number" = some (some (.ref f_law_number)))
    (l_law_number : K.lookup f_law_number = some ⟨oc_law_number, od_law_number, .func (PySem.W.fnOf "_law_number" "_law_number" (defArgs s_law_number) (defBody s_law_number) (defScope s_law_number) .none kV_law_number dc_law_number pm_law_number an_law_number cd_law_number ct_law_number), sl_law_number⟩)
    (cc_law_number : PySem.W.codeIn K cd_law_number "_law_number" = true)
    (k_law_number : PySem.W.keepIn K (.ref f_law_number) = true)
    (a_law_signed : PySem.W.nsIn K mainGlobals "_law_signed" = some (some (.ref f_law_signed)))
    (l_law_signed : K.lookup f_law_signed = some ⟨oc_law_signed, od_law_signed, .func (PySem.W.fnOf "_law_signed" "_law_signed" (defArgs s_law_signed) (defBody s_law_signed) (defScope s_law_signed) .none kV_law_signed dc_law_signed pm_law_signed an_law_signed cd_law_signed ct_law_signed), sl_law_signed⟩)
    (cc_law_signed : PySem.W.codeIn K cd_law_signed "_law_signed" = true)
    (k_law_signed : PySem.W.keepIn K (.ref f_law_signed) = true)
    (a_law_terms : PySem.W.nsIn K mainGlobals "_law_terms" = some (some (.ref f_law_terms)))
    (l_law_terms : K.lookup f_law_terms = some ⟨oc_law_terms, od_law_terms, .func (PySem.W.fnOf "_law_terms" "_law_terms" (defArgs s_law_terms) (defBody s_law_terms) (defScope s_law_terms) .none kV_law_terms dc_law_terms pm_law_terms an_law_terms cd_law_terms ct_law_terms), sl_law_terms⟩)
    (cc_law_terms : PySem.W.codeIn K cd_law_terms "_law_terms" = true)
    (k_law_terms : PySem.W.keepIn K (.ref f_law_terms) = true)
    (a_law_second : PySem.W.nsIn K mainGlobals "_law_second" = some (some (.ref f_law_second)))
    (l_law_second : K.lookup f_law_second = some ⟨oc_law_second, od_law_second, .func (PySem.W.fnOf "_law_second" "_law_second" (defArgs s_law_second) (defBody s_law_second) (defScope s_law_second) .none kV_law_second dc_law_second pm_law_second an_law_second cd_law_second ct_law_second), sl_law_second⟩)
    (cc_law_second : PySem.W.codeIn K cd_law_second "_law_second" = true)
    (k_law_second : PySem.W.keepIn K (.ref f_law_second) = true)
    (a_law_is : PySem.W.nsIn K mainGlobals "_law_is" = some (some (.ref f_law_is)))
    (l_law_is : K.lookup f_law_is = some ⟨oc_law_is, od_law_is, .func (PySem.W.fnOf "_law_is" "_law_is" (defArgs s_law_is) (defBody s_law_is) (defScope s_law_is) .none kV_law_is dc_law_is pm_law_is an_law_is cd_law_is ct_law_is), sl_law_is⟩)
    (cc_law_is : PySem.W.codeIn K cd_law_is "_law_is" = true)
    (k_law_is : PySem.W.keepIn K (.ref f_law_is) = true)
    (a_law_truth : PySem.W.nsIn K mainGlobals "_law_truth" = some (some (.ref f_law_truth)))
    (l_law_truth : K.lookup f_law_truth = some ⟨oc_law_truth, od_law_truth, .func (PySem.W.fnOf "_law_truth" "_law_truth" (defArgs s_law_truth) (defBody s_law_truth) (defScope s_law_truth) .none kV_law_truth dc_law_truth pm_law_truth an_law_truth cd_law_truth ct_law_truth), sl_law_truth⟩)
    (cc_law_truth : PySem.W.codeIn K cd_law_truth "_law_truth" = true)
    (k_law_truth : PySem.W.keepIn K (.ref f_law_truth) = true)
    (a_law_wrong : PySem.W.nsIn K mainGlobals "_law_wrong" = some (some (.ref f_law_wrong)))
    (l_law_wrong : K.lookup f_law_wrong = some ⟨oc_law_wrong, od_law_wrong, .func (PySem.W.fnOf "_law_wrong" "_law_wrong" (defArgs s_law_wrong) (defBody s_law_wrong) (defScope s_law_wrong) .none kV_law_wrong dc_law_wrong pm_law_wrong an_law_wrong cd_law_wrong ct_law_wrong), sl_law_wrong⟩)
    (cc_law_wrong : PySem.W.codeIn K cd_law_wrong "_law_wrong" = true)
    (k_law_wrong : PySem.W.keepIn K (.ref f_law_wrong) = true)
    (a_law_kind : PySem.W.nsIn K mainGlobals "_law_kind" = some (some (.ref f_law_kind)))
    (l_law_kind : K.lookup f_law_kind = some ⟨oc_law_kind, od_law_kind, .func (PySem.W.fnOf "_law_kind" "_law_kind" (defArgs s_law_kind) (defBody s_law_kind) (defScope s_law_kind) .none kV_law_kind dc_law_kind pm_law_kind an_law_kind cd_law_kind ct_law_kind), sl_law_kind⟩)
    (cc_law_kind : PySem.W.codeIn K cd_law_kind "_law_kind" = true)
    (k_law_kind : PySem.W.keepIn K (.ref f_law_kind) = true)
    (a_law_refused : PySem.W.nsIn K mainGlobals "_law_refused" = some (some (.ref f_law_refused)))
    (l_law_refused : K.lookup f_law_refused = some ⟨oc_law_refused, od_law_refused, .func (PySem.W.fnOf "_law_refused" "_law_refused" (defArgs s_law_refused) (defBody s_law_refused) (defScope s_law_refused) .none kV_law_refused dc_law_refused pm_law_refused an_law_refused cd_law_refused ct_law_refused), sl_law_refused⟩)
    (cc_law_refused : PySem.W.codeIn K cd_law_refused "_law_refused" = true)
    (k_law_refused : PySem.W.keepIn K (.ref f_law_refused) = true)
    (a_law_not_divided : PySem.W.nsIn K mainGlobals "_law_not_divided" = some (some (.ref f_law_not_divided)))
    (l_law_not_divided : K.lookup f_law_not_divided = some ⟨oc_law_not_divided, od_law_not_divided, .func (PySem.W.fnOf "_law_not_divided" "_law_not_divided" (defArgs s_law_not_divided) (defBody s_law_not_divided) (defScope s_law_not_divided) .none kV_law_not_divided dc_law_not_divided pm_law_not_divided an_law_not_divided cd_law_not_divided ct_law_not_divided), sl_law_not_divided⟩)
    (cc_law_not_divided : PySem.W.codeIn K cd_law_not_divided "_law_not_divided" = true)
    (k_law_not_divided : PySem.W.keepIn K (.ref f_law_not_divided) = true)
    (a_law_bad : PySem.W.nsIn K mainGlobals "_law_bad" = some (some (.ref f_law_bad)))
    (l_law_bad : K.lookup f_law_bad = some ⟨oc_law_bad, od_law_bad, .func (PySem.W.fnOf "_law_bad" "_law_bad" (defArgs s_law_bad) (defBody s_law_bad) (defScope s_law_bad) .none kV_law_bad dc_law_bad pm_law_bad an_law_bad cd_law_bad ct_law_bad), sl_law_bad⟩)
    (cc_law_bad : PySem.W.codeIn K cd_law_bad "_law_bad" = true)
    (k_law_bad : PySem.W.keepIn K (.ref f_law_bad) = true)
    (a_law_pair : PySem.W.nsIn K mainGlobals "_law_pair" = some (some (.ref f_law_pair)))
    (l_law_pair : K.lookup f_law_pair = some ⟨oc_law_pair, od_law_pair, .func (PySem.W.fnOf "_law_pair" "_law_pair" (defArgs s_law_pair) (defBody s_law_pair) (defScope s_law_pair) .none kV_law_pair dc_law_pair pm_law_pair an_law_pair cd_law_pair ct_law_pair), sl_law_pair⟩)
    (cc_law_pair : PySem.W.codeIn K cd_law_pair "_law_pair" = true)
    (k_law_pair : PySem.W.keepIn K (.ref f_law_pair) = true)
    (a_law_all : PySem.W.nsIn K mainGlobals "_law_all" = some (some (.ref f_law_all)))
    (l_law_all : K.lookup f_law_all = some ⟨oc_law_all, od_law_all, .func (PySem.W.fnOf "_law_all" "_law_all" (defArgs s_law_all) (defBody s_law_all) (defScope s_law_all) .none kV_law_all dc_law_all pm_law_all an_law_all cd_law_all ct_law_all), sl_law_all⟩)
    (cc_law_all : PySem.W.codeIn K cd_law_all "_law_all" = true)
    (k_law_all : PySem.W.keepIn K (.ref f_law_all) = true)
    (a_law : PySem.W.nsIn K mainGlobals "law" = some (some (.ref f_law)))
    (l_law : K.lookup f_law = some ⟨oc_law, od_law, .func (PySem.W.fnOf "law" "law" (defArgs s_law) (defBody s_law) (defScope s_law) .none kV_law dc_law pm_law an_law cd_law ct_law), sl_law⟩)
    (cc_law : PySem.W.codeIn K cd_law "law" = true)
    (k_law : PySem.W.keepIn K (.ref f_law) = true)
    (aC_InvalidFraction : PySem.W.nsIn K mainGlobals "InvalidFraction" = some (some (.ref cInvalidFraction)))
    (xL_InvalidFraction : K.lookup cInvalidFraction = some (excClassObj nm_InvalidFraction qn_InvalidFraction cInvalidFraction N_InvalidFraction bs_InvalidFraction [.ref u0_InvalidFraction, .type "ValueError", .type "Exception", .type "BaseException", .type "object"] true sn_InvalidFraction sub_InvalidFraction ab_InvalidFraction col_InvalidFraction dd_InvalidFraction m0_InvalidFraction m1_InvalidFraction m2_InvalidFraction m3_InvalidFraction m5_InvalidFraction "ValueError.__new__"))
    (sa_InvalidFraction : PySem.W.findIn K (.ref cInvalidFraction) "__setattr__" = some (some (.builtin "object.__setattr__")))
    (ga_InvalidFraction : PySem.W.findIn K (.ref cInvalidFraction) "__getattribute__" = some (some (.builtin "BaseException.__getattribute__")))
    (gg_InvalidFraction : PySem.W.findIn K (.ref cInvalidFraction) "__getattr__" = some none)
    (a_InvalidFraction_init : PySem.W.findIn K (.ref cInvalidFraction) "__init__" = some (some (.ref f_InvalidFraction_init)))
    (t_InvalidFraction_init : PySem.W.typeIn K (.ref f_InvalidFraction_init) = some (.type "function"))
    (l_InvalidFraction_init : K.lookup f_InvalidFraction_init = some ⟨oc_InvalidFraction_init, od_InvalidFraction_init, .func (PySem.W.fnOf "__init__" "InvalidFraction.__init__" (defArgs s_InvalidFraction_init) (defBody s_InvalidFraction_init) (defScope s_InvalidFraction_init) .none kV_InvalidFraction_init dc_InvalidFraction_init pm_InvalidFraction_init an_InvalidFraction_init cd_InvalidFraction_init ct_InvalidFraction_init), sl_InvalidFraction_init⟩)
    (cc_InvalidFraction_init : PySem.W.codeIn K cd_InvalidFraction_init "InvalidFraction.__init__" = true)
    (k_InvalidFraction_init : PySem.W.keepIn K (.ref f_InvalidFraction_init) = true)
    (kC_InvalidFraction : PySem.W.keepIn K (.ref cInvalidFraction) = true)
    (eC_InvalidFraction : PySem.W.subIn K (.ref cInvalidFraction) (.type "BaseException") = some true)
    (tC_InvalidFraction : PySem.W.typeIn K (.ref cInvalidFraction) = some (.type "type"))
    (hC_InvalidFraction : PySem.W.hasDictIn K cInvalidFraction = true)
    (iC_InvalidFraction : PySem.W.isClsIn K cInvalidFraction = true)
    (sC_InvalidFraction : PySem.W.subIn K (.ref cInvalidFraction) (.ref cInvalidFraction) = some true)
    (no_InvalidFraction_value : PySem.W.findIn K (.ref cInvalidFraction) "value" = some none)
    (pg_Frac : PySem.W.plainGet K cFrac Str.empty = true)
    (hd_Frac : PySem.W.hasDictIn K cFrac = true)
    (po_Frac : PySem.W.plainOver K cFrac = true)
    (sa_Frac : PySem.W.findIn K (.ref cFrac) "__setattr__" = some (some (.builtin "object.__setattr__")))
    (mk_Frac : PySem.W.makesIn K cFrac = true)
    (kc_Frac : PySem.W.keepIn K (.ref cFrac) = true)
    (na_Frac_num : PySem.W.findIn K (.ref cFrac) "num" = some none)
    (na_Frac_den : PySem.W.findIn K (.ref cFrac) "den" = some none)
    (gb_gcd : PySem.W.nsIn K mainGlobals "gcd" = some (some (.builtin "math.gcd")))
    (nS_Frac_n : PySem.W.subIn K (.type "NoneType") (.ref cFrac) = some false)
    (nS_Frac_b : PySem.W.subIn K (.type "bool") (.ref cFrac) = some false)
    (nS_Frac_i : PySem.W.subIn K (.type "int") (.ref cFrac) = some false)
    (nS_Frac_s : PySem.W.subIn K (.type "str") (.ref cFrac) = some false)
    (nS_Frac_l : PySem.W.subIn K (.type "list") (.ref cFrac) = some false)
    (nS_Frac_t : PySem.W.subIn K (.type "tuple") (.ref cFrac) = some false)
    (ki_Frac_Frac : PySem.W.kitOne K (.ref cFrac) (.ref cFrac) = some true)
    (ki_Frac_bool : PySem.W.kitOne K (.ref cFrac) (.type "bool") = some false)
    (ki_Frac_int : PySem.W.kitOne K (.ref cFrac) (.type "int") = some false)
    (ki_Frac_list : PySem.W.kitOne K (.ref cFrac) (.type "list") = some false)
    (ki_Frac_str : PySem.W.kitOne K (.ref cFrac) (.type "str") = some false)
    (ki_Frac_tuple : PySem.W.kitOne K (.ref cFrac) (.type "tuple") = some false)
    (ki_NoneType_Frac : PySem.W.kitOne K (.type "NoneType") (.ref cFrac) = some false)
    (ki_bool_Frac : PySem.W.kitOne K (.type "bool") (.ref cFrac) = some false)
    (ki_int_Frac : PySem.W.kitOne K (.type "int") (.ref cFrac) = some false)
    (ki_list_Frac : PySem.W.kitOne K (.type "list") (.ref cFrac) = some false)
    (ki_str_Frac : PySem.W.kitOne K (.type "str") (.ref cFrac) = some false)
    (ki_tuple_Frac : PySem.W.kitOne K (.type "tuple") (.ref cFrac) = some false)
    (sf_Frac : PySem.W.selfFirst K cFrac = true)
    (i1_Frac : PySem.W.findIn K (.ref cFrac) "__class__" = some (some (.builtin "object.__class__")))
    (i2_Frac : PySem.W.specialIn K (.builtin "object.__class__") "__get__" = some (some (.builtin "getset_descriptor.__get__")))
    (i3_Frac : PySem.W.takesIn K (.builtin "object.__class__") = some true)
    (i4_Frac : PySem.W.mroIn K cFrac (.type "object") = some true)
    (z_abs : PySem.W.nsIn K mainGlobals "abs" = some none)
    (z_bool : PySem.W.nsIn K mainGlobals "bool" = some none)
    (z_int : PySem.W.nsIn K mainGlobals "int" = some none)
    (z_isinstance : PySem.W.nsIn K mainGlobals "isinstance" = some none)
    (z_len : PySem.W.nsIn K mainGlobals "len" = some none)
    (z_list : PySem.W.nsIn K mainGlobals "list" = some none)
    (z_max : PySem.W.nsIn K mainGlobals "max" = some none)
    (z_range : PySem.W.nsIn K mainGlobals "range" = some none)
    (z_str : PySem.W.nsIn K mainGlobals "str" = some none)
    (z_tuple : PySem.W.nsIn K mainGlobals "tuple" = some none)
    : ∃ fd : FuncData, (∀ (s : Shared) (v : Value), BindsTo s fd ⟨[v], []⟩ [("script", v)]) ∧ ∀ base : Heap, K.In base → base.Ns mainGlobals mg → FnOk l.prog w K mg base CX0 9 fa fd ["script"] (sp_law (K := K)) := by
  have e := hfa.symm.trans (PySem.W.mg_of X G a_law)
  cases e
  have F_is_integer := fun_mk (st := s_is_integer) l_is_integer cc_is_integer k_is_integer
  have b_is_integer := F_is_integer.binds (ps := ["value"]) fun _ _ _ _ _ _ us hl => match us, hl with | [_], _ => rfl
  have F_Frac_init := (⟨⟨oc_Frac_init, od_Frac_init, _, kV_Frac_init, dc_Frac_init, pm_Frac_init, an_Frac_init, cd_Frac_init, ct_Frac_init, sl_Frac_init, rfl, l_Frac_init, cc_Frac_init, .inr ⟨by simp, dT_Frac_init, _, _, _, rfl, lT_Frac_init, rfl, .cons ⟨_, rfl⟩ .nil⟩, .inl rfl⟩, k_Frac_init⟩ : FunD K "__init__" "Frac.__init__" (defArgs s_Frac_init) (defBody s_Frac_init) (defScope s_Frac_init) [V.int 1] [] f_Frac_init (PySem.W.fnOf "__init__" "Frac.__init__" (defArgs s_Frac_init) (defBody s_Frac_init) (defScope s_Frac_init) (.ref dT_Frac_init) kV_Frac_init dc_Frac_init pm_Frac_init an_Frac_init cd_Frac_init ct_Frac_init))
  have b_Frac_init : Binds K (PySem.W.fnOf "__init__" "Frac.__init__" (defArgs s_Frac_init) (defBody s_Frac_init) (defScope s_Frac_init) (.ref dT_Frac_init) kV_Frac_init dc_Frac_init pm_Frac_init an_Frac_init cd_Frac_init ct_Frac_init) ["self", "num", "den"] [] := by
    obtain ⟨ds, v, b⟩ := F_Frac_init.binds1 (ps := ["self", "num", "den"]) 3 1 (by simp) rfl (fun T kV doc pm an cdv ct us its h1 h2 => match us, its, h1, h2 with | [_, _, _], [_], _, _ => ⟨_, rfl, rfl⟩)
    cases v
    exact b
  have bd_Frac_init := F_Frac_init.binds1 (ps := ["self", "num", "den"]) 2 0 (by simp) rfl (fun T kV doc pm an cdv ct us its h1 h2 => match us, its, h1, h2 with | [_, _], [_], _, _ => ⟨_, rfl, rfl⟩)
  have ky0_Frac_init := FunD_kY F_Frac_init (ps := ["self", "num", "den"]) 1 ["den", "num"] [(false, 1), (false, 0)] (by simp) (fun T kV doc pm an cdv ct us its ws h1 h2 h3 => match us, its, ws, h1, h2, h3 with | [_], [_], [_, _], _, _, _ => ⟨_, rfl, rfl⟩)
  have ky1_Frac_init := FunD_kY F_Frac_init (ps := ["self", "num", "den"]) 1 ["num"] [(false, 0), (true, 0)] (by simp) (fun T kV doc pm an cdv ct us its ws h1 h2 h3 => match us, its, ws, h1, h2, h3 with | [_], [_], [_], _, _, _ => ⟨_, rfl, rfl⟩)
  have F_Frac_add := fun_mk (st := s_Frac_add) l_Frac_add cc_Frac_add k_Frac_add
  have b_Frac_add := F_Frac_add.binds (ps := ["self", "other"]) fun _ _ _ _ _ _ us hl => match us, hl with | [_, _], _ => rfl
  have F_Frac_sub := fun_mk (st := s_Frac_sub) l_Frac_sub cc_Frac_sub k_Frac_sub
  have b_Frac_sub := F_Frac_sub.binds (ps := ["self", "other"]) fun _ _ _ _ _ _ us hl => match us, hl with | [_, _], _ => rfl
  have F_Frac_mul := fun_mk (st := s_Frac_mul) l_Frac_mul cc_Frac_mul k_Frac_mul
  have b_Frac_mul := F_Frac_mul.binds (ps := ["self", "other"]) fun _ _ _ _ _ _ us hl => match us, hl with | [_, _], _ => rfl
  have F_Frac_eq := fun_mk (st := s_Frac_eq) l_Frac_eq cc_Frac_eq k_Frac_eq
  have b_Frac_eq := F_Frac_eq.binds (ps := ["self", "other"]) fun _ _ _ _ _ _ us hl => match us, hl with | [_, _], _ => rfl
  have F_Frac_is_below := fun_mk (st := s_Frac_is_below) l_Frac_is_below cc_Frac_is_below k_Frac_is_below
  have b_Frac_is_below := F_Frac_is_below.binds (ps := ["self", "other"]) fun _ _ _ _ _ _ us hl => match us, hl with | [_, _], _ => rfl
  have ky0_Frac_is_below := kbn_kY (K := K) (fd := PySem.W.fnOf "is_below" "Frac.is_below" (defArgs s_Frac_is_below) (defBody s_Frac_is_below) (defScope s_Frac_is_below) .none kV_Frac_is_below dc_Frac_is_below pm_Frac_is_below an_Frac_is_below cd_Frac_is_below ct_Frac_is_below) (ps := ["self", "other"]) (ks := ["other"]) (n := 1) (sel := [(false, 0)]) (fun us ws h1 h2 => match us, ws, h1, h2 with | [_], [_], _, _ => rfl)
  have F_Frac_divided_by := fun_mk (st := s_Frac_divided_by) l_Frac_divided_by cc_Frac_divided_by k_Frac_divided_by
  have b_Frac_divided_by := F_Frac_divided_by.binds (ps := ["self", "other"]) fun _ _ _ _ _ _ us hl => match us, hl with | [_, _], _ => rfl
  have ky0_Frac_divided_by := kbn_kY (K := K) (fd := PySem.W.fnOf "divided_by" "Frac.divided_by" (defArgs s_Frac_divided_by) (defBody s_Frac_divided_by) (defScope s_Frac_divided_by) .none kV_Frac_divided_by dc_Frac_divided_by pm_Frac_divided_by an_Frac_divided_by cd_Frac_divided_by ct_Frac_divided_by) (ps := ["self", "other"]) (ks := ["other"]) (n := 1) (sel := [(false, 0)]) (fun us ws h1 h2 => match us, ws, h1, h2 with | [_], [_], _, _ => rfl)
  have F_law_box := fun_mk (st := s_law_box) l_law_box cc_law_box k_law_box
  have b_law_box := F_law_box.binds (ps := ["script"]) fun _ _ _ _ _ _ us hl => match us, hl with | [_], _ => rfl
  have F_law_draw := fun_mk (st := s_law_draw) l_law_draw cc_law_draw k_law_draw
  have b_law_draw := F_law_draw.binds (ps := ["box", "limit"]) fun _ _ _ _ _ _ us hl => match us, hl with | [_, _], _ => rfl
  have F_law_gcd := fun_mk (st := s_law_gcd) l_law_gcd cc_law_gcd k_law_gcd
  have b_law_gcd := F_law_gcd.binds (ps := ["one", "two"]) fun _ _ _ _ _ _ us hl => match us, hl with | [_, _], _ => rfl
  have F_law_low := fun_mk (st := s_law_low) l_law_low cc_law_low k_law_low
  have b_law_low := F_law_low.binds (ps := ["num", "den"]) fun _ _ _ _ _ _ us hl => match us, hl with | [_, _], _ => rfl
  have F_law_number := fun_mk (st := s_law_number) l_law_number cc_law_number k_law_number
  have b_law_number := F_law_number.binds (ps := ["box", "least"]) fun _ _ _ _ _ _ us hl => match us, hl with | [_, _], _ => rfl
  have F_law_signed := fun_mk (st := s_law_signed) l_law_signed cc_law_signed k_law_signed
  have b_law_signed := F_law_signed.binds (ps := ["box", "number"]) fun _ _ _ _ _ _ us hl => match us, hl with | [_, _], _ => rfl
  have F_law_terms := fun_mk (st := s_law_terms) l_law_terms cc_law_terms k_law_terms
  have b_law_terms := F_law_terms.binds (ps := ["box"]) fun _ _ _ _ _ _ us hl => match us, hl with | [_], _ => rfl
  have F_law_second := fun_mk (st := s_law_second) l_law_second cc_law_second k_law_second
  have b_law_second := F_law_second.binds (ps := ["box", "first"]) fun _ _ _ _ _ _ us hl => match us, hl with | [_, _], _ => rfl
  have F_law_is := fun_mk (st := s_law_is) l_law_is cc_law_is k_law_is
  have b_law_is := F_law_is.binds (ps := ["actual", "num", "den"]) fun _ _ _ _ _ _ us hl => match us, hl with | [_, _, _], _ => rfl
  have F_law_truth := fun_mk (st := s_law_truth) l_law_truth cc_law_truth k_law_truth
  have b_law_truth := F_law_truth.binds (ps := ["actual", "due"]) fun _ _ _ _ _ _ us hl => match us, hl with | [_, _], _ => rfl
  have F_law_wrong := fun_mk (st := s_law_wrong) l_law_wrong cc_law_wrong k_law_wrong
  have b_law_wrong := F_law_wrong.binds (ps := ["box", "first"]) fun _ _ _ _ _ _ us hl => match us, hl with | [_, _], _ => rfl
  have F_law_kind := fun_mk (st := s_law_kind) l_law_kind cc_law_kind k_law_kind
  have b_law_kind := F_law_kind.binds (ps := ["value"]) fun _ _ _ _ _ _ us hl => match us, hl with | [_], _ => rfl
  have F_law_refused := fun_mk (st := s_law_refused) l_law_refused cc_law_refused k_law_refused
  have b_law_refused := F_law_refused.binds (ps := ["num", "den", "shape"]) fun _ _ _ _ _ _ us hl => match us, hl with | [_, _, _], _ => rfl
  have F_law_not_divided := fun_mk (st := s_law_not_divided) l_law_not_divided cc_law_not_divided k_law_not_divided
  have b_law_not_divided := F_law_not_divided.binds (ps := ["one", "other"]) fun _ _ _ _ _ _ us hl => match us, hl with | [_, _], _ => rfl
  have F_law_bad := fun_mk (st := s_law_bad) l_law_bad cc_law_bad k_law_bad
  have b_law_bad := F_law_bad.binds (ps := ["box", "first"]) fun _ _ _ _ _ _ us hl => match us, hl with | [_, _], _ => rfl
  have F_law_pair := fun_mk (st := s_law_pair) l_law_pair cc_law_pair k_law_pair
  have b_law_pair := F_law_pair.binds (ps := ["one", "two", "first", "second"]) fun _ _ _ _ _ _ us hl => match us, hl with | [_, _, _, _], _ => rfl
  have F_law_all := fun_mk (st := s_law_all) l_law_all cc_law_all k_law_all
  have b_law_all := F_law_all.binds (ps := ["script"]) fun _ _ _ _ _ _ us hl => match us, hl with | [_], _ => rfl
  have F_law := fun_mk (st := s_law) l_law cc_law k_law
  have b_law := F_law.binds (ps := ["script"]) fun _ _ _ _ _ _ us hl => match us, hl with | [_], _ => rfl
  have F_InvalidFraction_init := fun_mk (st := s_InvalidFraction_init) l_InvalidFraction_init cc_InvalidFraction_init k_InvalidFraction_init
  have b_InvalidFraction_init := F_InvalidFraction_init.binds (ps := ["self", "value"]) fun _ _ _ _ _ _ us hl => match us, hl with | [_, _], _ => rfl
  have T : Txt K mg cFrac cInvalidFraction := {
    d_is_integer := ⟨_, _, F_is_integer, PySem.W.mg_of X G a_is_integer, b_is_integer⟩
    d_Frac_init := ⟨_, _, F_Frac_init, ⟨mk_Frac, a_Frac_init, i_Frac_init, kc_Frac⟩, PySem.W.mg_of X G aC_Frac, b_Frac_init, bd_Frac_init, ky0_Frac_init, ky1_Frac_init⟩
    d_Frac_add := ⟨_, _, F_Frac_add, ⟨a_Frac_add, i_Frac_add, k_Frac_add⟩, b_Frac_add⟩
    d_Frac_sub := ⟨_, _, F_Frac_sub, ⟨a_Frac_sub, i_Frac_sub, k_Frac_sub⟩, b_Frac_sub⟩
    d_Frac_mul := ⟨_, _, F_Frac_mul, ⟨a_Frac_mul, i_Frac_mul, k_Frac_mul⟩, b_Frac_mul⟩
    d_Frac_eq := ⟨_, _, F_Frac_eq, ⟨a_Frac_eq, i_Frac_eq, k_Frac_eq⟩, b_Frac_eq⟩
    d_Frac_is_below := ⟨_, _, F_Frac_is_below, ⟨a_Frac_is_below, i_Frac_is_below, k_Frac_is_below⟩, b_Frac_is_below, ky0_Frac_is_below⟩
    d_Frac_divided_by := ⟨_, _, F_Frac_divided_by, ⟨a_Frac_divided_by, i_Frac_divided_by, k_Frac_divided_by⟩, b_Frac_divided_by, ky0_Frac_divided_by⟩
    d_law_box := ⟨_, _, F_law_box, PySem.W.mg_of X G a_law_box, b_law_box⟩
    d_law_draw := ⟨_, _, F_law_draw, PySem.W.mg_of X G a_law_draw, b_law_draw⟩
    d_law_gcd := ⟨_, _, F_law_gcd, PySem.W.mg_of X G a_law_gcd, b_law_gcd⟩
    d_law_low := ⟨_, _, F_law_low, PySem.W.mg_of X G a_law_low, b_law_low⟩
    d_law_number := ⟨_, _, F_law_number, PySem.W.mg_of X G a_law_number, b_law_number⟩
    d_law_signed := ⟨_, _, F_law_signed, PySem.W.mg_of X G a_law_signed, b_law_signed⟩
    d_law_terms := ⟨_, _, F_law_terms, PySem.W.mg_of X G a_law_terms, b_law_terms⟩
    d_law_second := ⟨_, _, F_law_second, PySem.W.mg_of X G a_law_second, b_law_second⟩
    d_law_is := ⟨_, _, F_law_is, PySem.W.mg_of X G a_law_is, b_law_is⟩
    d_law_truth := ⟨_, _, F_law_truth, PySem.W.mg_of X G a_law_truth, b_law_truth⟩
    d_law_wrong := ⟨_, _, F_law_wrong, PySem.W.mg_of X G a_law_wrong, b_law_wrong⟩
    d_law_kind := ⟨_, _, F_law_kind, PySem.W.mg_of X G a_law_kind, b_law_kind⟩
    d_law_refused := ⟨_, _, F_law_refused, PySem.W.mg_of X G a_law_refused, b_law_refused⟩
    d_law_not_divided := ⟨_, _, F_law_not_divided, PySem.W.mg_of X G a_law_not_divided, b_law_not_divided⟩
    d_law_bad := ⟨_, _, F_law_bad, PySem.W.mg_of X G a_law_bad, b_law_bad⟩
    d_law_pair := ⟨_, _, F_law_pair, PySem.W.mg_of X G a_law_pair, b_law_pair⟩
    d_law_all := ⟨_, _, F_law_all, PySem.W.mg_of X G a_law_all, b_law_all⟩
    no_InvalidFraction_value := no_InvalidFraction_value
    x_InvalidFraction := ⟨_, _, F_InvalidFraction_init, { o := ⟨⟨nm_InvalidFraction, qn_InvalidFraction, N_InvalidFraction, bs_InvalidFraction, _, sn_InvalidFraction, sub_InvalidFraction, ab_InvalidFraction, col_InvalidFraction, dd_InvalidFraction, m0_InvalidFraction, m1_InvalidFraction, m2_InvalidFraction, m3_InvalidFraction, m5_InvalidFraction, xL_InvalidFraction, rfl⟩, sa_InvalidFraction, eC_InvalidFraction, tC_InvalidFraction, kC_InvalidFraction⟩, xf := ⟨ga_InvalidFraction, gg_InvalidFraction, eC_InvalidFraction, hC_InvalidFraction⟩, i := a_InvalidFraction_init, t := t_InvalidFraction_init, m := PySem.W.mg_of X G aC_InvalidFraction, e := exm_of eC_InvalidFraction iC_InvalidFraction tC_InvalidFraction sC_InvalidFraction }, b_InvalidFraction_init⟩
    cl_Frac := ⟨pg_Frac, hd_Frac, po_Frac, sa_Frac⟩
    na_Frac_num := na_Frac_num
    na_Frac_den := na_Frac_den
    gb_gcd := PySem.W.mg_of X G gb_gcd
    nf_Frac := ⟨nS_Frac_n, nS_Frac_b, nS_Frac_i, nS_Frac_s, nS_Frac_l, nS_Frac_t⟩
    ki_Frac_Frac := ki_Frac_Frac
    ki_Frac_bool := ki_Frac_bool
    ki_Frac_int := ki_Frac_int
    ki_Frac_list := ki_Frac_list
    ki_Frac_str := ki_Frac_str
    ki_Frac_tuple := ki_Frac_tuple
    ki_NoneType_Frac := ki_NoneType_Frac
    ki_bool_Frac := ki_bool_Frac
    ki_int_Frac := ki_int_Frac
    ki_list_Frac := ki_list_Frac
    ki_str_Frac := ki_str_Frac
    ki_tuple_Frac := ki_tuple_Frac
    sf_Frac := sf_Frac
    in_Frac := ⟨⟨pg_Frac, hd_Frac, po_Frac, sa_Frac⟩, i1_Frac, i2_Frac, i3_Frac, i4_Frac⟩
    mg_Frac := PySem.W.mg_of X G aC_Frac
    b_abs := PySem.W.mg_none_of X G z_abs
    b_bool := PySem.W.mg_none_of X G z_bool
    b_int := PySem.W.mg_none_of X G z_int
    b_isinstance := PySem.W.mg_none_of X G z_isinstance
    b_len := PySem.W.mg_none_of X G z_len
    b_list := PySem.W.mg_none_of X G z_list
    b_max := PySem.W.mg_none_of X G z_max
    b_range := PySem.W.mg_none_of X G z_range
    b_str := PySem.W.mg_none_of X G z_str
    b_tuple := PySem.W.mg_none_of X G z_tuple }
  exact ⟨PySem.W.fnOf "law" "law" (defArgs s_law) (defBody s_law) (defScope s_law) .none kV_law dc_law pm_law an_law cd_law ct_law, fun s v => .of_eq rfl, fun base _ _ => at_law T F_law⟩
end G

/-! M1: plain facts about folds, runs, places. -/
namespace FL
theorem fold_inv {τ α : Type} {f : τ → α → τ} (P : τ → Prop) : ∀ {as : List α} {t : τ}, P t → (∀ t a, a ∈ as → P t → P (f t a)) → P (as.foldl f t)
  | [], _, h, _ => h
  | a :: as, t, h, hs => fold_inv P (as := as) (t := f t a) (hs t a (by simp) h) fun t b hb => hs t b (by simp [hb])
theorem fold_pre {τ α : Type} {f : τ → α → τ} (P : τ → Prop) {as : List α} {t : τ} (i : Nat) (h : P t) (hs : ∀ t a, a ∈ as → P t → P (f t a)) : P ((as.take i).foldl f t) :=
  fold_inv P h fun t a ha => hs t a (List.mem_of_mem_take ha)
theorem fold_idx {τ α : Type} {f : τ → α → τ} (P : Nat → τ → Prop) : ∀ {as : List α} {t : τ} (i : Nat), i ≤ as.length → P 0 t → (∀ i a t, as[i]? = some a → P i t → P (i + 1) (f t a)) → P i ((as.take i).foldl f t)
  | _, _, 0, _, h, _ => by simpa using h
  | [], _, i + 1, hl, _, _ => by simp at hl
  | a :: as, t, i + 1, hl, h, hs => by
    rw [List.take_succ_cons, List.foldl_cons]
    exact fold_idx (fun i => P (i + 1)) (as := as) (t := f t a) i (by simpa using hl) (hs 0 a t rfl h) fun i b t e => hs (i + 1) b t (by simpa using e)
theorem fold_idx_all {τ α : Type} {f : τ → α → τ} (P : Nat → τ → Prop) {as : List α} {t : τ} (h : P 0 t) (hs : ∀ i a t, as[i]? = some a → P i t → P (i + 1) (f t a)) : P as.length (as.foldl f t) := by
  have := fold_idx P (as := as) (t := t) as.length (Nat.le_refl _) h hs
  rwa [List.take_length] at this
theorem idx_lt {α : Type} {as : List α} {i : Nat} {a : α} (h : as[i]? = some a) : i < as.length := (List.getElem?_eq_some_iff.mp h).1
theorem fold_idx' {τ α : Type} {f : τ → α → τ} (P : Nat → τ → Prop) {as : List α} {t : τ} {i : Nat} {a : α} (hi : as[i]? = some a) (h : P 0 t) (hs : ∀ i a t, as[i]? = some a → P i t → P (i + 1) (f t a)) : P i ((as.take i).foldl f t) :=
  fold_idx P i (Nat.le_of_lt (idx_lt hi)) h hs
theorem run_nort {τ α γ : Type} {f : τ → α → Out τ τ γ} (hf : ∀ t a, (∃ s, f t a = .nx s) ∨ (∃ s, f t a = .ct s) ∨ ∃ s, f t a = .bk s) : ∀ {as : List α} {t : τ}, ∃ s, ((run f t as).done : Out τ Empty γ) = .nx s
  | [], t => ⟨t, rfl⟩
  | a :: as, t => by
    unfold run
    rcases hf t a with ⟨s, h⟩ | ⟨s, h⟩ | ⟨s, h⟩ <;> rw [h]
    · exact run_nort hf
    · exact run_nort hf
    · exact ⟨s, rfl⟩
/-- an invariant of a run that is never left by a return -/
theorem run_inv {τ α γ : Type} {f : τ → α → Out τ τ γ} (P : τ → Prop) (hf : ∀ t a, P t → (∃ s, f t a = .nx s ∧ P s) ∨ (∃ s, f t a = .ct s ∧ P s) ∨ ∃ s, f t a = .bk s ∧ P s) : ∀ {as : List α} {t : τ}, P t → ∃ s, ((run f t as).done : Out τ Empty γ) = .nx s ∧ P s
  | [], t, h => ⟨t, rfl, h⟩
  | a :: as, t, h => by
    unfold run
    rcases hf t a h with ⟨s, e, p⟩ | ⟨s, e, p⟩ | ⟨s, e, p⟩ <;> rw [e]
    · exact run_inv P hf p
    · exact run_inv P hf p
    · exact ⟨s, rfl, p⟩
theorem run_inv_nx {τ α γ : Type} {f : τ → α → Out τ τ γ} (P : τ → Prop) (hf : ∀ t a, P t → (∃ s, f t a = .nx s ∧ P s) ∨ (∃ s, f t a = .ct s ∧ P s) ∨ ∃ s, f t a = .bk s ∧ P s) {as : List α} {t s : τ} (h : P t) (e : run f t as = .nx s) : P s := by
  obtain ⟨s', e', p⟩ := run_inv (γ := γ) P hf (as := as) h
  rw [e] at e'
  cases e'; exact p
/-- a run over () that gives back the first find -/
theorem run_find {α γ : Type} {f : Unit → α → Out Unit Unit γ} {g : α → Option γ} (hf : ∀ a, f () a = (match g a with | some r => .rt r | none => .nx ())) : ∀ {as : List α}, run f () as = (match as.findSome? g with | some r => .rt r | none => .nx ())
  | [] => rfl
  | a :: as => by
    unfold run
    rw [hf a, List.findSome?_cons]
    cases g a with
    | some r => rfl
    | none => exact run_find hf
theorem lcGo_inv {τ α β : Type} {s : τ → α → τ} {p : τ → α → Bool} {v : τ → α → β} (P : τ → Prop) (Q : β → Prop) : ∀ {as : List α} {t : τ}, P t → (∀ t a, a ∈ as → P t → P (s t a) ∧ Q (v t a)) → P (lcGo s p v t as).1 ∧ ∀ x ∈ (lcGo s p v t as).2, Q x
  | [], t, h, _ => ⟨h, fun x hx => by cases hx⟩
  | a :: as, t, h, hs => by
    unfold lcGo
    cases p t a with
    | false =>
      exact lcGo_inv P Q h fun t b hb => hs t b (by simp [hb])
    | true =>
      obtain ⟨h1, h2⟩ := hs t a (by simp) h
      obtain ⟨k1, k2⟩ := lcGo_inv (p := p) P Q (as := as) (t := s t a) h1 fun t b hb => hs t b (by simp [hb])
      exact ⟨k1, fun x hx => by rcases List.mem_cons.mp hx with e | e; exact e ▸ h2; exact k2 x e⟩
theorem lcGo_len1 {τ α β : Type} {s : τ → α → τ} {v : τ → α → β} : ∀ {as : List α} {t : τ}, (lcGo s (fun _ _ => true) v t as).2.length = as.length
  | [], t => rfl
  | a :: as, t => by
    unfold lcGo
    show ((lcGo s (fun _ _ => true) v (s t a) as).2).length + 1 = _
    rw [lcGo_len1]; rfl
theorem lcGo_pre {τ α β : Type} {s : τ → α → τ} {p : τ → α → Bool} {v : τ → α → β} (P : τ → Prop) {as : List α} {t : τ} (i : Nat) (h : P t) (hs : ∀ t a, a ∈ as → P t → P (s t a)) : P (lcGo s p v t (as.take i)).1 :=
  (lcGo_inv (v := v) P (fun _ => True) h fun t a ha hp => ⟨hs t a (List.mem_of_mem_take ha) hp, trivial⟩).1
theorem rng_at {lo hi x : Int} {i : Nat} (h : (rng lo hi)[i]? = some x) : x = lo + (i : Int) ∧ (i : Int) < hi - lo := by
  have l := idx_lt h
  rw [rng_len] at l
  rw [rng_get l] at h
  cases h
  exact ⟨rfl, by omega⟩
theorem at_nat {α : Type} [Inhabited α] {as : List α} {i : Int} (h : 0 ≤ i) : at_ as i = as.getD i.toNat default := by
  unfold at_ ixI; rw [if_pos h]
theorem at_app {α : Type} [Inhabited α] {as bs : List α} {i : Int} (h : 0 ≤ i) (hl : i < as.length) : at_ (as ++ bs) i = at_ as i := by
  rw [at_nat h, at_nat h, List.getD_eq_getElem?_getD, List.getD_eq_getElem?_getD, List.getElem?_append_left (by omega)]
theorem at_snoc {α : Type} [Inhabited α] {as : List α} {a : α} {i : Int} (h : i = as.length) : at_ (as ++ [a]) i = a := by
  subst h
  rw [at_nat (by omega), List.getD_eq_getElem?_getD]; simp
theorem at_map_rng {α : Type} [Inhabited α] {f : Int → α} {n i : Int} (h : 0 ≤ i) (hn : i < n) : at_ ((rng 0 n).map f) i = f i := by
  rw [at_nat h, List.getD_eq_getElem?_getD, List.getElem?_map, rng_get (by omega)]
  have e : (0 : Int) + (i.toNat : Int) = i := by omega
  rw [e]; rfl
theorem at_set {α : Type} [Inhabited α] {as : List α} {a : α} {i j : Int} (hi : 0 ≤ i) (hl : i < as.length) (hj : 0 ≤ j) : at_ (as.set (ixI as.length i) a) j = if j = i then a else at_ as j := by
  rw [at_nat hj, at_nat hj, List.getD_eq_getElem?_getD, List.getD_eq_getElem?_getD]
  have e : ixI as.length i = i.toNat := by unfold ixI; rw [if_pos hi]
  rw [e, List.getElem?_set]
  by_cases h : j = i
  · subst h; rw [if_pos rfl, if_pos rfl, if_pos (by omega)]; rfl
  · rw [if_neg (by omega), if_neg h]
theorem inIx_of {n : Nat} {i : Int} (h : 0 ≤ i) (hl : i < n) : inIx n i := ⟨by omega, hl⟩
theorem at_mem {α : Type} [Inhabited α] {as : List α} {i : Int} (h : 0 ≤ i) (hl : i < as.length) : at_ as i ∈ as := by
  rw [at_nat h, List.getD_eq_getElem?_getD]
  have : i.toNat < as.length := by omega
  rw [List.getElem?_eq_getElem this]
  exact List.getElem_mem this
theorem at_gete {α : Type} [Inhabited α] {as : List α} {i : Int} {a : α} (h : 0 ≤ i) (e : as[i.toNat]? = some a) : at_ as i = a := by
  rw [at_nat h, List.getD_eq_getElem?_getD, e]; rfl
theorem list_at {α : Type} [Inhabited α] {as bs : List α} (hl : as.length = bs.length) (h : ∀ i : Int, 0 ≤ i → i < as.length → at_ as i = at_ bs i) : as = bs := by
  apply List.ext_getElem? ; intro i
  by_cases c : i < as.length
  · have := h (i : Int) (by omega) (by omega)
    rw [at_nat (by omega), at_nat (by omega), List.getD_eq_getElem?_getD, List.getD_eq_getElem?_getD] at this
    simp only [Int.toNat_natCast] at this
    rw [List.getElem?_eq_getElem c, List.getElem?_eq_getElem (hl ▸ c)] at this ⊢
    exact congrArg some this
  · rw [List.getElem?_eq_none (by omega), List.getElem?_eq_none (by omega)]
theorem fin64 {P : Int → Prop} (h : ∀ m : Fin 64, P (m.val : Int)) {m : Int} (h0 : 0 ≤ m) (h1 : m < 64) : P m := by
  have := h ⟨m.toNat, by omega⟩
  simpa [Int.toNat_of_nonneg h0] using this
theorem fin6 {P : Int → Prop} (h : ∀ m : Fin 6, P (m.val : Int)) {m : Int} (h0 : 0 ≤ m) (h1 : m < 6) : P m := by
  have := h ⟨m.toNat, by omega⟩
  simpa [Int.toNat_of_nonneg h0] using this
theorem fin64_6 {P : Int → Int → Prop} (h : ∀ (m : Fin 64) (k : Fin 6), P (m.val : Int) (k.val : Int)) {m k : Int} (h0 : 0 ≤ m) (h1 : m < 64) (k0 : 0 ≤ k) (k1 : k < 6) : P m k :=
  fin6 (P := fun k => P m k) (fun k => fin64 (P := fun m => P m k.val) (fun m => h m k) h0 h1) k0 k1
theorem fin64_64 {P : Int → Int → Prop} (h : ∀ (m k : Fin 64), P (m.val : Int) (k.val : Int)) {m k : Int} (h0 : 0 ≤ m) (h1 : m < 64) (k0 : 0 ≤ k) (k1 : k < 64) : P m k :=
  fin64 (P := fun k => P m k) (fun k => fin64 (P := fun m => P m k.val) (fun m => h m k) h0 h1) k0 k1
end FL

namespace G
open PySem L2 FL
/-! draws -/
structure BoxOk (b : BoxD) : Prop where
  len : b.cells.length ≤ 63
  c0 : 0 ≤ b.c
theorem draw_go (b : BoxD) (n : Int) (h : BoxOk b) (hn : 0 < n) : 0 ≤ (f_law_draw b n).1 ∧ (f_law_draw b n).1 < n ∧ BoxOk (f_law_draw b n).2 := by
  rw [f_law_draw_eq]
  unfold o_law_draw
  simp only [lt]
  generalize hr : FL.Out.done _ = r
  have : ∃ s : BoxD, r = .nx s ∧ BoxOk s := by
    rw [← hr]
    refine run_inv BoxOk (fun t a ht => ?_) ⟨h.len, h.c0⟩
    generalize (decide (t.b = 0) && decide (t.c < (b.cells.length : Int))) = c
    cases c with
    | false => exact .inr (.inr ⟨t, rfl, ht⟩)
    | true =>
      refine .inl ⟨_, rfl, ?_⟩
      generalize decide ((10 : Int) ^ Int.toNat 18 ≤ _) = d
      cases d with
      | false => exact ⟨ht.len, by have := ht.c0; show 0 ≤ t.c + 1; omega⟩
      | true => exact ⟨ht.len, by have := ht.c0; show 0 ≤ t.c + 1; omega⟩
  obtain ⟨s, rfl, hs⟩ := this
  simp only [Out.bind]
  generalize decide (0 < s.b) = c
  cases c with
  | true => exact ⟨Int.fmod_nonneg_of_pos _ hn, Int.fmod_lt_of_pos _ hn, ⟨hs.len, hs.c0⟩⟩
  | false => exact ⟨Int.fmod_nonneg_of_pos _ hn, Int.fmod_lt_of_pos _ hn, ⟨hs.len, hs.c0⟩⟩
theorem draw_ok (b : BoxD) (n : Int) (h : BoxOk b) (hn : 0 < n) (hb : n < 1000000) : ok_law_draw b n := by
  unfold ok_law_draw
  intro cells hc bx hx
  subst hc; subst hx
  have hl := h.len
  refine ⟨by omega, fun i k t hi ht hc => ?_, fun s hs => ⟨fun _ => ⟨by omega, fun _ _ => ⟨by omega, by omega⟩⟩, fun _ cell hcell => ⟨fun hc => ?_, fun z hz m hm => ?_⟩⟩⟩
  · have ht' : BoxOk t := by
      refine run_inv_nx BoxOk (fun t a ht => ?_) (t := { b with a := b.a + 1 }) ⟨h.len, h.c0⟩ ht
      simp only [lt]
      generalize (decide (t.b = 0) && decide (t.c < (b.cells.length : Int))) = c
      cases c with
      | false => exact .inr (.inr ⟨t, rfl, ht⟩)
      | true =>
        refine .inl ⟨_, rfl, ?_⟩
        generalize decide ((10 : Int) ^ Int.toNat 18 ≤ _) = d
        cases d with
        | false => exact ⟨ht.len, by have := ht.c0; show 0 ≤ t.c + 1; omega⟩
        | true => exact ⟨ht.len, by have := ht.c0; show 0 ≤ t.c + 1; omega⟩
    have h1 : t.c < (b.cells.length : Int) := by
      rw [Bool.and_eq_true] at hc
      exact of_decide_eq_true hc.2
    exact ⟨inIx_of ht'.c0 h1, fun _ => inIx_of ht'.c0 h1⟩
  · have hp : (0 : Int) < (b.cells.length : Int) := of_decide_eq_true hc
    exact ⟨by omega, inIx_of (Int.fmod_nonneg_of_pos _ hp) (Int.fmod_lt_of_pos _ hp)⟩
  · have m1 : 0 ≤ m ∧ m < 2147483647 := by subst hm; exact ⟨Int.fmod_nonneg_of_pos _ (by decide), Int.fmod_lt_of_pos _ (by decide)⟩
    refine ⟨.inl ⟨by omega, by omega⟩, fun m' hm' => ?_⟩
    have m2 : 0 ≤ m' ∧ m' < 1000003 := by subst hm'; exact ⟨Int.fmod_nonneg_of_pos _ (by decide), Int.fmod_lt_of_pos _ (by decide)⟩
    exact ⟨.inl ⟨by omega, by omega⟩, fun m'' _ => by omega⟩
end G

namespace G
open PySem L2 FL
/-! numbers -/
theorem lg {n B : Nat} (h : n < 2 ^ B) : n.log2 ≤ B := by
  by_cases z : n = 0
  · subst z; rw [show Nat.log2 0 = 0 by decide]; exact Nat.zero_le _
  · exact Nat.le_of_lt ((Nat.log2_lt z).mpr h)
/-- the common divisor -/
abbrev gg (n d : Int) : Int := ((Nat.gcd n.natAbs d.natAbs : Nat) : Int)
theorem gg_pos {n d : Int} (h : d ≠ 0) : 0 < gg n d := by
  have : 0 < Nat.gcd n.natAbs d.natAbs := Nat.gcd_pos_of_pos_right _ (by omega)
  show (0 : Int) < ((_ : Nat) : Int); omega
theorem gg_l {n d : Int} : gg n d ∣ n := Int.ofNat_dvd_left.mpr (Nat.gcd_dvd_left n.natAbs d.natAbs)
theorem gg_r {n d : Int} : gg n d ∣ d := Int.ofNat_dvd_left.mpr (Nat.gcd_dvd_right n.natAbs d.natAbs)
theorem gg_le {n d : Int} (h : d ≠ 0) : (gg n d).natAbs ≤ d.natAbs := by
  show (((Nat.gcd n.natAbs d.natAbs : Nat) : Int)).natAbs ≤ _
  rw [Int.natAbs_natCast]
  exact Nat.le_of_dvd (by omega) (Nat.gcd_dvd_right n.natAbs d.natAbs)
/-- the law's common divisor: Euclid -/
abbrev lF (t : Int × Int) (_ : Int) : Out (Int × Int) (Int × Int) Int := bif decide (t.2 = 0) then .bk (t.1, t.2) else lt (Int.fmod t.1 t.2) fun s => lt t.2 fun b => lt s fun s => .nx (b, s)
theorem run_nx1 {τ α γ : Type} {f : τ → α → Out τ τ γ} {t t' : τ} {a : α} {as : List α} (h : f t a = .nx t') : FL.run f t (a :: as) = FL.run f t' as := by simp only [FL.run, h]
theorem euc : ∀ (k : Nat) (l : List Int) (b s : Nat), s < 2 ^ k → 2 * k ≤ l.length → ((FL.run lF ((b : Int), (s : Int)) l).done : Out (Int × Int) Empty Int) = .nx (((Nat.gcd b s : Nat) : Int), 0)
  | 0, l, b, s, h, _ => by
    have : s = 0 := by omega
    subst this
    rw [Nat.gcd_zero_right]
    cases l with
    | nil => rfl
    | cons a l => rfl
  | k + 1, a :: a2 :: l, b, s, h, hl => by
    by_cases z : s = 0
    · subst z; rw [Nat.gcd_zero_right]; rfl
    · have zi : ¬ ((s : Int) = 0) := by omega
      have e1 : lF ((b : Int), (s : Int)) a = .nx ((s : Int), ((b % s : Nat) : Int)) := by
        show (bif decide ((s : Int) = 0) then _ else _) = _
        rw [decide_eq_false zi]
        show Out.nx ((s : Int), Int.fmod (b : Int) (s : Int)) = _
        rw [Int.fmod_eq_emod_of_nonneg _ (by omega)]; rfl
      have e3 : Nat.gcd b s = Nat.gcd s (b % s) := by rw [Nat.gcd_comm b s, Nat.gcd_rec s b, Nat.gcd_comm]
      rw [run_nx1 e1]
      have lt1 : b % s < s := Nat.mod_lt _ (by omega)
      generalize hr : b % s = r at lt1 e3 ⊢
      rw [e3]
      by_cases y : r = 0
      · subst y; rw [Nat.gcd_zero_right]; rfl
      · have yi : ¬ ((r : Int) = 0) := by omega
        have e2 : lF ((s : Int), (r : Int)) a2 = .nx ((r : Int), ((s % r : Nat) : Int)) := by
          show (bif decide ((r : Int) = 0) then _ else _) = _
          rw [decide_eq_false yi]
          show Out.nx ((r : Int), Int.fmod (s : Int) (r : Int)) = _
          rw [Int.fmod_eq_emod_of_nonneg _ (by omega)]; rfl
        rw [run_nx1 e2]
        have e4 : Nat.gcd s r = Nat.gcd r (s % r) := by rw [Nat.gcd_comm s r, Nat.gcd_rec r s, Nat.gcd_comm]
        have lt2 : s % r < r := Nat.mod_lt _ (by omega)
        have dm : r * (s / r) + s % r = s := Nat.div_add_mod s r
        have q1 : 1 ≤ s / r := Nat.div_pos (by omega) (by omega)
        have q2 : r ≤ r * (s / r) := Nat.le_mul_of_pos_right r q1
        have hp : 2 ^ (k + 1) = 2 * 2 ^ k := by rw [Nat.pow_succ, Nat.mul_comm]
        rw [e4]
        exact euc k l r (s % r) (by omega) (by simp at hl; omega)
  | k + 1, [a], b, s, h, hl => by simp at hl; omega
  | k + 1, [], b, s, h, hl => by simp at hl
theorem bits_lt {d : Nat} : d < 2 ^ (PySem.Builtin.Int.intBits (d : Int)) := by
  unfold PySem.Builtin.Int.intBits
  by_cases z : d = 0
  · subst z; decide
  · have : ((d : Int) == 0) = false := by
      cases e : ((d : Int) == 0)
      · rfl
      · have := eq_of_beq e; omega
    rw [this]
    exact Nat.lt_log2_self
theorem bits_le {d : Int} {B : Nat} (h : d.natAbs < 2 ^ B) : PySem.Builtin.Int.intBits d ≤ B + 1 := by
  unfold PySem.Builtin.Int.intBits
  have := lg h
  split <;> omega
abbrev bmax (a b : Nat) : Int := 2 * (if ((PySem.Builtin.Int.intBits (a : Int) : Nat) : Int) < ((PySem.Builtin.Int.intBits (b : Int) : Nat) : Int) then ((PySem.Builtin.Int.intBits (b : Int) : Nat) : Int) else ((PySem.Builtin.Int.intBits (a : Int) : Nat) : Int)) + 2
theorem gcd_run {a b : Nat} : ((FL.run lF ((a : Int), (b : Int)) (rng 0 (bmax a b))).done : Out (Int × Int) Empty Int) = .nx (((Nat.gcd a b : Nat) : Int), 0) :=
  euc (PySem.Builtin.Int.intBits (b : Int)) _ a b bits_lt (by rw [rng_len]; unfold bmax; split <;> omega)
theorem gcd_eq {n d : Int} : f_law_gcd n d = gg n d := by
  rw [f_law_gcd_eq]
  unfold o_law_gcd
  have e1 : (if n < 0 then -n else n) = ((n.natAbs : Nat) : Int) := by split <;> omega
  have e2 : (if d < 0 then -d else d) = ((d.natAbs : Nat) : Int) := by split <;> omega
  rw [e1, e2]
  show (((FL.run lF ((n.natAbs : Int), (d.natAbs : Int)) (rng 0 (bmax n.natAbs d.natAbs))).done : Out (Int × Int) Empty Int).bind fun s => .rt s.1).get = _
  rw [gcd_run]; rfl
theorem gcd_ok {n d : Int} {B : Nat} (hn : n.natAbs < 2 ^ B) (hd : d.natAbs < 2 ^ B) (hB : B < 8000) : ok_law_gcd n d := by
  intro a ha b hb
  have e1 : a = ((n.natAbs : Nat) : Int) := by rw [ha]; split <;> omega
  have e2 : b = ((d.natAbs : Nat) : Int) := by rw [hb]; split <;> omega
  have b1 := bits_le (d := a) (B := B) (by rw [e1, Int.natAbs_natCast]; exact hn)
  have b2 := bits_le (d := b) (B := B) (by rw [e2, Int.natAbs_natCast]; exact hd)
  refine ⟨?_, fun i k t hi ht hc => of_decide_eq_false hc⟩
  constructor
  · split <;> omega
  · split <;> omega
/-! lowest terms -/
/-- the divisor with the sign of d -/
def sg (n d : Int) : Int := bif decide (d < 0) then -(gg n d) else gg n d
theorem sg_ne {n d : Int} (h : d ≠ 0) : sg n d ≠ 0 := by
  have := gg_pos (n := n) h
  unfold sg
  cases decide (d < 0) <;> simp only [cond_true, cond_false] <;> omega
theorem sg_abs {n d : Int} : (sg n d).natAbs = (gg n d).natAbs := by
  unfold sg
  cases decide (d < 0) <;> simp only [cond_true, cond_false]
  exact Int.natAbs_neg _
theorem sg_l {n d : Int} : sg n d ∣ n := by
  unfold sg
  cases decide (d < 0) <;> simp only [cond_true, cond_false]
  · exact gg_l
  · exact Int.neg_dvd.mpr gg_l
theorem sg_r {n d : Int} : sg n d ∣ d := by
  unfold sg
  cases decide (d < 0) <;> simp only [cond_true, cond_false]
  · exact gg_r
  · exact Int.neg_dvd.mpr gg_r
def RF (n d : Int) : Frac := ⟨Int.fdiv n (sg n d), Int.fdiv d (sg n d)⟩
theorem int_I (i : Int) : f_is_integer_I i = true := by rw [f_is_integer_I_eq]; rfl
theorem frac_eq {n d : Int} : f_Frac_init_I n d = RF n d := by
  rw [f_Frac_init_I_eq]; rfl
theorem cdivx {a s : Int} {B : Nat} (h : s ≠ 0) (hb : s.natAbs < 2 ^ B) (hB : B < 9000) : CDivX a s := ⟨h, by have := lg hb; omega⟩
theorem cmulw {a b : Int} {A B : Nat} (ha : a.natAbs < 2 ^ A) (hb : b.natAbs < 2 ^ B) (h : A + B < 1000000) : CMulW a b := by
  have := lg ha
  have := lg hb
  show _ + _ < _; omega
theorem sg_lt {n d : Int} {B : Nat} (h : d ≠ 0) (hd : d.natAbs < 2 ^ B) : (sg n d).natAbs < 2 ^ B := by
  rw [sg_abs]
  exact Nat.lt_of_le_of_lt (gg_le h) hd
theorem frac_ok {n d : Int} {B : Nat} (h : d ≠ 0) (hd : d.natAbs < 2 ^ B) (hB : B < 8000) : ok_Frac_init_I n d := by
  refine ⟨fun hc => ?_, fun z _ g hg s hs => ?_⟩
  · rw [int_I, int_I, decide_eq_false h] at hc; cases hc
  · have e : s = sg n d := by rw [hs, hg]; rfl
    rw [e]
    exact ⟨cdivx (sg_ne h) (sg_lt h hd) (by omega), fun _ _ => cdivx (sg_ne h) (sg_lt h hd) (by omega)⟩
theorem low_eq {n d : Int} : f_law_low n d = ((RF n d).num, (RF n d).den) := by
  rw [f_law_low_eq]
  unfold o_law_low
  rw [gcd_eq]; rfl
theorem low_ok {n d : Int} {B : Nat} (h : d ≠ 0) (hn : n.natAbs < 2 ^ B) (hd : d.natAbs < 2 ^ B) (hB : B < 8000) : ok_law_low n d := by
  refine ⟨gcd_ok hn hd hB, fun g hg s hs => ?_⟩
  have e : s = sg n d := by rw [hs, hg, gcd_eq]; rfl
  rw [e]
  exact ⟨cdivx (sg_ne h) (sg_lt h hd) (by omega), cdivx (sg_ne h) (sg_lt h hd) (by omega)⟩
theorem is_eq {n d : Int} : f_law_is (RF n d) n d = true := by
  rw [f_law_is_eq]
  unfold o_law_is
  rw [low_eq]
  show (decide (pairL ((RF n d).num, (RF n d).den) = pairL ((RF n d).num, (RF n d).den))) = true
  exact decide_eq_true rfl
theorem is_ok {x : Frac} {n d : Int} {B : Nat} (h : d ≠ 0) (hn : n.natAbs < 2 ^ B) (hd : d.natAbs < 2 ^ B) (hB : B < 8000) : ok_law_is x n d := fun _ _ => low_ok h hn hd hB
theorem fdiv_x {a s : Int} (hs : s ≠ 0) (h : s ∣ a) : Int.fdiv a s * s = a := by
  obtain ⟨c, rfl⟩ := h
  rw [Int.mul_fdiv_cancel_left c hs, Int.mul_comm]
theorem rf_num {n d : Int} (h : d ≠ 0) : (RF n d).num * sg n d = n := fdiv_x (sg_ne h) sg_l
theorem rf_den {n d : Int} (h : d ≠ 0) : (RF n d).den * sg n d = d := fdiv_x (sg_ne h) sg_r
theorem pos_of {a b : Int} (h : 0 < a * b) (hb : 0 < b) : 0 < a := by
  rcases Int.lt_or_le 0 a with c | c
  · exact c
  · have := Int.mul_nonpos_of_nonpos_of_nonneg c (Int.le_of_lt hb)
    omega
theorem rf_pos {n d : Int} (h : d ≠ 0) : 0 < (RF n d).den := by
  have e := rf_den (n := n) h
  have g := gg_pos (n := n) h
  unfold sg at e
  by_cases c : d < 0
  · rw [decide_eq_true c] at e
    simp only [cond_true] at e
    rw [Int.mul_neg] at e
    exact pos_of (show 0 < (RF n d).den * gg n d by omega) g
  · rw [decide_eq_false c] at e
    simp only [cond_false] at e
    exact pos_of (show 0 < (RF n d).den * gg n d by omega) g
end G

namespace G
open PySem L2 FL
/-! operations on fractions in lowest terms -/
theorem rf_cop {n d : Int} (h : d ≠ 0) : Nat.gcd (RF n d).num.natAbs (RF n d).den.natAbs = 1 := by
  have g := gg_pos (n := n) h
  have e1 : (RF n d).num.natAbs * (gg n d).natAbs = n.natAbs := by rw [← sg_abs, ← Int.natAbs_mul, rf_num h]
  have e2 : (RF n d).den.natAbs * (gg n d).natAbs = d.natAbs := by rw [← sg_abs, ← Int.natAbs_mul, rf_den h]
  have e3 : (gg n d).natAbs = Nat.gcd n.natAbs d.natAbs := Int.natAbs_natCast _
  have e : Nat.gcd (RF n d).num.natAbs (RF n d).den.natAbs * (gg n d).natAbs = (gg n d).natAbs := by
    rw [← Nat.gcd_mul_right, e1, e2, e3]
  have gp : 0 < (gg n d).natAbs := by omega
  have : Nat.gcd (RF n d).num.natAbs (RF n d).den.natAbs * (gg n d).natAbs = 1 * (gg n d).natAbs := by rw [e, Nat.one_mul]
  exact Nat.eq_of_mul_eq_mul_right gp this
theorem uniq {x y : Frac} (hx : 0 < x.den) (hy : 0 < y.den) (cx : Nat.gcd x.num.natAbs x.den.natAbs = 1) (cy : Nat.gcd y.num.natAbs y.den.natAbs = 1) (h : x.num * y.den = y.num * x.den) : x = y := by
  have hn : x.num.natAbs * y.den.natAbs = y.num.natAbs * x.den.natAbs := by rw [← Int.natAbs_mul, h, Int.natAbs_mul]
  have d1 : x.den.natAbs ∣ y.den.natAbs := by
    have : x.den.natAbs ∣ x.num.natAbs * y.den.natAbs := by rw [hn]; exact Nat.dvd_mul_left _ _
    exact Nat.Coprime.dvd_of_dvd_mul_left (show Nat.Coprime x.den.natAbs x.num.natAbs from (Nat.gcd_comm _ _).trans cx) this
  have d2 : y.den.natAbs ∣ x.den.natAbs := by
    have : y.den.natAbs ∣ y.num.natAbs * x.den.natAbs := by rw [← hn]; exact Nat.dvd_mul_left _ _
    exact Nat.Coprime.dvd_of_dvd_mul_left (show Nat.Coprime y.den.natAbs y.num.natAbs from (Nat.gcd_comm _ _).trans cy) this
  have e := Nat.dvd_antisymm d1 d2
  have e2 : x.den = y.den := by omega
  rw [← e2] at h
  have e1 := Int.eq_of_mul_eq_mul_right (by omega) h
  cases x; cases y
  simp only at e1 e2
  rw [e1, e2]
theorem rf_eq {p q n m : Int} (hq : q ≠ 0) (hm : m ≠ 0) (h : p * m = n * q) : RF p q = RF n m := by
  refine uniq (rf_pos hq) (rf_pos hm) (rf_cop hq) (rf_cop hm) ?_
  have a1 := rf_num (n := p) hq
  have a2 := rf_den (n := p) hq
  have c1 := rf_num (n := n) hm
  have c2 := rf_den (n := n) hm
  have s1 := sg_ne (n := p) hq
  have s2 := sg_ne (n := n) hm
  generalize (RF p q).num = x at *
  generalize (RF p q).den = y at *
  generalize (RF n m).num = u at *
  generalize (RF n m).den = v at *
  generalize sg p q = s at *
  generalize sg n m = t at *
  subst a1 a2 c1 c2
  have e : (x * v) * (s * t) = (u * y) * (s * t) := by grind
  exact Int.eq_of_mul_eq_mul_right (Int.mul_ne_zero s1 s2) e
theorem rf_iff {p q n m : Int} (hq : q ≠ 0) (hm : m ≠ 0) : RF p q = RF n m ↔ p * m = n * q := by
  refine ⟨fun h => ?_, rf_eq hq hm⟩
  have a1 := rf_num (n := p) hq
  have a2 := rf_den (n := p) hq
  have c1 := rf_num (n := n) hm
  have c2 := rf_den (n := n) hm
  rw [h] at a1 a2
  generalize (RF n m).num = u at *
  generalize (RF n m).den = v at *
  generalize sg p q = s at *
  generalize sg n m = t at *
  subst a1 a2 c1 c2
  grind
section
variable {a b c d : Int}
theorem add_eq (hb : b ≠ 0) (hd : d ≠ 0) : f_Frac_add (RF a b) (RF c d) = RF (a * d + c * b) (b * d) := by
  rw [f_Frac_add_eq]
  show f_Frac_init_I ((RF a b).num * (RF c d).den + (RF c d).num * (RF a b).den) ((RF a b).den * (RF c d).den) = _
  rw [frac_eq]
  have p1 := rf_pos (n := a) hb
  have p2 := rf_pos (n := c) hd
  refine rf_eq (by have := Int.mul_pos p1 p2; omega) (Int.mul_ne_zero hb hd) ?_
  have a1 := rf_num (n := a) hb
  have a2 := rf_den (n := a) hb
  have c1 := rf_num (n := c) hd
  have c2 := rf_den (n := c) hd
  clear p1 p2
  generalize (RF a b).num = x at *
  generalize (RF a b).den = y at *
  generalize (RF c d).num = u at *
  generalize (RF c d).den = v at *
  generalize sg a b = s at *
  generalize sg c d = t at *
  subst a1 a2 c1 c2
  grind
theorem sub_eq (hb : b ≠ 0) (hd : d ≠ 0) : f_Frac_sub (RF a b) (RF c d) = RF (a * d - c * b) (b * d) := by
  rw [f_Frac_sub_eq]
  show f_Frac_init_I ((RF a b).num * (RF c d).den - (RF c d).num * (RF a b).den) ((RF a b).den * (RF c d).den) = _
  rw [frac_eq]
  have p1 := rf_pos (n := a) hb
  have p2 := rf_pos (n := c) hd
  refine rf_eq (by have := Int.mul_pos p1 p2; omega) (Int.mul_ne_zero hb hd) ?_
  have a1 := rf_num (n := a) hb
  have a2 := rf_den (n := a) hb
  have c1 := rf_num (n := c) hd
  have c2 := rf_den (n := c) hd
  clear p1 p2
  generalize (RF a b).num = x at *
  generalize (RF a b).den = y at *
  generalize (RF c d).num = u at *
  generalize (RF c d).den = v at *
  generalize sg a b = s at *
  generalize sg c d = t at *
  subst a1 a2 c1 c2
  grind
theorem mul_eq (hb : b ≠ 0) (hd : d ≠ 0) : f_Frac_mul (RF a b) (RF c d) = RF (a * c) (b * d) := by
  rw [f_Frac_mul_eq]
  show f_Frac_init_I ((RF a b).num * (RF c d).num) ((RF a b).den * (RF c d).den) = _
  rw [frac_eq]
  have p1 := rf_pos (n := a) hb
  have p2 := rf_pos (n := c) hd
  refine rf_eq (by have := Int.mul_pos p1 p2; omega) (Int.mul_ne_zero hb hd) ?_
  have a1 := rf_num (n := a) hb
  have a2 := rf_den (n := a) hb
  have c1 := rf_num (n := c) hd
  have c2 := rf_den (n := c) hd
  clear p1 p2
  generalize (RF a b).num = x at *
  generalize (RF a b).den = y at *
  generalize (RF c d).num = u at *
  generalize (RF c d).den = v at *
  generalize sg a b = s at *
  generalize sg c d = t at *
  subst a1 a2 c1 c2
  grind
theorem num0 (hd : d ≠ 0) : (RF c d).num = 0 ↔ c = 0 := by
  have e := rf_num (n := c) hd
  have s := sg_ne (n := c) hd
  constructor
  · intro h; rw [h, Int.zero_mul] at e; exact e.symm
  · intro h
    rw [h] at e s ⊢
    exact (Int.mul_eq_zero.mp e).resolve_right s
theorem div_eq (hb : b ≠ 0) (hd : d ≠ 0) (hc : c ≠ 0) : f_Frac_divided_by_C (RF a b) (RF c d) = RF (a * d) (b * c) := by
  have n0 : (RF c d).num ≠ 0 := fun h => hc ((num0 hd).mp h)
  rw [f_Frac_divided_by_C_eq]
  show f_Frac_init_I ((RF a b).num * (RF c d).den) ((RF a b).den * (RF c d).num) = _
  rw [frac_eq]
  have p1 := rf_pos (n := a) hb
  refine rf_eq (Int.mul_ne_zero (by omega) n0) (Int.mul_ne_zero hb hc) ?_
  have a1 := rf_num (n := a) hb
  have a2 := rf_den (n := a) hb
  have c1 := rf_num (n := c) hd
  have c2 := rf_den (n := c) hd
  clear p1 n0
  generalize (RF a b).num = x at *
  generalize (RF a b).den = y at *
  generalize (RF c d).num = u at *
  generalize (RF c d).den = v at *
  generalize sg a b = s at *
  generalize sg c d = t at *
  subst a1 a2 c1 c2
  grind
theorem eq_eq (hb : b ≠ 0) (hd : d ≠ 0) : f_Frac_eq (RF a b) (.obj (RF c d)) = decide (a * d = c * b) := by
  rw [f_Frac_eq_eq]
  show (true && (decide ((RF a b).num = (RF c d).num) && decide ((RF a b).den = (RF c d).den))) = _
  rw [Bool.true_and, ← Bool.decide_and]
  refine decide_eq_decide.mpr ?_
  rw [← rf_iff hb hd]
  constructor
  · intro ⟨h1, h2⟩
    cases h : RF a b; cases h' : RF c d
    rw [h, h'] at h1 h2
    simp only at h1 h2
    rw [h1, h2]
  · intro h; rw [h]; exact ⟨rfl, rfl⟩
theorem sgn_mul {s : Int} (hs : s ≠ 0) : s * (bif decide (s < 0) then -1 else 1) = ((s.natAbs : Nat) : Int) := by
  by_cases c : s < 0
  · rw [decide_eq_true c]; simp only [cond_true]; omega
  · rw [decide_eq_false c]; simp only [cond_false]; omega
theorem below_eq (hb : b ≠ 0) (hd : d ≠ 0) : f_Frac_is_below (RF a b) (RF c d) = decide (a * d * (bif decide (b * d < 0) then -1 else 1) < c * b * (bif decide (b * d < 0) then -1 else 1)) := by
  rw [f_Frac_is_below_eq]
  show decide ((RF a b).num * (RF c d).den < (RF c d).num * (RF a b).den) = _
  have p1 := rf_pos (n := a) hb
  have p2 := rf_pos (n := c) hd
  have a1 := rf_num (n := a) hb
  have a2 := rf_den (n := a) hb
  have c1 := rf_num (n := c) hd
  have c2 := rf_den (n := c) hd
  have s1 := sg_ne (n := a) hb
  have s2 := sg_ne (n := c) hd
  generalize (RF a b).num = x at *
  generalize (RF a b).den = y at *
  generalize (RF c d).num = u at *
  generalize (RF c d).den = v at *
  generalize sg a b = s at *
  generalize sg c d = t at *
  subst a1 a2 c1 c2
  have yv : 0 < y * v := Int.mul_pos p1 p2
  have st : s * t ≠ 0 := Int.mul_ne_zero s1 s2
  have e0 : y * s * (v * t) = y * v * (s * t) := by grind
  have e1 : decide (y * s * (v * t) < 0) = decide (s * t < 0) := by
    refine decide_eq_decide.mpr ?_
    rw [e0]
    constructor
    · intro h
      rcases Int.lt_or_le (s * t) 0 with z | z
      · exact z
      · have := Int.mul_nonneg (Int.le_of_lt yv) z
        omega
    · intro h
      exact Int.mul_neg_of_pos_of_neg yv h
  rw [e1]
  generalize hk : (bif decide (s * t < 0) then (-1 : Int) else 1) = k
  have ek : s * t * k = (((s * t).natAbs : Nat) : Int) := by rw [← hk]; exact sgn_mul st
  have e2 : x * s * (v * t) * k = x * v * (s * t * k) := by grind
  have e3 : u * t * (y * s) * k = u * y * (s * t * k) := by grind
  rw [e2, e3, ek]
  have pp : (0 : Int) < (((s * t).natAbs : Nat) : Int) := by omega
  exact decide_eq_decide.mpr (Int.mul_lt_mul_right pp).symm
end
/-! bounds -/
theorem rf_lt {n d : Int} {B : Nat} (h : d ≠ 0) (hn : n.natAbs < 2 ^ B) (hd : d.natAbs < 2 ^ B) : (RF n d).num.natAbs < 2 ^ B ∧ (RF n d).den.natAbs < 2 ^ B := by
  have s := sg_ne (n := n) h
  have e1 : (RF n d).num.natAbs * (sg n d).natAbs = n.natAbs := by rw [← Int.natAbs_mul, rf_num h]
  have e2 : (RF n d).den.natAbs * (sg n d).natAbs = d.natAbs := by rw [← Int.natAbs_mul, rf_den h]
  have p : 0 < (sg n d).natAbs := by omega
  have l1 := Nat.le_mul_of_pos_right (RF n d).num.natAbs p
  have l2 := Nat.le_mul_of_pos_right (RF n d).den.natAbs p
  omega
theorem mul_lt {a b : Int} {A B : Nat} (ha : a.natAbs < 2 ^ A) (hb : b.natAbs < 2 ^ B) : (a * b).natAbs < 2 ^ (A + B) := by
  rw [Int.natAbs_mul, Nat.pow_add]
  exact Nat.mul_lt_mul'' ha hb
theorem add_lt {a b : Int} {A : Nat} (ha : a.natAbs < 2 ^ A) (hb : b.natAbs < 2 ^ A) : (a + b).natAbs < 2 ^ (A + 1) ∧ (a - b).natAbs < 2 ^ (A + 1) := by
  rw [Nat.pow_succ]
  omega
end G

namespace G
open PySem L2 FL
theorem get_lt {α γ : Type} {P : γ → Prop} {a : α} {f : α → Out Empty Empty γ} (h : ∀ x, x = a → P (f x).get) : P ((lt a f).get) := h a rfl
theorem get_bif {γ : Type} {P : γ → Prop} {c : Bool} {x y : Out Empty Empty γ} (h1 : c = true → P x.get) (h2 : c = false → P y.get) : P ((bif c then x else y).get) := by
  cases c with
  | false => exact h2 rfl
  | true => exact h1 rfl
theorem get_ff {γ : Type} {P : γ → Prop} {c : Bool} {a b : Out Empty Empty γ} (hc : c = false) (h : P b.get) : P (bif c then a else b).get := by subst hc; exact h
theorem p_lt {α β : Type} {P : β → Prop} {a : α} {f : α → β} (h : ∀ x, x = a → P (f x)) : P (lt a f) := h a rfl
theorem p_bif {β : Type} {P : β → Prop} {c : Bool} {x y : β} (h1 : c = true → P x) (h2 : c = false → P y) : P (bif c then x else y) := by
  cases c with
  | false => exact h2 rfl
  | true => exact h1 rfl
/-! kinds of values -/
abbrev PF := Py Frac
def sok (s : Str) : Prop := PyData.canLay0 (.str s) = true
def At : PF → Prop
  | .lst _ => False
  | .tup _ => False
  | .str s => sok s
  | _ => True
def Dk : Nat → PF → Prop
  | 0, v => At v
  | k + 1, .lst l => ∀ x ∈ l, Dk k x
  | k + 1, .tup l => ∀ x ∈ l, Dk k x
  | _ + 1, v => At v
/-- plain, can be told, of a depth -/
def Lp (m : Nat) (v : PF) : Prop := Py.pl v = true ∧ (Py.pd v).canLay0 = true ∧ (Py.pd v).depth ≤ m
def LpL (m : Nat) (l : List PF) : Prop := Py.pls l = true ∧ PyData.canLayAll0 (Py.pds l) = true ∧ PyData.depthAll (Py.pds l) ≤ m
theorem lpl {m : Nat} : ∀ {l : List PF}, (∀ x ∈ l, Lp m x) → LpL m l
  | [], _ => ⟨by rw [Py.pls], by rw [Py.pds, PyData.canLayAll0], by rw [Py.pds, PyData.depthAll]; exact Nat.zero_le _⟩
  | x :: l, h => by
    obtain ⟨a1, a2, a3⟩ := h x (by simp)
    obtain ⟨b1, b2, b3⟩ := lpl (l := l) fun y hy => h y (by simp [hy])
    exact ⟨by rw [Py.pls, a1, b1]; rfl, by rw [Py.pds, PyData.canLayAll0, a2, b2]; rfl, by rw [Py.pds, PyData.depthAll]; exact Nat.max_le.mpr ⟨a3, b3⟩⟩
theorem lp_lst {m : Nat} {l : List PF} (h : ∀ x ∈ l, Lp m x) : Lp (m + 1) (.lst l) := by
  obtain ⟨a, b, c⟩ := lpl h
  exact ⟨by rw [Py.pl]; exact a, by rw [Py.pd, PyData.canLay0]; exact b, by rw [Py.pd, PyData.depth]; omega⟩
theorem lp_tup {m : Nat} {l : List PF} (h : ∀ x ∈ l, Lp m x) : Lp (m + 1) (.tup l) := by
  obtain ⟨a, b, c⟩ := lpl h
  exact ⟨by rw [Py.pl]; exact a, by rw [Py.pd, PyData.canLay0]; exact b, by rw [Py.pd, PyData.depth]; omega⟩
theorem lp_int {m : Nat} (i : Int) : Lp m (.int i) := ⟨by rw [Py.pl], by rw [Py.pd, PyData.canLay0], by rw [Py.pd, PyData.depth]; exact Nat.zero_le _⟩
theorem lp_bl {m : Nat} (b : Bool) : Lp m (.bl b) := ⟨by rw [Py.pl], by rw [Py.pd, PyData.canLay0], by rw [Py.pd, PyData.depth]; exact Nat.zero_le _⟩
theorem lp_str {m : Nat} {s : Str} (h : sok s) : Lp m (.str s) := ⟨by rw [Py.pl], by rw [Py.pd]; exact h, by rw [Py.pd, PyData.depth]; exact Nat.zero_le _⟩
theorem Lp.shp {m : Nat} {v : PF} (h : Lp m v) (hm : m ≤ 64) : v.shp = true := by
  unfold Py.shp PySem.SeqAt.shaped
  rw [h.1, h.2.1, decide_eq_true (by have := h.2.2; omega)]; rfl
theorem Lp.eqv {m : Nat} {v : PF} (h : Lp m v) : v.eqv v = true := by
  unfold Py.eqv
  exact PySem.SeqAt.eqv_refl _ h.2.1
theorem cut_mem {l : List PF} {x : PF} (h : x ∈ cutL l none (some 3)) : x ∈ l := by
  unfold cutL at h
  exact List.mem_of_mem_drop (List.mem_of_mem_take h)
theorem s1 : sok "fraction" := by unfold sok PyData.canLay0; decide +kernel
theorem s2 : sok "truth" := by unfold sok PyData.canLay0; decide +kernel
theorem s3 : sok "integer" := by unfold sok PyData.canLay0; decide +kernel
theorem s4 : sok "string" := by unfold sok PyData.canLay0; decide +kernel
theorem s5 : sok "none" := by unfold sok PyData.canLay0; decide +kernel
theorem s6 : sok "list" := by unfold sok PyData.canLay0; decide +kernel
theorem s7 : sok "tuple" := by unfold sok PyData.canLay0; decide +kernel
theorem s0 : sok "" := by unfold sok PyData.canLay0; decide +kernel
theorem two {P : PF → Prop} {a b : PF} (ha : P a) (hb : P b) : ∀ x ∈ [a, b], P x := fun x hx => by
  rcases List.mem_cons.mp hx with e | hx
  · exact e ▸ ha
  · rw [List.mem_singleton.mp hx]; exact hb
theorem one1 {P : PF → Prop} {a : PF} (ha : P a) : ∀ x ∈ [a], P x := fun x hx => by rw [List.mem_singleton.mp hx]; exact ha
theorem three {P : PF → Prop} {a b c : PF} (ha : P a) (hb : P b) (hc : P c) : ∀ x ∈ [a, b, c], P x := fun x hx => by
  rcases List.mem_cons.mp hx with e | hx
  · exact e ▸ ha
  · exact two hb hc x hx
theorem kind0 {v : PF} (h : Dk 0 v) : ok_law_kind_0 v ∧ Lp 1 (.tup (f_law_kind_0 v)) := by
  have no : ∀ {P : Prop}, (false = true) → P := fun h => (by cases h)
  have no2 : ∀ {P : Prop}, (true = false) → P := fun h => (by cases h)
  rw [f_law_kind_0_eq]
  cases v with
  | non => exact ⟨⟨fun h => no h, fun _ _ _ _ hn => no2 hn⟩, lp_tup (one1 (lp_str s5))⟩
  | bl b => exact ⟨⟨fun h => no h, fun _ h => no2 h⟩, lp_tup (two (lp_str s2) (lp_bl b))⟩
  | int i => exact ⟨⟨fun h => no h, fun _ _ h => no2 h⟩, lp_tup (two (lp_str s3) (lp_int i))⟩
  | str s => exact ⟨⟨fun h => no h, fun _ _ _ h => no2 h⟩, lp_tup (two (lp_str s4) (lp_str (show sok s from h)))⟩
  | obj x => exact ⟨⟨fun _ => ⟨rfl, rfl⟩, fun h => no2 h⟩, lp_tup (three (lp_str s1) (lp_int _) (lp_int _))⟩
  | lst l => exact (show False from h).elim
  | tup l => exact (show False from h).elim
theorem kind1 {v : PF} (h : Dk 1 v) : ok_law_kind_1 v ∧ Lp 3 (.tup (f_law_kind_1 v)) := by
  have no : ∀ {P : Prop}, (false = true) → P := fun h => (by cases h)
  have no2 : ∀ {P : Prop}, (true = false) → P := fun h => (by cases h)
  rw [f_law_kind_1_eq]
  cases v with
  | non => exact ⟨⟨fun h => no h, fun _ _ _ _ hn => no2 hn⟩, lp_tup (one1 (lp_str s5))⟩
  | bl b => exact ⟨⟨fun h => no h, fun _ h => no2 h⟩, lp_tup (two (lp_str s2) (lp_bl b))⟩
  | int i => exact ⟨⟨fun h => no h, fun _ _ h => no2 h⟩, lp_tup (two (lp_str s3) (lp_int i))⟩
  | str s => exact ⟨⟨fun h => no h, fun _ _ _ h => no2 h⟩, lp_tup (two (lp_str s4) (lp_str (show sok s from h)))⟩
  | obj x => exact ⟨⟨fun _ => ⟨rfl, rfl⟩, fun h => no2 h⟩, lp_tup (three (lp_str s1) (lp_int _) (lp_int _))⟩
  | lst l =>
    have h : ∀ x ∈ l, Dk 0 x := h
    refine ⟨⟨fun h => no h, fun _ _ _ _ _ => ⟨fun _ => ⟨rfl, rfl, fun x hx => (kind0 (h x (cut_mem hx))).1, rfl⟩, fun h => no2 h⟩⟩, ?_⟩
    show Lp 3 (.tup [.str "list", .lst ((cutL l none (some 3)).map fun x => Py.tup (f_law_kind_0 x)), .int _])
    refine lp_tup (three (lp_str s6) (lp_lst fun y hy => ?_) (lp_int _))
    obtain ⟨x, hx, rfl⟩ := List.mem_map.mp hy
    exact (kind0 (h x (cut_mem hx))).2
  | tup l =>
    have h : ∀ x ∈ l, Dk 0 x := h
    refine ⟨⟨fun h => no h, fun _ _ _ _ _ => ⟨fun h => no h, fun _ _ => ⟨rfl, rfl, fun x hx => (kind0 (h x (cut_mem hx))).1, rfl⟩⟩⟩, ?_⟩
    show Lp 3 (.tup [.str "tuple", .lst ((cutL l none (some 3)).map fun x => Py.tup (f_law_kind_0 x)), .int _])
    refine lp_tup (three (lp_str s7) (lp_lst fun y hy => ?_) (lp_int _))
    obtain ⟨x, hx, rfl⟩ := List.mem_map.mp hy
    exact (kind0 (h x (cut_mem hx))).2
theorem kind2 {v : PF} (h : Dk 2 v) : ok_law_kind_2 v ∧ Lp 5 (.tup (f_law_kind_2 v)) := by
  have no : ∀ {P : Prop}, (false = true) → P := fun h => (by cases h)
  have no2 : ∀ {P : Prop}, (true = false) → P := fun h => (by cases h)
  rw [f_law_kind_2_eq]
  cases v with
  | non => exact ⟨⟨fun h => no h, fun _ _ _ _ hn => no2 hn⟩, lp_tup (one1 (lp_str s5))⟩
  | bl b => exact ⟨⟨fun h => no h, fun _ h => no2 h⟩, lp_tup (two (lp_str s2) (lp_bl b))⟩
  | int i => exact ⟨⟨fun h => no h, fun _ _ h => no2 h⟩, lp_tup (two (lp_str s3) (lp_int i))⟩
  | str s => exact ⟨⟨fun h => no h, fun _ _ _ h => no2 h⟩, lp_tup (two (lp_str s4) (lp_str (show sok s from h)))⟩
  | obj x => exact ⟨⟨fun _ => ⟨rfl, rfl⟩, fun h => no2 h⟩, lp_tup (three (lp_str s1) (lp_int _) (lp_int _))⟩
  | lst l =>
    have h : ∀ x ∈ l, Dk 1 x := h
    refine ⟨⟨fun h => no h, fun _ _ _ _ _ => ⟨fun _ => ⟨rfl, rfl, fun x hx => (kind1 (h x (cut_mem hx))).1, rfl⟩, fun h => no2 h⟩⟩, ?_⟩
    show Lp 5 (.tup [.str "list", .lst ((cutL l none (some 3)).map fun x => Py.tup (f_law_kind_1 x)), .int _])
    refine lp_tup (three (lp_str s6) (lp_lst fun y hy => ?_) (lp_int _))
    obtain ⟨x, hx, rfl⟩ := List.mem_map.mp hy
    exact (kind1 (h x (cut_mem hx))).2
  | tup l =>
    have h : ∀ x ∈ l, Dk 1 x := h
    refine ⟨⟨fun h => no h, fun _ _ _ _ _ => ⟨fun h => no h, fun _ _ => ⟨rfl, rfl, fun x hx => (kind1 (h x (cut_mem hx))).1, rfl⟩⟩⟩, ?_⟩
    show Lp 5 (.tup [.str "tuple", .lst ((cutL l none (some 3)).map fun x => Py.tup (f_law_kind_1 x)), .int _])
    refine lp_tup (three (lp_str s7) (lp_lst fun y hy => ?_) (lp_int _))
    obtain ⟨x, hx, rfl⟩ := List.mem_map.mp hy
    exact (kind1 (h x (cut_mem hx))).2
theorem kind3 {v : PF} (h : Dk 3 v) : ok_law_kind_3 v ∧ Lp 7 (.tup (f_law_kind_3 v)) := by
  have no : ∀ {P : Prop}, (false = true) → P := fun h => (by cases h)
  have no2 : ∀ {P : Prop}, (true = false) → P := fun h => (by cases h)
  rw [f_law_kind_3_eq]
  cases v with
  | non => exact ⟨⟨fun h => no h, fun _ _ _ _ hn => no2 hn⟩, lp_tup (one1 (lp_str s5))⟩
  | bl b => exact ⟨⟨fun h => no h, fun _ h => no2 h⟩, lp_tup (two (lp_str s2) (lp_bl b))⟩
  | int i => exact ⟨⟨fun h => no h, fun _ _ h => no2 h⟩, lp_tup (two (lp_str s3) (lp_int i))⟩
  | str s => exact ⟨⟨fun h => no h, fun _ _ _ h => no2 h⟩, lp_tup (two (lp_str s4) (lp_str (show sok s from h)))⟩
  | obj x => exact ⟨⟨fun _ => ⟨rfl, rfl⟩, fun h => no2 h⟩, lp_tup (three (lp_str s1) (lp_int _) (lp_int _))⟩
  | lst l =>
    have h : ∀ x ∈ l, Dk 2 x := h
    refine ⟨⟨fun h => no h, fun _ _ _ _ _ => ⟨fun _ => ⟨rfl, rfl, fun x hx => (kind2 (h x (cut_mem hx))).1, rfl⟩, fun h => no2 h⟩⟩, ?_⟩
    show Lp 7 (.tup [.str "list", .lst ((cutL l none (some 3)).map fun x => Py.tup (f_law_kind_2 x)), .int _])
    refine lp_tup (three (lp_str s6) (lp_lst fun y hy => ?_) (lp_int _))
    obtain ⟨x, hx, rfl⟩ := List.mem_map.mp hy
    exact (kind2 (h x (cut_mem hx))).2
  | tup l =>
    have h : ∀ x ∈ l, Dk 2 x := h
    refine ⟨⟨fun h => no h, fun _ _ _ _ _ => ⟨fun h => no h, fun _ _ => ⟨rfl, rfl, fun x hx => (kind2 (h x (cut_mem hx))).1, rfl⟩⟩⟩, ?_⟩
    show Lp 7 (.tup [.str "tuple", .lst ((cutL l none (some 3)).map fun x => Py.tup (f_law_kind_2 x)), .int _])
    refine lp_tup (three (lp_str s7) (lp_lst fun y hy => ?_) (lp_int _))
    obtain ⟨x, hx, rfl⟩ := List.mem_map.mp hy
    exact (kind2 (h x (cut_mem hx))).2
/-! what is refused -/
theorem int_D (d : PF) : f_is_integer_D d = d.isI := by rw [f_is_integer_D_eq]; cases d <;> rfl
def Bad (num den : PF) : Prop := num.isI = false ∨ den.isI = false ∨ den.i = 0
theorem bad_r {num den : PF} (h : Bad num den) : r_Frac_init_D num den = some (.tup [num, den]) := by
  show (bif ((!(f_is_integer_D num)) || ((!(f_is_integer_D den)) || (decide (den.i = 0)))) then some (Py.tup [num, den]) else none) = _
  rw [int_D, int_D]
  have : ((!num.isI) || ((!den.isI) || (decide (den.i = 0)))) = true := by
    rcases h with h | h | h
    · rw [h]; rfl
    · rw [h]; cases num.isI <;> rfl
    · rw [decide_eq_true h]; cases num.isI <;> cases den.isI <;> rfl
  rw [this]; rfl
theorem bad_x {num den : PF} : okx_Frac_init_D num den := fun _ h => by
  rw [int_D] at h
  cases e : den.isI
  · rw [e] at h; cases h
  · rfl
def Ref (num den : PF) (shape : Int) : Prop := Dk 2 num ∧ Dk 2 den ∧ ((shape = 0 ∨ shape = 1) → Bad num den) ∧ (shape ≠ 0 → shape ≠ 1 → num.isI = false)
theorem dk_int {k : Nat} (i : Int) : Dk k (.int i) := by cases k <;> exact trivial
theorem ref_go {num den : PF} {shape : Int} (h : Ref num den shape) : ok_law_refused num den shape ∧ f_law_refused num den shape = true := by
  obtain ⟨h1, h2, h3, h4⟩ := h
  have D1 : Dk 3 (.tup [num, den]) := two (P := Dk 2) h1 h2
  have D2 : Dk 3 (.tup [num, .int 1]) := two (P := Dk 2) h1 (dk_int 1)
  have K1 := kind3 D1
  have K2 := kind3 D2
  have b2 : shape ≠ 0 → shape ≠ 1 → Bad num (.int 1) := fun a b => .inl (h4 a b)
  have key : ∀ t : List PF × PF, t = (bif decide (shape = 0) then (f_law_kind_3 (.tup [num, den]), (r_Frac_init_D num den).getD default) else (bif decide (shape = 1) then (f_law_kind_3 (.tup [num, den]), (r_Frac_init_D num den).getD default) else (f_law_kind_3 (.tup [num, .int 1]), (r_Frac_init_D num (.int 1)).getD default))) →
      ∃ x y : PF, t = (f_law_kind_3 (.tup [x, y]), .tup [x, y]) ∧ Dk 3 (.tup [x, y]) := fun t ht => by
    by_cases c0 : shape = 0
    · rw [decide_eq_true c0, bad_r (h3 (.inl c0))] at ht
      exact ⟨num, den, ht, D1⟩
    · by_cases c1 : shape = 1
      · rw [decide_eq_false c0, decide_eq_true c1, bad_r (h3 (.inr c1))] at ht
        exact ⟨num, den, ht, D1⟩
      · rw [decide_eq_false c0, decide_eq_false c1, bad_r (b2 c0 c1)] at ht
        exact ⟨num, .int 1, ht, D2⟩
  constructor
  · refine ⟨K1.1, fun due hd => ?_⟩
    subst hd
    refine ⟨fun hc => ⟨by rw [bad_r (h3 (.inl (of_decide_eq_true hc)))]; rfl, bad_x⟩, fun hc => ⟨fun hc1 => ⟨by rw [bad_r (h3 (.inr (of_decide_eq_true hc1)))]; rfl, bad_x⟩, fun hc1 => ⟨K2.1, by rw [bad_r (b2 (of_decide_eq_false hc) (of_decide_eq_false hc1))]; rfl, bad_x⟩⟩, fun t ht => ?_⟩
    obtain ⟨x, y, e, D⟩ := key t ht
    subst e
    have K := kind3 D
    exact fun _ => ⟨rfl, fun _ => ⟨K.1, K.2.shp (by decide), K.2.shp (by decide)⟩⟩
  · rw [f_law_refused_eq]
    unfold o_law_refused
    refine get_lt (P := fun r => r = true) fun due hd => get_lt (P := fun r => r = true) fun t ht => ?_
    subst hd
    obtain ⟨x, y, e, D⟩ := key t ht
    subst e
    have K := kind3 D
    show (true && (decide (((2 : Nat) : Int) = 2) && (Py.tup (f_law_kind_3 (.tup [x, y])) : PF).eqv (.tup (f_law_kind_3 (.tup [x, y]))))) = true
    rw [K.2.eqv]; rfl
def ND (d : PF) : Prop := Dk 3 d ∧ (d.isO = false ∨ d.o.num = 0)
theorem nd_r {x : Frac} {d : PF} (h : ND d) : r_Frac_divided_by_D x d = some d := by
  show (bif ((!(d.sel false false false false true false false)) || (decide (d.o.num = 0))) then some d else none) = _
  have : ((!(d.sel false false false false true false false)) || (decide (d.o.num = 0))) = true := by
    rcases h.2 with h | h
    · rw [show d.sel false false false false true false false = false from h]; rfl
    · rw [decide_eq_true h, Bool.or_true]
  rw [this]; rfl
theorem nd_go {x : Frac} {d : PF} (h : ND d) : ok_law_not_divided x d ∧ f_law_not_divided x d = true := by
  have K := kind3 h.1
  constructor
  · refine ⟨K.1, fun due hd => ⟨by rw [nd_r h]; rfl, fun hb => ?_, fun t ht => ?_⟩⟩
    · show d.isO = true
      cases e : d.sel false false false false true false false
      · rw [e] at hb; cases hb
      · exact e
    · rw [nd_r h] at ht
      have ht : t = d := ht
      subst ht; subst hd
      exact ⟨K.1, K.2.shp (by decide), K.2.shp (by decide)⟩
  · rw [f_law_not_divided_eq]
    unfold o_law_not_divided
    rw [nd_r h]
    show (Py.tup (f_law_kind_3 d) : PF).eqv (.tup (f_law_kind_3 d)) = true
    exact K.2.eqv
end G

namespace G
open PySem L2 FL
/-! the numbers that the law draws -/
def Nb (B : Nat) (n : Int) : Prop := n.natAbs < 2 ^ B
theorem Nb.mono {A B : Nat} {n : Int} (h : Nb A n) (hab : A ≤ B) : Nb B n := Nat.lt_of_lt_of_le h (Nat.pow_le_pow_right (by decide) hab)
theorem nb_small {n : Int} (h0 : 0 ≤ n) (h1 : n < 131072) : Nb 17 n := by show n.natAbs < 131072; omega
theorem p40 : Nb 133 ((10 : Int) ^ ((40 : Int)).toNat) := by show ((10 : Int) ^ 40).natAbs < 2 ^ 133; decide
theorem p50 : Nb 167 ((10 : Int) ^ ((50 : Int)).toNat) := by show ((10 : Int) ^ 50).natAbs < 2 ^ 167; decide
theorem p60 : (10 : Int) ^ ((60 : Int)).toNat < 2 ^ 200 := by show (10 : Int) ^ 60 < 2 ^ 200; decide
theorem p30 : Nb 100 ((10 : Int) ^ ((30 : Int)).toNat) ∧ 0 ≤ (10 : Int) ^ ((30 : Int)).toNat := by
  constructor
  · show ((10 : Int) ^ 30).natAbs < 2 ^ 100; decide
  · show 0 ≤ (10 : Int) ^ 30; decide
theorem p40p : 0 ≤ (10 : Int) ^ ((40 : Int)).toNat := by show 0 ≤ (10 : Int) ^ 40; decide
def NI (i : Nat) (t : Int × BoxD) : Prop := 0 ≤ t.1 ∧ Nb (17 + 134 * i) t.1 ∧ BoxOk t.2
def nmF : Int × BoxD → Int → Int × BoxD := (fun (t_211 : (Int × BoxD)) (k_212 : Int) => (lt ((t_211.1 * ((10 : Int) ^ ((40 : Int)).toNat)) + (f_law_draw t_211.2 (100003 : Int)).1) fun number_218 => (number_218, (f_law_draw t_211.2 (100003 : Int)).2)))
theorem nm_step {i : Nat} {t : Int × BoxD} {k : Int} (h : NI i t) : NI (i + 1) (nmF t k) := by
  obtain ⟨h0, h1, h2⟩ := h
  have d := draw_go t.2 100003 h2 (by omega)
  have m := mul_lt h1 p40
  have m0 := Int.mul_nonneg h0 p40p
  show NI (i + 1) (t.1 * (10 : Int) ^ ((40 : Int)).toNat + (f_law_draw t.2 100003).1, (f_law_draw t.2 100003).2)
  generalize (10 : Int) ^ ((40 : Int)).toNat = P at *
  refine ⟨by show 0 ≤ _ + _; omega, ?_, d.2.2⟩
  have s : Nb (17 + 134 * i + 133) (f_law_draw t.2 100003).1 := (nb_small d.1 (by omega)).mono (by omega)
  exact Nb.mono (add_lt m s).1 (by omega)
/-- a number drawn -/
def NP (least : Int) (r : Int × BoxD) : Prop := least ≤ r.1 ∧ 0 ≤ r.1 ∧ Nb 1230 r.1 ∧ BoxOk r.2
theorem nb_max {z least : Int} (hz : 0 ≤ z) (hb : Nb 1230 z) (hl : 0 ≤ least) (hl1 : least ≤ 1) : least ≤ (if z < least then least else z) ∧ 0 ≤ (if z < least then least else z) ∧ Nb 1230 (if z < least then least else z) := by
  split
  · exact ⟨by omega, hl, (nb_small hl (by omega)).mono (by omega)⟩
  · exact ⟨by omega, hz, hb⟩
section
variable {b : BoxD} {least : Int}
theorem number_go (hb : BoxOk b) (hl : 0 ≤ least) (hl1 : least ≤ 1) : NP least (f_law_number b least) := by
  rw [f_law_number_eq]
  unfold o_law_number
  have d1 := draw_go b 7 hb (by omega)
  refine get_lt (P := NP least) fun sh e1 => get_lt (P := NP least) fun b1 e2 => get_lt (P := NP least) fun nu e3 => get_lt (P := NP least) fun b2 e4 => get_lt (P := NP least) fun z1 e5 => get_lt (P := NP least) fun z2 e6 => get_lt (P := NP least) fun z3 e7 => ?_
  have B1 : BoxOk b1 := e2 ▸ d1.2.2
  have d2 := draw_go b1 7 B1 (by omega)
  have B2 : BoxOk b2 := e4 ▸ d2.2.2
  have d3 := draw_go b2 10000 B2 (by omega)
  have Z1 : NI 0 z1 := by
    rw [e5]
    refine p_bif (fun _ => p_lt (P := fun z : Int × BoxD => NI 0 z) fun x ex => ?_) fun _ => ⟨by show 0 ≤ nu; omega, (nb_small (n := nu) (by omega) (by omega)).mono (by omega), B2⟩
    rw [ex]; exact ⟨d3.1, (nb_small d3.1 (by omega)).mono (by omega), d3.2.2⟩
  have Z2 : NI 9 z2 := by
    rw [e6]
    refine p_bif (fun _ => p_lt (P := fun z : Int × BoxD => NI 9 z) fun s es => ?_) fun _ => ⟨Z1.1, Z1.2.1.mono (by omega), Z1.2.2⟩
    have := fold_idx_all (f := nmF) (as := rng 0 9) NI (t := (z1.1, z1.2)) Z1 fun i a t _ h => nm_step h
    rw [← show s = List.foldl nmF (z1.1, z1.2) (rng 0 9) from es] at this
    exact this
  have d4 := draw_go z2.2 3 Z2.2.2 (by omega)
  have Z3 : 0 ≤ z3.1 ∧ Nb 1230 z3.1 ∧ BoxOk z3.2 := by
    rw [e7]
    refine p_bif (P := fun z : Int × BoxD => 0 ≤ z.1 ∧ Nb 1230 z.1 ∧ BoxOk z.2) (fun _ => p_lt (P := fun z : Int × BoxD => 0 ≤ z.1 ∧ Nb 1230 z.1 ∧ BoxOk z.2) fun x ex => ?_) fun _ => ⟨Z2.1, Z2.2.1.mono (by decide), Z2.2.2⟩
    have q := p30
    rw [ex]
    generalize (10 : Int) ^ ((30 : Int)).toNat = P at *
    exact ⟨by show 0 ≤ P + _; omega, Nb.mono (add_lt q.1 ((nb_small d4.1 (by omega)).mono (by decide))).1 (by decide), d4.2.2⟩
  have k := nb_max Z3.1 Z3.2.1 hl hl1
  exact ⟨k.1, k.2.1, k.2.2, Z3.2.2⟩
theorem number_ok (hb : BoxOk b) : ok_law_number b least := by
  have d1 := draw_go b 7 hb (by omega)
  refine ⟨draw_ok _ _ hb (by omega) (by omega), fun sh e1 b1 e2 => ?_⟩
  have B1 : BoxOk b1 := e2 ▸ d1.2.2
  have d2 := draw_go b1 7 B1 (by omega)
  refine ⟨draw_ok _ _ B1 (by omega) (by omega), fun nu e3 b2 e4 => ?_⟩
  have B2 : BoxOk b2 := e4 ▸ d2.2.2
  have d3 := draw_go b2 10000 B2 (by omega)
  refine ⟨fun _ => draw_ok _ _ B2 (by omega) (by omega), fun z1 e5 => ?_⟩
  have Z1 : NI 0 z1 := by
    rw [e5]
    refine p_bif (fun _ => p_lt (P := fun z : Int × BoxD => NI 0 z) fun x ex => ?_) fun _ => ⟨by show 0 ≤ nu; omega, (nb_small (n := nu) (by omega) (by omega)).mono (by omega), B2⟩
    rw [ex]; exact ⟨d3.1, (nb_small d3.1 (by omega)).mono (by omega), d3.2.2⟩
  refine ⟨fun _ i k t hi ht => ?_, fun z2 e6 _ => ?_⟩
  · have T : NI i t := by
      rw [ht]
      exact fold_idx' (f := nmF) (as := rng 0 9) NI hi Z1 fun i a t _ h => nm_step h
    have li := idx_lt hi
    rw [rng_len] at li
    have li : i < 9 := li
    exact ⟨cmulw T.2.1 p40 (by omega), draw_ok _ _ T.2.2 (by omega) (by omega)⟩
  · have Z2 : NI 9 z2 := by
      rw [e6]
      refine p_bif (fun _ => p_lt (P := fun z : Int × BoxD => NI 9 z) fun s es => ?_) fun _ => ⟨Z1.1, Z1.2.1.mono (by omega), Z1.2.2⟩
      have := fold_idx_all (f := nmF) (as := rng 0 9) NI (t := (z1.1, z1.2)) Z1 fun i a t _ h => nm_step h
      rw [← show s = List.foldl nmF (z1.1, z1.2) (rng 0 9) from es] at this
      exact this
    exact draw_ok _ _ Z2.2.2 (by omega) (by omega)
theorem signed_go {n : Int} (hb : BoxOk b) : ((f_law_signed b n).1 = n ∨ (f_law_signed b n).1 = -n) ∧ BoxOk (f_law_signed b n).2 := by
  rw [f_law_signed_eq]
  unfold o_law_signed
  have d := draw_go b 3 hb (by omega)
  exact get_bif (P := fun r : Int × BoxD => (r.1 = n ∨ r.1 = -n) ∧ BoxOk r.2) (fun _ => ⟨.inr rfl, d.2.2⟩) fun _ => ⟨.inl rfl, d.2.2⟩
/-- a fraction's two numbers -/
def TT (B : Nat) (p : Int × Int) : Prop := Nb B p.1 ∧ Nb B p.2 ∧ p.2 ≠ 0
def TP (B : Nat) (r : (Int × Int) × BoxD) : Prop := TT B r.1 ∧ BoxOk r.2
theorem nb_or {B : Nat} {n m : Int} (h : m = n ∨ m = -n) (hb : Nb B n) : Nb B m := by
  rcases h with h | h
  · rw [h]; exact hb
  · rw [h]; show (-n).natAbs < _; rw [Int.natAbs_neg]; exact hb
theorem terms_go (hb : BoxOk b) : TP 1235 (f_law_terms b) ∧ ok_law_terms b := by
  have d1 := draw_go b 12 hb (by omega)
  have fb : Nb 4 (1 + (f_law_draw b 12).1) := by show (_ : Int).natAbs < 16; omega
  have st : ∀ {b1 : BoxD} {l : Int}, BoxOk b1 → 0 ≤ l → l ≤ 1 → (∀ f : Int, f = 1 + (f_law_draw b 12).1 → Nb 1235 (f_law_signed (f_law_number b1 l).2 ((f_law_number b1 l).1 * f)).1 ∧ (l = 1 → (f_law_signed (f_law_number b1 l).2 ((f_law_number b1 l).1 * f)).1 ≠ 0) ∧ BoxOk (f_law_signed (f_law_number b1 l).2 ((f_law_number b1 l).1 * f)).2 ∧ (ok_law_number b1 l ∧ CMulW (f_law_number b1 l).1 f ∧ ok_law_signed (f_law_number b1 l).2 ((f_law_number b1 l).1 * f))) := fun {b1 l} B1 hl hl1 f hf => by
    obtain ⟨n1, n2, n3, n4⟩ := number_go B1 hl hl1
    have fb' : Nb 4 f := hf ▸ fb
    have m : Nb 1235 ((f_law_number b1 l).1 * f) := Nb.mono (mul_lt n3 fb') (by decide)
    have s := signed_go (n := (f_law_number b1 l).1 * f) n4
    refine ⟨nb_or s.1 m, fun l1 => ?_, s.2, number_ok B1, cmulw n3 fb' (by decide), draw_ok _ _ n4 (by omega) (by omega)⟩
    have : (f_law_number b1 l).1 * f ≠ 0 := Int.mul_ne_zero (by omega) (by omega)
    rcases s.1 with e | e <;> rw [e] <;> omega
  constructor
  · rw [f_law_terms_eq]
    unfold o_law_terms
    refine get_lt (P := TP 1235) fun f e1 => get_lt (P := TP 1235) fun b1 e2 => get_lt (P := TP 1235) fun nu e3 => get_lt (P := TP 1235) fun b2 e4 => get_lt (P := TP 1235) fun de e5 => get_lt (P := TP 1235) fun b3 e6 => ?_
    have S1 := st (b1 := b1) (l := 0) (e2 ▸ d1.2.2) (by omega) (by omega) f e1
    have S2 := st (b1 := b2) (l := 1) (e4 ▸ S1.2.2.1) (by omega) (by omega) f e1
    exact ⟨⟨e3 ▸ S1.1, e5 ▸ S2.1, e5 ▸ S2.2.1 rfl⟩, e6 ▸ S2.2.2.1⟩
  · refine ⟨draw_ok _ _ hb (by omega) (by omega), fun f e1 b1 e2 => ?_⟩
    have S1 := st (b1 := b1) (l := 0) (e2 ▸ d1.2.2) (by omega) (by omega) f e1
    refine ⟨S1.2.2.2.1, S1.2.2.2.2.1, S1.2.2.2.2.2, fun nu _ b2 e4 => ?_⟩
    have S2 := st (b1 := b2) (l := 1) (e4 ▸ S1.2.2.1) (by omega) (by omega) f e1
    exact ⟨S2.2.2.2.1, S2.2.2.2.2.1, S2.2.2.2.2.2⟩
theorem TT.mono {A B : Nat} {p : Int × Int} (h : TT A p) (hab : A ≤ B) : TT B p := ⟨h.1.mono hab, h.2.1.mono hab, h.2.2⟩
theorem nb_abs {n : Int} (h : (if n < 0 then -n else n) < (10 : Int) ^ ((60 : Int)).toNat) : Nb 200 n := by
  have q := p60
  generalize (10 : Int) ^ ((60 : Int)).toNat = P at *
  show n.natAbs < 2 ^ 200
  have e : ((2 ^ 200 : Nat) : Int) = (2 : Int) ^ 200 := by decide
  split at h <;> omega
theorem second_go {p : Int × Int} (hb : BoxOk b) (hp : TT 1235 p) : TP 1240 (f_law_second b p) ∧ ok_law_second b p := by
  obtain ⟨h1, h2, h3⟩ := hp
  have d1 := draw_go b 6 hb (by omega)
  have cond : ∀ {sh : Int}, (decide (sh = 3) && (decide ((if p.1 < 0 then -p.1 else p.1) < (10 : Int) ^ ((60 : Int)).toNat) && decide ((if p.2 < 0 then -p.2 else p.2) < (10 : Int) ^ ((60 : Int)).toNat))) = true → Nb 200 p.1 ∧ Nb 200 p.2 := fun {sh} h => by
    rw [Bool.and_eq_true, Bool.and_eq_true] at h
    exact ⟨nb_abs (of_decide_eq_true h.2.1), nb_abs (of_decide_eq_true h.2.2)⟩
  have n3 : Nb 2 (3 : Int) := by show (3 : Int).natAbs < 4; decide
  constructor
  · rw [f_law_second_eq]
    unfold o_law_second
    refine get_lt (P := TP 1240) fun sh e1 => get_lt (P := TP 1240) fun b1 e2 => ?_
    have B1 : BoxOk b1 := e2 ▸ d1.2.2
    have d2 := draw_go b1 2 B1 (by omega)
    refine get_bif (P := TP 1240) (fun _ => ⟨⟨Nb.mono (mul_lt h1 n3) (by decide), Nb.mono (mul_lt h2 n3) (by decide), Int.mul_ne_zero h3 (by decide)⟩, B1⟩) fun _ =>
      get_bif (P := TP 1240) (fun _ => ⟨⟨h1.mono (by decide), nb_or (.inr rfl) (h2.mono (by decide)), by show -p.2 ≠ 0; omega⟩, B1⟩) fun _ =>
      get_bif (P := TP 1240) (fun _ => ⟨⟨(nb_small (n := 0) (by decide) (by decide)).mono (by decide), (nb_small (n := 5) (by decide) (by decide)).mono (by decide), by show (5 : Int) ≠ 0; decide⟩, B1⟩) fun _ =>
      get_bif (P := TP 1240) (fun hc => ?_) fun _ => ⟨(terms_go B1).1.1.mono (by decide), (terms_go B1).1.2⟩
    obtain ⟨c1, c2⟩ := cond hc
    have q := p50
    have q0 : (10 : Int) ^ ((50 : Int)).toNat ≠ 0 := by show (10 : Int) ^ 50 ≠ 0; decide
    have m1 := mul_lt c1 q
    have m2 := mul_lt c2 q
    have z2 := Int.mul_ne_zero h3 q0
    show TP 1240 ((p.1 * (10 : Int) ^ ((50 : Int)).toNat + 1 - 2 * (f_law_draw b1 2).1, p.2 * (10 : Int) ^ ((50 : Int)).toNat), (f_law_draw b1 2).2)
    generalize (10 : Int) ^ ((50 : Int)).toNat = P at *
    refine ⟨⟨?_, Nb.mono m2 (by decide), z2⟩, d2.2.2⟩
    have s : Nb 367 (1 - 2 * (f_law_draw b1 2).1) := by
      have : Nb 17 (1 - 2 * (f_law_draw b1 2).1) := by show (_ : Int).natAbs < 131072; omega
      exact this.mono (by decide)
    have e : p.1 * P + 1 - 2 * (f_law_draw b1 2).1 = p.1 * P + (1 - 2 * (f_law_draw b1 2).1) := by omega
    show Nb 1240 (p.1 * P + 1 - 2 * (f_law_draw b1 2).1)
    rw [e]
    exact Nb.mono (add_lt m1 s).1 (by decide)
  · refine ⟨draw_ok _ _ hb (by omega) (by omega), fun sh e1 b1 e2 => ?_⟩
    have B1 : BoxOk b1 := e2 ▸ d1.2.2
    refine fun _ _ _ => ⟨fun hc => ?_, fun _ => (terms_go B1).2⟩
    obtain ⟨c1, c2⟩ := cond hc
    exact ⟨cmulw c1 p50 (by decide), draw_ok _ _ B1 (by omega) (by omega), cmulw c2 p50 (by decide)⟩
end
end G

namespace G
open PySem L2 FL
/-! values that are no integer -/
theorem str100 : ∀ k : Fin 100, PyData.canLay0 (.str (strI (k.val : Int))) = true := by
  intro k
  unfold PyData.canLay0
  revert k
  decide +kernel
theorem sok100 {k : Int} (h0 : 0 ≤ k) (h1 : k < 100) : sok (strI k) := by
  have := str100 ⟨k.toNat, by omega⟩
  rwa [show (((⟨k.toNat, by omega⟩ : Fin 100).val : Nat) : Int) = k from Int.toNat_of_nonneg h0] at this
def WP (r : PF × BoxD) : Prop := Dk 2 r.1 ∧ r.1.isI = false ∧ BoxOk r.2
section
variable {b : BoxD} {p : Int × Int}
theorem wrong_go (hb : BoxOk b) (hp : TT 1240 p) : WP (f_law_wrong b p) ∧ ok_law_wrong b p := by
  have d1 := draw_go b 9 hb (by omega)
  constructor
  · rw [f_law_wrong_eq]
    unfold o_law_wrong
    refine get_lt (P := WP) fun sh e1 => get_lt (P := WP) fun b1 e2 => ?_
    have B1 : BoxOk b1 := e2 ▸ d1.2.2
    have d2 := draw_go b1 100 B1 (by omega)
    have d3 := draw_go b1 5 B1 (by omega)
    exact get_bif (P := WP) (fun _ => ⟨trivial, rfl, B1⟩) fun _ => get_bif (P := WP) (fun _ => ⟨trivial, rfl, B1⟩) fun _ => get_bif (P := WP) (fun _ => ⟨sok100 d2.1 d2.2.1, rfl, d2.2.2⟩) fun _ =>
      get_bif (P := WP) (fun _ => ⟨two (P := Dk 1) trivial (one1 (P := Dk 0) trivial), rfl, B1⟩) fun _ => get_bif (P := WP) (fun _ => ⟨two (P := Dk 1) trivial trivial, rfl, B1⟩) fun _ =>
      get_bif (P := WP) (fun _ => ⟨trivial, rfl, d3.2.2⟩) fun _ => get_bif (P := WP) (fun _ => ⟨trivial, rfl, B1⟩) fun _ => ⟨s0, rfl, B1⟩
  · refine ⟨draw_ok _ _ hb (by omega) (by omega), fun sh e1 b1 e2 => ?_⟩
    have B1 : BoxOk b1 := e2 ▸ d1.2.2
    have d2 := draw_go b1 100 B1 (by omega)
    refine fun _ _ => ⟨fun _ => ⟨draw_ok _ _ B1 (by omega) (by omega), ?_⟩, fun _ _ _ => ⟨fun _ => ⟨draw_ok _ _ B1 (by omega) (by omega), frac_ok (B := 17) (by decide) (by decide) (by decide)⟩, fun _ _ => frac_ok (B := 1240) hp.2.2 hp.2.1 (by decide)⟩⟩
    have : (f_law_draw b1 100).1.natAbs < 2 ^ 7 := by show _ < 128; omega
    have := lg this
    omega
theorem bad_go (hb : BoxOk b) (hp : TT 1240 p) : (BoxOk (f_law_bad b p).2 ∧ (f_law_bad b p).1 = true) ∧ ok_law_bad b p := by
  obtain ⟨⟨w1, w2, w3⟩, w4⟩ := wrong_go hb hp
  have di : ∀ i : Int, Dk 2 (.int i) := fun i => trivial
  have R0 : ∀ sh : Int, Ref (f_law_wrong b p).1 (.int p.2) sh := fun sh => ⟨w1, di _, fun _ => .inl w2, fun _ _ => w2⟩
  have R1 : ∀ sh : Int, 0 ≤ sh → sh < 2 → Ref (.int p.1) (f_law_wrong b p).1 sh := fun sh a c => ⟨di _, w1, fun _ => .inr (.inl w2), fun x y => by omega⟩
  have R2 : ∀ sh : Int, 0 ≤ sh → sh < 2 → Ref (.int p.1) (.int 0) sh := fun sh a c => ⟨di _, di _, fun _ => .inr (.inr rfl), fun x y => by omega⟩
  have R3 : ∀ sh : Int, Ref (f_law_wrong b p).1 (.int 0) sh := fun sh => ⟨w1, di _, fun _ => .inl w2, fun _ _ => w2⟩
  constructor
  · rw [f_law_bad_eq]
    unfold o_law_bad
    refine get_lt (P := fun r : Bool × BoxD => BoxOk r.2 ∧ r.1 = true) fun w ew => get_lt (P := fun r : Bool × BoxD => BoxOk r.2 ∧ r.1 = true) fun b1 e1 => get_lt (P := fun r : Bool × BoxD => BoxOk r.2 ∧ r.1 = true) fun sh es => get_lt (P := fun r : Bool × BoxD => BoxOk r.2 ∧ r.1 = true) fun b2 e2 => ?_
    subst ew
    have d1 := draw_go b1 4 (e1 ▸ w3) (by omega)
    have B2 : BoxOk b2 := e2 ▸ d1.2.2
    have d2 := draw_go b2 3 B2 (by omega)
    have d3 := draw_go b2 2 B2 (by omega)
    exact get_bif (P := fun r : Bool × BoxD => BoxOk r.2 ∧ r.1 = true) (fun _ => ⟨d2.2.2, (ref_go (R0 _)).2⟩) fun _ => get_bif (P := fun r : Bool × BoxD => BoxOk r.2 ∧ r.1 = true) (fun _ => ⟨d3.2.2, (ref_go (R1 _ d3.1 d3.2.1)).2⟩) fun _ =>
      get_bif (P := fun r : Bool × BoxD => BoxOk r.2 ∧ r.1 = true) (fun _ => ⟨d3.2.2, (ref_go (R2 _ d3.1 d3.2.1)).2⟩) fun _ => ⟨d3.2.2, (ref_go (R3 _)).2⟩
  · refine ⟨w4, fun w ew b1 e1 => ?_⟩
    subst ew
    have B1 : BoxOk b1 := e1 ▸ w3
    refine ⟨draw_ok _ _ B1 (by omega) (by omega), fun sh es b2 e2 => ?_⟩
    have d1 := draw_go b1 4 B1 (by omega)
    have B2 : BoxOk b2 := e2 ▸ d1.2.2
    have d3 := draw_go b2 2 B2 (by omega)
    exact ⟨fun _ => ⟨draw_ok _ _ B2 (by omega) (by omega), (ref_go (R0 _)).1⟩, fun _ => ⟨fun _ => ⟨draw_ok _ _ B2 (by omega) (by omega), (ref_go (R1 _ d3.1 d3.2.1)).1⟩, fun _ => ⟨fun _ => ⟨draw_ok _ _ B2 (by omega) (by omega), (ref_go (R2 _ d3.1 d3.2.1)).1⟩, fun _ => ⟨draw_ok _ _ B2 (by omega) (by omega), (ref_go (R3 _)).1⟩⟩⟩⟩
end
/-! two fractions -/
def Fr (p : Int × Int) : Frac := RF p.1 p.2
section
variable {p q : Int × Int}
theorem fr_nb (h : TT 1240 p) : Nb 1240 (Fr p).num ∧ Nb 1240 (Fr p).den ∧ 0 < (Fr p).den := ⟨(rf_lt h.2.2 h.1 h.2.1).1, (rf_lt h.2.2 h.1 h.2.1).2, rf_pos h.2.2⟩
theorem cm {a b : Int} (ha : Nb 1240 a) (hb : Nb 1240 b) : CMulW a b := cmulw ha hb (by decide)
theorem m2 {a b : Int} (ha : Nb 1240 a) (hb : Nb 1240 b) : Nb 2480 (a * b) := mul_lt ha hb
theorem add_ok (hp : TT 1240 p) (hq : TT 1240 q) : ok_Frac_add (Fr p) (Fr q) := by
  have a := fr_nb hp
  have c := fr_nb hq
  have := Int.mul_pos a.2.2 c.2.2
  exact ⟨cm a.1 c.2.1, cm c.1 a.2.1, cm a.2.1 c.2.1, frac_ok (B := 2480) (by omega) (m2 a.2.1 c.2.1) (by decide)⟩
theorem sub_ok (hp : TT 1240 p) (hq : TT 1240 q) : ok_Frac_sub (Fr p) (Fr q) := by
  have a := fr_nb hp
  have c := fr_nb hq
  have := Int.mul_pos a.2.2 c.2.2
  exact ⟨cm a.1 c.2.1, cm c.1 a.2.1, cm a.2.1 c.2.1, frac_ok (B := 2480) (by omega) (m2 a.2.1 c.2.1) (by decide)⟩
theorem mul_ok (hp : TT 1240 p) (hq : TT 1240 q) : ok_Frac_mul (Fr p) (Fr q) := by
  have a := fr_nb hp
  have c := fr_nb hq
  have := Int.mul_pos a.2.2 c.2.2
  exact ⟨cm a.1 c.1, cm a.2.1 c.2.1, frac_ok (B := 2480) (by omega) (m2 a.2.1 c.2.1) (by decide)⟩
theorem below_ok (hp : TT 1240 p) (hq : TT 1240 q) : ok_Frac_is_below (Fr p) (Fr q) := by
  have a := fr_nb hp
  have c := fr_nb hq
  exact ⟨cm a.1 c.2.1, cm c.1 a.2.1⟩
theorem div_ok (hp : TT 1240 p) (hq : TT 1240 q) (h0 : q.1 ≠ 0) : ok_Frac_divided_by_C (Fr p) (Fr q) := by
  have a := fr_nb hp
  have c := fr_nb hq
  have n0 : (Fr q).num ≠ 0 := fun h => h0 ((num0 hq.2.2).mp h)
  refine ⟨fun h => ?_, fun _ _ => ⟨cm a.1 c.2.1, cm a.2.1 c.1, frac_ok (B := 2480) (Int.mul_ne_zero (by omega) n0) (m2 a.2.1 c.1) (by decide)⟩⟩
  have h : (decide ((Fr q).num = 0)) = true := h
  exact n0 (of_decide_eq_true h)
theorem eq_ok {x : Frac} {d : PF} : ok_Frac_eq x d := fun h => ⟨h, fun _ => h⟩
theorem eq_no {x : Frac} {d : PF} (h : d.isO = false) : f_Frac_eq x d = false := by
  rw [f_Frac_eq_eq]
  unfold o_Frac_eq
  show (d.sel false false false false true false false && _) = false
  rw [show d.sel false false false false true false false = false from h]; rfl
theorem nd_int (i : Int) : ND (.int i) := ⟨trivial, .inl rfl⟩
theorem truth_eq {a : Bool} : f_law_truth a a = true := by
  rw [f_law_truth_eq]
  show (true && decide (a = a)) = true
  rw [decide_eq_true rfl]; rfl
theorem sgn_eq {e : Int} : (1 : Int) - 2 * (if decide (e < 0) = true then (1 : Int) else 0) = bif decide (e < 0) then -1 else 1 := by
  by_cases c : e < 0
  · rw [decide_eq_true c]; rfl
  · rw [decide_eq_false c]; rfl
theorem pair_go (hp : TT 1240 p) (hq : TT 1240 q) : ok_law_pair (Fr p) (Fr q) p q ∧ f_law_pair (Fr p) (Fr q) p q = true := by
  obtain ⟨a, b⟩ := p
  obtain ⟨c, d⟩ := q
  obtain ⟨ha, hb, b0⟩ := hp
  obtain ⟨hc, hd, d0⟩ := hq
  have bd := Int.mul_ne_zero b0 d0
  have M1 := m2 ha hd
  have M2 := m2 hc hb
  have M3 := m2 hb hd
  have T1 : TT 1240 (a, b) := ⟨ha, hb, b0⟩
  have T2 : TT 1240 (c, d) := ⟨hc, hd, d0⟩
  have A : f_Frac_add (Fr (a, b)) (Fr (c, d)) = RF (a * d + c * b) (b * d) := add_eq b0 d0
  have S : f_Frac_sub (Fr (a, b)) (Fr (c, d)) = RF (a * d - c * b) (b * d) := sub_eq b0 d0
  have M : f_Frac_mul (Fr (a, b)) (Fr (c, d)) = RF (a * c) (b * d) := mul_eq b0 d0
  have E : f_Frac_eq (Fr (a, b)) (.obj (Fr (c, d))) = decide (a * d = c * b) := eq_eq b0 d0
  have L : f_Frac_is_below (Fr (a, b)) (Fr (c, d)) = decide (a * d * (bif decide (b * d < 0) then -1 else 1) < c * b * (bif decide (b * d < 0) then -1 else 1)) := below_eq b0 d0
  have ad := add_lt M1 M2
  have nd0 : c = 0 → ND (.obj (Fr (c, d))) := fun h => ⟨trivial, .inr ((num0 d0).mpr h)⟩
  constructor
  · refine ⟨cm ha hd, fun x hx => ⟨cm hc hb, fun y hy => ⟨cm hb hd, fun z hz => ?_⟩⟩⟩
    subst hx; subst hy; subst hz
    have bdB : Nb 2481 (b * d) := M3.mono (by decide)
    refine ⟨add_ok T1 T2, is_ok (B := 2481) bd ad.1 bdB (by decide), fun _ => ⟨sub_ok T1 T2, is_ok (B := 2481) bd ad.2 bdB (by decide)⟩, fun _ => ⟨mul_ok T1 T2, cm ha hc, is_ok (B := 2481) bd ((m2 ha hc).mono (by decide)) bdB (by decide), fun _ sg hs => ?_⟩⟩
    have sb : Nb 17 sg := by
      rw [hs, sgn_eq]
      exact p_bif (P := fun z : Int => Nb 17 z) (fun _ => (by show (-1 : Int).natAbs < 131072; decide)) fun _ => (by show (1 : Int).natAbs < 131072; decide)
    exact ⟨eq_ok, fun _ => ⟨below_ok T1 T2, cmulw M1 sb (by decide), cmulw M2 sb (by decide)⟩, fun _ => ⟨fun h => (nd_go (nd0 (of_decide_eq_true h))).1, fun h => ⟨div_ok T1 T2 (of_decide_eq_false h), cm ha hd, cm hb hc, is_ok (B := 2481) (Int.mul_ne_zero b0 (of_decide_eq_false h)) (M1.mono (by decide)) ((m2 hb hc).mono (by decide)) (by decide)⟩⟩⟩
  · rw [f_law_pair_eq]
    unfold o_law_pair
    refine get_lt (P := fun r => r = true) fun x hx => get_lt (P := fun r => r = true) fun y hy => get_lt (P := fun r => r = true) fun z hz => ?_
    subst hx; subst hy; subst hz
    rw [A, S, M, is_eq, is_eq, is_eq]
    refine get_ff (P := fun r => r = true) (by rfl) (get_ff (P := fun r => r = true) (by rfl) (get_lt (P := fun r => r = true) fun sg hs => ?_))
    rw [E, truth_eq, L, hs, sgn_eq, truth_eq]
    refine get_ff (P := fun r => r = true) (by rfl) ?_
    refine get_bif (P := fun r => r = true) (fun h => (nd_go (nd0 (of_decide_eq_true h))).2) fun h => ?_
    show f_law_is (f_Frac_divided_by_C (Fr (a, b)) (Fr (c, d))) (a * d) (b * c) = true
    rw [show f_Frac_divided_by_C (Fr (a, b)) (Fr (c, d)) = RF (a * d) (b * c) from div_eq b0 d0 (of_decide_eq_false h)]
    exact is_eq
end
end G

namespace G
open PySem L2 FL
/-! the whole law -/
theorem box_ok {ns : List Int} (h : ns.length ≤ 63) : BoxOk (f_law_box ns) := by
  rw [f_law_box_eq]
  exact ⟨by show (ns.map _).length ≤ 63; rw [List.length_map]; exact h, by show (0 : Int) ≤ 0; omega⟩
theorem fr_eq {p : Int × Int} : f_Frac_init_I p.1 p.2 = Fr p := frac_eq
theorem tt1 {n : Int} (h : Nb 1240 n) : TT 1240 (n, 1) := ⟨h, (nb_small (n := 1) (by decide) (by decide)).mono (by decide), by show (1 : Int) ≠ 0; decide⟩
theorem isT {p : Int × Int} : f_law_is (Fr p) p.1 p.2 = true := is_eq
theorem isO {p : Int × Int} (h : TT 1240 p) {x : Frac} : ok_law_is x p.1 p.2 := is_ok (B := 1240) h.2.2 h.1 h.2.1 (by decide)
theorem inO {p : Int × Int} (h : TT 1240 p) : ok_Frac_init_I p.1 p.2 := frac_ok (B := 1240) h.2.2 h.2.1 (by decide)
theorem below_self {p : Int × Int} (h : TT 1240 p) : f_Frac_is_below (Fr p) (Fr p) = false := by
  rw [f_Frac_is_below_eq]
  show decide ((Fr p).num * (Fr p).den < (Fr p).num * (Fr p).den) = false
  exact decide_eq_false (Int.lt_irrefl _)
/-- other values, none of them a fraction -/
def others (x : Frac) : List PF := [.int x.num, .int x.den, .tup [.int x.num, .int x.den], .lst [.int x.num, .int x.den], .non, .bl true, .bl false, .str ""]
theorem others_no {x : Frac} : ∀ d ∈ others x, d.isO = false := fun d hd => by
  unfold others at hd
  simp only [List.mem_cons, List.not_mem_nil, or_false] at hd
  rcases hd with e | e | e | e | e | e | e | e <;> subst e <;> rfl
def otF (z_491 : Frac) : Unit → PF → Out Unit Unit Bool := (fun (t_530 : Unit) (other_531 : (Py Frac)) => ((bif (!(decide ((f_Frac_eq z_491 other_531) = false))) then (.rt false) else (.nx ())) : Out Unit Unit Bool))
theorem ot_run {x : Frac} : ∀ {l : List PF}, (∀ d ∈ l, d.isO = false) → FL.run (otF x) () l = .nx ()
  | [], _ => rfl
  | d :: l, h => by
    unfold FL.run
    have e : otF x () d = .nx () := by
      unfold otF
      rw [eq_no (h d (by simp))]; rfl
    rw [e]
    exact ot_run fun y hy => h y (by simp [hy])
theorem get_dn {τ γ : Type} {P : γ → Prop} {s : τ} {f : τ → Out Empty Empty γ} (h : P (f s).get) : P (Out.get (Out.bind (Out.done (.nx s : Out τ τ γ)) f)) := h
theorem get_nx {τ γ : Type} {P : γ → Prop} {s : τ} {f : τ → Out Empty Empty γ} (h : P (f s).get) : P (Out.get (Out.bind (.nx s : Out τ Empty γ) f)) := h
theorem one_eq {c : Bool} {p : Int × Int} {z : Frac} (h : z = (bif c then (lt (f_Frac_init_I p.1 p.2) fun o => o) else (lt (f_Frac_init_I p.1 p.2) fun o => o))) : z = Fr p := by
  rw [h, fr_eq]
  cases c <;> rfl
theorem dk_up : ∀ {k : Nat} {v : PF}, Dk k v → Dk (k + 1) v
  | 0, v, h => by cases v <;> first | exact h | exact (show False from h).elim
  | k + 1, v, h => by
    cases v with
    | lst l => exact fun x hx => dk_up ((show ∀ x ∈ l, Dk k x from h) x hx)
    | tup l => exact fun x hx => dk_up ((show ∀ x ∈ l, Dk k x from h) x hx)
    | _ => exact h
theorem all_true {ns : List Int} (h : ns.length ≤ 63) : f_law_all ns = true := by
  rw [f_law_all_eq]
  refine get_lt (P := fun r => r = true) fun b0 e0 => get_lt (P := fun r => r = true) fun p e1 => get_lt (P := fun r => r = true) fun b1 e2 => get_lt (P := fun r => r = true) fun q e3 => get_lt (P := fun r => r = true) fun b2 e4 => get_lt (P := fun r => r = true) fun one e5 => get_lt (P := fun r => r = true) fun b3 e6 => get_lt (P := fun r => r = true) fun two_ e7 => ?_
  have B0 : BoxOk b0 := e0 ▸ box_ok h
  have T := (terms_go B0).1
  have hp5 : TT 1235 p := e1 ▸ T.1
  have hp : TT 1240 p := hp5.mono (by decide)
  have B1 : BoxOk b1 := e2 ▸ T.2
  have S := (second_go B1 hp5).1
  have hq : TT 1240 q := e3 ▸ S.1
  have B2 : BoxOk b2 := e4 ▸ S.2
  have B3 : BoxOk b3 := e6 ▸ (draw_go b2 2 B2 (by omega)).2.2
  have h1 : one = Fr p := one_eq e5
  have h2 : two_ = Fr q := e7.trans fr_eq
  subst h1; subst h2
  have t1 := tt1 hp.1
  have t2 := tt1 hq.2.1
  have i1 : f_law_is (f_Frac_init_I p.1 1) p.1 1 = true := by rw [frac_eq]; exact is_eq
  have i2 : f_law_is (f_Frac_init_I q.2 1) q.2 1 = true := by rw [frac_eq]; exact is_eq
  rw [isT, isT, i1, i2, (pair_go hp hq).2, (pair_go hq hp).2, (pair_go hp hp).2, below_self hp, truth_eq, (bad_go B3 hp).1.2]
  refine get_ff (P := fun r => r = true) (by rfl) (get_ff (P := fun r => r = true) (by rfl) (get_ff (P := fun r => r = true) (by rfl) (get_ff (P := fun r => r = true) (by rfl) (get_ff (P := fun r => r = true) (by rfl) ?_))))
  refine get_lt (P := fun r => r = true) fun w ew => get_lt (P := fun r => r = true) fun b4 _ => ?_
  have W := (wrong_go (bad_go B3 hp).1.1 hp).1
  have W1 : Dk 2 w := ew ▸ W.1
  have step : (bif (!(w.sel false false false false true false false)) then (bif ((!(decide ((f_Frac_eq (Fr p) w) = false))) || (!(f_law_not_divided (Fr p) w))) then (.rt false) else (.nx ())) else (.nx ()) : Out Unit Empty Bool) = .nx () := by
    cases e : w.sel false false false false true false false with
    | true => rfl
    | false =>
      have D3 : Dk 3 w := dk_up W1
      rw [eq_no (show w.isO = false from e), (nd_go (x := Fr p) ⟨D3, .inl e⟩).2]; rfl
  rw [step]
  refine get_nx (P := fun r => r = true) ?_
  show Out.get (Out.bind (Out.done (FL.run (otF (Fr p)) () (others (Fr p)))) _) = true
  rw [ot_run others_no]
  refine get_dn (P := fun r => r = true) ?_
  rw [(nd_go (nd_int _)).2]
  refine get_ff (P := fun r => r = true) (by rfl) ?_
  rfl
end G

namespace G
open PySem L2 FL
theorem all_ok {ns : List Int} (h : ns.length ≤ 63) : ok_law_all ns := by
  intro b0 e0
  have B0 : BoxOk b0 := e0 ▸ box_ok h
  have T := terms_go B0
  refine ⟨T.2, fun p e1 b1 e2 => ?_⟩
  have hp5 : TT 1235 p := e1 ▸ T.1.1
  have hp : TT 1240 p := hp5.mono (by decide)
  have B1 : BoxOk b1 := e2 ▸ T.1.2
  have S := second_go B1 hp5
  refine ⟨S.2, fun q e3 b2 e4 => ?_⟩
  have hq : TT 1240 q := e3 ▸ S.1.1
  have B2 : BoxOk b2 := e4 ▸ S.1.2
  refine ⟨draw_ok _ _ B2 (by omega) (by omega), fun _ => inO hp, fun _ => inO hp, fun one e5 b3 e6 => ?_⟩
  have h1 : one = Fr p := one_eq e5
  subst h1
  have B3 : BoxOk b3 := e6 ▸ (draw_go b2 2 B2 (by omega)).2.2
  refine ⟨inO hq, fun two_ e7 => ?_⟩
  have h2 : two_ = Fr q := e7.trans fr_eq
  subst h2
  have t1 := tt1 hp.1
  have t2 := tt1 hq.2.1
  refine ⟨isO hp, fun _ => isO hq, fun _ => ⟨inO t1, isO t1, fun _ => ⟨inO t2, isO t2⟩, fun _ => ⟨(pair_go hp hq).1, fun _ => (pair_go hq hp).1, fun _ => ⟨(pair_go hp hp).1, fun _ => below_ok hp hp, fun _ => ?_⟩⟩⟩⟩
  have Bd := bad_go B3 hp
  refine ⟨Bd.2, fun _ => ?_⟩
  have W := wrong_go Bd.1.1 hp
  refine ⟨W.2, fun w ew b4 _ => ?_⟩
  have W1 : Dk 2 w := ew ▸ W.1.1
  refine ⟨fun hc => ⟨eq_ok, fun _ => (nd_go ⟨dk_up W1, .inl ?_⟩).1⟩, fun _ _ => ⟨fun _ _ _ _ _ => eq_ok, fun _ _ => ⟨(nd_go (nd_int _)).1, fun _ => ⟨isO hp, fun _ => isO hq⟩⟩⟩⟩
  show w.sel false false false false true false false = false
  cases e : w.sel false false false false true false false
  · rfl
  · rw [e] at hc; cases hc
theorem main_ok (ns : List Int) (h : ns.length ≤ 63) : ok_law ns ∧ f_law ns = true := by
  refine ⟨all_ok h, ?_⟩
  rw [f_law_eq]
  exact all_true h
end G

namespace G
open PySem L2 FL
theorem walk {l : PySem.W.OpenLaw} {q : Program} {loose : List Str} {XP : (Str → Option Value) → Heap → Prop} {YP : World → Heap → Prop} {d : DefRec} {K : Params → PySem.W.Frag} (hm : ∀ ns : List Int, ns.length ≤ 63 → ok_law ns ∧ f_law ns = true) (hn : l.most = some 63) (hdf : d.params.defaults = [])
    (hY : ∀ (w : World) (h : Heap), YP w h → (K w.params).In h)
    (F : ∀ (w : World) (mg : Str → Option Value) (fa : Addr) (h : Heap), (K w.params).In h → h.Ns mainGlobals mg → mg d.name = some (.ref fa) →
      ∃ fd : FuncData, (∀ (s : Shared) (u : Value), BindsTo s fd ⟨[u], []⟩ [("script", u)]) ∧ ∀ base : Heap, (K w.params).In base → base.Ns mainGlobals mg → FnOk l.prog w (K w.params) mg base CX0 9 fa fd ["script"] (sp_law (K := K w.params))) :
    PySem.W.WalkO q loose XP YP l.row.toRowW d [] (fun f vs => PySem.call f vs) :=
  L2.walk_of (n := 63) (k := 9) (x := "script") (CX := fun _ => CX0) (sp := fun w => sp_law (K := K w.params)) hn (by decide) hdf ⟨rfl, by decide, by decide⟩ hY F
    (fun w H a ns hl _ hS => law_sp (hm ns hl).1 (hm ns hl).2 hl hS) fun _ _ _ _ _ z => z
end G

open PySem PySem.W PyProof.Rows in
set_option maxRecDepth 100000 in
set_option maxHeartbeats 0 in
theorem PySem.Challenge.cw_greatestnext_k02_fractions_holds : PySem.Challenge.rw_greatestnext_k02_fractions.Holds := by
  w_on; o_law; k_head; (case hw => w_witness2)
  k_fill
  refine G.walk (l := PySem.Challenge.rw_greatestnext_k02_fractions) G.main_ok rfl rfl (fun w h Y => PySem.W.kIn_of Y) ?F
  case F =>
    intro w mg fa h KX Gn hmg
    refine' G.all_mk KX Gn hmg ?aC_Frac ?a_is_integer ?l_is_integer ?cc_is_integer ?k_is_integer ?a_Frac_init ?i_Frac_init ?l_Frac_init ?lT_Frac_init ?cc_Frac_init ?k_Frac_init ?a_Frac_add ?i_Frac_add ?l_Frac_add ?cc_Frac_add ?k_Frac_add ?a_Frac_sub ?i_Frac_sub ?l_Frac_sub ?cc_Frac_sub ?k_Frac_sub ?a_Frac_mul ?i_Frac_mul ?l_Frac_mul ?cc_Frac_mul ?k_Frac_mul ?a_Frac_eq ?i_Frac_eq ?l_Frac_eq ?cc_Frac_eq ?k_Frac_eq ?a_Frac_is_below ?i_Frac_is_below ?l_Frac_is_below ?cc_Frac_is_below ?k_Frac_is_below ?a_Frac_divided_by ?i_Frac_divided_by ?l_Frac_divided_by ?cc_Frac_divided_by ?k_Frac_divided_by ?a_law_box ?l_law_box ?cc_law_box ?k_law_box ?a_law_draw ?l_law_draw ?cc_law_draw ?k_law_draw ?a_law_gcd ?l_law_gcd ?cc_law_gcd ?k_law_gcd ?a_law_low ?l_law_low ?cc_law_low ?k_law_low ?a_law_number ?l_law_number ?cc_law_number ?k_law_number ?a_law_signed ?l_law_signed ?cc_law_signed ?k_law_signed ?a_law_terms ?l_law_terms ?cc_law_terms ?k_law_terms ?a_law_second ?l_law_second ?cc_law_second ?k_law_second ?a_law_is ?l_law_is ?cc_law_is ?k_law_is ?a_law_truth ?l_law_truth ?cc_law_truth ?k_law_truth ?a_law_wrong ?l_law_wrong ?cc_law_wrong ?k_law_wrong ?a_law_kind ?l_law_kind ?cc_law_kind ?k_law_kind ?a_law_refused ?l_law_refused ?cc_law_refused ?k_law_refused ?a_law_not_divided ?l_law_not_divided ?cc_law_not_divided ?k_law_not_divided ?a_law_bad ?l_law_bad ?cc_law_bad ?k_law_bad ?a_law_pair ?l_law_pair ?cc_law_pair ?k_law_pair ?a_law_all ?l_law_all ?cc_law_all ?k_law_all ?a_law ?l_law ?cc_law ?k_law ?aC_InvalidFraction ?xL_InvalidFraction ?sa_InvalidFraction ?ga_InvalidFraction ?gg_InvalidFraction ?a_InvalidFraction_init ?t_InvalidFraction_init ?l_InvalidFraction_init ?cc_InvalidFraction_init ?k_InvalidFraction_init ?kC_InvalidFraction ?eC_InvalidFraction ?tC_InvalidFraction ?hC_InvalidFraction ?iC_InvalidFraction ?sC_InvalidFraction ?no_InvalidFraction_value ?pg_Frac ?hd_Frac ?po_Frac ?sa_Frac ?mk_Frac ?kc_Frac ?na_Frac_num ?na_Frac_den ?gb_gcd ?nS_Frac_n ?nS_Frac_b ?nS_Frac_i ?nS_Frac_s ?nS_Frac_l ?nS_Frac_t ?ki_Frac_Frac ?ki_Frac_bool ?ki_Frac_int ?ki_Frac_list ?ki_Frac_str ?ki_Frac_tuple ?ki_NoneType_Frac ?ki_bool_Frac ?ki_int_Frac ?ki_list_Frac ?ki_str_Frac ?ki_tuple_Frac ?sf_Frac ?i1_Frac ?i2_Frac ?i3_Frac ?i4_Frac ?z_abs ?z_bool ?z_int ?z_isinstance ?z_len ?z_list ?z_max ?z_range ?z_str ?z_tuple
    (case aC_Frac => k_is)
    (case a_is_integer => k_is)
    (case l_is_integer => k_is)
    (case cc_is_integer => k_is)
    (case k_is_integer => k_is)
    (case a_Frac_init => k_is)
    (case i_Frac_init => k_is)
    (case l_Frac_init => k_is)
    (case lT_Frac_init => first | k_is | rfl)
    (case cc_Frac_init => k_is)
    (case k_Frac_init => k_is)
    (case a_Frac_add => k_is)
    (case i_Frac_add => k_is)
    (case l_Frac_add => k_is)
    (case cc_Frac_add => k_is)
    (case k_Frac_add => k_is)
    (case a_Frac_sub => k_is)
    (case i_Frac_sub => k_is)
    (case l_Frac_sub => k_is)
    (case cc_Frac_sub => k_is)
    (case k_Frac_sub => k_is)
    (case a_Frac_mul => k_is)
    (case i_Frac_mul => k_is)
    (case l_Frac_mul => k_is)
    (case cc_Frac_mul => k_is)
    (case k_Frac_mul => k_is)
    (case a_Frac_eq => k_is)
    (case i_Frac_eq => k_is)
    (case l_Frac_eq => k_is)
    (case cc_Frac_eq => k_is)
    (case k_Frac_eq => k_is)
    (case a_Frac_is_below => k_is)
    (case i_Frac_is_below => k_is)
    (case l_Frac_is_below => k_is)
    (case cc_Frac_is_below => k_is)
    (case k_Frac_is_below => k_is)
    (case a_Frac_divided_by => k_is)
    (case i_Frac_divided_by => k_is)
    (case l_Frac_divided_by => k_is)
    (case cc_Frac_divided_by => k_is)
    (case k_Frac_divided_by => k_is)
    (case a_law_box => k_is)
    (case l_law_box => k_is)
    (case cc_law_box => k_is)
    (case k_law_box => k_is)
    (case a_law_draw => k_is)
    (case l_law_draw => k_is)
    (case cc_law_draw => k_is)
    (case k_law_draw => k_is)
    (case a_law_gcd => k_is)
    (case l_law_gcd => k_is)
    (case cc_law_gcd => k_is)
    (case k_law_gcd => k_is)
    (case a_law_low => k_is)
    (case l_law_low => k_is)
    (case cc_law_low => k_is)
    (case k_law_low => k_is)
    (case a_law_number => k_is)
    (case l_law_number => k_is)
    (case cc_law_number => k_is)
    (case k_law_number => k_is)
    (case a_law_signed => k_is)
    (case l_law_signed => k_is)
    (case cc_law_signed => k_is)
    (case k_law_signed => k_is)
    (case a_law_terms => k_is)
    (case l_law_terms => k_is)
    (case cc_law_terms => k_is)
    (case k_law_terms => k_is)
    (case a_law_second => k_is)
    (case l_law_second => k_is)
    (case cc_law_second => k_is)
    (case k_law_second => k_is)
    (case a_law_is => k_is)
    (case l_law_is => k_is)
    (case cc_law_is => k_is)
    (case k_law_is => k_is)
    (case a_law_truth => k_is)
    (case l_law_truth => k_is)
    (case cc_law_truth => k_is)
    (case k_law_truth => k_is)
    (case a_law_wrong => k_is)
    (case l_law_wrong => k_is)
    (case cc_law_wrong => k_is)
    (case k_law_wrong => k_is)
    (case a_law_kind => k_is)
    (case l_law_kind => k_is)
    (case cc_law_kind => k_is)
    (case k_law_kind => k_is)
    (case a_law_refused => k_is)
    (case l_law_refused => k_is)
    (case cc_law_refused => k_is)
    (case k_law_refused => k_is)
    (case a_law_not_divided => k_is)
    (case l_law_not_divided => k_is)
    (case cc_law_not_divided => k_is)
    (case k_law_not_divided => k_is)
    (case a_law_bad => k_is)
    (case l_law_bad => k_is)
    (case cc_law_bad => k_is)
    (case k_law_bad => k_is)
    (case a_law_pair => k_is)
    (case l_law_pair => k_is)
    (case cc_law_pair => k_is)
    (case k_law_pair => k_is)
    (case a_law_all => k_is)
    (case l_law_all => k_is)
    (case cc_law_all => k_is)
    (case k_law_all => k_is)
    (case a_law => k_is)
    (case l_law => k_is)
    (case cc_law => k_is)
    (case k_law => k_is)
    (case aC_InvalidFraction => k_is)
    (case xL_InvalidFraction => first | k_is | rfl)
    (case sa_InvalidFraction => k_is)
    (case ga_InvalidFraction => first | k_is | rfl)
    (case gg_InvalidFraction => first | k_is | rfl)
    (case a_InvalidFraction_init => k_is)
    (case t_InvalidFraction_init => k_is)
    (case l_InvalidFraction_init => k_is)
    (case cc_InvalidFraction_init => k_is)
    (case k_InvalidFraction_init => k_is)
    (case kC_InvalidFraction => first | k_is | rfl)
    (case eC_InvalidFraction => first | k_is | rfl)
    (case tC_InvalidFraction => first | k_is | rfl)
    (case hC_InvalidFraction => first | k_is | rfl)
    (case iC_InvalidFraction => first | k_is | rfl)
    (case sC_InvalidFraction => first | k_is | rfl)
    (case no_InvalidFraction_value => first | k_is | rfl)
    (case pg_Frac => k_is)
    (case hd_Frac => k_is)
    (case po_Frac => k_is)
    (case sa_Frac => k_is)
    (case mk_Frac => k_is)
    (case kc_Frac => k_is)
    (case na_Frac_num => k_is)
    (case na_Frac_den => k_is)
    (case gb_gcd => first | k_is | rfl)
    (case nS_Frac_n => first | k_is | rfl)
    (case nS_Frac_b => first | k_is | rfl)
    (case nS_Frac_i => first | k_is | rfl)
    (case nS_Frac_s => first | k_is | rfl)
    (case nS_Frac_l => first | k_is | rfl)
    (case nS_Frac_t => first | k_is | rfl)
    (case ki_Frac_Frac => first | k_is | rfl)
    (case ki_Frac_bool => first | k_is | rfl)
    (case ki_Frac_int => first | k_is | rfl)
    (case ki_Frac_list => first | k_is | rfl)
    (case ki_Frac_str => first | k_is | rfl)
    (case ki_Frac_tuple => first | k_is | rfl)
    (case ki_NoneType_Frac => first | k_is | rfl)
    (case ki_bool_Frac => first | k_is | rfl)
    (case ki_int_Frac => first | k_is | rfl)
    (case ki_list_Frac => first | k_is | rfl)
    (case ki_str_Frac => first | k_is | rfl)
    (case ki_tuple_Frac => first | k_is | rfl)
    (case sf_Frac => k_is)
    (case i1_Frac => first | k_is | rfl)
    (case i2_Frac => first | k_is | rfl)
    (case i3_Frac => first | k_is | rfl)
    (case i4_Frac => first | k_is | rfl)
    (case z_abs => k_is)
    (case z_bool => k_is)
    (case z_int => k_is)
    (case z_isinstance => k_is)
    (case z_len => k_is)
    (case z_list => k_is)
    (case z_max => k_is)
    (case z_range => k_is)
    (case z_str => k_is)
    (case z_tuple => k_is)
