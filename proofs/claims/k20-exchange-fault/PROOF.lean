import PyProof.Rows.All
import Wide.All
import OpenK.AllK
import Wide.FinOn
import HandS.ForMost
import HandS.IsInst
import HandS.SortOrd
import HandS.Wide
import HandS.TupSets
import HandS.Defaults
import HandS.Exc
import PySem.Challenge.RW_greatestnext_k20_exchange_fault
set_option Elab.async false
set_option linter.all false
set_option maxRecDepth 100000
set_option maxHeartbeats 4000000
/-! FL: a functional layer over the hand layer: typed data, environments, and what readings do to them. -/
namespace FL
open PySem L2

abbrev LM : Nat := 100000
theorem lm_le {n : Nat} (h : n ≤ LM) : n ≤ sizeLine := Nat.le_trans h (by decide)
theorem lm_lt {n : Nat} (h : n < LM) : n < sizeLine := Nat.lt_of_lt_of_le h (by decide)

/-! ### heaps -/
def Ex (H H' : Hp) : Prop := ∀ a o, H a = some o → H' a = some o
theorem Ex.refl (H : Hp) : Ex H H := fun _ _ h => h
theorem Ex.trans {H H1 H2 : Hp} (a : Ex H H1) (b : Ex H1 H2) : Ex H H2 := fun x o h => b x o (a x o h)
theorem Ex.new {H : Hp} {p : Addr} {o : HO} (h : H p = none) : Ex H (upd H p o) := fun a u e => by
  rw [upd_ne (ne_of_none e h)]; exact e
theorem Ex.none {H H' : Hp} {p : Addr} (e : Ex H H') (h : H' p = none) : H p = none := by
  cases q : H p with
  | none => rfl
  | some o => rw [e p o q] at h; cases h
theorem ex_rd {H H' : Hp} {a : Addr} {u : HO} (e : Ex H H') (h : Rd H a u) : Rd H' a u := by
  rcases h with h | ⟨o, h⟩
  · exact Or.inl (e a _ h)
  · exact Or.inr ⟨o, e a _ h⟩
theorem ex_l {K : PySem.W.Frag} {H H' : Hp} {a : Addr} {xs : List V} (e : Ex H H') (h : SqL K H a xs) : SqL K H' a xs := by
  rcases h with h | h
  · exact Or.inl (ex_rd e h)
  · exact Or.inr h
theorem ex_t {K : PySem.W.Frag} {H H' : Hp} {a : Addr} {xs : List V} (e : Ex H H') (h : SqT K H a xs) : SqT K H' a xs := by
  rcases h with h | h
  · exact Or.inl (ex_rd e h)
  · exact Or.inr h

inductive All2 {α β : Type} (r : α → β → Prop) : List α → List β → Prop
  | nil : All2 r [] []
  | cons {a : α} {b : β} {as : List α} {bs : List β} : r a b → All2 r as bs → All2 r (a :: as) (b :: bs)
inductive All2S {α : Type} {β : Type 1} (r : α → β → Prop) : List α → List β → Prop
  | nil : All2S r [] []
  | cons {a : α} {b : β} {as : List α} {bs : List β} : r a b → All2S r as bs → All2S r (a :: as) (b :: bs)
theorem All2.len {α β : Type} {r : α → β → Prop} {xs : List α} {ys : List β} (h : All2 r xs ys) : xs.length = ys.length := by
  induction h with
  | nil => rfl
  | cons _ _ ih => simp [ih]
theorem All2.imp {α β : Type} {r q : α → β → Prop} {xs : List α} {ys : List β} (h : All2 r xs ys) (f : ∀ a b, r a b → q a b) : All2 q xs ys := by
  induction h with
  | nil => exact .nil
  | cons h _ ih => exact .cons (f _ _ h) ih
theorem All2.app {α β : Type} {r : α → β → Prop} {xs xs' : List α} {ys ys' : List β} (h : All2 r xs ys) (h' : All2 r xs' ys') : All2 r (xs ++ xs') (ys ++ ys') := by
  induction h with
  | nil => exact h'
  | cons h _ ih => exact .cons h ih
theorem All2.get {α β : Type} {r : α → β → Prop} {xs : List α} {ys : List β} (h : All2 r xs ys) {i : Nat} {y : β} (e : ys[i]? = some y) : ∃ x, xs[i]? = some x ∧ r x y := by
  induction h generalizing i with
  | nil => simp at e
  | cons h _ ih =>
    cases i with
    | zero => simp at e; subst e; exact ⟨_, rfl, h⟩
    | succ i => simp at e; obtain ⟨x, a, b⟩ := ih e; exact ⟨x, by simpa using a, b⟩
theorem All2.getL {α β : Type} {r : α → β → Prop} {xs : List α} {ys : List β} (h : All2 r xs ys) {i : Nat} {x : α} (e : xs[i]? = some x) : ∃ y, ys[i]? = some y ∧ r x y := by
  induction h generalizing i with
  | nil => simp at e
  | cons h _ ih =>
    cases i with
    | zero => simp at e; subst e; exact ⟨_, rfl, h⟩
    | succ i => simp at e; obtain ⟨x, a, b⟩ := ih e; exact ⟨x, by simpa using a, b⟩
theorem All2.set {α β : Type} {r : α → β → Prop} {xs : List α} {ys : List β} (h : All2 r xs ys) {x : α} {y : β} (e : r x y) : ∀ i, All2 r (xs.set i x) (ys.set i y) := by
  induction h with
  | nil => intro i; exact .nil
  | cons h hs ih =>
    intro i
    cases i with
    | zero => exact .cons e hs
    | succ i => exact .cons h (ih i)
theorem All2.map {α β : Type} {r : α → β → Prop} {f : β → α} : ∀ {ys : List β}, (∀ y ∈ ys, r (f y) y) → All2 r (ys.map f) ys
  | [], _ => .nil
  | _ :: _, h => .cons (h _ List.mem_cons_self) (All2.map fun y hy => h y (List.mem_cons_of_mem _ hy))
theorem All2.eq_map {α β : Type} {f : β → α} {xs : List α} {ys : List β} (h : All2 (fun x y => x = f y) xs ys) : xs = ys.map f := by
  induction h with
  | nil => rfl
  | cons h _ ih => rw [h, ih]; rfl
theorem All2.take {α β : Type} {r : α → β → Prop} {xs : List α} {ys : List β} (h : All2 r xs ys) : ∀ n, All2 r (xs.take n) (ys.take n) := by
  induction h with
  | nil => intro n; cases n <;> exact .nil
  | cons h hs ih =>
    intro n
    cases n with
    | zero => exact .nil
    | succ n => exact .cons h (ih n)
theorem All2.drop {α β : Type} {r : α → β → Prop} {xs : List α} {ys : List β} (h : All2 r xs ys) : ∀ n, All2 r (xs.drop n) (ys.drop n) := by
  induction h with
  | nil => intro n; cases n <;> exact .nil
  | cons h hs ih =>
    intro n
    cases n with
    | zero => exact .cons h hs
    | succ n => exact ih n

section
variable {K : PySem.W.Frag}

/-! ### encodings -/
structure Enc (K : PySem.W.Frag) (α : Type) where
  rep : Hp → V → α → Prop
  mono : ∀ {H H' : Hp} {v : V} {a : α}, Ex H H' → rep H v a → rep H' v a
/-- a mutable object's content -/
structure MEnc (K : PySem.W.Frag) (β : Type) where
  rep : Hp → HO → β → Prop
  mono : ∀ {H H' : Hp} {o : HO} {b : β}, Ex H H' → rep H o b → rep H' o b
def eI : Enc K Int := ⟨fun _ v a => v = .int a, fun _ h => h⟩
def eB : Enc K Bool := ⟨fun _ v a => v = .bl a, fun _ h => h⟩
def eS : Enc K Str := ⟨fun _ v a => v = .str a, fun _ h => h⟩
def eN : Enc K Unit := ⟨fun _ v _ => v = .non, fun _ h => h⟩
def eL {α : Type} (e : Enc K α) : Enc K (List α) :=
  ⟨fun H v as => ∃ p xs, v = .ref p ∧ SqL K H p xs ∧ All2 (e.rep H) xs as ∧ as.length ≤ LM,
   fun x ⟨p, xs, h1, h2, h3, h4⟩ => ⟨p, xs, h1, ex_l x h2, h3.imp fun _ _ h => e.mono x h, h4⟩⟩
def eT {α : Type} (e : Enc K α) : Enc K (List α) :=
  ⟨fun H v as => ∃ p xs, v = .ref p ∧ SqT K H p xs ∧ All2 (e.rep H) xs as ∧ as.length ≤ LM,
   fun x ⟨p, xs, h1, h2, h3, h4⟩ => ⟨p, xs, h1, ex_t x h2, h3.imp fun _ _ h => e.mono x h, h4⟩⟩
/-- a list or a tuple -/
def eQ {α : Type} (e : Enc K α) : Enc K (List α) :=
  ⟨fun H v as => (eL e).rep H v as ∨ (eT e).rep H v as, fun x h => h.imp (fun h => (eL e).mono x h) (fun h => (eT e).mono x h)⟩
def eP {α β : Type} (e : Enc K α) (f : Enc K β) : Enc K (α × β) :=
  ⟨fun H v ab => ∃ p x y, v = .ref p ∧ SqT K H p [x, y] ∧ e.rep H x ab.1 ∧ f.rep H y ab.2,
   fun x ⟨p, u, w, h1, h2, h3, h4⟩ => ⟨p, u, w, h1, ex_t x h2, e.mono x h3, f.mono x h4⟩⟩
def eO {α : Type} (e : Enc K α) : Enc K (Option α) :=
  ⟨fun H v o => match o with | none => v = .non | some a => e.rep H v a,
   fun {_ _ _ a} x h => match a, h with | none, h => h | some _, h => e.mono x h⟩

/-- its meaning does not hang on the heap -/
class Scal {α : Type} (e : Enc K α) : Prop where
  sc : ∀ H H' v a, e.rep H v a → e.rep H' v a
instance : Scal (eI (K := K)) := ⟨fun _ _ _ _ h => h⟩
instance : Scal (eB (K := K)) := ⟨fun _ _ _ _ h => h⟩
instance : Scal (eS (K := K)) := ⟨fun _ _ _ _ h => h⟩
instance : Scal (eN (K := K)) := ⟨fun _ _ _ _ h => h⟩
/-- never None -/
class NN {α : Type} (e : Enc K α) : Prop where
  nn : ∀ H a, ¬ e.rep H .non a
instance : NN (eI (K := K)) := ⟨fun _ _ h => nomatch h⟩
instance : NN (eB (K := K)) := ⟨fun _ _ h => nomatch h⟩
instance : NN (eS (K := K)) := ⟨fun _ _ h => nomatch h⟩
instance {α : Type} (e : Enc K α) : NN (eL e) := ⟨fun _ _ ⟨_, _, h, _⟩ => nomatch h⟩
instance {α : Type} (e : Enc K α) : NN (eT e) := ⟨fun _ _ ⟨_, _, h, _⟩ => nomatch h⟩
instance {α : Type} (e : Enc K α) : NN (eQ e) := ⟨fun _ _ h => by rcases h with ⟨_, _, h, _⟩ | ⟨_, _, h, _⟩ <;> exact nomatch h⟩
instance {α β : Type} (e : Enc K α) (f : Enc K β) : NN (eP e f) := ⟨fun _ _ ⟨_, _, _, h, _⟩ => nomatch h⟩

/-! ### slots -/
/-- a datum of some kind -/
structure DV (K : PySem.W.Frag) : Type 1 where
  {α : Type}
  e : Enc K α
  a : α
inductive Slot (K : PySem.W.Frag) : Type 1
  | un
  | d {α : Type} (e : Enc K α) (a : α)
  | l {α : Type} (e : Enc K α) (as : List α)
  | m {β : Type} (M : MEnc K β) (b : β)
  | i (C : Addr) (fs : List (Str × DV K))
def Slot.isM : Slot K → Bool
  | .l _ _ => true
  | .m _ _ => true
  | .i _ _ => true
  | _ => false
/-- what an object must be for a mutable slot -/
def Slot.cont (Hk : Hp) (o : HO) : Slot K → Prop
  | .l e as => ∃ xs, o = .lst xs ∧ All2 (e.rep Hk) xs as ∧ as.length ≤ LM
  | .m M b => M.rep Hk o b
  | .i C fs => ∃ dx vs, o = .ins C dx vs ∧ All2S (fun (p : Str × V) (q : Str × DV K) => p.1 = q.1 ∧ q.2.e.rep Hk p.2 q.2.a) vs fs
  | _ => False
def Slot.ok (Hk H : Hp) (v : Option V) : Slot K → Prop
  | .un => True
  | .d e a => ∃ u, v = some u ∧ e.rep Hk u a
  | .l e as => ∃ p o, v = some (.ref p) ∧ Hk p = none ∧ H p = some o ∧ (Slot.l e as).cont Hk o
  | .m M b => ∃ p o, v = some (.ref p) ∧ Hk p = none ∧ H p = some o ∧ (Slot.m M b).cont Hk o
  | .i C fs => ∃ p o, v = some (.ref p) ∧ Hk p = none ∧ H p = some o ∧ (Slot.i C fs).cont Hk o
def Slot.frz : Slot K → Slot K
  | .l e as => .d (eL e) as
  | .m _ _ => .un
  | .i _ _ => .un
  | s => s
theorem Slot.okM {s : Slot K} (m : s.isM = true) {Hk H : Hp} {v : Option V} : s.ok Hk H v ↔ ∃ p o, v = some (.ref p) ∧ Hk p = none ∧ H p = some o ∧ s.cont Hk o := by
  cases s with
  | un => cases m
  | d e a => cases m
  | l e as => exact Iff.rfl
  | m M b => exact Iff.rfl
  | i C fs => exact Iff.rfl
theorem Slot.okD {s : Slot K} (m : s.isM = false) {Hk H Hk' H' : Hp} {v : Option V} (x : Ex Hk Hk') (h : s.ok Hk H v) : s.ok Hk' H' v := by
  cases s with
  | un => trivial
  | d e a => obtain ⟨u, a1, a2⟩ := h; exact ⟨u, a1, e.mono x a2⟩
  | l e as => cases m
  | m M b => cases m
  | i C fs => cases m
theorem All2S.imp {α : Type} {β : Type 1} {r q : α → β → Prop} {xs : List α} {ys : List β} (h : All2S r xs ys) (f : ∀ a b, r a b → q a b) : All2S q xs ys := by
  induction h with
  | nil => exact .nil
  | cons h _ ih => exact .cons (f _ _ h) ih
theorem All2S.len {α : Type} {β : Type 1} {r : α → β → Prop} {xs : List α} {ys : List β} (h : All2S r xs ys) : xs.length = ys.length := by
  induction h with
  | nil => rfl
  | cons _ _ ih => simp [ih]
theorem All2S.get {α : Type} {β : Type 1} {r : α → β → Prop} {xs : List α} {ys : List β} (h : All2S r xs ys) {i : Nat} {y : β} (e : ys[i]? = some y) : ∃ x, xs[i]? = some x ∧ r x y := by
  induction h generalizing i with
  | nil => simp at e
  | cons h _ ih =>
    cases i with
    | zero => simp at e; subst e; exact ⟨_, rfl, h⟩
    | succ i => simp at e; obtain ⟨x, a, b⟩ := ih e; exact ⟨x, by simpa using a, b⟩
theorem Slot.cont_mono {s : Slot K} {Hk Hk' : Hp} {o : HO} (x : Ex Hk Hk') (h : s.cont Hk o) : s.cont Hk' o := by
  cases s with
  | un => exact h
  | d e a => exact h
  | l e as => obtain ⟨xs, h1, h2, h3⟩ := h; exact ⟨xs, h1, h2.imp fun _ _ h => e.mono x h, h3⟩
  | m M b => exact M.mono x h
  | i C fs => obtain ⟨dx, vs, h1, h2⟩ := h; exact ⟨dx, vs, h1, h2.imp fun _ q h => ⟨h.1, q.2.e.mono x h.2⟩⟩
theorem Slot.okM_step {s : Slot K} {Hk H Hk' H' : Hp} {p : Addr} (m : s.isM = true) (x : Ex Hk Hk') (hk : Hk' p = none) (hh : ∀ o, H p = some o → H' p = some o) (h : s.ok Hk H (some (.ref p))) : s.ok Hk' H' (some (.ref p)) := by
  obtain ⟨q, o, e, h1, h2, h3⟩ := (Slot.okM m).mp h
  cases e
  exact (Slot.okM m).mpr ⟨p, o, rfl, hk, hh o h2, Slot.cont_mono x h3⟩
theorem Slot.okM_ref {s : Slot K} {Hk H : Hp} {v : Option V} (m : s.isM = true) (h : s.ok Hk H v) : ∃ p o, v = some (.ref p) ∧ Hk p = none ∧ H p = some o := by
  obtain ⟨q, o, e, h1, h2, h3⟩ := (Slot.okM m).mp h
  exact ⟨q, o, e, h1, h2⟩
abbrev Env (K : PySem.W.Frag) := List (Slot K)
def isMAt (ρ : Env K) (j : Nat) : Bool := match ρ[j]? with
  | some s => s.isM
  | none => false

structure Ent where
  H0 : Hp
  K0 : Hp
  lent : Option Addr

structure Ok (c : Ent) (Hk H : Hp) (σ : List (Option V)) (ρ : Env K) : Prop where
  ex : Ex Hk H
  k0 : Ex c.K0 Hk
  fr : ∀ (a : Addr) (o : HO), c.H0 a = some o → c.lent ≠ some a → H a = some o
  nw : ∀ (a : Addr) (o : HO), Hk a = some o → c.K0 a = some o ∨ c.H0 a = none
  th : ∀ a : Addr, H a = none → c.H0 a = none
  len : σ.length = ρ.length
  sl : ∀ (i : Nat) (s : Slot K), ρ[i]? = some s → ∃ v, σ[i]? = some v ∧ s.ok Hk H v
  sep : ∀ (i j : Nat) (s s' : Slot K) (p : Addr), i ≠ j → ρ[i]? = some s → ρ[j]? = some s' → s.isM = true → s'.isM = true → σ[i]? = some (some (V.ref p)) → σ[j]? ≠ some (some (V.ref p))
  own : ∀ (i : Nat) (s : Slot K) (p : Addr), ρ[i]? = some s → s.isM = true → σ[i]? = some (some (V.ref p)) → c.H0 p = none ∨ c.lent = some p
  lv : ∀ p : Addr, c.lent = some p → σ[0]? = some (some (V.ref p)) ∧ ∃ s : Slot K, ρ[0]? = some s ∧ s.isM = true

variable {c : Ent} {Hk H Hk' H' : Hp} {σ : List (Option V)} {ρ ρ' ρ1 ρ2 ρ3 : Env K}

/-- what an expression may do: more is known, nothing but the mutable slots' objects is changed, no slot becomes mutable -/
structure Nxt (σ : List (Option V)) (ρ ρ' : Env K) (Hk H Hk' H' : Hp) : Prop where
  ex : Ex Hk Hk'
  fr : ∀ (a : Addr) (o : HO), H a = some o → (∀ (i : Nat) (s : Slot K), ρ[i]? = some s → s.isM = true → σ[i]? ≠ some (some (V.ref a))) → H' a = some o
  sub : ∀ (i : Nat) (s : Slot K), ρ'[i]? = some s → s.isM = true → ∃ s' : Slot K, ρ[i]? = some s' ∧ s'.isM = true
  nw : ∀ (a : Addr) (o : HO), Hk' a = some o → Hk a = some o ∨ H a = none ∨ ∃ (i : Nat) (s : Slot K), ρ[i]? = some s ∧ s.isM = true ∧ σ[i]? = some (some (V.ref a))
  th : ∀ a : Addr, H' a = none → H a = none
theorem Nxt.refl : Nxt σ ρ ρ Hk H Hk H := ⟨Ex.refl _, fun _ _ h _ => h, fun i s h m => ⟨s, h, m⟩, fun _ _ h => .inl h, fun _ h => h⟩
theorem Nxt.trans {Hk1 H1 Hk2 H2 : Hp} (a : Nxt σ ρ ρ1 Hk H Hk1 H1) (b : Nxt σ ρ1 ρ2 Hk1 H1 Hk2 H2) : Nxt σ ρ ρ2 Hk H Hk2 H2 :=
  ⟨a.ex.trans b.ex, fun p o h n => b.fr p o (a.fr p o h n) fun i s e m => let ⟨s', e', m'⟩ := a.sub i s e m; n i s' e' m', fun i s e m => let ⟨s', e', m'⟩ := b.sub i s e m; a.sub i s' e' m',
   fun p o h => by
    rcases b.nw p o h with z | z | ⟨i, s, z1, z2, z3⟩
    · exact a.nw p o z
    · exact .inr (.inl (a.th p z))
    · obtain ⟨s', e', m'⟩ := a.sub i s z1 z2
      exact .inr (.inr ⟨i, s', e', m', z3⟩), fun p h => a.th p (b.th p h)⟩
theorem Nxt.of (x : Ex Hk Hk') (y : Ex H H') (n : ∀ (a : Addr) (o : HO), Hk' a = some o → Hk a = some o ∨ H a = none) : Nxt σ ρ ρ Hk H Hk' H' :=
  ⟨x, fun a o h _ => y a o h, fun i s h m => ⟨s, h, m⟩, fun a o h => (n a o h).imp id .inl, fun a h => y.none h⟩
theorem Slot.ok_ext {s : Slot K} {v : Option V} (h : s.ok Hk H v) (eh : Ex H H') (ek : Ex Hk Hk') (n : ∀ a o, Hk' a = some o → Hk a = some o ∨ H a = none) : s.ok Hk' H' v := by
  cases m : s.isM with
  | false => exact Slot.okD m ek h
  | true =>
    obtain ⟨p, o, rfl, h2, h3⟩ := Slot.okM_ref m h
    refine Slot.okM_step m ek ?_ (fun o h => eh _ _ h) h
    cases q : Hk' p with
    | none => rfl
    | some o => rcases n p o q with z | z
                · rw [h2] at z; cases z
                · rw [h3] at z; cases z
/-- more objects, more known -/
theorem Ok.ext (k : Ok c Hk H σ ρ) (e : Ex H H') (ek : Ex Hk Hk') (x : Ex Hk' H') (n : ∀ a o, Hk' a = some o → Hk a = some o ∨ H a = none) : Ok c Hk' H' σ ρ where
  ex := x
  k0 := k.k0.trans ek
  fr := fun a o h l => e _ _ (k.fr a o h l)
  nw := fun a o h => (n a o h).elim (k.nw a o) fun h => .inr (k.th a h)
  th := fun a h => k.th a (e.none h)
  len := k.len
  sl := fun i s h => let ⟨v, a, b⟩ := k.sl i s h; ⟨v, a, Slot.ok_ext b e ek n⟩
  sep := k.sep
  own := k.own
  lv := k.lv
theorem Ok.new (k : Ok c Hk H σ ρ) {p : Addr} {o : HO} (h : H p = none) : Ok c (upd Hk p o) (upd H p o) σ ρ ∧ Nxt σ ρ ρ Hk H (upd Hk p o) (upd H p o) := by
  have hk : Hk p = none := k.ex.none h
  refine ⟨k.ext (Ex.new h) (Ex.new hk) (fun a u e => ?_) (fun a u e => ?_), Nxt.of (Ex.new hk) (Ex.new h) fun a u e => ?_⟩
  · by_cases q : a = p
    · subst q; rw [upd_same] at e ⊢; exact e
    · rw [upd_ne q] at e ⊢; exact k.ex _ _ e
  · by_cases q : a = p
    · subst q; exact .inr h
    · rw [upd_ne q] at e; exact .inl e
  · by_cases q : a = p
    · subst q; exact .inr h
    · rw [upd_ne q] at e; exact .inl e
/-- a new object that is not counted as known -/
theorem Ok.newU (k : Ok c Hk H σ ρ) {p : Addr} {o : HO} (h : H p = none) : Ok c Hk (upd H p o) σ ρ :=
  k.ext (Ex.new h) (Ex.refl _) (k.ex.trans (Ex.new h)) fun a u e => .inl e
theorem Ok.slot (k : Ok c Hk H σ ρ) {i : Nat} {s : Slot K} (h : ρ[i]? = some s) : ∃ v, σ[i]? = some v ∧ s.ok Hk H v := k.sl i s h
theorem Ok.var (k : Ok c Hk H σ ρ) {i : Nat} {α : Type} {e : Enc K α} {a : α} (h : ρ[i]? = some (.d e a)) : ∃ v, σ[i]? = some (some v) ∧ e.rep Hk v a := by
  obtain ⟨v, h1, u, h2, h3⟩ := k.sl i _ h
  subst h2; exact ⟨u, h1, h3⟩
/-- a fresh address is in no mutable slot -/
theorem Ok.apart (k : Ok c Hk H σ ρ) {p : Addr} (h : H p = none) {i : Nat} {s : Slot K} (hi : ρ[i]? = some s) (hm : s.isM = true) : σ[i]? ≠ some (some (V.ref p)) := by
  obtain ⟨v, h1, h2⟩ := k.sl i s hi
  intro e
  rw [h1] at e; cases e
  obtain ⟨q, o, e1, _, e2⟩ := Slot.okM_ref hm h2
  cases e1; rw [h] at e2; cases e2

/-- a name is stored -/
theorem Ok.set (k : Ok c Hk H σ ρ) {j : Nat} {s : Slot K} {v : V} (hj : isMAt ρ j = false) (hs : s.ok Hk H (some v))
    (hf : s.isM = true → ∀ p, v = .ref p → (c.H0 p = none) ∧ ∀ (i : Nat) (t : Slot K), ρ[i]? = some t → t.isM = true → σ[i]? ≠ some (some (V.ref p))) : Ok c Hk H (σ.set j (some v)) (ρ.set j s) := by
  have hm : ∀ t : Slot K, ρ[j]? = some t → t.isM = false := fun t e => by unfold isMAt at hj; rw [e] at hj; exact hj
  refine ⟨k.ex, k.k0, k.fr, k.nw, k.th, by simp [k.len], fun i t h => ?_, fun i i' t t' p ne h h' m m' e e' => ?_, fun i t p h m e => ?_, fun p h => ?_⟩
  · by_cases q : j = i
    · subst q
      by_cases lt : j < ρ.length
      · rw [List.getElem?_set_self lt] at h; cases h
        exact ⟨some v, by rw [List.getElem?_set_self (by rw [k.len]; exact lt)], hs⟩
      · rw [List.getElem?_eq_none (by simpa using lt)] at h; cases h
    · rw [List.getElem?_set_ne q] at h
      rw [List.getElem?_set_ne q]
      exact k.sl i t h
  · by_cases q : j = i
    · subst q
      have ne' : ¬ j = i' := ne
      rw [List.getElem?_set_ne ne'] at h' e'
      by_cases lt : j < ρ.length
      · rw [List.getElem?_set_self lt] at h; cases h
        rw [List.getElem?_set_self (by rw [k.len]; exact lt)] at e; cases e
        exact (hf m p rfl).2 i' t' h' m' e'
      · rw [List.getElem?_eq_none (by simpa using lt)] at h; cases h
    · rw [List.getElem?_set_ne q] at h e
      by_cases q' : j = i'
      · subst q'
        by_cases lt : j < ρ.length
        · rw [List.getElem?_set_self lt] at h'; cases h'
          rw [List.getElem?_set_self (by rw [k.len]; exact lt)] at e'; cases e'
          exact (hf m' p rfl).2 i t h m e
        · rw [List.getElem?_eq_none (by simpa using lt)] at h'; cases h'
      · rw [List.getElem?_set_ne q'] at h' e'
        exact k.sep i i' t t' p ne h h' m m' e e'
  · by_cases q : j = i
    · subst q
      by_cases lt : j < ρ.length
      · rw [List.getElem?_set_self lt] at h; cases h
        rw [List.getElem?_set_self (by rw [k.len]; exact lt)] at e; cases e
        exact .inl (hf m p rfl).1
      · rw [List.getElem?_eq_none (by simpa using lt)] at h; cases h
    · rw [List.getElem?_set_ne q] at h e
      exact k.own i t p h m e
  · obtain ⟨h1, t, h2, h3⟩ := k.lv p h
    have q : ¬ j = 0 := fun q => by subst q; rw [hm t h2] at h3; cases h3
    rw [List.getElem?_set_ne q, List.getElem?_set_ne q]
    exact ⟨h1, t, h2, h3⟩
/-- a mutable slot but the first may be dropped -/
def okSet (ρ : Env K) (j : Nat) : Bool := !(isMAt ρ j && j == 0)
theorem Ok.setX (k : Ok c Hk H σ ρ) {j : Nat} {s : Slot K} {v : V} (hj : okSet ρ j = true) (hs : s.ok Hk H (some v))
    (hf : s.isM = true → ∀ p, v = .ref p → (c.H0 p = none) ∧ ∀ (i : Nat) (t : Slot K), ρ[i]? = some t → t.isM = true → σ[i]? ≠ some (some (V.ref p))) : Ok c Hk H (σ.set j (some v)) (ρ.set j s) := by
  by_cases hm : isMAt ρ j = false
  · exact k.set hm hs hf
  · have hm : isMAt ρ j = true := by cases h : isMAt ρ j <;> simp_all
    have j0 : j ≠ 0 := fun z => by
      unfold okSet at hj
      rw [hm, z] at hj; cases hj
    have f : ∀ (i : Nat) (t : Slot K), (ρ.set j .un)[i]? = some t → t.isM = true → ρ[i]? = some t ∧ j ≠ i := fun i t h m => by
      by_cases q : j = i
      · subst q
        by_cases lt : j < ρ.length
        · rw [List.getElem?_set_self lt] at h; cases h; cases m
        · rw [List.getElem?_eq_none (by simpa using lt)] at h; cases h
      · rw [List.getElem?_set_ne q] at h; exact ⟨h, q⟩
    have k2 : Ok c Hk H σ (ρ.set j .un) := by
      refine ⟨k.ex, k.k0, k.fr, k.nw, k.th, by simp [k.len], fun i t h => ?_, fun i i' t t' p ne h h' m m' e => ?_, fun i t p h m e => ?_, fun p h => ?_⟩
      · by_cases q : j = i
        · subst q
          have lt : j < ρ.length := by
            have := (List.getElem?_eq_some_iff.mp h).1
            simpa using this
          rw [List.getElem?_set_self lt] at h; cases h
          exact ⟨_, List.getElem?_eq_getElem (by rw [k.len]; exact lt), trivial⟩
        · rw [List.getElem?_set_ne q] at h; exact k.sl i t h
      · exact k.sep i i' t t' p ne (f i t h m).1 (f i' t' h' m').1 m m' e
      · exact k.own i t p (f i t h m).1 m e
      · obtain ⟨a, t, b, d⟩ := k.lv p h
        exact ⟨a, t, by rw [List.getElem?_set_ne j0]; exact b, d⟩
    have e : (ρ.set j .un).set j s = ρ.set j s := List.set_set ..
    rw [← e]
    refine k2.set ?_ hs fun m p e => ⟨(hf m p e).1, fun i t h m' => (hf m p e).2 i t (f i t h m').1 m'⟩
    unfold isMAt
    by_cases lt : j < ρ.length
    · rw [List.getElem?_set_self lt]; rfl
    · rw [List.getElem?_eq_none (by simpa using lt)]
theorem Ok.setD (k : Ok c Hk H σ ρ) {j : Nat} {α : Type} {e : Enc K α} {a : α} {v : V} (hj : isMAt ρ j = false) (hv : e.rep Hk v a) : Ok c Hk H (σ.set j (some v)) (ρ.set j (.d e a)) :=
  k.set hj ⟨v, rfl, hv⟩ fun h => nomatch h

/-! ### forgetting -/
def WeakL : Env K → Env K → Prop
  | [], [] => True
  | s :: r, s' :: r' => (s' = s ∨ s' = .un) ∧ WeakL r r'
  | _, _ => False
def Weak : Env K → Env K → Prop
  | [], [] => True
  | s :: r, s' :: r' => (s' = s ∨ (s' = .un ∧ s.isM = false)) ∧ WeakL r r'
  | _, _ => False
theorem WeakL.at : ∀ {ρ ρ' : Env K}, WeakL ρ ρ' → ρ.length = ρ'.length ∧ ∀ (i : Nat) (s : Slot K), ρ'[i]? = some s → ρ[i]? = some s ∨ s = .un
  | [], [], _ => ⟨rfl, fun i s h => by simp at h⟩
  | s :: r, s' :: r', ⟨h, t⟩ => by
    obtain ⟨a, b⟩ := WeakL.at t
    refine ⟨by simp [a], fun i u e => ?_⟩
    cases i with
    | zero => simp at e; subst e; rcases h with h | h
              · exact .inl (by simp [h])
              · exact .inr h
    | succ i => simp at e; rcases b i u e with z | z
                · exact .inl (by simpa using z)
                · exact .inr z
theorem Weak.at : ∀ {ρ ρ' : Env K}, Weak ρ ρ' → ρ.length = ρ'.length ∧ (∀ (i : Nat) (s : Slot K), ρ'[i]? = some s → ρ[i]? = some s ∨ s = .un) ∧ ∀ s : Slot K, ρ[0]? = some s → s.isM = true → ρ'[0]? = some s
  | [], [], _ => ⟨rfl, fun i s h => by simp at h, fun s h => by simp at h⟩
  | s :: r, s' :: r', ⟨h, t⟩ => by
    obtain ⟨a, b⟩ := WeakL.at t
    refine ⟨by simp [a], fun i u e => ?_, fun u e m => ?_⟩
    · cases i with
      | zero => simp at e; subst e; rcases h with h | h
                · exact .inl (by simp [h])
                · exact .inr h.1
      | succ i => simp at e; rcases b i u e with z | z
                  · exact .inl (by simpa using z)
                  · exact .inr z
    · simp at e; subst e
      rcases h with h | h
      · simp [h]
      · rw [m] at h; cases h.2
theorem Ok.weak (k : Ok c Hk H σ ρ) (h : Weak ρ ρ') : Ok c Hk H σ ρ' := by
  obtain ⟨l, a, z⟩ := h.at
  refine ⟨k.ex, k.k0, k.fr, k.nw, k.th, k.len.trans l, fun i s e => ?_, fun i j s s' p ne e e' m m' => ?_, fun i s p e m => ?_, fun p e => ?_⟩
  · rcases a i s e with q | q
    · exact k.sl i s q
    · have lt : i < σ.length := by
        rw [k.len, l]; exact (List.getElem?_eq_some_iff.mp e).1
      exact ⟨σ[i], by simp [lt], by subst q; trivial⟩
  · have f : ∀ (i : Nat) (s : Slot K), ρ'[i]? = some s → s.isM = true → ρ[i]? = some s := fun i s e m => (a i s e).elim id fun q => by subst q; cases m
    exact k.sep i j s s' p ne (f i s e m) (f j s' e' m') m m'
  · have f : ∀ (i : Nat) (s : Slot K), ρ'[i]? = some s → s.isM = true → ρ[i]? = some s := fun i s e m => (a i s e).elim id fun q => by subst q; cases m
    exact k.own i s p (f i s e m) m
  · obtain ⟨h1, s, h2, h3⟩ := k.lv p e
    exact ⟨h1, s, z s h2 h3, h3⟩

/-- a list of one's own becomes data -/
theorem Ok.frz (k : Ok c Hk H σ ρ) {i : Nat} {α : Type} {e : Enc K α} {as : List α} (h : ρ[i]? = some (.l e as)) (h0 : i ≠ 0) :
    ∃ Hk' p, Ok c Hk' H σ (ρ.set i (.d (eL e) as)) ∧ Ex Hk Hk' ∧ σ[i]? = some (some (V.ref p)) ∧ (eL e).rep Hk' (.ref p) as ∧ ∀ a o, a ≠ p → Hk' a = some o → Hk a = some o := by
  obtain ⟨v, hv, p, o, e1, e2, e3, xs, rfl, e4, e5⟩ := k.sl i _ h
  subst e1
  have fr : c.H0 p = none := by
    rcases k.own i _ p h rfl hv with q | q
    · exact q
    · obtain ⟨q1, s, q2, q3⟩ := k.lv p q
      exact absurd q1 (k.sep i 0 _ s p h0 h q2 rfl q3 hv)
  have x : Ex Hk (upd Hk p (.lst xs)) := Ex.new e2
  have rp : (eL e).rep (upd Hk p (.lst xs)) (.ref p) as := ⟨p, xs, rfl, SqL.of upd_same, e4.imp fun _ _ h => e.mono x h, e5⟩
  have f : ∀ (j : Nat) (s : Slot K), (ρ.set i (.d (eL e) as))[j]? = some s → s.isM = true → ρ[j]? = some s := fun j s q m => by
    by_cases z : i = j
    · subst z
      rw [List.getElem?_set_self (List.getElem?_eq_some_iff.mp h).1] at q; cases q; cases m
    · rw [List.getElem?_set_ne z] at q; exact q
  refine ⟨upd Hk p (.lst xs), p, ⟨fun a o q => ?_, k.k0.trans x, k.fr, fun a o q => ?_, k.th, by simp [k.len], fun j s q => ?_, fun j j' s s' p' ne q q' m m' => k.sep j j' s s' p' ne (f _ _ q m) (f _ _ q' m') m m', fun j s p' q m => k.own j s p' (f _ _ q m) m, fun p' q => ?_⟩, x, hv, rp, fun a o n h => by rw [upd_ne n] at h; exact h⟩
  · by_cases z : a = p
    · subst z; rw [upd_same] at q; rw [e3, q]
    · rw [upd_ne z] at q; exact k.ex _ _ q
  · by_cases z : a = p
    · subst z; exact .inr fr
    · rw [upd_ne z] at q; exact k.nw _ _ q
  · by_cases z : i = j
    · subst z
      rw [List.getElem?_set_self (List.getElem?_eq_some_iff.mp h).1] at q; cases q
      exact ⟨_, hv, .ref p, rfl, rp⟩
    · rw [List.getElem?_set_ne z] at q
      obtain ⟨w, w1, w2⟩ := k.sl j s q
      refine ⟨w, w1, ?_⟩
      cases m : s.isM with
      | false => exact Slot.okD m x w2
      | true =>
        obtain ⟨p', o', rfl, a2, a3⟩ := Slot.okM_ref m w2
        refine Slot.okM_step m x ?_ (fun _ h => h) w2
        rw [upd_ne (fun ep => by subst ep; exact k.sep i j _ s p' z h q rfl m hv w1)]
        exact a2
  · obtain ⟨q1, s, q2, q3⟩ := k.lv p' q
    exact ⟨q1, s, by rw [List.getElem?_set_ne h0]; exact q2, q3⟩

/-- the object of a mutable slot is changed -/
theorem Ok.mutate (k : Ok c Hk H σ ρ) {i : Nat} {s s' : Slot K} {p : Addr} {o : HO} (h : ρ[i]? = some s) (m : s.isM = true) (m' : s'.isM = true) (hv : σ[i]? = some (some (V.ref p)))
    (hs : s'.cont Hk o) : Ok c Hk (upd H p o) σ (ρ.set i s') := by
  obtain ⟨hk, u, hu⟩ : Hk p = none ∧ ∃ u, H p = some u := by
    obtain ⟨v, a1, a2⟩ := k.sl i s h
    rw [hv] at a1; cases a1
    obtain ⟨q, xs, e1, e2, e3⟩ := Slot.okM_ref m a2
    cases e1; exact ⟨e2, _, e3⟩
  have f : ∀ (j : Nat) (t : Slot K), (ρ.set i s')[j]? = some t → t.isM = true → ∃ t' : Slot K, ρ[j]? = some t' ∧ t'.isM = true := fun j t q mt => by
    by_cases z : i = j
    · subst z; exact ⟨s, h, m⟩
    · rw [List.getElem?_set_ne z] at q; exact ⟨t, q, mt⟩
  refine ⟨fun a w q => ?_, k.k0, fun a w q l => ?_, k.nw, fun a q => ?_, by simp [k.len], fun j t q => ?_, fun j j' t t' p' ne q q' mt mt' => ?_, fun j t p' q mt => ?_, fun p' q => ?_⟩
  · rw [upd_ne (fun z => by subst z; rw [hk] at q; cases q)]; exact k.ex _ _ q
  · have np : a ≠ p := fun z => by
      subst z
      rcases k.own i s a h m hv with y | y
      · rw [y] at q; cases q
      · exact l y
    rw [upd_ne np]; exact k.fr _ _ q l
  · by_cases z : a = p
    · subst z; rw [upd_same] at q; cases q
    · rw [upd_ne z] at q; exact k.th _ q
  · by_cases z : i = j
    · subst z
      rw [List.getElem?_set_self (List.getElem?_eq_some_iff.mp h).1] at q; cases q
      exact ⟨_, hv, (Slot.okM m').mpr ⟨p, o, rfl, hk, upd_same, hs⟩⟩
    · rw [List.getElem?_set_ne z] at q
      obtain ⟨w, w1, w2⟩ := k.sl j t q
      refine ⟨w, w1, ?_⟩
      cases mt : t.isM with
      | false => exact Slot.okD mt (Ex.refl _) w2
      | true =>
        obtain ⟨p', o', rfl, a2, a3⟩ := Slot.okM_ref mt w2
        refine Slot.okM_step mt (Ex.refl _) a2 (fun o h' => ?_) w2
        rw [upd_ne (fun ep => by subst ep; exact k.sep i j _ t p' z h q m mt hv w1)]
        exact h'
  · obtain ⟨u, u1, u2⟩ := f _ _ q mt
    obtain ⟨u', u1', u2'⟩ := f _ _ q' mt'
    exact k.sep j j' u u' p' ne u1 u1' u2 u2'
  · obtain ⟨u, u1, u2⟩ := f _ _ q mt
    exact k.own j u p' u1 u2
  · obtain ⟨q1, t, q2, q3⟩ := k.lv p' q
    refine ⟨q1, ?_⟩
    by_cases z : i = 0
    · subst z; exact ⟨s', by rw [List.getElem?_set_self (List.getElem?_eq_some_iff.mp h).1], m'⟩
    · exact ⟨t, by rw [List.getElem?_set_ne z]; exact q2, q3⟩
/-- an object that is neither known nor of a slot is changed -/
theorem Ok.updU (k : Ok c Hk H σ ρ) {p : Addr} {o u : HO} (hk : Hk p = none) (h0 : c.H0 p = none) (hp : H p = some u) (hn : ∀ (i : Nat) (s : Slot K), ρ[i]? = some s → s.isM = true → σ[i]? ≠ some (some (V.ref p))) : Ok c Hk (upd H p o) σ ρ := by
  refine ⟨fun a w q => ?_, k.k0, fun a w q l => ?_, k.nw, fun a q => ?_, k.len, fun j t q => ?_, k.sep, k.own, k.lv⟩
  · rw [upd_ne (fun z => by subst z; rw [hk] at q; cases q)]; exact k.ex _ _ q
  · rw [upd_ne (fun z => by subst z; rw [h0] at q; cases q)]; exact k.fr _ _ q l
  · by_cases z : a = p
    · subst z; rw [upd_same] at q; cases q
    · rw [upd_ne z] at q; exact k.th _ q
  · obtain ⟨w, w1, w2⟩ := k.sl j t q
    refine ⟨w, w1, ?_⟩
    cases mt : t.isM with
    | false => exact Slot.okD mt (Ex.refl _) w2
    | true =>
      obtain ⟨p', o', rfl, a2, a3⟩ := Slot.okM_ref mt w2
      refine Slot.okM_step mt (Ex.refl _) a2 (fun o h' => ?_) w2
      rw [upd_ne (fun ep => by subst ep; exact hn j t q mt w1)]
      exact h'
/-- the object of a mutable slot was changed by a call -/
theorem Ok.callM (k : Ok c Hk H σ ρ) {i : Nat} {s s' : Slot K} {p : Addr} (h : ρ[i]? = some s) (m : s.isM = true) (m' : s'.isM = true) (hv : σ[i]? = some (some (V.ref p)))
    (ex : Ex Hk' H') (k0 : Ex Hk Hk') (fr : ∀ (a : Addr) (o : HO), H a = some o → p ≠ a → H' a = some o) (nw : ∀ (a : Addr) (o : HO), Hk' a = some o → Hk a = some o ∨ H a = none) (th : ∀ a : Addr, H' a = none → H a = none)
    (hs : s'.ok Hk' H' (some (V.ref p))) : Ok c Hk' H' σ (ρ.set i s') ∧ Nxt σ ρ (ρ.set i s') Hk H Hk' H' := by
  have f : ∀ (j : Nat) (t : Slot K), (ρ.set i s')[j]? = some t → t.isM = true → ∃ t' : Slot K, ρ[j]? = some t' ∧ t'.isM = true := fun j t q mt => by
    by_cases z : i = j
    · subst z; exact ⟨s, h, m⟩
    · rw [List.getElem?_set_ne z] at q; exact ⟨t, q, mt⟩
  refine ⟨⟨ex, k.k0.trans k0, fun a w q l => fr _ _ (k.fr _ _ q l) fun z => ?_, fun a o q => (nw a o q).elim (k.nw a o) fun z => .inr (k.th a z), fun a q => k.th a (th a q), by simp [k.len], fun j t q => ?_, fun j j' t t' p' ne q q' mt mt' => ?_, fun j t p' q mt => ?_, fun p' q => ?_⟩,
    ⟨k0, fun a o q n => fr a o q fun z => n i s h m (by rw [← z]; exact hv), f, fun a o q => (nw a o q).imp id .inl, th⟩⟩
  · subst z
    rcases k.own i s p h m hv with y | y
    · rw [y] at q; cases q
    · exact l y
  · by_cases z : i = j
    · subst z
      rw [List.getElem?_set_self (List.getElem?_eq_some_iff.mp h).1] at q; cases q
      exact ⟨_, hv, hs⟩
    · rw [List.getElem?_set_ne z] at q
      obtain ⟨w, w1, w2⟩ := k.sl j t q
      refine ⟨w, w1, ?_⟩
      cases mt : t.isM with
      | false => exact Slot.okD mt k0 w2
      | true =>
        obtain ⟨p', o', rfl, a2, a3⟩ := Slot.okM_ref mt w2
        have np : p ≠ p' := fun ep => by subst ep; exact k.sep i j _ t p z h q m mt hv w1
        refine Slot.okM_step mt k0 ?_ (fun o h' => fr _ _ h' np) w2
        cases y : Hk' p' with
        | none => rfl
        | some o => rcases nw p' o y with z | z
                    · rw [a2] at z; cases z
                    · rw [a3] at z; cases z
  · obtain ⟨u, u1, u2⟩ := f _ _ q mt
    obtain ⟨u', u1', u2'⟩ := f _ _ q' mt'
    exact k.sep j j' u u' p' ne u1 u1' u2 u2'
  · obtain ⟨u, u1, u2⟩ := f _ _ q mt
    exact k.own j u p' u1 u2
  · obtain ⟨q1, t, q2, q3⟩ := k.lv p' q
    refine ⟨q1, ?_⟩
    by_cases z : i = 0
    · subst z; exact ⟨s', by rw [List.getElem?_set_self (List.getElem?_eq_some_iff.mp h).1], m'⟩
    · exact ⟨t, by rw [List.getElem?_set_ne z]; exact q2, q3⟩
end
end FL

/-! FL2: judgements over data: expressions, tests, arguments, statements. -/
namespace FL
open PySem L2

inductive Out (ν lam γ : Type) | nx (t : ν) | ct (t : lam) | bk (t : lam) | rt (r : γ)
def Out.bind {ν μ lam γ : Type} : Out ν lam γ → (ν → Out μ lam γ) → Out μ lam γ
  | .nx t, g => g t
  | .ct t, _ => .ct t
  | .bk t, _ => .bk t
  | .rt r, _ => .rt r
/-- let -/
def lt {α β : Type} (a : α) (f : α → β) : β := f a
/-- a loop's run: nx where it went through, bk where it was left -/
def run {τ α γ : Type} (f : τ → α → Out τ τ γ) : τ → List α → Out τ τ γ
  | t, [] => .nx t
  | t, x :: xs => match f t x with
    | .nx t' => run f t' xs
    | .ct t' => run f t' xs
    | .bk t' => .bk t'
    | .rt r => .rt r
/-- behind a loop -/
def Out.done {τ lam γ : Type} : Out τ τ γ → Out τ lam γ
  | .nx t => .nx t
  | .ct t => .nx t
  | .bk t => .nx t
  | .rt r => .rt r

section
variable {K : PySem.W.Frag}

/-- what a def gives back: data, and what its mutable first parameter holds then -/
structure Ret (K : PySem.W.Frag) (γ : Type) where
  {α : Type}
  e : Enc K α
  val : γ → α
  ls : γ → Option (Slot K)
  /-- a new mutable object in the place of data -/
  nl : γ → Option (Slot K)
abbrev retD {α : Type} (e : Enc K α) : Ret K α := ⟨e, id, fun _ => none, fun _ => none⟩
/-- with the mutable first parameter -/
abbrev retM {α β : Type} (e : Enc K α) (M : MEnc K β) : Ret K (α × β) := ⟨e, Prod.fst, fun r => some (.m M r.2), fun _ => none⟩
/-- a new list -/
abbrev retL {α : Type} (e : Enc K α) : Ret K (List α) := ⟨eL e, id, fun _ => none, fun r => some (.l e r)⟩
abbrev retLM {α β : Type} (e : Enc K α) (M : MEnc K β) : Ret K (List α × β) := ⟨eL e, Prod.fst, fun r => some (.m M r.2), fun r => some (.l e r.1)⟩
/-- a new mutable object -/
abbrev retW {β : Type} (M : MEnc K β) : Ret K β := ⟨eN, fun _ => (), fun _ => none, fun r => some (.m M r)⟩

structure OkR {γ : Type} (c : Ent) (R : Ret K γ) (r : γ) (v : V) (Hk H : Hp) : Prop where
  ex : Ex Hk H
  k0 : Ex c.K0 Hk
  fr : ∀ (a : Addr) (o : HO), c.H0 a = some o → c.lent ≠ some a → H a = some o
  nw : ∀ (a : Addr) (o : HO), Hk a = some o → c.K0 a = some o ∨ c.H0 a = none
  th : ∀ a : Addr, H a = none → c.H0 a = none
  rv : R.nl r = none → R.e.rep Hk v (R.val r)
  nv : ∀ s : Slot K, R.nl r = some s → s.isM = true ∧ s.ok Hk H (some v) ∧ ∀ p, v = V.ref p → c.H0 p = none
  lv : ∀ (p : Addr) (s : Slot K), c.lent = some p → R.ls r = some s → s.ok Hk H (some (V.ref p))

/-! ### judgements -/
def EvD (te : TE) (ρ ρ' : Env K) {α : Type} (e : Enc K α) (a : α) : Prop :=
  ∀ (c : Ent) (σ : List (Option V)) (Hk H : Hp), Ok c Hk H σ ρ → ∀ Q : VK, (∀ v Hk' H', Ok c Hk' H' σ ρ' → Nxt σ ρ ρ' Hk H Hk' H' → e.rep Hk' v a → Q v H') → te σ H Q
/-- a new list -/
def EvN (te : TE) (ρ ρ' : Env K) {α : Type} (e : Enc K α) (as : List α) : Prop :=
  ∀ (c : Ent) (σ : List (Option V)) (Hk H : Hp), Ok c Hk H σ ρ → ∀ Q : VK, (∀ p xs Hk' H', Ok c Hk' H' σ ρ' → Nxt σ ρ ρ' Hk H Hk' H' → Hk' p = none → H' p = some (.lst xs) → All2 (e.rep Hk') xs as → as.length ≤ LM → H p = none → Q (.ref p) H') → te σ H Q
def EvT (tt : TT) (ρ ρ' : Env K) (b : Bool) : Prop :=
  ∀ (c : Ent) (σ : List (Option V)) (Hk H : Hp), Ok c Hk H σ ρ → ∀ Q : Bool → Hp → Prop, (∀ Hk' H', Ok c Hk' H' σ ρ' → Nxt σ ρ ρ' Hk H Hk' H' → Q b H') → tt σ H Q
/-- arguments, all of them data -/
def EvA (ta : TA) (ρ ρ' : Env K) (ds : List (Slot K)) : Prop :=
  ∀ (c : Ent) (σ : List (Option V)) (Hk H : Hp), Ok c Hk H σ ρ → ∀ Q : List V → Hp → Prop, (∀ vs Hk' H', Ok c Hk' H' σ ρ' → Nxt σ ρ ρ' Hk H Hk' H' → All2S (fun v s => s.ok Hk' H' (some v)) vs ds → Q vs H') → ta σ H Q
def XS (ts : TS) (ρ ρ' : Env K) : Prop :=
  ∀ (c : Ent) (σ : List (Option V)) (Hk H : Hp), Ok c Hk H σ ρ → ∀ D : Ends, (∀ σ' Hk' H', Ok c Hk' H' σ' ρ' → Ex Hk Hk' → D.nx σ' H') → ts D σ H
def Out.fin {ν lam γ : Type} (c : Ent) (Hk : Hp) (E : ν → Env K) (L : lam → Env K) (R : Ret K γ) (D : Ends) : Out ν lam γ → Prop
  | .nx t => ∀ σ' Hk' H', Ok c Hk' H' σ' (E t) → Ex Hk Hk' → D.nx σ' H'
  | .ct t => ∀ σ' Hk' H', Ok c Hk' H' σ' (L t) → Ex Hk Hk' → D.ct σ' H'
  | .bk t => ∀ σ' Hk' H', Ok c Hk' H' σ' (L t) → Ex Hk Hk' → D.bk σ' H'
  | .rt r => ∀ v Hk' H', OkR c R r v Hk' H' → D.rt v H'
def XB (ts : TS) (ρ : Env K) {ν lam γ : Type} (E : ν → Env K) (L : lam → Env K) (R : Ret K γ) (o : Out ν lam γ) : Prop :=
  ∀ (c : Ent) (σ : List (Option V)) (Hk H : Hp), Ok c Hk H σ ρ → ∀ D : Ends, o.fin c Hk E L R D → ts D σ H

variable {ρ ρ' ρ1 ρ2 ρ3 : Env K} {α β : Type} {e : Enc K α} {ta tb te tc : TE} {tt tu tw : TT} {r : R2}

/-- a new mutable object -/
def EvW (te : TE) (ρ ρ' : Env K) (s : Slot K) : Prop :=
  ∀ (c : Ent) (σ : List (Option V)) (Hk H : Hp), Ok c Hk H σ ρ → ∀ Q : VK, (∀ p Hk' H', Ok c Hk' H' σ ρ' → Nxt σ ρ ρ' Hk H Hk' H' → s.ok Hk' H' (some (V.ref p)) → H p = none → Q (.ref p) H') → te σ H Q
theorem EvN.w {as : List α} (h : EvN te ρ ρ' e as) : EvW te ρ ρ' (.l e as) := fun c σ Hk H k Q q => h c σ Hk H k Q fun p xs Hk' H' k' x hn hp ha hl hH => q p Hk' H' k' x ⟨p, _, rfl, hn, hp, xs, rfl, ha, hl⟩ hH
theorem EvW.n {as : List α} (h : EvW te ρ ρ' (.l e as)) : EvN te ρ ρ' e as := fun c σ Hk H k Q q => h c σ Hk H k Q fun p Hk' H' k' x ⟨p', o, e1, e2, e3, xs, e4, e5, e6⟩ hH => by
  cases e1; subst e4
  exact q p xs Hk' H' k' x e2 e3 e5 e6 hH
theorem EvN.d {as : List α} (h : EvN te ρ ρ' e as) : EvD te ρ ρ' (eL e) as := fun c σ Hk H k Q q => h c σ Hk H k Q fun p xs Hk' H' k' x hn hp ha hl hH => by
  have y : Ex Hk' (upd Hk' p (.lst xs)) := Ex.new hn
  have h0 : c.H0 p = none := k.th p hH
  have hs : ∀ (i : Nat) (s : Slot K), ρ'[i]? = some s → s.isM = true → σ[i]? ≠ some (some (V.ref p)) := fun i s z m => let ⟨s', e', m'⟩ := x.sub i s z m; k.apart hH e' m'
  refine q _ (upd Hk' p (.lst xs)) H' ⟨fun a o z => ?_, k'.k0.trans y, k'.fr, fun a o z => ?_, k'.th, k'.len, fun i s z => ?_, k'.sep, k'.own, k'.lv⟩ ⟨x.ex.trans y, x.fr, x.sub, fun a o z => ?_, x.th⟩ ⟨p, xs, rfl, SqL.of upd_same, ha.imp fun _ _ h => e.mono y h, hl⟩
  · by_cases w : a = p
    · subst w; rw [upd_same] at z; rw [hp, z]
    · rw [upd_ne w] at z; exact k'.ex _ _ z
  · by_cases w : a = p
    · subst w; exact .inr h0
    · rw [upd_ne w] at z; exact k'.nw _ _ z
  · obtain ⟨w, w1, w2⟩ := k'.sl i s z
    refine ⟨w, w1, ?_⟩
    cases m : s.isM with
    | false => exact Slot.okD m y w2
    | true =>
      obtain ⟨p', o', rfl, a2, a3⟩ := Slot.okM_ref m w2
      refine Slot.okM_step m y ?_ (fun _ h => h) w2
      rw [upd_ne (fun ep => by subst ep; exact hs i s z m w1)]
      exact a2
  · by_cases w : a = p
    · subst w; exact .inr (.inl hH)
    · rw [upd_ne w] at z; exact x.nw _ _ z

/-! ### expressions -/
theorem ev_var {i : Nat} {a : α} (h : ρ[i]? = some (.d e a)) : EvD (tVar i) ρ ρ e a := fun c σ Hk H k Q q => by
  obtain ⟨v, h1, h2⟩ := k.var h
  exact ⟨v, h1, q v Hk H k Nxt.refl h2⟩
/-- a list of one's own is given away -/
theorem ev_give {i : Nat} {as : List α} (h : ρ[i]? = some (.l e as)) (h0 : i ≠ 0) : EvD (tVar i) ρ (ρ.set i (.d (eL e) as)) (eL e) as := fun c σ Hk H k Q q => by
  obtain ⟨Hk', p, k', x, hv, hr, hn⟩ := k.frz h h0
  exact ⟨_, hv, q _ Hk' H k' ⟨x, fun _ _ h _ => h, fun j s z m => by
    by_cases w : i = j
    · subst w; exact ⟨_, h, rfl⟩
    · rw [List.getElem?_set_ne w] at z; exact ⟨s, z, m⟩, fun a o z => by
    by_cases w : a = p
    · subst w; exact .inr (.inr ⟨i, _, h, rfl, hv⟩)
    · exact .inl (hn a o w z), fun _ h => h⟩ hr⟩
theorem ev_c {v : V} {a : α} (h : ∀ H, e.rep H v a) : EvD (tC v) ρ ρ e a := fun c σ Hk H k Q q => q v Hk H k Nxt.refl (h _)
theorem ev_int {i : Int} : EvD (tC (.int i)) ρ ρ eI i := ev_c fun _ => rfl
theorem ev_bl {b : Bool} : EvD (tC (.bl b)) ρ ρ eB b := ev_c fun _ => rfl
theorem ev_str {x : Str} : EvD (tC (.str x)) ρ ρ eS x := ev_c fun _ => rfl
theorem ev_non : EvD (tC .non) ρ ρ eN () := ev_c fun _ => rfl
theorem ev_none : EvD (tC .non) ρ ρ (eO e) none := ev_c fun _ => rfl
theorem ev_some {a : α} (h : EvD te ρ ρ' e a) : EvD te ρ ρ' (eO e) (some a) := h
theorem ev_eq {a b : α} (h : EvD te ρ ρ' e a) (q : a = b) : EvD te ρ ρ' e b := q ▸ h
theorem et_eq {a b : Bool} (h : EvT tt ρ ρ' a) (q : a = b) : EvT tt ρ ρ' b := q ▸ h
theorem ev_LQ {as : List α} (h : EvD te ρ ρ' (eL e) as) : EvD te ρ ρ' (eQ e) as := fun c σ Hk H k Q q => h c σ Hk H k Q fun v Hk' H' k' x r => q v Hk' H' k' x (.inl r)
theorem ev_TQ {as : List α} (h : EvD te ρ ρ' (eT e) as) : EvD te ρ ρ' (eQ e) as := fun c σ Hk H k Q q => h c σ Hk H k Q fun v Hk' H' k' x r => q v Hk' H' k' x (.inr r)

/-- an operation on two data that hangs on no heap -/
theorem ev_bin {γ : Type} {f : Enc K β} {g : Enc K γ} {a : α} {b : β} {z : γ} (ha : EvD ta ρ ρ1 e a) (hb : EvD tb ρ1 ρ2 f b)
    (hr : ∀ (c : Ent) (σ : List (Option V)) (Hk H : Hp) (x y : V), Ok c Hk H σ ρ2 → e.rep Hk x a → f.rep Hk y b → ∀ Q : VK, (∀ v Hk' H', Ok c Hk' H' σ ρ2 → Nxt σ ρ2 ρ2 Hk H Hk' H' → g.rep Hk' v z → Q v H') → r x y H Q) : EvD (tOp r ta tb) ρ ρ2 g z :=
  fun c σ Hk H k Q q => ha c σ Hk H k _ fun x Hk1 H1 k1 x1 r1 => hb c σ Hk1 H1 k1 _ fun y Hk2 H2 k2 x2 r2 =>
    hr c σ Hk2 H2 x y k2 (e.mono x2.ex r1) r2 Q fun v Hk3 H3 k3 x3 r3 => q v Hk3 H3 k3 ((x1.trans x2).trans x3) r3
theorem ev_I0 {g : Int → Int → Int} {a b : Int} (ha : EvD ta ρ ρ1 eI a) (hb : EvD tb ρ1 ρ2 eI b) : EvD (tOp (rI0 fun i j => .int (g i j)) ta tb) ρ ρ2 eI (g a b) :=
  ev_bin ha hb fun c σ Hk H x y k r1 r2 Q q => ⟨a, b, r1, r2, q _ Hk H k Nxt.refl rfl⟩
theorem ev_IB {g : Int → Int → Bool} {a b : Int} (ha : EvD ta ρ ρ1 eI a) (hb : EvD tb ρ1 ρ2 eI b) : EvD (tOp (rI0 fun i j => .bl (g i j)) ta tb) ρ ρ2 eB (g a b) :=
  ev_bin ha hb fun c σ Hk H x y k r1 r2 Q q => ⟨a, b, r1, r2, q _ Hk H k Nxt.refl rfl⟩
theorem ev_I {C : Int → Int → Prop} {g : Int → Int → Int} {a b : Int} (ha : EvD ta ρ ρ1 eI a) (hb : EvD tb ρ1 ρ2 eI b) (hc : C a b) : EvD (tOp (rI C fun i j => .int (g i j)) ta tb) ρ ρ2 eI (g a b) :=
  ev_bin ha hb fun c σ Hk H x y k r1 r2 Q q => ⟨a, b, r1, r2, hc, q _ Hk H k Nxt.refl rfl⟩
theorem ev_un {g : Int → Int} {a : Int} (ha : EvD ta ρ ρ1 eI a) : EvD (tUn (rU fun i => .int (g i)) ta) ρ ρ1 eI (g a) :=
  fun c σ Hk H k Q q => ha c σ Hk H k _ fun x Hk1 H1 k1 x1 r1 => ⟨a, r1, q _ Hk1 H1 k1 x1 rfl⟩
theorem ev_eqI {a b : Int} (ha : EvD ta ρ ρ1 eI a) (hb : EvD tb ρ1 ρ2 eI b) : EvD (tOp rEq ta tb) ρ ρ2 eB (decide (a = b)) :=
  ev_bin ha hb fun c σ Hk H x y k r1 r2 Q q => by
    have r1 : x = .int a := r1
    have r2 : y = .int b := r2
    subst r1; subst r2
    refine ⟨rfl, q _ Hk H k Nxt.refl ?_⟩
    show V.bl _ = V.bl _
    congr 1; simp
theorem ev_neI {a b : Int} (ha : EvD ta ρ ρ1 eI a) (hb : EvD tb ρ1 ρ2 eI b) : EvD (tOp rNe ta tb) ρ ρ2 eB (!decide (a = b)) :=
  ev_bin ha hb fun c σ Hk H x y k r1 r2 Q q => by
    have r1 : x = .int a := r1
    have r2 : y = .int b := r2
    subst r1; subst r2
    refine ⟨rfl, q _ Hk H k Nxt.refl ?_⟩
    show V.bl _ = V.bl _
    congr 2; simp
theorem ev_eqB {a b : Bool} (ha : EvD ta ρ ρ1 eB a) (hb : EvD tb ρ1 ρ2 eB b) : EvD (tOp rEq ta tb) ρ ρ2 eB (decide (a = b)) :=
  ev_bin ha hb fun c σ Hk H x y k r1 r2 Q q => by
    have r1 : x = .bl a := r1
    have r2 : y = .bl b := r2
    subst r1; subst r2
    refine ⟨rfl, q _ Hk H k Nxt.refl ?_⟩
    show V.bl _ = V.bl _
    congr 1; simp
theorem ev_eqS {a b : Str} (ha : EvD ta ρ ρ1 eS a) (hb : EvD tb ρ1 ρ2 eS b) : EvD (tOp rEq ta tb) ρ ρ2 eB (decide (a = b)) :=
  ev_bin ha hb fun c σ Hk H x y k r1 r2 Q q => by
    have r1 : x = .str a := r1
    have r2 : y = .str b := r2
    subst r1; subst r2
    refine ⟨rfl, q _ Hk H k Nxt.refl ?_⟩
    show V.bl _ = V.bl _
    congr 1; simp
theorem ev_if {b : Bool} {x y : α} (h : EvT tt ρ ρ1 b) (h1 : b = true → EvD ta ρ1 ρ2 e x) (h2 : b = false → EvD tb ρ1 ρ2 e y) : EvD (tIf tt ta tb) ρ ρ2 e (bif b then x else y) :=
  fun c σ Hk H k Q q => h c σ Hk H k _ fun Hk1 H1 k1 x1 => by
    cases b with
    | true => rw [if_pos rfl]; exact h1 rfl c σ Hk1 H1 k1 Q fun v Hk2 H2 k2 x2 r2 => q v Hk2 H2 k2 (x1.trans x2) r2
    | false => rw [if_neg (by decide)]; exact h2 rfl c σ Hk1 H1 k1 Q fun v Hk2 H2 k2 x2 r2 => q v Hk2 H2 k2 (x1.trans x2) r2
theorem ev_andV {a b : Bool} (h1 : EvD ta ρ ρ eB a) (h2 : a = true → EvD tb ρ ρ eB b) : EvD (tAndV ta tb) ρ ρ eB (a && b) :=
  fun c σ Hk H k Q q => h1 c σ Hk H k _ fun x Hk1 H1 k1 x1 r1 => ⟨a, r1, by
    cases a with
    | true => rw [if_pos rfl]; exact h2 rfl c σ Hk1 H1 k1 Q fun v Hk2 H2 k2 x2 r2 => q v Hk2 H2 k2 (x1.trans x2) r2
    | false => rw [if_neg (by decide)]; exact q _ Hk1 H1 k1 x1 rfl⟩
theorem ev_orV {a b : Bool} (h1 : EvD ta ρ ρ eB a) (h2 : a = false → EvD tb ρ ρ eB b) : EvD (tOrV ta tb) ρ ρ eB (a || b) :=
  fun c σ Hk H k Q q => h1 c σ Hk H k _ fun x Hk1 H1 k1 x1 r1 => ⟨a, r1, by
    cases a with
    | false => rw [if_neg (by decide)]; exact h2 rfl c σ Hk1 H1 k1 Q fun v Hk2 H2 k2 x2 r2 => q v Hk2 H2 k2 (x1.trans x2) r2
    | true => rw [if_pos rfl]; exact q _ Hk1 H1 k1 x1 rfl⟩
theorem ev_notV {a : Bool} (h1 : EvD ta ρ ρ1 eB a) : EvD (tNotV ta) ρ ρ1 eB (!a) :=
  fun c σ Hk H k Q q => h1 c σ Hk H k _ fun x Hk1 H1 k1 x1 r1 => ⟨a, r1, q _ Hk1 H1 k1 x1 rfl⟩
theorem ev_isN [NN e] {o : Option α} (h : EvD ta ρ ρ1 (eO e) o) (hb : tb = tC .non) : EvD (tOp (fun x y H Q => y = .non ∧ Q (.bl (decide (x = .non))) H) ta tb) ρ ρ1 eB o.isNone := by
  subst hb
  exact fun c σ Hk H k Q q => h c σ Hk H k _ fun x Hk1 H1 k1 x1 r1 => ⟨rfl, q _ Hk1 H1 k1 x1 (by
    cases o with
    | none =>
      have r1 : x = .non := r1
      subst r1; rfl
    | some a =>
      have n : x ≠ .non := fun z => by subst z; exact NN.nn (e := e) Hk1 a r1
      show V.bl _ = V.bl _
      rw [decide_eq_false n]; rfl)⟩
theorem ev_notN [NN e] {o : Option α} (h : EvD ta ρ ρ1 (eO e) o) (hb : tb = tC .non) : EvD (tOp (fun x y H Q => y = .non ∧ Q (.bl (!decide (x = .non))) H) ta tb) ρ ρ1 eB o.isSome := by
  subst hb
  exact fun c σ Hk H k Q q => h c σ Hk H k _ fun x Hk1 H1 k1 x1 r1 => ⟨rfl, q _ Hk1 H1 k1 x1 (by
    cases o with
    | none =>
      have r1 : x = .non := r1
      subst r1; rfl
    | some a =>
      have n : x ≠ .non := fun z => by subst z; exact NN.nn (e := e) Hk1 a r1
      show V.bl _ = V.bl _
      rw [decide_eq_false n]; rfl)⟩
/-- a chain a < b < c of ints -/
theorem ev_chain {g h : Int → Int → Bool} {x y z : Int} (h1 : EvD ta ρ ρ eI x) (h2 : EvD tb ρ ρ eI y) (h3 : EvD tc ρ ρ eI z) :
    EvD (tChain (rI0 fun i j => .bl (g i j)) (rI0 fun i j => .bl (h i j)) ta tb tc) ρ ρ eB (g x y && h y z) :=
  fun c σ Hk H k Q q => h1 c σ Hk H k _ fun u Hk1 H1 k1 x1 r1 => h2 c σ Hk1 H1 k1 _ fun v Hk2 H2 k2 x2 r2 => by
    refine ⟨x, y, r1, r2, g x y, rfl, ?_⟩
    cases e : g x y with
    | false => exact q _ Hk2 H2 k2 (x1.trans x2) (by simp [e]; rfl)
    | true => exact h3 c σ Hk2 H2 k2 _ fun w Hk3 H3 k3 x3 r3 => ⟨y, z, r2, r3, q _ Hk3 H3 k3 ((x1.trans x2).trans x3) (by simp [e]; rfl)⟩

/-! ### tests -/
theorem et_test {b : Bool} (h : EvD te ρ ρ1 eB b) : EvT (tTest te) ρ ρ1 b := fun c σ Hk H k Q q => h c σ Hk H k _ fun v Hk' H' k' x r => ⟨b, r, q Hk' H' k' x⟩
theorem et_B {b : Bool} (h : EvD te ρ ρ1 eB b) : EvT (tB te) ρ ρ1 b := fun c σ Hk H k Q q => h c σ Hk H k _ fun v Hk' H' k' x r => ⟨b, r, q Hk' H' k' x⟩
theorem et_and {a b : Bool} (h1 : EvT tt ρ ρ a) (h2 : a = true → EvT tu ρ ρ b) : EvT (tAnd tt tu) ρ ρ (a && b) := fun c σ Hk H k Q q => h1 c σ Hk H k _ fun Hk1 H1 k1 x1 => by
  cases a with
  | true => rw [if_pos rfl]; exact h2 rfl c σ Hk1 H1 k1 Q fun Hk2 H2 k2 x2 => q Hk2 H2 k2 (x1.trans x2)
  | false => rw [if_neg (by decide)]; exact q Hk1 H1 k1 x1
theorem et_or {a b : Bool} (h1 : EvT tt ρ ρ a) (h2 : a = false → EvT tu ρ ρ b) : EvT (tOr tt tu) ρ ρ (a || b) := fun c σ Hk H k Q q => h1 c σ Hk H k _ fun Hk1 H1 k1 x1 => by
  cases a with
  | false => rw [if_neg (by decide)]; exact h2 rfl c σ Hk1 H1 k1 Q fun Hk2 H2 k2 x2 => q Hk2 H2 k2 (x1.trans x2)
  | true => rw [if_pos rfl]; exact q Hk1 H1 k1 x1
theorem et_not {a : Bool} (h1 : EvT tt ρ ρ1 a) : EvT (tNot tt) ρ ρ1 (!a) := fun c σ Hk H k Q q => h1 c σ Hk H k _ fun Hk1 H1 k1 x1 => q Hk1 H1 k1 x1
theorem et_yes : EvT tYes ρ ρ true := fun c σ Hk H k Q q => q Hk H k Nxt.refl

/-! ### what is mutable, read as data -/
theorem Ok.borrow {c : Ent} {Hk H : Hp} {σ : List (Option V)} (k : Ok c Hk H σ ρ) : Ok ⟨H, H, none⟩ H H σ (ρ.map Slot.frz) := by
  have g : ∀ (i : Nat) (s : Slot K), (ρ.map Slot.frz)[i]? = some s → ∃ t, ρ[i]? = some t ∧ s = t.frz := fun i s h => by
    rw [List.getElem?_map] at h
    cases q : ρ[i]? with
    | none => rw [q] at h; cases h
    | some t => rw [q] at h; exact ⟨t, rfl, (Option.some.inj h).symm⟩
  have nm : ∀ s : Slot K, s.frz.isM = false := fun s => by cases s <;> rfl
  refine ⟨Ex.refl _, Ex.refl _, fun a o h _ => h, fun a o h => .inl h, fun a h => h, by simp [k.len], fun i s h => ?_, fun i j s s' p ne h h' m => ?_, fun i s p h m => ?_, fun p h => nomatch h⟩
  · obtain ⟨t, h1, rfl⟩ := g i s h
    obtain ⟨v, h2, h3⟩ := k.sl i t h1
    refine ⟨v, h2, ?_⟩
    cases t with
    | un => trivial
    | d e a => obtain ⟨u, a1, a2⟩ := h3; exact ⟨u, a1, e.mono k.ex a2⟩
    | l e as => obtain ⟨p, o, a1, a2, a3, xs, rfl, a4, a5⟩ := h3; exact ⟨.ref p, a1, p, xs, rfl, SqL.of a3, a4.imp fun _ _ h => e.mono k.ex h, a5⟩
    | m M b => trivial
    | i C fs => trivial
  · obtain ⟨t, h1, rfl⟩ := g i s h
    rw [nm] at m; cases m
  · obtain ⟨t, h1, rfl⟩ := g i s h
    rw [nm] at m; cases m
/-- behind a stretch that was run on borrowed knowledge -/
theorem Ok.back {c : Ent} {Hk H Hk' H' : Hp} {σ σ' : List (Option V)} (k : Ok c Hk H σ ρ) (k' : Ok ⟨H, H, none⟩ Hk' H' σ' ρ') : Ok c Hk H' σ ρ :=
  k.ext (fun a o h => k'.fr a o h (fun z => nomatch z)) (Ex.refl _) (fun a o h => k'.fr a o (k.ex a o h) fun z => nomatch z) fun a o h => .inl h
theorem ev_borrow [Scal e] {a : α} (h : EvD te (ρ.map Slot.frz) (ρ.map Slot.frz) e a) : EvD te ρ ρ e a := fun c σ Hk H k Q q =>
  h _ σ H H k.borrow Q fun v Hk' H' k' x r => q v Hk H' (k.back k') (Nxt.of (Ex.refl _) (fun a o h => k'.fr a o h fun z => nomatch z) fun _ _ h => .inl h) (Scal.sc (e := e) _ _ _ _ r)
theorem en_borrow [Scal e] {as : List α} (h : EvN te (ρ.map Slot.frz) (ρ.map Slot.frz) e as) : EvN te ρ ρ e as := fun c σ Hk H k Q q =>
  h _ σ H H k.borrow Q fun p xs Hk' H' k' x hn hp ha hl hH => q p xs Hk H' (k.back k') (Nxt.of (Ex.refl _) (fun a o h => k'.fr a o h fun z => nomatch z) fun _ _ h => .inl h) (k.ex.none hH) hp (ha.imp fun _ _ r => Scal.sc (e := e) _ _ _ _ r) hl hH
theorem et_borrow {b : Bool} (h : EvT tt (ρ.map Slot.frz) (ρ.map Slot.frz) b) : EvT tt ρ ρ b := fun c σ Hk H k Q q =>
  h _ σ H H k.borrow Q fun Hk' H' k' x => q Hk H' (k.back k') (Nxt.of (Ex.refl _) (fun a o h => k'.fr a o h fun z => nomatch z) fun _ _ h => .inl h)

/-! ### arguments, displays -/
theorem ea_nil : EvA tNil ρ ρ [] := fun c σ Hk H k Q q => q [] Hk H k Nxt.refl .nil
theorem ea_cons {a : α} {tr : TA} {ds : List (Slot K)} (h : EvD te ρ ρ1 e a) (hr : EvA tr ρ1 ρ2 ds) : EvA (tCons te tr) ρ ρ2 (.d e a :: ds) := fun c σ Hk H k Q q =>
  h c σ Hk H k _ fun v Hk1 H1 k1 x1 r1 => hr c σ Hk1 H1 k1 _ fun vs Hk2 H2 k2 x2 r2 => q (v :: vs) Hk2 H2 k2 (x1.trans x2) (.cons ⟨v, rfl, e.mono x2.ex r1⟩ r2)
theorem ev_pair {f : Enc K β} {a : α} {b : β} (ha : EvD ta ρ ρ1 e a) (hb : EvD tb ρ1 ρ2 f b) : EvD (tTup (tCons ta (tCons tb tNil))) ρ ρ2 (eP e f) (a, b) := fun c σ Hk H k Q q =>
  ha c σ Hk H k _ fun x Hk1 H1 k1 x1 r1 => hb c σ Hk1 H1 k1 _ fun y Hk2 H2 k2 x2 r2 => ⟨by show 2 ≤ sizeLine; decide, fun p hp =>
    let ⟨k3, x3⟩ := k2.new (o := .tup [x, y]) hp
    q _ _ _ k3 ((x1.trans x2).trans x3) ⟨p, x, y, rfl, SqT.of upd_same, e.mono (x2.trans x3).ex r1, f.mono x3.ex r2⟩⟩
/-- items of one kind, from the left -/
def EvAs (ta : TA) (ρ ρ' : Env K) {α : Type} (e : Enc K α) (as : List α) : Prop :=
  ∀ (c : Ent) (σ : List (Option V)) (Hk H : Hp), Ok c Hk H σ ρ → ∀ Q : List V → Hp → Prop, (∀ vs Hk' H', Ok c Hk' H' σ ρ' → Nxt σ ρ ρ' Hk H Hk' H' → All2 (e.rep Hk') vs as → Q vs H') → ta σ H Q
theorem eas_nil : EvAs tNil ρ ρ e [] := fun c σ Hk H k Q q => q [] Hk H k Nxt.refl .nil
theorem eas_cons {a : α} {tr : TA} {as : List α} (h : EvD te ρ ρ1 e a) (hr : EvAs tr ρ1 ρ2 e as) : EvAs (tCons te tr) ρ ρ2 e (a :: as) := fun c σ Hk H k Q q =>
  h c σ Hk H k _ fun v Hk1 H1 k1 x1 r1 => hr c σ Hk1 H1 k1 _ fun vs Hk2 H2 k2 x2 r2 => q (v :: vs) Hk2 H2 k2 (x1.trans x2) (.cons (e.mono x2.ex r1) r2)
/-- a new list, known, from its items -/
theorem Ok.newL {c : Ent} {Hk H : Hp} {σ : List (Option V)} (k : Ok c Hk H σ ρ) {xs : List V} {p : Addr} (hp : H p = none) :
    Ok c Hk (upd H p (.lst xs)) σ ρ ∧ Nxt σ ρ ρ Hk H Hk (upd H p (.lst xs)) ∧ Hk p = none :=
  ⟨k.newU hp, Nxt.of (Ex.refl _) (Ex.new hp) (fun _ _ h => .inl h), k.ex.none hp⟩
theorem en_lst {ts : TA} {as : List α} (h : EvAs ts ρ ρ' e as) (hl : as.length ≤ LM := by decide) : EvN (tLst ts) ρ ρ' e as := fun c σ Hk H k Q q =>
  h c σ Hk H k _ fun vs Hk1 H1 k1 x1 r1 => ⟨by rw [r1.len]; exact lm_le hl, fun p hp =>
    let ⟨k2, x2, n1⟩ := k1.newL hp
    q p vs Hk1 _ k2 (x1.trans x2) n1 upd_same r1 hl (x1.th p hp)⟩
theorem ev_tup {ts : TA} {as : List α} (h : EvAs ts ρ ρ' e as) (hl : as.length ≤ LM := by decide) : EvD (tTup ts) ρ ρ' (eT e) as := fun c σ Hk H k Q q =>
  h c σ Hk H k _ fun vs Hk1 H1 k1 x1 r1 => ⟨by rw [r1.len]; exact lm_le hl, fun p hp =>
    let ⟨k2, x2⟩ := k1.new (o := .tup vs) hp
    q _ _ _ k2 (x1.trans x2) ⟨p, vs, rfl, SqT.of upd_same, r1.imp fun _ _ h => e.mono x2.ex h, hl⟩⟩

/-! ### places -/
def ixI (n : Nat) (i : Int) : Nat := if 0 ≤ i then i.toNat else (i + n).toNat
def inIx (n : Nat) (i : Int) : Prop := -(n : Int) ≤ i ∧ i < n
theorem atI_all2 {rr : V → α → Prop} {xs : List V} {as : List α} (h : All2 rr xs as) {i : Int} {a : α} (hi : inIx as.length i) (ha : as[ixI as.length i]? = some a) : ∃ x, atI xs i = some x ∧ rr x a := by
  obtain ⟨x, h1, h2⟩ := h.get ha
  refine ⟨x, ?_, h2⟩
  unfold atI ixN
  rw [h.len]
  unfold ixI at h1
  by_cases p : 0 ≤ i
  · rw [if_pos p] at h1 ⊢
    rw [if_pos hi.2]; exact h1
  · rw [if_neg p] at h1 ⊢
    rw [if_pos hi.1]; exact h1
/-- the item at a place (an int, also from behind) -/
def at_ [Inhabited α] (as : List α) (i : Int) : α := as.getD (ixI as.length i) default
theorem ixI_lt {n : Nat} {i : Int} (h : inIx n i) : ixI n i < n := by
  unfold ixI; unfold inIx at h; split <;> omega
theorem at_get [Inhabited α] {as : List α} {i : Int} (h : inIx as.length i) : as[ixI as.length i]? = some (at_ as i) := by
  have l := ixI_lt h
  unfold at_
  rw [List.getD_eq_getElem?_getD, List.getElem?_eq_getElem l]; rfl
theorem ev_ixL [Inhabited α] {as : List α} {i : Int} (ha : EvD ta ρ ρ1 (eL e) as) (hi : EvD tb ρ1 ρ2 eI i) (hc : inIx as.length i) : EvD (tOp (rIxL K) ta tb) ρ ρ2 e (at_ as i) :=
  ev_bin ha hi fun c σ Hk H x y k r1 r2 Q q => by
    obtain ⟨p, xs, e1, e2, e3, _⟩ := r1
    obtain ⟨z, h1, h2⟩ := atI_all2 e3 hc (at_get hc)
    exact ⟨p, xs, i, z, e1, r2, ex_l k.ex e2, h1, q _ Hk H k Nxt.refl h2⟩
theorem ev_ixT [Inhabited α] {as : List α} {i : Int} (ha : EvD ta ρ ρ1 (eT e) as) (hi : EvD tb ρ1 ρ2 eI i) (hc : inIx as.length i) : EvD (tOp (rIxT K) ta tb) ρ ρ2 e (at_ as i) :=
  ev_bin ha hi fun c σ Hk H x y k r1 r2 Q q => by
    obtain ⟨p, xs, e1, e2, e3, _⟩ := r1
    obtain ⟨z, h1, h2⟩ := atI_all2 e3 hc (at_get hc)
    exact ⟨p, xs, i, z, e1, r2, ex_t k.ex e2, h1, q _ Hk H k Nxt.refl h2⟩
theorem ev_ixQ [Inhabited α] {as : List α} {i : Int} (ha : EvD ta ρ ρ1 (eQ e) as) (hi : EvD tb ρ1 ρ2 eI i) (hc : inIx as.length i) : EvD (tOp (rIx K) ta tb) ρ ρ2 e (at_ as i) :=
  ev_bin ha hi fun c σ Hk H x y k r1 r2 Q q => by
    rcases r1 with ⟨p, xs, e1, e2, e3, _⟩ | ⟨p, xs, e1, e2, e3, _⟩
    · obtain ⟨z, h1, h2⟩ := atI_all2 e3 hc (at_get hc)
      exact .inl ⟨p, xs, i, z, e1, r2, ex_l k.ex e2, h1, q _ Hk H k Nxt.refl h2⟩
    · obtain ⟨z, h1, h2⟩ := atI_all2 e3 hc (at_get hc)
      exact .inr (.inl ⟨p, xs, i, z, e1, r2, ex_t k.ex e2, h1, q _ Hk H k Nxt.refl h2⟩)
/-- an item of a list of one's own -/
theorem ev_ixM [Inhabited α] {as : List α} {i : Int} {j : Nat} (ha : ρ[j]? = some (.l e as)) (hi : EvD tb ρ ρ eI i) (hc : inIx as.length i) : EvD (tOp (rIxL K) (tVar j) tb) ρ ρ e (at_ as i) := fun c σ Hk H k Q q => by
  obtain ⟨v, hv, p, o, e1, e2, e3, xs, rfl, e4, e5⟩ := k.sl j _ ha
  subst e1
  refine ⟨.ref p, hv, hi c σ Hk H k _ fun y Hk1 H1 k1 x1 r1 => ?_⟩
  obtain ⟨v', hv', p', o', e1', e2', e3', xs', rfl, e4', e5'⟩ := k1.sl j _ ha
  subst e1'
  rw [hv] at hv'; cases hv'
  obtain ⟨z, h1, h2⟩ := atI_all2 e4' hc (at_get hc)
  exact ⟨p, xs', i, z, rfl, r1, SqL.of e3', h1, q _ Hk1 H1 k1 x1 h2⟩
theorem ev_fst {f : Enc K β} {ab : α × β} (ha : EvD ta ρ ρ1 (eP e f) ab) : EvD (tOp (rIxT K) ta (tC (.int 0))) ρ ρ1 e ab.1 :=
  fun c σ Hk H k Q q => ha c σ Hk H k _ fun v Hk1 H1 k1 x1 ⟨p, x, y, e1, e2, e3, e4⟩ => ⟨p, [x, y], 0, x, e1, rfl, ex_t k1.ex e2, rfl, q _ Hk1 H1 k1 x1 e3⟩
theorem ev_snd {f : Enc K β} {ab : α × β} (ha : EvD ta ρ ρ1 (eP e f) ab) : EvD (tOp (rIxT K) ta (tC (.int 1))) ρ ρ1 f ab.2 :=
  fun c σ Hk H k Q q => ha c σ Hk H k _ fun v Hk1 H1 k1 x1 ⟨p, x, y, e1, e2, e3, e4⟩ => ⟨p, [x, y], 1, y, e1, rfl, ex_t k1.ex e2, rfl, q _ Hk1 H1 k1 x1 e4⟩

/-! ### built-in calls -/
theorem ev_cb {r : List V → Hp → VK → Prop} {γ : Type} {g : Enc K γ} {a : α} {z : γ} (ha : EvD ta ρ ρ1 e a)
    (hr : ∀ (c : Ent) (σ : List (Option V)) (Hk H : Hp) (x : V), Ok c Hk H σ ρ1 → e.rep Hk x a → ∀ Q : VK, (∀ v Hk' H', Ok c Hk' H' σ ρ1 → Nxt σ ρ1 ρ1 Hk H Hk' H' → g.rep Hk' v z → Q v H') → r [x] H Q) : EvD (tCB r (tCons ta tNil)) ρ ρ1 g z :=
  fun c σ Hk H k Q q => ha c σ Hk H k _ fun x Hk1 H1 k1 x1 r1 => hr c σ Hk1 H1 x k1 r1 Q fun v Hk2 H2 k2 x2 r2 => q v Hk2 H2 k2 (x1.trans x2) r2
def rLenS (K : PySem.W.Frag) : List V → Hp → VK → Prop := fun xs H Q => ∃ p ys, xs = [.ref p] ∧ (SqL K H p ys ∨ SqT K H p ys) ∧ Q (.int ys.length) H
theorem ev_lenL {as : List α} (ha : EvD ta ρ ρ1 (eL e) as) : EvD (tCB (rLenS K) (tCons ta tNil)) ρ ρ1 eI (as.length : Int) :=
  ev_cb ha fun c σ Hk H x k ⟨p, xs, e1, e2, e3, _⟩ Q q => ⟨p, xs, by rw [e1], .inl (ex_l k.ex e2), q _ Hk H k Nxt.refl (by rw [e3.len]; rfl)⟩
theorem ev_lenT {as : List α} (ha : EvD ta ρ ρ1 (eT e) as) : EvD (tCB (rLenS K) (tCons ta tNil)) ρ ρ1 eI (as.length : Int) :=
  ev_cb ha fun c σ Hk H x k ⟨p, xs, e1, e2, e3, _⟩ Q q => ⟨p, xs, by rw [e1], .inr (ex_t k.ex e2), q _ Hk H k Nxt.refl (by rw [e3.len]; rfl)⟩
theorem ev_lenQ {as : List α} (ha : EvD ta ρ ρ1 (eQ e) as) : EvD (tCB (rLenS K) (tCons ta tNil)) ρ ρ1 eI (as.length : Int) :=
  ev_cb ha fun c σ Hk H x k h Q q => by
    rcases h with ⟨p, xs, e1, e2, e3, _⟩ | ⟨p, xs, e1, e2, e3, _⟩
    · exact ⟨p, xs, by rw [e1], .inl (ex_l k.ex e2), q _ Hk H k Nxt.refl (by rw [e3.len]; rfl)⟩
    · exact ⟨p, xs, by rw [e1], .inr (ex_t k.ex e2), q _ Hk H k Nxt.refl (by rw [e3.len]; rfl)⟩
def rListS (K : PySem.W.Frag) : List V → Hp → VK → Prop := fun xs H Q => ∃ p ys, xs = [.ref p] ∧ (SqL K H p ys ∨ SqT K H p ys) ∧ ∀ l, H l = none → Q (.ref l) (upd H l (.lst ys))
theorem en_list {as : List α} (ha : EvD ta ρ ρ1 (eQ e) as) : EvN (tCB (rListS K) (tCons ta tNil)) ρ ρ1 e as := fun c σ Hk H k Q q =>
  ha c σ Hk H k _ fun x Hk1 H1 k1 x1 h => by
    rcases h with ⟨p, xs, e1, e2, e3, e4⟩ | ⟨p, xs, e1, e2, e3, e4⟩
    · exact ⟨p, xs, by rw [e1], .inl (ex_l k1.ex e2), fun l hl => let ⟨k2, x2, n1⟩ := k1.newL hl; q l xs Hk1 _ k2 (x1.trans x2) n1 upd_same e3 e4 (x1.th l hl)⟩
    · exact ⟨p, xs, by rw [e1], .inr (ex_t k1.ex e2), fun l hl => let ⟨k2, x2, n1⟩ := k1.newL hl; q l xs Hk1 _ k2 (x1.trans x2) n1 upd_same e3 e4 (x1.th l hl)⟩
def rTupleS (K : PySem.W.Frag) : List V → Hp → VK → Prop := fun xs H Q => ∃ p ys, xs = [.ref p] ∧ ((SqL K H p ys ∧ ∀ l, H l = none → Q (.ref l) (upd H l (.tup ys))) ∨ (SqT K H p ys ∧ Q (.ref p) H))
theorem ev_tuple {as : List α} (ha : EvD ta ρ ρ1 (eQ e) as) : EvD (tCB (rTupleS K) (tCons ta tNil)) ρ ρ1 (eT e) as :=
  ev_cb ha fun c σ Hk H x k h Q q => by
    rcases h with ⟨p, xs, e1, e2, e3, e4⟩ | ⟨p, xs, e1, e2, e3, e4⟩
    · exact ⟨p, xs, by rw [e1], .inl ⟨ex_l k.ex e2, fun l hl => let ⟨k2, x2⟩ := k.new (o := .tup xs) hl; q _ _ _ k2 x2 ⟨l, xs, rfl, SqT.of upd_same, e3.imp fun _ _ h => e.mono x2.ex h, e4⟩⟩⟩
    · subst e1; exact ⟨p, xs, rfl, .inr ⟨ex_t k.ex e2, q _ Hk H k Nxt.refl ⟨p, xs, rfl, e2, e3, e4⟩⟩⟩
theorem ev_sum {as : List Int} (ha : EvD ta ρ ρ1 (eL eI) as) : EvD (tCB (rSum K) (tCons ta tNil)) ρ ρ1 eI as.sum :=
  ev_cb ha fun c σ Hk H x k ⟨p, xs, e1, e2, e3, _⟩ Q q => by
    have z : xs = as.map V.int := All2.eq_map (f := V.int) e3
    subst z
    exact ⟨p, as, by rw [e1], ex_l k.ex e2, q _ Hk H k Nxt.refl rfl⟩
theorem ev_any {as : List Bool} (ha : EvD ta ρ ρ1 (eL eB) as) : EvD (tCB (rAny K) (tCons ta tNil)) ρ ρ1 eB (as.any id) :=
  ev_cb ha fun c σ Hk H x k ⟨p, xs, e1, e2, e3, _⟩ Q q => by
    have z : xs = as.map V.bl := All2.eq_map (f := V.bl) e3
    subst z
    exact ⟨p, as, by rw [e1], ex_l k.ex e2, q _ Hk H k Nxt.refl rfl⟩
theorem ev_all {as : List Bool} (ha : EvD ta ρ ρ1 (eL eB) as) : EvD (tCB (rAll K) (tCons ta tNil)) ρ ρ1 eB (as.all id) :=
  ev_cb ha fun c σ Hk H x k ⟨p, xs, e1, e2, e3, _⟩ Q q => by
    have z : xs = as.map V.bl := All2.eq_map (f := V.bl) e3
    subst z
    exact ⟨p, as, by rw [e1], ex_l k.ex e2, q _ Hk H k Nxt.refl rfl⟩
theorem ev_abs {a : Int} (ha : EvD ta ρ ρ1 eI a) : EvD (tCB (fun xs H Q => ∃ i, xs = [.int i] ∧ Q (.int (if i < 0 then -i else i)) H) (tCons ta tNil)) ρ ρ1 eI (if a < 0 then -a else a) :=
  ev_cb ha fun c σ Hk H x k h Q q => ⟨a, by rw [show x = .int a from h], q _ Hk H k Nxt.refl rfl⟩
theorem ev_int1 {a : Int} (ha : EvD ta ρ ρ1 eI a) : EvD (tCB (fun xs H Q => (∃ i, xs = [.int i] ∧ Q (.int i) H) ∨ ∃ k, xs = [.bl k] ∧ Q (.int (if k then 1 else 0)) H) (tCons ta tNil)) ρ ρ1 eI a :=
  ev_cb ha fun c σ Hk H x k h Q q => .inl ⟨a, by rw [show x = .int a from h], q _ Hk H k Nxt.refl rfl⟩
/-- x in xs, of ints -/
theorem inV_int {i : Int} : ∀ {as : List Int}, inV (.int i) (as.map V.int) = decide (i ∈ as)
  | [] => by simp [inV]
  | a :: as => by
    have ih := inV_int (i := i) (as := as)
    unfold inV at ih ⊢
    rw [List.map_cons, List.any_cons, ih]
    have e : eqV (V.int a) (V.int i) = decide (i = a) := by
      by_cases q : i = a
      · subst q; simp [eqV]
      · simp [eqV, q, Ne.symm q]
    rw [e]
    simp [List.mem_cons, Bool.decide_or]
theorem flat_ints (as : List Int) : (as.map V.int).all flatV = true := by
  induction as with
  | nil => rfl
  | cons a as ih => simp [flatV] at ih ⊢
theorem ev_in {neg : Bool} {i : Int} {as : List Int} (hi : EvD ta ρ ρ1 eI i) (ha : EvD tb ρ1 ρ2 (eQ eI) as) : EvD (tOp (rIn K neg) ta tb) ρ ρ2 eB (if neg then !decide (i ∈ as) else decide (i ∈ as)) :=
  ev_bin hi ha fun c σ Hk H x y k r1 r2 Q q => by
    have r1 : x = .int i := r1
    subst r1
    rcases r2 with ⟨p, xs, e1, e2, e3, e4⟩ | ⟨p, xs, e1, e2, e3, e4⟩
    · have z : xs = as.map V.int := All2.eq_map (f := V.int) e3
      subst z
      exact ⟨p, _, e1, .inl (ex_l k.ex e2), rfl, flat_ints as, q _ Hk H k Nxt.refl (by rw [inV_int]; rfl)⟩
    · have z : xs = as.map V.int := All2.eq_map (f := V.int) e3
      subst z
      exact ⟨p, _, e1, .inr (ex_t k.ex e2), rfl, flat_ints as, q _ Hk H k Nxt.refl (by rw [inV_int]; rfl)⟩
end
end FL

/-! FL3: what is walked, comprehensions, statements, loops, calls. -/
namespace FL
open PySem L2
section
variable {K : PySem.W.Frag} {ρ ρ' ρ1 ρ2 ρ3 : Env K} {α β : Type} {e : Enc K α} {ta tb te tc : TE} {tt tu tw : TT}

/-! ### what is walked -/
structure Walk (J : It) (e : Enc K α) (as : List α) (Hk : Hp) : Prop where
  len : as.length ≤ LM
  stop : ∀ H, Ex Hk H → J.stop as.length H
  go : ∀ i H, i < as.length → Ex Hk H → J.go i H
  yld : ∀ (i : Nat) (H : Hp) (x : V) (H' : Hp), J.yld i H x H' → i < as.length → ∀ (c : Ent) (σ : List (Option V)) (ρ : Env K) (Hk1 : Hp), Ok c Hk1 H σ ρ → Ex Hk Hk1 →
    ∃ a Hk2, as[i]? = some a ∧ Ok c Hk2 H' σ ρ ∧ Nxt σ ρ ρ Hk1 H Hk2 H' ∧ e.rep Hk2 x a
def EvI (wi : TI) (ρ ρ' : Env K) {α : Type} (e : Enc K α) (as : List α) : Prop :=
  ∀ (c : Ent) (σ : List (Option V)) (Hk H : Hp), Ok c Hk H σ ρ → ∀ R : It → Hp → Prop, (∀ J Hk' H', Ok c Hk' H' σ ρ' → Nxt σ ρ ρ' Hk H Hk' H' → Walk J e as Hk' → R J H') → wi σ H R
theorem ei_list {as : List α} (h : EvD te ρ ρ' (eL e) as) : EvI (iList K te) ρ ρ' e as := fun c σ Hk H k R q =>
  h c σ Hk H k _ fun v Hk1 H1 k1 x1 ⟨p, xs, e1, e2, e3, e4⟩ => ⟨p, e1, ⟨xs, ex_l k1.ex e2⟩, q _ Hk1 H1 k1 x1
    ⟨e4, fun H2 y => ⟨xs, ex_l y e2, by rw [e3.len]; exact Nat.le_refl _⟩, fun i H2 hi y => ⟨xs, xs[i]'(by rw [e3.len]; exact hi), ex_l y e2, by simp⟩,
     fun i H2 x H3 hy hi c2 σ2 ρ2 Hk2 k2 y => by
      obtain ⟨rfl, hx⟩ := hy
      obtain ⟨a, a1, a2⟩ := e3.getL (hx xs (ex_l (y.trans k2.ex) e2))
      exact ⟨a, Hk2, a1, k2, Nxt.refl, e.mono y a2⟩⟩⟩
theorem ei_tup {as : List α} (h : EvD te ρ ρ' (eT e) as) : EvI (iTup K te) ρ ρ' e as := fun c σ Hk H k R q =>
  h c σ Hk H k _ fun v Hk1 H1 k1 x1 ⟨p, xs, e1, e2, e3, e4⟩ => ⟨p, e1, ⟨xs, ex_t k1.ex e2⟩, q _ Hk1 H1 k1 x1
    ⟨e4, fun H2 y => ⟨xs, ex_t y e2, by rw [e3.len]; exact Nat.le_refl _⟩, fun i H2 hi y => ⟨xs, xs[i]'(by rw [e3.len]; exact hi), ex_t y e2, by simp⟩,
     fun i H2 x H3 hy hi c2 σ2 ρ2 Hk2 k2 y => by
      obtain ⟨rfl, hx⟩ := hy
      obtain ⟨a, a1, a2⟩ := e3.getL (hx xs (ex_t (y.trans k2.ex) e2))
      exact ⟨a, Hk2, a1, k2, Nxt.refl, e.mono y a2⟩⟩⟩
/-- lo, lo + 1, .. below hi -/
def rng (lo hi : Int) : List Int := (List.range (hi - lo).toNat).map fun (k : Nat) => lo + (k : Int)
theorem rng_len (lo hi : Int) : (rng lo hi).length = (hi - lo).toNat := by simp [rng]
theorem rng_get {lo hi : Int} {i : Nat} (h : i < (hi - lo).toNat) : (rng lo hi)[i]? = some (lo + (i : Int)) := by simp [rng, h]
theorem mem_rng {lo hi x : Int} : x ∈ rng lo hi ↔ lo ≤ x ∧ x < hi := by
  unfold rng
  constructor
  · intro h
    obtain ⟨k, hk, rfl⟩ := List.mem_map.mp h
    have := List.mem_range.mp hk
    omega
  · rintro ⟨h1, h2⟩
    exact List.mem_map.mpr ⟨(x - lo).toNat, List.mem_range.mpr (by omega), by omega⟩
theorem walk_rng {lo : Int} {n : Nat} {Hk : Hp} (hn : n ≤ LM) : Walk (Itr lo n) (eI (K := K)) ((List.range n).map fun (k : Nat) => lo + (k : Int)) Hk :=
  ⟨by simpa using hn, fun H _ => by show n ≤ _; simp, fun i H hi _ => by show i < n; simpa using hi, fun i H x H' hy hi c σ ρ Hk1 k1 y => by
    obtain ⟨rfl, rfl⟩ := hy
    have hi : i < n := by simpa using hi
    exact ⟨lo + (i : Int), Hk1, by simp [hi], k1, Nxt.refl, rfl⟩⟩
theorem ei_range1 {n : Int} (h : EvD te ρ ρ' eI n) (hn : -100000 ≤ n ∧ n ≤ 100000) : EvI (iRng1 (tCons te tNil)) ρ ρ' eI (rng 0 n) := fun c σ Hk H k R q =>
  h c σ Hk H k _ fun v Hk1 H1 k1 x1 r1 => ⟨n, by rw [show v = .int n from r1], by omega, by omega, q _ Hk1 H1 k1 x1 (by
    unfold rng
    rw [show n - 0 = n by omega]
    exact walk_rng (by show n.toNat ≤ 100000; omega))⟩
theorem ei_range2 {lo n : Int} (h0 : EvD ta ρ ρ1 eI lo) (h : EvD te ρ1 ρ' eI n) (hn : -100000 ≤ lo ∧ lo ≤ 100000 ∧ -100000 ≤ n ∧ n ≤ 100000 ∧ n - lo ≤ 100000) : EvI (iRng2 (tCons ta (tCons te tNil))) ρ ρ' eI (rng lo n) := fun c σ Hk H k R q =>
  h0 c σ Hk H k _ fun u Hk0 H0 k0 x0 r0 => h c σ Hk0 H0 k0 _ fun v Hk1 H1 k1 x1 r1 => ⟨lo, n, by rw [show v = .int n from r1, show u = .int lo from r0], ⟨by omega, by omega, by omega, by omega⟩, q _ Hk1 H1 k1 (x0.trans x1)
    (walk_rng (by show (n - lo).toNat ≤ 100000; omega))⟩
def enum (as : List α) : List (Int × α) := (List.range as.length).zip as |>.map fun p => ((p.1 : Int), p.2)
theorem enum_get {as : List α} {i : Nat} {a : α} (h : as[i]? = some a) : (enum as)[i]? = some ((i : Int), a) := by
  have l := (List.getElem?_eq_some_iff.mp h).1
  unfold enum
  rw [List.getElem?_map, List.getElem?_zip_eq_some.mpr (⟨by simp [l], h⟩ : (List.range as.length)[i]? = some ((i, a) : Nat × α).1 ∧ as[i]? = some ((i, a) : Nat × α).2)]; rfl
theorem enum_len {as : List α} : (enum as).length = as.length := by simp [enum]
theorem ei_enum {as : List α} (h : EvD te ρ ρ' (eL e) as) : EvI (iEnum K (tCons te tNil)) ρ ρ' (eP eI e) (enum as) := fun c σ Hk H k R q =>
  h c σ Hk H k _ fun v Hk1 H1 k1 x1 ⟨p, xs, e1, e2, e3, e4⟩ => ⟨p, xs, by rw [e1], ex_l k1.ex e2, q _ Hk1 H1 k1 x1
    ⟨by rw [enum_len]; exact e4, fun H2 y => ⟨xs, ex_l y e2, by rw [e3.len, enum_len]; exact Nat.le_refl _⟩, fun i H2 hi y => by
      rw [enum_len] at hi
      exact ⟨xs, xs[i]'(by rw [e3.len]; exact hi), ex_l y e2, by simp⟩,
     fun i H2 x H3 hy hi c2 σ2 ρ2 Hk2 k2 y => by
      obtain ⟨T, w, rfl, hT, rfl, hx⟩ := hy
      obtain ⟨a, a1, a2⟩ := e3.getL (hx xs (ex_l (y.trans k2.ex) e2))
      obtain ⟨k3, x3⟩ := k2.new (o := .tup [.int (i : Nat), w]) hT
      exact ⟨((i : Int), a), _, enum_get a1, k3, x3, T, _, _, rfl, SqT.of upd_same, rfl, e.mono (y.trans x3.ex) a2⟩⟩⟩
theorem ei_borrowN {wi : TI} {as : List α} (h : EvI wi ρ ρ' e as) : EvI wi ρ ρ' e as := h

/-! ### targets -/
structure EvG (g : TG) {α : Type} (e : Enc K α) (js : List Nat) (u : α → Env K → Env K) : Prop where
  run : ∀ (c : Ent) (σ : List (Option V)) (Hk H : Hp) (ρ : Env K) (x : V) (a : α), Ok c Hk H σ ρ → (∀ j ∈ js, isMAt ρ j = false) → e.rep Hk x a → ∀ Q : L2.St → Hp → Prop,
    (∀ σ', Ok c Hk H σ' (u a ρ) → σ'.length = σ.length → (∀ i, i ∉ js → σ'[i]? = σ[i]?) → Q σ' H) → g x σ H Q
  agr : ∀ a ρ i, i ∉ js → (u a ρ)[i]? = ρ[i]?
  len : ∀ a ρ, (u a ρ).length = ρ.length
  nm : ∀ a ρ j, isMAt ρ j = false → isMAt (u a ρ) j = false
theorem isM_set {ρ : Env K} {i j : Nat} {a : α} : isMAt ρ j = false → isMAt (ρ.set i (.d e a)) j = false := fun h => by
  unfold isMAt at h ⊢
  by_cases q : i = j
  · subst q
    by_cases l : i < ρ.length
    · rw [List.getElem?_set_self l]; rfl
    · rw [List.getElem?_eq_none (by simpa using l)]
  · rw [List.getElem?_set_ne q]; exact h
theorem eg_name {j : Nat} : EvG (gName j) e [j] (fun a ρ => ρ.set j (.d e a)) :=
  ⟨fun c σ Hk H ρ x a k hj r Q q => q _ (k.setD (hj j List.mem_cons_self) r) (by simp) fun i hi => by rw [List.getElem?_set_ne]; intro z; subst z; exact hi List.mem_cons_self,
   fun a ρ i hi => by rw [List.getElem?_set_ne]; intro z; subst z; exact hi List.mem_cons_self, fun a ρ => by simp, fun a ρ j h => isM_set h⟩
theorem eg_pair {i j : Nat} {f : Enc K β} : EvG (gTup K 2 (gCons (gName i) (gCons (gName j) gNil))) (eP e f) [i, j] (fun a ρ => (ρ.set i (.d e a.1)).set j (.d f a.2)) :=
  ⟨fun c σ Hk H ρ x a k hj ⟨p, y, z, e1, e2, e3, e4⟩ Q q => by
    refine ⟨p, [y, z], e1, ex_t k.ex e2, rfl, y, [z], rfl, z, [], rfl, rfl, q _ ((k.setD (hj i (by simp)) e3).setD (isM_set (hj j (by simp))) e4) (by simp) fun m hm => ?_⟩
    rw [List.getElem?_set_ne, List.getElem?_set_ne]
    · intro w; subst w; exact hm (by simp)
    · intro w; subst w; exact hm (by simp),
   fun a ρ m hm => by
    rw [List.getElem?_set_ne, List.getElem?_set_ne]
    · intro w; subst w; exact hm (by simp)
    · intro w; subst w; exact hm (by simp), fun a ρ => by simp, fun a ρ j h => isM_set (isM_set h)⟩

/-! ### list comprehensions -/
def wipeE (ρ : Env K) : List Nat → Env K
  | [] => ρ
  | v :: vs => (wipeE ρ vs).set v .un
def noMAt (ρ : Env K) (vs : List Nat) : Prop := ∀ j ∈ vs, isMAt ρ j = false
theorem noM_nil {ρ : Env K} : noMAt ρ [] := fun j h => by cases h
theorem noM_cons {ρ : Env K} {v : Nat} {vs : List Nat} (h : isMAt ρ v = false) (t : noMAt ρ vs) : noMAt ρ (v :: vs) := fun j hj => by
  rcases List.mem_cons.mp hj with z | z
  · subst z; exact h
  · exact t j z
theorem isM_un {ρ : Env K} {i j : Nat} : isMAt ρ j = false → isMAt (ρ.set i .un) j = false := fun h => by
  unfold isMAt at h ⊢
  by_cases q : i = j
  · subst q
    by_cases l : i < ρ.length
    · rw [List.getElem?_set_self l]; rfl
    · rw [List.getElem?_eq_none (by simpa using l)]
  · rw [List.getElem?_set_ne q]; exact h
theorem isM_wipe {ρ : Env K} {j : Nat} : ∀ {vs : List Nat}, isMAt ρ j = false → isMAt (wipeE ρ vs) j = false
  | [], h => h
  | _ :: vs, h => isM_un (isM_wipe (vs := vs) h)
theorem wipe_agree {σ σ' : List (Option V)} (hl : σ'.length = σ.length) : ∀ {vs : List Nat}, (∀ i, i ∉ vs → σ'[i]? = σ[i]?) → wipe σ' vs = wipe σ vs := fun {vs} h => by
  have key : ∀ (τ : List (Option V)) (vs : List Nat) (i : Nat), (wipe τ vs)[i]? = if i ∈ vs ∧ i < τ.length then some none else τ[i]? := by
    intro τ vs
    induction vs with
    | nil => intro i; simp [wipe]
    | cons v vs ih =>
      intro i
      unfold wipe
      by_cases q : v = i
      · subst q
        by_cases l : v < τ.length
        · rw [List.getElem?_set_self (by rw [wipe_length]; exact l)]; simp [l]
        · rw [List.getElem?_eq_none (by simp [wipe_length]; omega)]; simp [l]
      · rw [List.getElem?_set_ne q, ih i]
        have : (i ∈ v :: vs) ↔ i ∈ vs := by simp [Ne.symm q]
        simp only [this]
  apply List.ext_getElem?
  intro i
  rw [key, key, hl]
  split
  · rfl
  · rename_i hn
    by_cases m : i ∈ vs
    · have : ¬ i < σ.length := fun l => hn ⟨m, l⟩
      rw [List.getElem?_eq_none (by omega), List.getElem?_eq_none (by omega)]
    · exact h i m
theorem wipe_idem {σ : List (Option V)} {vs : List Nat} {σ' : List (Option V)} (hl : σ'.length = (wipe σ vs).length) (h : ∀ i, i ∉ vs → σ'[i]? = (wipe σ vs)[i]?) : wipe σ' vs = wipe σ vs := by
  refine wipe_agree (by rw [hl, wipe_length]) fun i hi => ?_
  rw [h i hi]
  clear h hl
  induction vs with
  | nil => rfl
  | cons v vs ih =>
    unfold wipe
    rw [List.getElem?_set_ne (fun z => hi (by rw [z]; exact List.mem_cons_self))]
    exact ih fun z => hi (List.mem_cons_of_mem _ z)
theorem Ok.unset {c : Ent} {Hk H : Hp} {σ : List (Option V)} (k : Ok c Hk H σ ρ) {j : Nat} (hj : isMAt ρ j = false) : Ok c Hk H (σ.set j none) (ρ.set j .un) := by
  have hm : ∀ t : Slot K, ρ[j]? = some t → t.isM = false := fun t e => by unfold isMAt at hj; rw [e] at hj; exact hj
  have f : ∀ (i : Nat) (t : Slot K), (ρ.set j .un)[i]? = some t → t.isM = true → ρ[i]? = some t ∧ j ≠ i := fun i t h m => by
    by_cases q : j = i
    · subst q
      by_cases lt : j < ρ.length
      · rw [List.getElem?_set_self lt] at h; cases h; cases m
      · rw [List.getElem?_eq_none (by simpa using lt)] at h; cases h
    · rw [List.getElem?_set_ne q] at h; exact ⟨h, q⟩
  refine ⟨k.ex, k.k0, k.fr, k.nw, k.th, by simp [k.len], fun i t h => ?_, fun i i' t t' p ne h h' m m' e e' => ?_, fun i t p h m e => ?_, fun p h => ?_⟩
  · by_cases q : j = i
    · subst q
      by_cases lt : j < ρ.length
      · rw [List.getElem?_set_self lt] at h; cases h
        exact ⟨none, by rw [List.getElem?_set_self (by rw [k.len]; exact lt)], trivial⟩
      · rw [List.getElem?_eq_none (by simpa using lt)] at h; cases h
    · rw [List.getElem?_set_ne q] at h
      rw [List.getElem?_set_ne q]
      exact k.sl i t h
  · obtain ⟨a, b⟩ := f i t h m
    obtain ⟨a', b'⟩ := f i' t' h' m'
    rw [List.getElem?_set_ne b] at e
    rw [List.getElem?_set_ne b'] at e'
    exact k.sep i i' t t' p ne a a' m m' e e'
  · obtain ⟨a, b⟩ := f i t h m
    rw [List.getElem?_set_ne b] at e
    exact k.own i t p a m e
  · obtain ⟨h1, t, h2, h3⟩ := k.lv p h
    have q : ¬ j = 0 := fun q => by subst q; rw [hm t h2] at h3; cases h3
    rw [List.getElem?_set_ne q, List.getElem?_set_ne q]
    exact ⟨h1, t, h2, h3⟩
theorem Ok.wipe {c : Ent} {Hk H : Hp} {σ : List (Option V)} (k : Ok c Hk H σ ρ) : ∀ {vs : List Nat}, noMAt ρ vs → Ok c Hk H (L2.wipe σ vs) (wipeE ρ vs)
  | [], _ => k
  | v :: vs, h => Ok.unset (Ok.wipe (vs := vs) k fun j hj => h j (List.mem_cons_of_mem _ hj)) (isM_wipe (h v List.mem_cons_self))

/-- a comprehension's run: the state threaded through, what is kept -/
def lcGo {τ : Type} (s : τ → α → τ) (p : τ → α → Bool) (v : τ → α → β) : τ → List α → τ × List β
  | t, [] => (t, [])
  | t, a :: as => bif p t a then ((lcGo s p v (s t a) as).1, v t a :: (lcGo s p v (s t a) as).2) else lcGo s p v t as
theorem lcGo_snoc {τ : Type} {s : τ → α → τ} {p : τ → α → Bool} {v : τ → α → β} {a : α} : ∀ {as : List α} {t : τ},
    lcGo s p v t (as ++ [a]) = (bif p (lcGo s p v t as).1 a then (s (lcGo s p v t as).1 a, (lcGo s p v t as).2 ++ [v (lcGo s p v t as).1 a]) else lcGo s p v t as)
  | [], t => by
    show lcGo s p v t [a] = _
    unfold lcGo
    cases h : p t a <;> simp [lcGo, h]
  | b :: as, t => by
    show lcGo s p v t (b :: (as ++ [a])) = _
    unfold lcGo
    cases h : p t b with
    | true =>
      simp only [cond_true]
      rw [lcGo_snoc (as := as) (t := s t b)]
      cases p (lcGo s p v (s t b) as).1 a <;> simp
    | false =>
      simp only [cond_false]
      exact lcGo_snoc (as := as) (t := t)
theorem lcGo_len {τ : Type} {s : τ → α → τ} {p : τ → α → Bool} {v : τ → α → β} : ∀ {as : List α} {t : τ}, (lcGo s p v t as).2.length ≤ as.length
  | [], t => Nat.le_refl _
  | b :: as, t => by
    unfold lcGo
    cases h : p t b with
    | true => simp only [cond_true, List.length_cons]; exact Nat.succ_le_succ lcGo_len
    | false => simp only [cond_false, List.length_cons]; exact Nat.le_succ_of_le lcGo_len
theorem take_snoc {as : List α} {i : Nat} {a : α} (h : as[i]? = some a) : as.take (i + 1) = as.take i ++ [a] := by
  rw [List.take_succ, h]; rfl

theorem wipeE_at {ρ : Env K} : ∀ {vs : List Nat} {i : Nat}, i ∉ vs → (wipeE ρ vs)[i]? = ρ[i]?
  | [], i, _ => rfl
  | v :: vs, i, h => by
    unfold wipeE
    rw [List.getElem?_set_ne (fun z => h (by rw [z]; exact List.mem_cons_self))]
    exact wipeE_at fun z => h (List.mem_cons_of_mem _ z)
theorem wipe_at {σ : List (Option V)} : ∀ {vs : List Nat} {i : Nat}, i ∉ vs → (L2.wipe σ vs)[i]? = σ[i]?
  | [], i, _ => rfl
  | v :: vs, i, h => by
    unfold L2.wipe
    rw [List.getElem?_set_ne (fun z => h (by rw [z]; exact List.mem_cons_self))]
    exact wipe_at fun z => h (List.mem_cons_of_mem _ z)
theorem wipeE_len {ρ : Env K} : ∀ {vs : List Nat}, (wipeE ρ vs).length = ρ.length
  | [] => rfl
  | v :: vs => by unfold wipeE; rw [List.length_set]; exact wipeE_len
theorem isM_some {ρ : Env K} {i : Nat} {s : Slot K} (h : ρ[i]? = some s) : isMAt ρ i = s.isM := by unfold isMAt; rw [h]
/-- from a comprehension's turn back -/
theorem Ok.rewipe {c : Ent} {Hk H Hk3 H3 : Hp} {σ σ2 : List (Option V)} {u : Env K → Env K} {js vs : List Nat} (k : Ok c Hk H σ ρ) (k3 : Ok c Hk3 H3 σ2 (u (wipeE ρ' vs))) (x : Ex Hk Hk3) (hw : L2.wipe σ2 vs = L2.wipe σ vs)
    (hj : ∀ j ∈ js, j ∈ vs) (agr : ∀ ρ i, i ∉ js → (u ρ)[i]? = ρ[i]?) (len : ∀ ρ, (u ρ).length = ρ.length) (hm : noMAt ρ' vs) (hag : ∀ i, i ∈ vs → ρ'[i]? = ρ[i]?) : Ok c Hk3 H3 σ ρ' := by
  have hσ : ∀ i, i ∉ vs → σ2[i]? = σ[i]? := fun i h => by rw [← wipe_at h, hw, wipe_at h]
  have hρ : ∀ i, i ∉ vs → (u (wipeE ρ' vs))[i]? = ρ'[i]? := fun i h => by rw [agr _ _ fun z => h (hj i z), wipeE_at h]
  have hl : σ2.length = σ.length := by have := congrArg List.length hw; rw [wipe_length, wipe_length] at this; exact this
  have nv : ∀ (i : Nat) (s : Slot K), ρ'[i]? = some s → s.isM = true → i ∉ vs := fun i s h m z => by
    have := hm i z
    rw [isM_some h, m] at this; cases this
  refine ⟨k3.ex, k3.k0, k3.fr, k3.nw, k3.th, by rw [← hl, k3.len, len, wipeE_len], fun i s h => ?_, fun i j s s' p ne h h' m m' e => ?_, fun i s p h m e => ?_, fun p h => ?_⟩
  · by_cases z : i ∈ vs
    · rw [hag i z] at h
      obtain ⟨v, h1, h2⟩ := k.sl i s h
      have : s.isM = false := by
        have := hm i z
        rw [isM_some (by rw [hag i z]; exact h)] at this; exact this
      exact ⟨v, h1, Slot.okD this x h2⟩
    · rw [← hσ i z]
      exact k3.sl i s (by rw [hρ i z]; exact h)
  · have a := nv i s h m
    have b := nv j s' h' m'
    rw [← hσ j b]
    rw [← hσ i a] at e
    exact k3.sep i j s s' p ne (by rw [hρ i a]; exact h) (by rw [hρ j b]; exact h') m m' e
  · have a := nv i s h m
    rw [← hσ i a] at e
    exact k3.own i s p (by rw [hρ i a]; exact h) m e
  · obtain ⟨h1, s, h2, h3⟩ := k3.lv p h
    have z : (0 : Nat) ∉ vs := fun z => by
      have a : isMAt (u (wipeE ρ' vs)) 0 = true := by rw [isM_some h2]; exact h3
      by_cases q : (0 : Nat) ∈ js
      · -- the target stores data there: the lent slot would be gone
        have b := (L2.wipe_some (σ := σ2) (i := 0) (x := V.ref p) (vs := vs))
        have w1 : (L2.wipe σ vs)[0]? = (L2.wipe σ2 vs)[0]? := by rw [hw]
        obtain ⟨g1, t, g2, g3⟩ := k.lv p h
        have := hm 0 z
        rw [isM_some (s := t) (by rw [hag 0 z]; exact g2), g3] at this; cases this
      · obtain ⟨g1, t, g2, g3⟩ := k.lv p h
        have := hm 0 z
        rw [isM_some (s := t) (by rw [hag 0 z]; exact g2), g3] at this; cases this
    exact ⟨by rw [← hσ 0 z]; exact h1, s, by rw [← hρ 0 z]; exact h2, h3⟩
theorem Nxt.rewipe {Hk H Hk3 H3 : Hp} {σ σ2 : List (Option V)} {u u' : Env K → Env K} {js vs : List Nat} (x : Nxt σ2 (u (wipeE ρ vs)) (u' (wipeE ρ' vs)) Hk H Hk3 H3) (hw : L2.wipe σ2 vs = L2.wipe σ vs)
    (hj : ∀ j ∈ js, j ∈ vs) (agr : ∀ ρ i, i ∉ js → (u ρ)[i]? = ρ[i]?) (agr' : ∀ ρ i, i ∉ js → (u' ρ)[i]? = ρ[i]?) (nm : ∀ ρ j, isMAt ρ j = false → isMAt (u ρ) j = false) (hm : noMAt ρ vs) (hm' : noMAt ρ' vs) : Nxt σ ρ ρ' Hk H Hk3 H3 := by
  have hσ : ∀ i, i ∉ vs → σ2[i]? = σ[i]? := fun i h => by rw [← wipe_at h, hw, wipe_at h]
  have hρ : ∀ i, i ∉ vs → (u (wipeE ρ vs))[i]? = ρ[i]? := fun i h => by rw [agr _ _ fun z => h (hj i z), wipeE_at h]
  have hρ' : ∀ i, i ∉ vs → (u' (wipeE ρ' vs))[i]? = ρ'[i]? := fun i h => by rw [agr' _ _ fun z => h (hj i z), wipeE_at h]
  have inner : ∀ (i : Nat) (s : Slot K), (u (wipeE ρ vs))[i]? = some s → s.isM = true → i ∉ vs := fun i s h m z => by
    have := nm (wipeE ρ vs) i (isM_wipe (hm i z))
    rw [isM_some h, m] at this; cases this
  refine ⟨x.ex, fun a o h n => x.fr a o h fun i s h' m => ?_, fun i s h m => ?_, fun a o h => ?_, x.th⟩
  · have z := inner i s h' m
    rw [hσ i z]
    exact n i s (by rw [← hρ i z]; exact h') m
  · have z : i ∉ vs := fun z => by
      have := hm' i z
      rw [isM_some h, m] at this; cases this
    obtain ⟨s', h', m'⟩ := x.sub i s (by rw [hρ' i z]; exact h) m
    exact ⟨s', by rw [← hρ i z]; exact h', m'⟩
  · rcases x.nw a o h with z | z | ⟨i, s, z1, z2, z3⟩
    · exact .inl z
    · exact .inr (.inl z)
    · have w := inner i s z1 z2
      exact .inr (.inr ⟨i, s, by rw [← hρ i w]; exact z1, z2, by rw [← hσ i w]; exact z3⟩)

theorem Nxt.updU {σ : List (Option V)} {Hk H Hk' H' : Hp} (x : Nxt σ ρ ρ' Hk H Hk' H') {D : Addr} {o : HO} (hD : H D = none) : Nxt σ ρ ρ' Hk H Hk' (upd H' D o) :=
  ⟨x.ex, fun a u h n => by rw [upd_ne (ne_of_none h hD)]; exact x.fr a u h n, x.sub, x.nw, fun a h => by
    by_cases w : a = D
    · subst w; rw [upd_same] at h; cases h
    · rw [upd_ne w] at h; exact x.th a h⟩
/-- a list comprehension; the element may change mutable slots: E by the state t -/
theorem en_lcS {τ : Type} {wi : TI} {g : TG} {ex : Enc K α} {f : Enc K β} {as : List α} {js vs : List Nat} {u : α → Env K → Env K} (E : τ → Env K) (t0 : τ) {s : τ → α → τ} {p : τ → α → Bool} {v : τ → α → β}
    (hi : EvI wi ρ (E t0) ex as) (hg : EvG g ex js u) (hj : ∀ j ∈ js, j ∈ vs) (hm : ∀ t, noMAt (E t) vs) (hag : ∀ t t' i, i ∈ vs → (E t)[i]? = (E t')[i]?)
    (ht : ∀ i a t, as[i]? = some a → t = (lcGo s p v t0 (as.take i)).1 → EvT tt (u a (wipeE (E t) vs)) (u a (wipeE (E t) vs)) (p t a))
    (he : ∀ i a t, as[i]? = some a → t = (lcGo s p v t0 (as.take i)).1 → p t a = true → EvD te (u a (wipeE (E t) vs)) (u a (wipeE (E (s t a)) vs)) f (v t a)) :
    EvN (tLc wi g tt te vs) ρ (E (lcGo s p v t0 as).1) f (lcGo s p v t0 as).2 := fun c σ Hk H k Q q =>
  hi c σ Hk H k _ fun J Hk1 H1 k1 x1 W => fun D hD => by
    refine ⟨fun i m H' => m = as.length - i ∧ i ≤ as.length ∧ ∃ Hk', Ok c Hk' H' σ (E (lcGo s p v t0 (as.take i)).1) ∧ Nxt σ (E t0) (E (lcGo s p v t0 (as.take i)).1) Hk1 H1 Hk' H' ∧ Hk' D = none ∧
      ∃ xs, H' D = some (.lst xs) ∧ All2 (f.rep Hk') xs (lcGo s p v t0 (as.take i)).2, ⟨as.length, rfl, Nat.zero_le _, Hk1, ?_⟩, ?_⟩
    · obtain ⟨k2, x2, n2⟩ := k1.newL (xs := []) hD
      exact ⟨k2, x2, n2, [], upd_same, .nil⟩
    · rintro i m H' ⟨rfl, hi', Hk', k', x', hDk, xs, hDx, hxs⟩
      have hnD : ∀ (j : Nat) (z : Slot K), (E (lcGo s p v t0 (as.take i)).1)[j]? = some z → z.isM = true → σ[j]? ≠ some (some (V.ref D)) := fun j z h m =>
        let ⟨z', h', m'⟩ := x'.sub j z h m
        k1.apart hD h' m'
      by_cases lt : i < as.length
      · refine .inr ⟨W.go i H' lt (x'.ex.trans k'.ex), fun H' => (i + 1 ≤ as.length ∧ ∃ Hk', Ok c Hk' H' σ (E (lcGo s p v t0 (as.take (i + 1))).1) ∧ Nxt σ (E t0) (E (lcGo s p v t0 (as.take (i + 1))).1) Hk1 H1 Hk' H' ∧ Hk' D = none ∧
          ∃ xs, H' D = some (.lst xs) ∧ All2 (f.rep Hk') xs (lcGo s p v t0 (as.take (i + 1))).2), fun H'' n => ⟨as.length - (i + 1), by omega, rfl, n.1, n.2⟩, fun x H'' hy => ?_⟩
        obtain ⟨a, Hk2, ha, k2, x2, r2⟩ := W.yld i H' x H'' hy lt c σ _ Hk' k' x'.ex
        have tk := take_snoc ha
        have hD2 : H'' D = some (.lst xs) := x2.fr D _ hDx hnD
        refine hg.run c (L2.wipe σ vs) Hk2 H'' _ x a (k2.wipe (hm _)) (fun j h => isM_wipe (hm _ j (hj j h))) r2 _ fun σ2 ko hl hσ => ?_
        have hw : L2.wipe σ2 vs = L2.wipe σ vs := wipe_idem hl fun i hi => hσ i fun h => hi (hj i h)
        refine ⟨hw, ht i a _ ha rfl c σ2 Hk2 H'' ko _ fun Hk3 H3 k3 x3 => ?_⟩
        have x3' : Nxt σ (E (lcGo s p v t0 (as.take i)).1) (E (lcGo s p v t0 (as.take i)).1) Hk2 H'' Hk3 H3 := x3.rewipe hw hj (hg.agr a) (hg.agr a) (hg.nm a) (hm _) (hm _)
        have hD3 : H3 D = some (.lst xs) := x3'.fr D _ hD2 hnD
        have nk : ∀ {Hk0 H0 Hk4 H4 : Hp} {ρ4 : Env K}, Nxt σ (E (lcGo s p v t0 (as.take i)).1) ρ4 Hk0 H0 Hk4 H4 → Hk0 D = none → (∃ o, H0 D = some o) → Hk4 D = none := fun {Hk0 H0 Hk4 H4 ρ4} x h0 h1 => by
          cases z : Hk4 D with
          | none => rfl
          | some o =>
            obtain ⟨o', h1⟩ := h1
            rcases x.nw D o z with y | y | ⟨j, w, y1, y2, y3⟩
            · rw [h0] at y; cases y
            · rw [h1] at y; cases y
            · exact absurd y3 (hnD j w y1 y2)
        have hDk2 : Hk2 D = none := nk x2 hDk ⟨_, hDx⟩
        have hDk3 : Hk3 D = none := nk x3' hDk2 ⟨_, hD2⟩
        cases hp : p (lcGo s p v t0 (as.take i)).1 a with
        | false =>
          rw [if_neg (by decide)]
          have e : lcGo s p v t0 (as.take (i + 1)) = lcGo s p v t0 (as.take i) := by rw [tk, lcGo_snoc, hp]; rfl
          refine ⟨lt, Hk3, ?_⟩
          rw [e]
          exact ⟨k'.rewipe k3 (x2.ex.trans x3.ex) hw hj (hg.agr a) (hg.len a) (hm _) (fun _ _ => rfl), (x'.trans x2).trans x3', hDk3, xs, hD3, hxs.imp fun _ _ h => f.mono (x2.ex.trans x3.ex) h⟩
        | true =>
          rw [if_pos rfl]
          refine he i a _ ha rfl hp c σ2 Hk3 H3 k3 _ fun y Hk4 H4 k4 x4 r4 => ?_
          have e : lcGo s p v t0 (as.take (i + 1)) = (s (lcGo s p v t0 (as.take i)).1 a, (lcGo s p v t0 (as.take i)).2 ++ [v (lcGo s p v t0 (as.take i)).1 a]) := by rw [tk, lcGo_snoc, hp]; rfl
          have x4' : Nxt σ (E (lcGo s p v t0 (as.take i)).1) (E (s (lcGo s p v t0 (as.take i)).1 a)) Hk3 H3 Hk4 H4 := x4.rewipe hw hj (hg.agr a) (hg.agr a) (hg.nm a) (hm _) (hm _)
          have hD4 : H4 D = some (.lst xs) := x4'.fr D _ hD3 hnD
          have hDk4 : Hk4 D = none := nk x4' hDk3 ⟨_, hD3⟩
          have k5 : Ok c Hk4 H4 σ (E (s (lcGo s p v t0 (as.take i)).1 a)) := k'.rewipe k4 (x2.ex.trans (x3.ex.trans x4.ex)) hw hj (hg.agr a) (hg.len a) (hm _) (hag _ _)
          have x5 := ((x'.trans x2).trans x3').trans x4'
          have ll : xs.length < LM := by
            have a1 := hxs.len
            have a2 := lcGo_len (s := s) (p := p) (v := v) (as := as.take i) (t := t0)
            have a3 := List.length_take_le i as
            have a4 := W.len
            omega
          refine ⟨xs, hD4, lm_lt ll, lt, Hk4, ?_⟩
          rw [e]
          refine ⟨k5.updU hDk4 (k1.th D hD) hD4 fun j z h m => ?_, x5.updU hD, hDk4, xs ++ [y], upd_same, (hxs.imp fun _ _ h => f.mono (x2.ex.trans (x3.ex.trans x4.ex)) h).app (.cons r4 .nil)⟩
          · obtain ⟨z', h', m'⟩ := x5.sub j z h m
            exact k1.apart hD h' m'
      · have e : i = as.length := by omega
        subst e
        rw [List.take_length] at k' x' hxs
        exact .inl ⟨W.stop H' (x'.ex.trans k'.ex), q D xs Hk' H' k' (x1.trans x') hDk hDx hxs (Nat.le_trans lcGo_len W.len) (x1.th D hD)⟩
/-- .. that changes nothing -/
theorem en_lc {wi : TI} {g : TG} {ex : Enc K α} {f : Enc K β} {as : List α} {js vs : List Nat} {u : α → Env K → Env K} {p : α → Bool} {v : α → β}
    (hi : EvI wi ρ ρ1 ex as) (hg : EvG g ex js u) (hj : ∀ j ∈ js, j ∈ vs) (hm : noMAt ρ1 vs)
    (ht : ∀ a, a ∈ as → EvT tt (u a (wipeE ρ1 vs)) (u a (wipeE ρ1 vs)) (p a)) (he : ∀ a, a ∈ as → p a = true → EvD te (u a (wipeE ρ1 vs)) (u a (wipeE ρ1 vs)) f (v a)) :
    EvN (tLc wi g tt te vs) ρ ρ1 f ((as.filter p).map v) := by
  have key : ∀ as : List α, lcGo (fun (t : Unit) (_ : α) => t) (fun _ a => p a) (fun _ a => v a) () as = ((), (as.filter p).map v) := by
    intro as
    induction as with
    | nil => rfl
    | cons a as ih =>
      unfold lcGo
      rw [ih]
      cases h : p a <;> simp [h]
  have q := en_lcS (tt := tt) (te := te) (f := f) (p := fun (_ : Unit) a => p a) (v := fun _ a => v a) (s := fun t _ => t) (fun _ => ρ1) () hi hg hj (fun _ => hm) (fun _ _ _ _ => rfl)
    (fun i a t h _ => ht a (List.mem_of_getElem? h)) (fun i a t h _ hp => he a (List.mem_of_getElem? h) hp)
  rw [key] at q
  exact q
/-- .. without a test -/
theorem en_lcY {wi : TI} {g : TG} {ex : Enc K α} {f : Enc K β} {as : List α} {js vs : List Nat} {u : α → Env K → Env K} {v : α → β}
    (hi : EvI wi ρ ρ1 ex as) (hg : EvG g ex js u) (hj : ∀ j ∈ js, j ∈ vs) (hm : noMAt ρ1 vs)
    (he : ∀ a, a ∈ as → EvD te (u a (wipeE ρ1 vs)) (u a (wipeE ρ1 vs)) f (v a)) : EvN (tLc wi g tYes te vs) ρ ρ1 f (as.map v) := by
  have q := en_lc (tt := tYes) (p := fun _ => true) (v := v) (te := te) (f := f) hi hg hj hm (fun _ _ => et_yes) (fun a h _ => he a h)
  rw [List.filter_eq_self.mpr fun _ _ => rfl] at q
  exact q

/-! ### statements -/
theorem Ok.nox {c : Ent} {Hk H : Hp} {σ : List (Option V)} (k : Ok c Hk H σ ρ) : Ex Hk Hk := Ex.refl _
theorem xs_set {j : Nat} {a : α} (h : EvD te ρ ρ1 e a) (hj : okSet ρ1 j = true) : XS (tAsg te (gName j)) ρ (ρ1.set j (.d e a)) := fun c σ Hk H k D q =>
  h c σ Hk H k _ fun v Hk1 H1 k1 x1 r1 => q _ Hk1 H1 (k1.setX hj ⟨v, rfl, r1⟩ fun h => nomatch h) x1.ex
theorem xs_new {j : Nat} {s : Slot K} (h : EvW te ρ ρ1 s) (hj : okSet ρ1 j = true) : XS (tAsg te (gName j)) ρ (ρ1.set j s) := fun c σ Hk H k D q =>
  h c σ Hk H k _ fun p Hk1 H1 k1 x1 hs hH => q _ Hk1 H1 (k1.setX hj hs fun _ p' e' => by
    cases e'
    exact ⟨k.th p hH, fun i t h m => let ⟨s', e', m'⟩ := x1.sub i t h m; k.apart hH e' m'⟩) x1.ex
theorem xs_own {j : Nat} {as : List α} (h : EvN te ρ ρ1 e as) (hj : okSet ρ1 j = true) : XS (tAsg te (gName j)) ρ (ρ1.set j (.l e as)) := xs_new h.w hj
theorem xs_tgt {g : TG} {js : List Nat} {u : α → Env K → Env K} {a : α} (h : EvD te ρ ρ1 e a) (hg : EvG g e js u) (hj : noMAt ρ1 js) : XS (tAsg te g) ρ (u a ρ1) := fun c σ Hk H k D q =>
  h c σ Hk H k _ fun v Hk1 H1 k1 x1 r1 => hg.run c σ Hk1 H1 ρ1 v a k1 hj r1 _ fun σ' k2 _ _ => q σ' Hk1 H1 k2 x1.ex
theorem xs_drop {a : α} (h : EvD te ρ ρ1 e a) : XS (tDrop te) ρ ρ1 := fun c σ Hk H k D q => h c σ Hk H k _ fun v Hk1 H1 k1 x1 r1 => q σ Hk1 H1 k1 x1.ex
theorem xs_aug {j : Nat} {f : Int → Int → Int} {a b : Int} (ha : ρ[j]? = some (.d eI a)) (h : EvD te ρ ρ1 eI b) (hj : isMAt ρ1 j = false) : XS (tAug j te (ipI f)) ρ (ρ1.set j (.d eI (f a b))) := fun c σ Hk H k D q => by
  obtain ⟨v, h1, h2⟩ := k.var ha
  exact ⟨v, h1, h c σ Hk H k _ fun w Hk1 H1 k1 x1 r1 => ⟨a, b, h2, r1, q _ Hk1 H1 (k1.setD hj rfl) x1.ex⟩⟩
theorem xs_weak {ts : TS} (h : XS ts ρ ρ1) (w : Weak ρ1 ρ2) : XS ts ρ ρ2 := fun c σ Hk H k D q => h c σ Hk H k D fun σ' Hk' H' k' x => q σ' Hk' H' (k'.weak w) x
theorem xs_seq {ts us : TS} (h : XS ts ρ ρ1) (h2 : XS us ρ1 ρ2) : XS (tSeq ts us) ρ ρ2 := fun c σ Hk H k D q =>
  h c σ Hk H k _ fun σ1 Hk1 H1 k1 x1 => h2 c σ1 Hk1 H1 k1 D fun σ2 Hk2 H2 k2 x2 => q σ2 Hk2 H2 k2 (x1.trans x2)
theorem xs_pass : XS tNext ρ ρ := fun c σ Hk H k D q => q σ Hk H k (Ex.refl _)
theorem xs_if {ts us : TS} {b : Bool} {τ : Type} (E : τ → Env K) {x y : τ} (h : EvT tt ρ ρ1 b) (h1 : b = true → XS ts ρ1 (E x)) (h2 : b = false → XS us ρ1 (E y)) : XS (tIfS tt ts us) ρ (E (bif b then x else y)) := fun c σ Hk H k D q =>
  h c σ Hk H k _ fun Hk1 H1 k1 x1 => by
    cases b with
    | true => rw [if_pos rfl]; exact h1 rfl c σ Hk1 H1 k1 D fun σ2 Hk2 H2 k2 x2 => q σ2 Hk2 H2 k2 (x1.ex.trans x2)
    | false => rw [if_neg (by decide)]; exact h2 rfl c σ Hk1 H1 k1 D fun σ2 Hk2 H2 k2 x2 => q σ2 Hk2 H2 k2 (x1.ex.trans x2)
/-- a list of one's own in slot j, at a heap -/
theorem Ok.list {c : Ent} {Hk H : Hp} {σ : List (Option V)} (k : Ok c Hk H σ ρ) {j : Nat} {as : List α} (h : ρ[j]? = some (.l e as)) : ∃ p xs, σ[j]? = some (some (V.ref p)) ∧ H p = some (.lst xs) ∧ All2 (e.rep Hk) xs as ∧ as.length ≤ LM := by
  obtain ⟨v, hv, p, o, e1, e2, e3, xs, e4, e5, e6⟩ := k.sl j _ h
  subst e1; subst e4
  exact ⟨p, xs, hv, e3, e5, e6⟩
theorem xs_app {j : Nat} {a : α} {as : List α} (hj : ρ[j]? = some (.l e as)) (h : EvD te ρ ρ1 e a) (hj1 : ρ1[j]? = some (.l e as)) (hl : as.length < 100000) : XS (tDrop (tBM K "list" rAppend (tVar j) (tCons te tNil))) ρ (ρ1.set j (.l e (as ++ [a]))) := fun c σ Hk H k D q => by
  obtain ⟨p, xs, hv, hp, hx, _⟩ := k.list hj
  refine ⟨.ref p, hv, .inl ⟨rfl, xs, SqL.of hp⟩, h c σ Hk H k _ fun v Hk1 H1 k1 x1 r1 => ?_⟩
  obtain ⟨p', ys, hv', hp', hy, _⟩ := k1.list hj1
  rw [hv] at hv'; cases hv'
  refine ⟨p, ys, v, rfl, rfl, hp', lm_lt (by rw [hy.len]; exact hl), q σ Hk1 _ (k1.mutate hj1 rfl rfl hv ⟨_, rfl, hy.app (.cons r1 .nil), ?_⟩) x1.ex⟩
  rw [List.length_append]; show as.length + 1 ≤ 100000; omega
def rInsert : V → List V → Hp → VK → Prop := fun x vs H Q => ∃ (l : Addr) (xs : List V) (i : Int) (y : V), x = .ref l ∧ vs = [.int i, y] ∧ H l = some (.lst xs) ∧ xs.length < sizeLine ∧ 0 ≤ i ∧ i < 2 ^ 63 ∧
    Q .non (upd H l (.lst (xs.take i.toNat ++ [y] ++ xs.drop i.toNat)))
theorem xs_ins {j : Nat} {a : α} {i : Int} {as : List α} (hj : ρ[j]? = some (.l e as)) (hi : EvD ta ρ ρ1 eI i) (h : EvD te ρ1 ρ2 e a) (hj1 : ρ2[j]? = some (.l e as)) (hl : as.length < 100000 ∧ 0 ≤ i ∧ i < 2 ^ 62) :
    XS (tDrop (tBM K "list" rInsert (tVar j) (tCons ta (tCons te tNil)))) ρ (ρ2.set j (.l e (as.take i.toNat ++ [a] ++ as.drop i.toNat))) := fun c σ Hk H k D q => by
  obtain ⟨p, xs, hv, hp, hx, _⟩ := k.list hj
  refine ⟨.ref p, hv, .inl ⟨rfl, xs, SqL.of hp⟩, hi c σ Hk H k _ fun w Hk0 H0 k0 x0 r0 => h c σ Hk0 H0 k0 _ fun v Hk1 H1 k1 x1 r1 => ?_⟩
  obtain ⟨p', ys, hv', hp', hy, _⟩ := k1.list hj1
  rw [hv] at hv'; cases hv'
  refine ⟨p, ys, i, v, rfl, by rw [show w = .int i from r0], hp', lm_lt (by rw [hy.len]; exact hl.1), hl.2.1, by omega, q σ Hk1 _ (k1.mutate hj1 rfl rfl hv ⟨_, rfl, ((hy.take _).app (.cons r1 .nil)).app (hy.drop _), ?_⟩) (x0.ex.trans x1.ex)⟩
  simp only [List.length_append, List.length_take, List.length_drop, List.length_singleton]
  show _ ≤ 100000; omega
theorem xs_setI {j : Nat} {a : α} {i : Int} {as : List α} (h : EvD te ρ ρ1 e a) (hi : EvD ta ρ1 ρ2 eI i) (hj1 : ρ1[j]? = some (.l e as)) (hj : ρ2[j]? = some (.l e as)) (hc : inIx as.length i) :
    XS (tAsg te (gSub (tVar j) ta rSetL)) ρ (ρ2.set j (.l e (as.set (ixI as.length i) a))) := fun c σ Hk H k D q => h c σ Hk H k _ fun v Hk1 H1 k1 x1 r1 => by
  obtain ⟨p, xs, hv, hp, hx, _⟩ := k1.list hj1
  refine ⟨.ref p, hv, hi c σ Hk1 H1 k1 _ fun w Hk2 H2 k2 x2 r2 => ?_⟩
  obtain ⟨p', ys, hv', hp', hy, hl⟩ := k2.list hj
  rw [hv] at hv'; cases hv'
  refine ⟨p, ys, i, ixI as.length i, rfl, r2, hp', ?_, q σ Hk2 _ (k2.mutate hj rfl rfl hv ⟨_, rfl, hy.set (e.mono x2.ex r1) _, by simpa using hl⟩) (x1.ex.trans x2.ex)⟩
  unfold ixN ixI
  rw [hy.len]
  by_cases z : 0 ≤ i
  · rw [if_pos z, if_pos z, if_pos hc.2]
  · rw [if_neg z, if_neg z, if_pos hc.1]
/-- a for that goes through and only stores -/
theorem xs_for {τ : Type} {wi : TI} {g : TG} {tb : TS} {ex : Enc K α} {as : List α} {js : List Nat} {u : α → Env K → Env K} (E : τ → Env K) (t0 : τ) {f : τ → α → τ}
    (hi : EvI wi ρ ρ1 ex as) (hw : Weak ρ1 (E t0)) (hg : EvG g ex js u) (hj : ∀ t, noMAt (E t) js)
    (hb : ∀ i a t, as[i]? = some a → t = (as.take i).foldl f t0 → XS tb (u a (E t)) (E (f t a))) : XS (tFor wi g tb) ρ (E (as.foldl f t0)) := fun c σ Hk H k D q =>
  hi c σ Hk H k _ fun J Hk1 H1 k1 x1 W => by
    refine ⟨fun i m σ' H' => m = as.length - i ∧ i ≤ as.length ∧ ∃ Hk', Ok c Hk' H' σ' (E ((as.take i).foldl f t0)) ∧ Ex Hk1 Hk', ⟨as.length, rfl, Nat.zero_le _, Hk1, k1.weak hw, Ex.refl _⟩, ?_⟩
    rintro i m σ' H' ⟨rfl, hi', Hk', k', x'⟩
    by_cases lt : i < as.length
    · refine .inr ⟨W.go i H' lt (x'.trans k'.ex), fun σ' H' => i + 1 ≤ as.length ∧ ∃ Hk', Ok c Hk' H' σ' (E ((as.take (i + 1)).foldl f t0)) ∧ Ex Hk1 Hk', fun σ'' H'' n => ⟨as.length - (i + 1), by omega, rfl, n.1, n.2⟩, fun x H'' hy => ?_⟩
      obtain ⟨a, Hk2, ha, k2, x2, r2⟩ := W.yld i H' x H'' hy lt c σ' _ Hk' k' x'
      refine hg.run c σ' Hk2 H'' _ x a k2 (hj _) r2 _ fun σ2 k3 _ _ => hb i a _ ha rfl c σ2 Hk2 H'' k3 _ fun σ3 Hk3 H3 k4 x4 => ⟨lt, Hk3, ?_, x'.trans (x2.ex.trans x4)⟩
      rw [take_snoc ha, List.foldl_append]; exact k4
    · have e : i = as.length := by omega
      subst e
      rw [List.take_length] at k'
      exact .inl ⟨W.stop H' (x'.trans k'.ex), q σ' Hk' H' k' (x1.ex.trans x')⟩

/-! ### blocks with ways out -/
variable {ν μ lam γ : Type} {E : ν → Env K} {L : lam → Env K} {R : Ret K γ}
theorem Out.fin_mono {c : Ent} {Hk Hk' : Hp} {D : Ends} {o : Out ν lam γ} (x : Ex Hk Hk') (h : o.fin c Hk E L R D) : o.fin c Hk' E L R D := by
  cases o with
  | nx t => exact fun σ Hk2 H2 k y => h σ Hk2 H2 k (x.trans y)
  | ct t => exact fun σ Hk2 H2 k y => h σ Hk2 H2 k (x.trans y)
  | bk t => exact fun σ Hk2 H2 k y => h σ Hk2 H2 k (x.trans y)
  | rt r => exact h
theorem xb_nil {t : ν} (w : Weak ρ (E t)) : XB tNext ρ E L R (.nx t) := fun c σ Hk H k D q => q σ Hk H (k.weak w) (Ex.refl _)
theorem xb_ct {t : lam} (w : Weak ρ (L t)) : XB tCont ρ E L R (.ct t) := fun c σ Hk H k D q => q σ Hk H (k.weak w) (Ex.refl _)
theorem xb_bk {t : lam} (w : Weak ρ (L t)) : XB tBreak ρ E L R (.bk t) := fun c σ Hk H k D q => q σ Hk H (k.weak w) (Ex.refl _)
theorem Ok.ret {c : Ent} {Hk H : Hp} {σ : List (Option V)} (k : Ok c Hk H σ ρ) {r : γ} {v : V} (hn : R.nl r = none) (hv : R.e.rep Hk v (R.val r)) (hl : ∀ s, R.ls r = some s → ρ[0]? = some s) : OkR c R r v Hk H :=
  ⟨k.ex, k.k0, k.fr, k.nw, k.th, fun _ => hv, fun s h => by rw [hn] at h; (cases h), fun p s h h' => by
    obtain ⟨a, _⟩ := k.lv p h
    obtain ⟨w, w1, w2⟩ := k.sl 0 s (hl s h')
    rw [a] at w1; cases w1; exact w2⟩
theorem Ok.retW {c : Ent} {Hk H : Hp} {σ : List (Option V)} (k : Ok c Hk H σ ρ) {r : γ} {p : Addr} {s : Slot K} (hn : R.nl r = some s) (m : s.isM = true) (hs : s.ok Hk H (some (V.ref p))) (h0 : c.H0 p = none) (hl : ∀ s, R.ls r = some s → ρ[0]? = some s) : OkR c R r (.ref p) Hk H :=
  ⟨k.ex, k.k0, k.fr, k.nw, k.th, fun h => by rw [hn] at h; (cases h), fun s' h => by
    rw [hn] at h; cases h
    exact ⟨m, hs, fun p' e => by cases e; exact h0⟩, fun p s h h' => by
    obtain ⟨a, _⟩ := k.lv p h
    obtain ⟨w, w1, w2⟩ := k.sl 0 s (hl s h')
    rw [a] at w1; cases w1; exact w2⟩
theorem ls_of {r : γ} (hl : R.ls r = none ∨ R.ls r = ρ[0]?) : ∀ s, R.ls r = some s → ρ[0]? = some s := fun s hs => by
  rcases hl with z | z
  · rw [z] at hs; cases hs
  · rw [← z]; exact hs
theorem xb_ret {r : γ} (h : EvD te ρ ρ1 R.e (R.val r)) (hl : R.ls r = none ∨ R.ls r = ρ1[0]?) (hn : R.nl r = none) : XB (tRet te) ρ E L R (.rt r) := fun c σ Hk H k D q =>
  h c σ Hk H k _ fun v Hk1 H1 k1 x1 r1 => q v Hk1 H1 (k1.ret hn r1 (ls_of hl))
/-- a new object is given back -/
theorem xb_retW {r : γ} {s : Slot K} (h : EvW te ρ ρ1 s) (hl : R.ls r = none ∨ R.ls r = ρ1[0]?) (hn : R.nl r = some s) (m : s.isM = true) : XB (tRet te) ρ E L R (.rt r) := fun c σ Hk H k D q =>
  h c σ Hk H k _ fun p Hk1 H1 k1 x1 hs hH => q _ Hk1 H1 (k1.retW hn m hs (k.th p hH) (ls_of hl))
/-- an own object is given back -/
theorem xb_retV {r : γ} {s : Slot K} {j : Nat} (hj : ρ[j]? = some s) (j0 : j ≠ 0) (hl : R.ls r = none ∨ R.ls r = ρ[0]?) (hn : R.nl r = some s) (m : s.isM = true) : XB (tRet (tVar j)) ρ E L R (.rt r) := fun c σ Hk H k D q => by
  obtain ⟨v, hv, hs⟩ := k.sl j s hj
  obtain ⟨p, o, rfl, h1, h2⟩ := Slot.okM_ref m hs
  refine ⟨.ref p, hv, q _ Hk H (k.retW hn m hs ?_ (ls_of hl))⟩
  rcases k.own j s p hj m hv with z | z
  · exact z
  · obtain ⟨a, s0, b, m0⟩ := k.lv p z
    exact absurd a (k.sep j 0 s s0 p j0 hj b m m0 hv)
theorem xb_retN {r : γ} (h : ∀ H, R.e.rep H .non (R.val r)) (hl : R.ls r = none ∨ R.ls r = ρ[0]?) (hn : R.nl r = none) : XB tRetN ρ E L R (.rt r) := fun c σ Hk H k D q =>
  q .non Hk H (k.ret hn (h _) (ls_of hl))
theorem xb_seq {ts us : TS} {o : Out ν lam γ} (h : XS ts ρ ρ1) (h2 : XB us ρ1 E L R o) : XB (tSeq ts us) ρ E L R o := fun c σ Hk H k D q =>
  h c σ Hk H k _ fun σ1 Hk1 H1 k1 x1 => h2 c σ1 Hk1 H1 k1 D (Out.fin_mono x1 q)
theorem xb_last {ts : TS} {t : ν} (h : XS ts ρ (E t)) : XB ts ρ E L R (.nx t) := fun c σ Hk H k D q => h c σ Hk H k D fun σ1 Hk1 H1 k1 x1 => q σ1 Hk1 H1 k1 x1
/-- let: a value by a name of its own -/
theorem xb_let {ts us : TS} {δ : Type} {a : δ} {f : δ → Out ν lam γ} (E1 : δ → Env K) (h : XS ts ρ (E1 a)) (h2 : ∀ x, x = a → XB us (E1 x) E L R (f x)) : XB (tSeq ts us) ρ E L R (lt a f) := xb_seq h (h2 a rfl)
theorem xb_ifT {ts us : TS} {b : Bool} {o1 o2 : Out ν lam γ} (h : EvT tt ρ ρ1 b) (h1 : b = true → XB ts ρ1 E L R o1) (h2 : b = false → XB us ρ1 E L R o2) : XB (tIfS tt ts us) ρ E L R (bif b then o1 else o2) := fun c σ Hk H k D q =>
  h c σ Hk H k _ fun Hk1 H1 k1 x1 => by
    cases b with
    | true => rw [if_pos rfl]; exact h1 rfl c σ Hk1 H1 k1 D (Out.fin_mono x1.ex q)
    | false => rw [if_neg (by decide)]; exact h2 rfl c σ Hk1 H1 k1 D (Out.fin_mono x1.ex q)
/-- what follows a block -/
theorem xb_bind {ts us : TS} {E1 : μ → Env K} {o : Out μ lam γ} {g : μ → Out ν lam γ} (h : XB ts ρ E1 L R o) (h2 : ∀ t, o = .nx t → XB us (E1 t) E L R (g t)) : XB (tSeq ts us) ρ E L R (o.bind g) := fun c σ Hk H k D q =>
  h c σ Hk H k _ (by
    cases o with
    | nx t => exact fun σ1 Hk1 H1 k1 x1 => h2 t rfl c σ1 Hk1 H1 k1 D (Out.fin_mono x1 q)
    | ct t => exact q
    | bk t => exact q
    | rt r => exact q)
/-- if c: a block that always leaves; rest -/
theorem xb_ifL {ts us : TS} {b : Bool} {o1 : Out Empty lam γ} {o2 : Out ν lam γ} (h : EvT tt ρ ρ1 b) (h1 : b = true → XB ts ρ1 (fun z : Empty => nomatch z) L R o1) (h2 : b = false → XB us ρ1 E L R o2) :
    XB (tSeq (tIfS tt ts tNext) us) ρ E L R (bif b then o1.bind (fun z => nomatch z) else o2) := fun c σ Hk H k D q =>
  h c σ Hk H k _ fun Hk1 H1 k1 x1 => by
    cases b with
    | true => rw [if_pos rfl]; exact h1 rfl c σ Hk1 H1 k1 _ (by
        have q := Out.fin_mono x1.ex q
        cases o1 with
        | nx t => exact nomatch t
        | ct t => exact q
        | bk t => exact q
        | rt r => exact q)
    | false => rw [if_neg (by decide)]; exact h2 rfl c σ Hk1 H1 k1 D (Out.fin_mono x1.ex q)
theorem run_app {τ : Type} {f : τ → α → Out τ τ γ} {bs : List α} : ∀ {as : List α} {t : τ}, run f t (as ++ bs) = (match run f t as with
    | .nx t' => run f t' bs
    | .ct t' => .ct t'
    | .bk t' => .bk t'
    | .rt r => .rt r)
  | [], t => by simp only [List.nil_append, run]
  | b :: as, t => by
    simp only [List.cons_append, run]
    cases h : f t b with
    | nx t' => exact run_app (as := as) (t := t')
    | ct t' => exact run_app (as := as) (t := t')
    | bk t' => rfl
    | rt r => rfl
theorem run_snoc {τ : Type} {f : τ → α → Out τ τ γ} {a : α} {as : List α} {t t' : τ} (h : run f t as = .nx t') : run f t (as ++ [a]) = (match f t' a with | .nx t'' => .nx t'' | .ct t'' => .nx t'' | .bk t'' => .bk t'' | .rt r => .rt r) := by
  rw [run_app, h]
  simp only [run]
  cases f t' a <;> rfl
/-- a for with ways out, what follows it -/
theorem xb_for {τ : Type} {wi : TI} {g : TG} {tb us : TS} {ex : Enc K α} {as : List α} {js : List Nat} {u : α → Env K → Env K} (E0 : τ → Env K) (t0 : τ) {f : τ → α → Out τ τ γ} {h : τ → Out ν lam γ}
    (hi : EvI wi ρ ρ1 ex as) (hw : Weak ρ1 (E0 t0)) (hg : EvG g ex js u) (hj : ∀ t, noMAt (E0 t) js)
    (hb : ∀ i a t, as[i]? = some a → run f t0 (as.take i) = .nx t → XB tb (u a (E0 t)) E0 E0 R (f t a))
    (hr : ∀ t, (run f t0 as).done = (.nx t : Out τ lam γ) → XB us (E0 t) E L R (h t)) : XB (tSeq (tFor wi g tb) us) ρ E L R ((run f t0 as).done.bind h) := fun c σ Hk H k D q =>
  hi c σ Hk H k _ fun J Hk1 H1 k1 x1 W => by
    have q1 := Out.fin_mono x1.ex q
    refine ⟨fun i m σ' H' => m = as.length - i ∧ i ≤ as.length ∧ ∃ t Hk', run f t0 (as.take i) = .nx t ∧ Ok c Hk' H' σ' (E0 t) ∧ Ex Hk1 Hk', ⟨as.length, rfl, Nat.zero_le _, t0, Hk1, rfl, k1.weak hw, Ex.refl _⟩, ?_⟩
    rintro i m σ' H' ⟨rfl, hi', t, Hk', hrun, k', x'⟩
    by_cases lt : i < as.length
    · refine .inr ⟨W.go i H' lt (x'.trans k'.ex), fun σ' H' => i + 1 ≤ as.length ∧ ∃ t Hk', run f t0 (as.take (i + 1)) = .nx t ∧ Ok c Hk' H' σ' (E0 t) ∧ Ex Hk1 Hk', fun σ'' H'' n => ⟨as.length - (i + 1), by omega, rfl, n.1, n.2⟩, fun x H'' hy => ?_⟩
      obtain ⟨a, Hk2, ha, k2, x2, r2⟩ := W.yld i H' x H'' hy lt c σ' _ Hk' k' x'
      refine hg.run c σ' Hk2 H'' _ x a k2 (hj _) r2 _ fun σ2 k3 _ _ => hb i a _ ha hrun c σ2 Hk2 H'' k3 _ ?_
      have e1 : run f t0 (as.take (i + 1)) = (match f t a with | .nx t'' => .nx t'' | .ct t'' => .nx t'' | .bk t'' => .bk t'' | .rt r => .rt r) := by rw [take_snoc ha, run_snoc hrun]
      have e2 : as = as.take (i + 1) ++ as.drop (i + 1) := (List.take_append_drop _ _).symm
      cases hf : f t a with
      | nx t' => exact fun σ3 Hk3 H3 k4 x4 => ⟨lt, t', Hk3, by rw [e1, hf], k4, x'.trans (x2.ex.trans x4)⟩
      | ct t' => exact fun σ3 Hk3 H3 k4 x4 => ⟨lt, t', Hk3, by rw [e1, hf], k4, x'.trans (x2.ex.trans x4)⟩
      | bk t' =>
        have e3 : (run f t0 as).done = (.nx t' : Out τ lam γ) := by rw [e2, run_app, e1, hf]; rfl
        rw [e3] at q1
        exact fun σ3 Hk3 H3 k4 x4 => hr t' e3 c σ3 Hk3 H3 k4 D (Out.fin_mono (x'.trans (x2.ex.trans x4)) q1)
      | rt r =>
        have e3 : (run f t0 as).done = (.rt r : Out τ lam γ) := by rw [e2, run_app, e1, hf]; rfl
        rw [e3] at q1
        exact q1
    · have e : i = as.length := by omega
      subst e
      rw [List.take_length] at hrun
      have e3 : (run f t0 as).done = (.nx t : Out τ lam γ) := by rw [hrun]; rfl
      rw [e3] at q1
      exact .inl ⟨W.stop H' (x'.trans k'.ex), hr t e3 c σ' Hk' H' k' D (Out.fin_mono x' q1)⟩
end
end FL

/-! FL4: defs and their promises, calls, own classes, isinstance. -/
namespace FL
open PySem L2 PyProof.Rows
section
variable {K : PySem.W.Frag} {ρ ρ' ρ0 ρ1 ρ2 ρ3 : Env K} {α β : Type} {e : Enc K α} {ta tb te tc : TE} {tt tu tw : TT}

def lentOf : List V → List (Slot K) → Option Addr
  | .ref p :: _, s :: _ => if s.isM = true then some p else none
  | _, _ => none
/-- a def's promise: called with data ds x that pre allows it gives f x -/
def spF {ι γ : Type} (ds : ι → List (Slot K)) (pre : ι → Prop) (R : Ret K γ) (f : ι → γ) : Sp := fun vs H Q _ => ∃ (x : ι) (Hk : Hp), pre x ∧ Ex Hk H ∧ All2S (fun v s => s.ok Hk H (some v)) vs (ds x) ∧
  ∀ v Hk' H', OkR ⟨H, Hk, lentOf vs (ds x)⟩ R (f x) v Hk' H' → Q v H'
def Out.val {ν γ : Type} (fl : ν → γ) : Out ν Empty γ → γ
  | .nx t => fl t
  | .ct t => nomatch t
  | .bk t => nomatch t
  | .rt r => r
def Out.get {γ : Type} : Out Empty Empty γ → γ := Out.val fun t => nomatch t
theorem Out.get_rt {γ : Type} {r : γ} : (Out.rt r : Out Empty Empty γ).get = r := rfl
theorem Out.get_cond {γ : Type} {b : Bool} {x y : Out Empty Empty γ} : (bif b then x else y).get = (bif b then x.get else y.get) := by cases b <;> rfl
theorem Out.get_lt {γ δ : Type} {a : δ} {f : δ → Out Empty Empty γ} : (lt a f).get = (f a).get := rfl
theorem Out.get_bind {γ μ : Type} {o : Out μ Empty γ} {g : μ → Out Empty Empty γ} : (o.bind g).get = o.val fun t => (g t).get := by
  cases o with
  | nx t => rfl
  | ct t => exact nomatch t
  | bk t => exact nomatch t
  | rt r => rfl

theorem start_ok {ι : Type} {N ps : List Str} {vs : List V} {ds : List (Slot K)} {Hk H : Hp} (x : Ex Hk H) (h : All2S (fun v s => s.ok Hk H (some v)) vs ds) (hn : vs.length = ps.length) (hM : ∀ i s, ds[i + 1]? = some s → s.isM = false) :
    Ok ⟨H, Hk, lentOf vs ds⟩ Hk H (L2.start N vs) (ds ++ List.replicate (N.length - ps.length) .un) := by
  have hl := h.len
  have g : ∀ (i : Nat) (s : Slot K), (ds ++ List.replicate (N.length - ps.length) .un)[i]? = some s → (ds[i]? = some s ∧ i < ds.length) ∨ s = .un := fun i s e => by
    by_cases l : i < ds.length
    · rw [List.getElem?_append_left l] at e; exact .inl ⟨e, l⟩
    · rw [List.getElem?_append_right (by omega)] at e
      rw [List.getElem?_replicate] at e
      split at e
      · cases e; exact .inr rfl
      · cases e
  have m0 : ∀ (i : Nat) (s : Slot K), (ds ++ List.replicate (N.length - ps.length) .un)[i]? = some s → s.isM = true → i = 0 ∧ ds[0]? = some s := fun i s e m => by
    rcases g i s e with ⟨a, b⟩ | a
    · cases i with
      | zero => exact ⟨rfl, a⟩
      | succ i => rw [hM i s a] at m; cases m
    · subst a; cases m
  refine ⟨x, Ex.refl _, fun a o h _ => h, fun a o h => .inl h, fun a h => h, ?_, fun i s e => ?_, fun i j s s' p ne e e' m m' => ?_, fun i s p e m q => ?_, fun p q => ?_⟩
  · unfold L2.start
    simp only [List.length_append, List.length_map, List.length_replicate]; omega
  · rcases g i s e with ⟨a, b⟩ | a
    · obtain ⟨v, h1, h2⟩ := h.get a
      refine ⟨some v, ?_, h2⟩
      unfold L2.start
      rw [List.getElem?_append_left (by simpa [hl] using b), List.getElem?_map, h1]; rfl
    · subst a
      have l : i < (L2.start N vs).length := by
        have := (List.getElem?_eq_some_iff.mp e).1
        unfold L2.start
        simp only [List.length_append, List.length_map, List.length_replicate] at this ⊢; omega
      exact ⟨_, List.getElem?_eq_getElem l, trivial⟩
  · have a := (m0 i s e m).1
    have b := (m0 j s' e' m').1
    omega
  · obtain ⟨rfl, a⟩ := m0 i s e m
    right
    cases vs with
    | nil => cases ds with
      | nil => cases a
      | cons => simp at hl
    | cons v vs =>
      cases ds with
      | nil => cases a
      | cons d ds =>
        cases a
        unfold L2.start at q
        simp at q
        subst q
        show (if s.isM = true then some p else none) = some p
        rw [if_pos m]
  · cases vs with
    | nil => cases q
    | cons v vs =>
      cases ds with
      | nil => cases v <;> cases q
      | cons d ds =>
        cases v with
        | ref a =>
          have q : (if d.isM = true then some a else none) = some p := q
          by_cases m : d.isM = true
          · rw [if_pos m] at q; cases q
            exact ⟨rfl, d, rfl, m⟩
          · rw [if_neg m] at q; cases q
        | _ => cases q

section
variable {P : Program} {w : World} {mg : Str → Option Value} {base : Heap}
/-- a def keeps its promise -/
theorem fn_ok {ι γ ν : Type} {ds : ι → List (Slot K)} {pre : ι → Prop} {R : Ret K γ} {fl : ι → ν → γ} {o : ι → Out ν Empty γ} {E : ι → ν → Env K} {x qual : Str} {st : Stmt} {f : Addr} {fd : FuncData} {N ps : List Str} {k : Nat} (F : Fun K x qual st f fd) (S : FnScope N ps (defScope st))
    (hlen : ∀ x, (ds x).length = ps.length) (hM : ∀ x i s, (ds x)[i + 1]? = some s → s.isM = false)
    (hfall : ∀ x t, (∀ H, R.e.rep H .non (R.val (fl x t))) ∧ R.nl (fl x t) = none ∧ ∀ s, R.ls (fl x t) = some s → (E x t)[0]? = some s)
    (hbody : ∀ (cdv : Value) (A : Around) (outer : List PySem.Env) (s : Shared) (H : Hp) (EX : XK), Room k (A.deeper (envOfC qual (defScope st) s.heap.objs.size f cdv)) → ∀ x, pre x →
      ∃ (ρ : Env K) (t : TS), ds x ++ List.replicate (N.length - ps.length) .un = ρ ∧ PSs (cxOf CX0 P w K mg base N qual (defScope st) f cdv A outer s H EX).nox (defBody st) t ∧ XB t ρ (E x) (fun z : Empty => nomatch z) R (o x)) :
    FnOk P w K mg base CX0 (k + 1) f fd ps (spF ds pre R fun x => (o x).val (fl x)) := by
  refine F.ok S (fun vs H Q EX h => ?_) (fun cdv A outer s H vs Q EX hr h => ?_)
  · obtain ⟨x, Hk, _, _, h3, _⟩ := h
    rw [h3.len, hlen]
  · obtain ⟨x, Hk, h1, h2, h3, h4⟩ := h
    obtain ⟨ρ, t, rfl, d, b⟩ := hbody cdv A outer s H EX hr x h1
    refine ⟨t, d, b _ (L2.start N vs) Hk H (start_ok (ι := ι) h2 h3 (by rw [h3.len, hlen]) (hM x)) _ ?_⟩
    have h4 : ∀ v Hk' H', OkR ⟨H, Hk, lentOf vs (ds x)⟩ R ((o x).val (fl x)) v Hk' H' → Q v H' := h4
    cases ho : o x with
    | nx r =>
      rw [ho] at h4
      exact fun σ' Hk' H' k' x' => h4 .non Hk' H' (k'.ret (hfall x r).2.1 ((hfall x r).1 _) (hfall x r).2.2)
    | ct z => exact nomatch z
    | bk z => exact nomatch z
    | rt r =>
      rw [ho] at h4
      exact fun v Hk' H' k' => h4 v Hk' H' k'
theorem fn_okE {ι γ : Type} {ds : ι → List (Slot K)} {pre : ι → Prop} {R : Ret K γ} {o : ι → Out Empty Empty γ} {x qual : Str} {st : Stmt} {f : Addr} {fd : FuncData} {N ps : List Str} {k : Nat} (F : Fun K x qual st f fd) (S : FnScope N ps (defScope st))
    (hlen : ∀ x, (ds x).length = ps.length) (hM : ∀ x i s, (ds x)[i + 1]? = some s → s.isM = false)
    (hbody : ∀ (cdv : Value) (A : Around) (outer : List PySem.Env) (s : Shared) (H : Hp) (EX : XK), Room k (A.deeper (envOfC qual (defScope st) s.heap.objs.size f cdv)) → ∀ x, pre x →
      ∃ (ρ : Env K) (t : TS), ds x ++ List.replicate (N.length - ps.length) .un = ρ ∧ PSs (cxOf CX0 P w K mg base N qual (defScope st) f cdv A outer s H EX).nox (defBody st) t ∧ XB t ρ (fun z : Empty => nomatch z) (fun z : Empty => nomatch z) R (o x)) :
    FnOk P w K mg base CX0 (k + 1) f fd ps (spF ds pre R fun x => (o x).get) :=
  fn_ok F S hlen hM (fun _ t => nomatch t) hbody
/-- the same under another pre and another name of what is given back -/
theorem fn_imp {ι γ : Type} {ds : ι → List (Slot K)} {pre pre' : ι → Prop} {R : Ret K γ} {g g' : ι → γ} {f : Addr} {fd : FuncData} {ps : List Str} {k : Nat} (F : FnOk P w K mg base CX0 k f fd ps (spF ds pre R g))
    (h : ∀ x, pre' x → pre x) (hg : ∀ x, pre' x → g x = g' x) : FnOk P w K mg base CX0 k f fd ps (spF ds pre' R g') :=
  F.imp fun vs H Q EX ⟨x, Hk, h1, h2, h3, h4⟩ => ⟨x, Hk, h x h1, h2, h3, by rw [hg x h1]; exact h4⟩
end

/-! ### calls -/
theorem Ok.called {c : Ent} {Hk H Hk' H' : Hp} {σ : List (Option V)} {γ : Type} {R : Ret K γ} {r : γ} {v : V} (k : Ok c Hk H σ ρ) (o : OkR ⟨H, Hk, none⟩ R r v Hk' H') : Ok c Hk' H' σ ρ ∧ Nxt σ ρ ρ Hk H Hk' H' :=
  ⟨k.ext (fun a u h => o.fr a u h fun z => nomatch z) o.k0 o.ex o.nw, Nxt.of o.k0 (fun a u h => o.fr a u h fun z => nomatch z) o.nw⟩
theorem lent_none {vs : List V} {ds : List (Slot K)} (h : isMAt ds 0 = false) : lentOf vs ds = none := by
  cases vs with
  | nil => rfl
  | cons v vs =>
    cases ds with
    | nil => cases v <;> rfl
    | cons d ds =>
      cases v with
      | ref a =>
        have h : d.isM = false := h
        show (if d.isM = true then some a else none) = none
        rw [if_neg (by rw [h]; decide)]
      | _ => rfl
variable {ι γ : Type} {ds : ι → List (Slot K)} {pre : ι → Prop} {R : Ret K γ} {f : ι → γ}
theorem ev_call {tA : TA} {E : XK} (x : ι) (ha : EvA tA ρ ρ1 (ds x)) (hp : pre x) (hm : isMAt (ds x) 0 = false) (hnl : R.nl (f x) = none) : EvD (tCall (spF ds pre R f) [] E tA) ρ ρ1 R.e (R.val (f x)) := fun c σ Hk H k Q q =>
  ha c σ Hk H k _ fun vs Hk1 H1 k1 x1 hv => ⟨x, Hk1, hp, k1.ex, by rw [List.append_nil]; exact hv, fun v Hk2 H2 o => by
    rw [lent_none hm] at o
    obtain ⟨k2, x2⟩ := k1.called o
    exact q v Hk2 H2 k2 (x1.trans x2) (o.rv hnl)⟩
/-- .. that gives a new object -/
theorem ev_callW {tA : TA} {E : XK} {s : Slot K} (x : ι) (ha : EvA tA ρ ρ1 (ds x)) (hp : pre x) (hm : isMAt (ds x) 0 = false) (hnl : R.nl (f x) = some s) : EvW (tCall (spF ds pre R f) [] E tA) ρ ρ1 s := fun c σ Hk H k Q q =>
  ha c σ Hk H k _ fun vs Hk1 H1 k1 x1 hv => ⟨x, Hk1, hp, k1.ex, by rw [List.append_nil]; exact hv, fun v Hk2 H2 o => by
    rw [lent_none hm] at o
    obtain ⟨k2, x2⟩ := k1.called o
    obtain ⟨m, hs, h0⟩ := o.nv s hnl
    obtain ⟨p, u, e1, _, _⟩ := Slot.okM_ref m hs
    cases e1
    exact q p Hk2 H2 k2 (x1.trans x2) hs (x1.th p (h0 p rfl))⟩
/-- the first argument a mutable slot's object -/
theorem ev_callM {tA : TA} {E : XK} {j : Nat} {s0 s s' : Slot K} {rest : List (Slot K)} (x : ι) (hj0 : ρ[j]? = some s0) (m0 : s0.isM = true) (ha : EvA tA ρ ρ1 rest) (hj : ρ1[j]? = some s) (m : s.isM = true) (hx : ds x = s :: rest) (hp : pre x)
    (hs : R.ls (f x) = some s') (m' : s'.isM = true) (hnl : R.nl (f x) = none) : EvD (tCall (spF ds pre R f) [] E (tCons (tVar j) tA)) ρ (ρ1.set j s') R.e (R.val (f x)) := fun c σ Hk H k Q q => by
  obtain ⟨v, hv, h0⟩ := k.sl j s0 hj0
  obtain ⟨p, o, rfl, _, _⟩ := Slot.okM_ref m0 h0
  refine ⟨.ref p, hv, ha c σ Hk H k _ fun vs Hk1 H1 k1 x1 hvs => ?_⟩
  obtain ⟨v', hv', h1⟩ := k1.sl j s hj
  rw [hv] at hv'; cases hv'
  refine ⟨x, Hk1, hp, k1.ex, by rw [List.append_nil, hx]; exact .cons h1 hvs, fun v Hk2 H2 ok => ?_⟩
  have hl : lentOf (V.ref p :: vs ++ []) (ds x) = some p := by
    rw [hx]
    show (if s.isM = true then some p else none) = some p
    rw [if_pos m]
  rw [hl] at ok
  obtain ⟨k2, x2⟩ := k1.callM hj m m' hv ok.ex ok.k0 (fun a o h n => ok.fr a o h fun z => n (Option.some.inj z)) ok.nw ok.th (ok.lv p s' rfl hs)
  exact q v Hk2 H2 k2 (x1.trans x2) (ok.rv hnl)
theorem ev_callMW {tA : TA} {E : XK} {j : Nat} {s0 s s' sn : Slot K} {rest : List (Slot K)} (x : ι) (hj0 : ρ[j]? = some s0) (m0 : s0.isM = true) (ha : EvA tA ρ ρ1 rest) (hj : ρ1[j]? = some s) (m : s.isM = true) (hx : ds x = s :: rest) (hp : pre x)
    (hs : R.ls (f x) = some s') (m' : s'.isM = true) (hnl : R.nl (f x) = some sn) : EvW (tCall (spF ds pre R f) [] E (tCons (tVar j) tA)) ρ (ρ1.set j s') sn := fun c σ Hk H k Q q => by
  obtain ⟨v, hv, h0⟩ := k.sl j s0 hj0
  obtain ⟨p, o, rfl, _, _⟩ := Slot.okM_ref m0 h0
  refine ⟨.ref p, hv, ha c σ Hk H k _ fun vs Hk1 H1 k1 x1 hvs => ?_⟩
  obtain ⟨v', hv', h1⟩ := k1.sl j s hj
  rw [hv] at hv'; cases hv'
  refine ⟨x, Hk1, hp, k1.ex, by rw [List.append_nil, hx]; exact .cons h1 hvs, fun v Hk2 H2 ok => ?_⟩
  have hl : lentOf (V.ref p :: vs ++ []) (ds x) = some p := by
    rw [hx]
    show (if s.isM = true then some p else none) = some p
    rw [if_pos m]
  rw [hl] at ok
  obtain ⟨k2, x2⟩ := k1.callM hj m m' hv ok.ex ok.k0 (fun a o h n => ok.fr a o h fun z => n (Option.some.inj z)) ok.nw ok.th (ok.lv p s' rfl hs)
  obtain ⟨mn, hsn, h0n⟩ := ok.nv sn hnl
  obtain ⟨pn, u, e1, _, _⟩ := Slot.okM_ref mn hsn
  cases e1
  exact q pn Hk2 H2 k2 (x1.trans x2) hsn (x1.th pn (h0n pn rfl))
/-- f(k = v): the values in the parameters' order -/
theorem ev_callK {tA tk : TA} {E : XK} {gV : List V → List V → List V} {d1 d2 : List (Slot K)} (x : ι) (ha : EvA tA ρ ρ1 d1) (hk : EvA tk ρ1 ρ2 d2) (hg : ∀ (vs zs : List V) (r : V → Slot K → Prop), All2S r vs d1 → All2S r zs d2 → All2S r (gV vs zs) (ds x))
    (hd : ∀ s ∈ d1, s.isM = false) (hp : pre x) (hm : isMAt (ds x) 0 = false) (hnl : R.nl (f x) = none) : EvD (tCallK (spF ds pre R f) gV E tA tk) ρ ρ2 R.e (R.val (f x)) := fun c σ Hk H k Q q =>
  ha c σ Hk H k _ fun vs Hk1 H1 k1 x1 hv => hk c σ Hk1 H1 k1 _ fun zs Hk2 H2 k2 x2 hz => by
    have hv' : All2S (fun v s => Slot.ok Hk2 H2 (some v) s) vs d1 := by
      clear q hz
      have key : ∀ {vs : List V} {d1 : List (Slot K)}, (∀ s ∈ d1, s.isM = false) → All2S (fun v s => Slot.ok Hk1 H1 (some v) s) vs d1 → All2S (fun v s => Slot.ok Hk2 H2 (some v) s) vs d1 := by
        intro vs d1 hd h
        induction h with
        | nil => exact .nil
        | cons h _ ih => exact .cons (Slot.okD (hd _ List.mem_cons_self) x2.ex h) (ih fun s hs => hd s (List.mem_cons_of_mem _ hs))
      exact key hd hv
    exact ⟨x, Hk2, hp, k2.ex, hg vs zs _ hv' hz, fun v Hk3 H3 o => by
      rw [lent_none hm] at o
      obtain ⟨k3, x3⟩ := k2.called o
      exact q v Hk3 H3 k3 ((x1.trans x2).trans x3) (o.rv hnl)⟩

/-! ### own classes: instances that stay as they are -/
structure Fld (K : PySem.W.Frag) (α : Type) : Type 1 where
  {β : Type}
  e : Enc K β
  g : α → β
def eObj (C : Addr) (fl : List (Str × Fld K α)) : Enc K α :=
  ⟨fun H v a => ∃ p dx vs, v = .ref p ∧ H p = some (.ins C dx vs) ∧ All2S (fun (p : Str × V) (q : Str × Fld K α) => p.1 = q.1 ∧ q.2.e.rep H p.2 (q.2.g a)) vs fl,
   fun x ⟨p, dx, vs, h1, h2, h3⟩ => ⟨p, dx, vs, h1, x _ _ h2, h3.imp fun _ q h => ⟨h.1, q.2.e.mono x h.2⟩⟩⟩
instance {C : Addr} {fl : List (Str × Fld K α)} : NN (eObj C fl) := ⟨fun _ _ ⟨_, _, _, h, _⟩ => nomatch h⟩
theorem look_all2 {α : Type} {β : Type 1} {n : Str} : ∀ {vs : List (Str × α)} {fl : List (Str × β)} {r : α → β → Prop}, All2S (fun (p : Str × α) (q : Str × β) => p.1 = q.1 ∧ r p.2 q.2) vs fl → ∀ {i : Nat} {F : β}, fl[i]? = some (n, F) → (fl.map Prod.fst).Nodup →
    ∃ v, vs.lookup n = some v ∧ r v F
  | _, _, _, .nil, i, F, h, _ => by simp at h
  | (m, v) :: vs, (m', G) :: fl, r, .cons h t, i, F, hi, nd => by
    obtain ⟨e, hr⟩ := h
    have e : m = m' := e
    subst e
    cases i with
    | zero =>
      simp at hi
      obtain ⟨rfl, rfl⟩ := hi
      exact ⟨v, by simp, hr⟩
    | succ i =>
      simp at hi
      have nd' := List.nodup_cons.mp nd
      have : n ≠ m := fun z => by
        subst z
        exact nd'.1 (List.mem_map.mpr ⟨_, List.mem_of_getElem? hi, rfl⟩)
      obtain ⟨w, h1, h2⟩ := look_all2 t hi nd'.2
      exact ⟨w, by rw [List.lookup_cons]; rw [beq_false_of_ne this]; exact h1, h2⟩
theorem look_none {α : Type} {β : Type 1} {n : Str} : ∀ {vs : List (Str × α)} {fl : List (Str × β)} {r : α → β → Prop}, All2S (fun (p : Str × α) (q : Str × β) => p.1 = q.1 ∧ r p.2 q.2) vs fl → n ∉ fl.map Prod.fst → vs.lookup n = none
  | _, _, _, .nil, _ => rfl
  | (m, v) :: vs, (m', G) :: fl, r, .cons h t, hn => by
    have e : m = m' := h.1
    subst e
    have : n ≠ m := fun z => hn (by subst z; exact List.mem_cons_self)
    rw [List.lookup_cons, beq_false_of_ne this]
    exact look_none t fun z => hn (List.mem_cons_of_mem _ z)
theorem ev_fld {C : Addr} {fl : List (Str × Fld K α)} {a : α} {n : Str} {F : Fld K α} (h : EvD te ρ ρ1 (eObj C fl) a) (i : Nat) (hi : fl[i]? = some (n, F)) (nd : (fl.map Prod.fst).Nodup) (cl : Cls K C) (na : NoAttr K C n) : EvD (tFld K te n) ρ ρ1 F.e (F.g a) := fun c σ Hk H k Q q =>
  h c σ Hk H k _ fun v Hk1 H1 k1 x1 ⟨p, dx, vs, h1, h2, h3⟩ => by
    obtain ⟨w, e1, e2⟩ := look_all2 (r := fun v (F : Fld K α) => F.e.rep Hk1 v (F.g a)) h3 hi nd
    exact ⟨p, C, dx, vs, w, h1, k1.ex _ _ h2, cl, na, e1, q w Hk1 H1 k1 x1 e2⟩
/-- o.m(..) of such an instance -/
theorem ev_meth {tA : TA} {EX : XK} {C : Addr} {fl : List (Str × Fld K α)} {a : α} {m : Str} {rest : List (Slot K)} (x : ι) (h : EvD te ρ ρ0 (eObj C fl) a) (hn : m ∉ fl.map Prod.fst) (ha : EvA tA ρ0 ρ1 rest) (hx : ds x = .d (eObj C fl) a :: rest) (hp : pre x) (hnl : R.nl (f x) = none) :
    EvD (tMeth C m (spF ds pre R f) [] EX te tA) ρ ρ1 R.e (R.val (f x)) := fun c σ Hk H k Q q =>
  h c σ Hk H k _ fun v Hk0 H0 k0 x0 r0 => by
    obtain ⟨p, dx, vs, rfl, h2, h3⟩ := id r0
    refine ⟨p, dx, vs, rfl, k0.ex _ _ h2, look_none (r := fun v (F : Fld K α) => F.e.rep Hk0 v (F.g a)) h3 hn, ha c σ Hk0 H0 k0 _ fun ws Hk1 H1 k1 x1 hv => ?_⟩
    refine ⟨x, Hk1, hp, k1.ex, by rw [List.append_nil, hx]; exact .cons ⟨_, rfl, (eObj C fl).mono x1.ex r0⟩ hv, fun v Hk2 H2 o => ?_⟩
    rw [lent_none (by rw [hx]; rfl)] at o
    obtain ⟨k2, x2⟩ := k1.called o
    exact q v Hk2 H2 k2 ((x0.trans x1).trans x2) (o.rv hnl)
/-- the instance's fields as they are stored -/
def insOf (fl : List (Str × Fld K α)) (a : α) : List (Str × DV K) := fl.map fun p => (p.1, ⟨p.2.e, p.2.g a⟩)
theorem insOf_all2 {fl : List (Str × Fld K α)} {a : α} {H : Hp} : ∀ {vs : List (Str × V)}, All2S (fun (p : Str × V) (q : Str × DV K) => p.1 = q.1 ∧ q.2.e.rep H p.2 q.2.a) vs (insOf fl a) → All2S (fun (p : Str × V) (q : Str × Fld K α) => p.1 = q.1 ∧ q.2.e.rep H p.2 (q.2.g a)) vs fl := by
  unfold insOf
  induction fl with
  | nil => intro vs h; cases h; exact .nil
  | cons F fl ih => intro vs h; cases h with | cons h t => exact .cons h (ih t)
/-- C(..): __init__ fills the new instance -/
theorem ev_make {tA : TA} {EX : XK} {C : Addr} {fl : List (Str × Fld K α)} {a : α} {rest : List (Slot K)} {R : Ret K γ} {f : ι → γ} (x : ι) (ha : EvA tA ρ ρ1 rest) (hx : ds x = .i C [] :: rest) (hp : pre x) (hr : ∀ H v, R.e.rep H v (R.val (f x)) → v = .non) (hs : R.ls (f x) = some (.i C (insOf fl a))) (hnl : R.nl (f x) = none) :
    EvD (tMake C (spF ds pre R f) [] EX tA) ρ ρ1 (eObj C fl) a := fun c σ Hk H k Q q =>
  ha c σ Hk H k _ fun vs Hk1 H1 k1 x1 hv p dx hp0 hdx ne => by
    have hkp : Hk1 p = none := k1.ex.none hp0
    have hkd : Hk1 dx = none := k1.ex.none hdx
    have exn : Ex H1 (upd (upd H1 dx (.own p)) p (.ins C dx [])) := fun b o h => by
      rw [upd_ne (ne_of_none h hp0), upd_ne (ne_of_none h hdx)]; exact h
    refine ⟨x, Hk1, hp, k1.ex.trans exn, ?_, fun v Hk2 H2 o => ?_⟩
    · rw [List.append_nil, hx]
      refine .cons ⟨p, _, rfl, hkp, upd_same, dx, [], rfl, .nil⟩ (hv.imp fun v s h => Slot.ok_ext h exn (Ex.refl _) fun a o h => .inl h)
    · have hl : lentOf (V.ref p :: (vs ++ [])) (ds x) = some p := by
        rw [hx]
        rfl
      rw [hl] at o
      refine ⟨hr _ _ (o.rv hnl), ?_⟩
      obtain ⟨p', u, e1, e2, e3, dx', ws, rfl, e5⟩ := o.lv p _ rfl hs
      cases e1
      have y : Ex Hk2 (upd Hk2 p (.ins C dx' ws)) := Ex.new e2
      have exH : Ex H1 H2 := fun b u h => o.fr b u (exn b u h) fun z => ne_of_none h hp0 (Option.some.inj z).symm
      refine q (.ref p) (upd Hk2 p (.ins C dx' ws)) H2 (k1.ext exH (o.k0.trans y) (fun b u h => ?_) fun b u h => ?_) (x1.trans (Nxt.of (o.k0.trans y) exH fun b u h => ?_)) ⟨p, dx', ws, rfl, upd_same, ?_⟩
      · by_cases z : b = p
        · subst z; rw [upd_same] at h; rw [e3, h]
        · rw [upd_ne z] at h; exact o.ex _ _ h
      · by_cases z : b = p
        · subst z; exact .inr hp0
        · rw [upd_ne z] at h
          rcases o.nw b u h with w | w
          · exact .inl w
          · refine .inr ?_
            have w : upd (upd H1 dx (.own p)) p (.ins C dx []) b = none := w
            rw [upd_ne z] at w
            by_cases z' : b = dx
            · subst z'; exact hdx
            · rw [upd_ne z'] at w; exact w
      · by_cases z : b = p
        · subst z; exact .inr hp0
        · rw [upd_ne z] at h
          rcases o.nw b u h with w | w
          · exact .inl w
          · refine .inr ?_
            have w : upd (upd H1 dx (.own p)) p (.ins C dx []) b = none := w
            rw [upd_ne z] at w
            by_cases z' : b = dx
            · subst z'; exact hdx
            · rw [upd_ne z'] at w; exact w
      · exact insOf_all2 (e5.imp fun _ q h => ⟨h.1, q.2.e.mono y h.2⟩)
/-- self.f = e, a new field -/
theorem putF_new {n : Str} {v : V} : ∀ {vs : List (Str × V)}, n ∉ vs.map Prod.fst → putF n v vs = vs ++ [(n, v)]
  | [], _ => rfl
  | (m, u) :: vs, h => by
    have : ¬ m = n := fun z => h (by subst z; exact List.mem_cons_self)
    show (if m = n then (m, v) :: vs else (m, u) :: putF n v vs) = _
    rw [if_neg this, putF_new fun z => h (List.mem_cons_of_mem _ z)]; rfl
theorem All2S.app {α : Type} {β : Type 1} {r : α → β → Prop} {xs xs' : List α} {ys ys' : List β} (h : All2S r xs ys) (h' : All2S r xs' ys') : All2S r (xs ++ xs') (ys ++ ys') := by
  induction h with
  | nil => exact h'
  | cons h _ ih => exact .cons h ih
theorem names_all2 {α : Type} {β : Type 1} {r : α → β → Prop} {vs : List (Str × α)} {fl : List (Str × β)} (h : All2S (fun (p : Str × α) (q : Str × β) => p.1 = q.1 ∧ r p.2 q.2) vs fl) : vs.map Prod.fst = fl.map Prod.fst := by
  induction h with
  | nil => rfl
  | cons h _ ih => simp [ih, h.1]
theorem xs_fld {C : Addr} {fs : List (Str × DV K)} {a : α} {n : Str} {j : Nat} (h : EvD te ρ ρ1 e a) (hj : ρ1[j]? = some (.i C fs)) (hn : n ∉ fs.map Prod.fst) (hl : fs.length < 100) (cl : Cls K C) (na : NoAttr K C n) : XS (sFld K (tVar j) te n) ρ (ρ1.set j (.i C (fs ++ [(n, ⟨e, a⟩)]))) := fun c σ Hk H k D q =>
  h c σ Hk H k _ fun v Hk1 H1 k1 x1 r1 => by
    obtain ⟨w, hw, p, o, rfl, e2, e3, dx, vs, rfl, e4⟩ := k1.sl j _ hj
    refine ⟨.ref p, hw, p, C, dx, vs, rfl, e3, cl, na, by rw [e4.len]; omega, q σ Hk1 _ (k1.mutate hj rfl rfl hw ?_) x1.ex⟩
    rw [putF_new (by rw [names_all2 (r := fun v (d : DV K) => d.e.rep Hk1 v d.a) e4]; exact hn)]
    exact ⟨dx, _, rfl, e4.app (.cons ⟨rfl, r1⟩ .nil)⟩

/-! ### isinstance -/
class TyE (e : Enc K α) (T : outParam String) : Prop where
  ty : ∀ H v a, e.rep H v a → TyX K H v (.type T)
instance : TyE (eI (K := K)) "int" := ⟨fun H v a h => by cases (show v = .int a from h); exact .base (.int a)⟩
instance : TyE (eB (K := K)) "bool" := ⟨fun H v a h => by cases (show v = .bl a from h); exact .base (.bl a)⟩
instance : TyE (eS (K := K)) "str" := ⟨fun H v a h => by cases (show v = .str a from h); exact .base (.str a)⟩
instance : TyE (eN (K := K)) "NoneType" := ⟨fun H v a h => by cases (show v = .non from h); exact .base .non⟩
theorem tyx_l {H : Hp} {p : Addr} {xs : List V} (h : SqL K H p xs) : TyX K H (.ref p) (.type "list") := by
  rcases h with (h | ⟨o, h⟩) | ⟨o, its, n, h1, h2, _⟩
  · exact .base (.lst h)
  · exact .base (.frz h)
  · exact .kList h1 h2
theorem tyx_t {H : Hp} {p : Addr} {xs : List V} (h : SqT K H p xs) : TyX K H (.ref p) (.type "tuple") := by
  rcases h with (h | ⟨o, h⟩) | ⟨o, its, n, h1, h2, _⟩
  · exact .base (.tup h)
  · exact .fTuple h
  · exact .kTuple h1 h2
instance : TyE (eL e) "list" := ⟨fun H v a ⟨p, xs, h1, h2, _⟩ => by subst h1; exact tyx_l h2⟩
instance : TyE (eT e) "tuple" := ⟨fun H v a ⟨p, xs, h1, h2, _⟩ => by subst h1; exact tyx_t h2⟩
instance {f : Enc K β} : TyE (eP e f) "tuple" := ⟨fun H v a ⟨p, x, y, h1, h2, _⟩ => by subst h1; exact tyx_t h2⟩
theorem ty_ext {H H' : Hp} {v : V} {a : α} {T : String} [TyE e T] (x : Ex H H') (h : e.rep H v a) : TyX K H' v (.type T) := TyE.ty (e := e) H' v a (e.mono x h)
theorem ev_isi {T n : String} [TyE e T] {a : α} {b : Bool} (h : EvD te ρ ρ1 e a) (hb : kitB T n = some b) : EvD (tCB (rIsi K) (tCons te (tCons (tC (.ty n)) tNil))) ρ ρ1 eB b := fun c σ Hk H k Q q =>
  h c σ Hk H k _ fun v Hk1 H1 k1 x1 r1 => ⟨v, .ty n, .type T, .type n, b, rfl, .ty n, ty_ext (e := e) k1.ex r1, kit_ty hb, q _ Hk1 H1 k1 x1 rfl⟩
/-- isinstance(x, T), x None or of a type -/
theorem ev_isiO {T n : String} [TyE e T] {a : Option α} (h : EvD te ρ ρ1 (eO e) a) (hb : kitB T n = some true) (hn : kitB "NoneType" n = some false) : EvD (tCB (rIsi K) (tCons te (tCons (tC (.ty n)) tNil))) ρ ρ1 eB a.isSome := fun c σ Hk H k Q q =>
  h c σ Hk H k _ fun v Hk1 H1 k1 x1 r1 => by
    cases a with
    | none =>
      cases (show v = .non from r1)
      exact ⟨.non, .ty n, .type "NoneType", .type n, false, rfl, .ty n, .base .non, kit_ty hn, q _ Hk1 H1 k1 x1 rfl⟩
    | some a => exact ⟨v, .ty n, .type T, .type n, true, rfl, .ty n, ty_ext (e := e) k1.ex r1, kit_ty hb, q _ Hk1 H1 k1 x1 rfl⟩
theorem rIsiT_of {T n1 n2 : String} {b : Bool} {v : V} {H : Hp} {tp : Addr} {Q : VK} (ty : TyX K H v (.type T)) (ht : H tp = some (.tup [.ty n1, .ty n2])) (h1 : kitB T n1 = some b) (h2 : kitB T n2 = some (!b)) (q : Q (.bl true) H) : rIsiT K [v, .ref tp] H Q := by
  refine ⟨v, tp, [.ty n1, .ty n2], .type T, [.type n1, .type n2], true, rfl, ht, .cons (.ty n1) (.cons (.ty n2) .nil), ty, ?_, q⟩
  exact kitAny_cons (kit_ty h1) (fun hb => kitAny_cons (kit_ty h2) (fun hb2 => by subst hb; cases hb2) (fun _ => rfl)) (fun _ => rfl)
/-- isinstance(x, (list, tuple)) of a list or tuple -/
theorem ev_isQ {as : List α} (h : EvD te ρ ρ1 (eQ e) as) : EvD (tCB (rIsiT K) (tCons te (tCons (tTup (tCons (tC (.ty "list")) (tCons (tC (.ty "tuple")) tNil))) tNil))) ρ ρ1 eB true := fun c σ Hk H k Q q =>
  h c σ Hk H k _ fun v Hk1 H1 k1 x1 r1 => ⟨by show 2 ≤ sizeLine; decide, fun p hp => by
    obtain ⟨k2, x2⟩ := k1.new (o := .tup [.ty "list", .ty "tuple"]) hp
    have r2 := (eQ e).mono (x2.ex.trans k2.ex) r1
    rcases r2 with ⟨l, xs, rfl, h2, _⟩ | ⟨l, xs, rfl, h2, _⟩
    · exact rIsiT_of (b := true) (tyx_l h2) upd_same (by decide +kernel) (by decide +kernel) (q _ _ _ k2 (x1.trans x2) rfl)
    · exact rIsiT_of (b := false) (tyx_t h2) upd_same (by decide +kernel) (by decide +kernel) (q _ _ _ k2 (x1.trans x2) rfl)⟩
end
end FL

/-! FL5: sorted of (int, tuple of ints), == of data, list or tuple walked, wider types. -/
/-! ### the order -/
namespace FL
open PySem L2 PyProof.Rows
theorem lexLt_iff : ∀ {a b : List Int}, HT.lexLt a b = true ↔ a < b
  | [], [] => by simp [HT.lexLt]
  | [], _ :: _ => by simp [HT.lexLt]
  | _ :: _, [] => by simp [HT.lexLt]
  | x :: xs, y :: ys => by
    rw [HT.lexLt_cons, List.cons_lt_cons_iff]
    by_cases h : x = y
    · subst h; simp [lexLt_iff]
    · simp [h]
def lexP (p q : Int × List Int) : Bool := if p.1 = q.1 then HT.lexLt p.2 q.2 else decide (p.1 < q.1)
theorem lexP_iff {p q : Int × List Int} : lexP p q = true ↔ p.1 < q.1 ∨ (p.1 = q.1 ∧ p.2 < q.2) := by
  unfold lexP
  by_cases h : p.1 = q.1
  · simp [h, lexLt_iff]
  · simp [h]
theorem lexP_irr (p : Int × List Int) : lexP p p = false := by
  cases h : lexP p p with
  | false => rfl
  | true =>
    rcases lexP_iff.mp h with q | ⟨_, q⟩
    · omega
    · exact absurd q (List.lt_irrefl _)
theorem lexP_tot {p q : Int × List Int} (h1 : lexP p q = false) (h2 : lexP q p = false) : p = q := by
  have a : ¬ (p.1 < q.1 ∨ (p.1 = q.1 ∧ p.2 < q.2)) := fun z => by rw [lexP_iff.mpr z] at h1; cases h1
  have b : ¬ (q.1 < p.1 ∨ (q.1 = p.1 ∧ q.2 < p.2)) := fun z => by rw [lexP_iff.mpr z] at h2; cases h2
  have e : p.1 = q.1 := by omega
  have c1 : ¬ p.2 < q.2 := fun z => a (.inr ⟨e, z⟩)
  have c2 : ¬ q.2 < p.2 := fun z => b (.inr ⟨e.symm, z⟩)
  exact Prod.ext e (List.le_antisymm (List.not_lt.mp c2) (List.not_lt.mp c1))
theorem lexP_trans {p q r : Int × List Int} (h1 : lexP p q = true) (h2 : lexP q r = true) : lexP p r = true := by
  rcases lexP_iff.mp h1 with a | ⟨a, a'⟩ <;> rcases lexP_iff.mp h2 with b | ⟨b, b'⟩
  · exact lexP_iff.mpr (.inl (by omega))
  · exact lexP_iff.mpr (.inl (by omega))
  · exact lexP_iff.mpr (.inl (by omega))
  · exact lexP_iff.mpr (.inr ⟨a.trans b, List.lt_trans a' b'⟩)
theorem lexP_swo : SrtO.Swo lexP := by
  have as : ∀ x y, lexP x y = true → lexP y x = false := fun x y h => by
    cases h' : lexP y x with
    | false => rfl
    | true => have := lexP_trans h h'; rw [lexP_irr] at this; cases this
  refine ⟨as, fun x y z h1 h2 => ?_⟩
  cases h3 : lexP z x with
  | false => rfl
  | true =>
    exfalso
    cases h4 : lexP x y with
    | true => have := lexP_trans h3 h4; rw [h2] at this; cases this
    | false =>
      have e := lexP_tot h4 h1
      subst e
      rw [h2] at h3; cases h3
theorem swo_key {α β : Type} {lt : β → β → Bool} (O : SrtO.Swo lt) (k : α → β) : SrtO.Swo fun x y => lt (k x) (k y) := ⟨fun x y h => O.asym _ _ h, fun x y z h1 h2 => O.tr _ _ _ h1 h2⟩
/-- insertion -/
def insP (x : Int × List Int) : List (Int × List Int) → List (Int × List Int)
  | [] => [x]
  | y :: ys => if lexP y x = true then y :: insP x ys else x :: y :: ys
def srtP : List (Int × List Int) → List (Int × List Int)
  | [] => []
  | x :: xs => insP x (srtP xs)
abbrev SortedP (l : List (Int × List Int)) : Prop := SrtO.Srtd lexP l
theorem insP_perm (x : Int × List Int) : ∀ l, (insP x l).Perm (x :: l)
  | [] => List.Perm.refl _
  | y :: ys => by
    unfold insP
    split
    · exact ((insP_perm x ys).cons y).trans (List.Perm.swap x y ys)
    · exact List.Perm.refl _
theorem srtP_perm : ∀ l, (srtP l).Perm l
  | [] => List.Perm.refl _
  | x :: xs => (insP_perm x _).trans ((srtP_perm xs).cons x)
theorem insP_sorted {x : Int × List Int} : ∀ {l}, SortedP l → SortedP (insP x l)
  | [], _ => List.pairwise_singleton _ _
  | y :: ys, h => by
    have h' := List.pairwise_cons.mp h
    unfold insP
    split
    · rename_i hy
      refine List.pairwise_cons.mpr ⟨fun z hz => ?_, insP_sorted h'.2⟩
      rcases List.mem_cons.mp ((insP_perm x ys).mem_iff.mp hz) with e | e
      · subst e; exact lexP_swo.asym _ _ hy
      · exact h'.1 z e
    · rename_i hy
      have hy : lexP y x = false := by cases q : lexP y x <;> simp_all
      refine List.pairwise_cons.mpr ⟨fun z hz => ?_, h⟩
      rcases List.mem_cons.mp hz with e | e
      · subst e; exact hy
      · exact lexP_swo.tr _ _ _ hy (h'.1 z e)
theorem srtP_sorted : ∀ l, SortedP (srtP l)
  | [] => List.Pairwise.nil
  | x :: xs => insP_sorted (srtP_sorted xs)
theorem sorted_uniq : ∀ {l m : List (Int × List Int)}, SortedP l → SortedP m → l.Perm m → l = m
  | [], m, _, _, h => (List.Perm.eq_nil h.symm).symm
  | x :: l, [], _, _, h => absurd h.length_eq (by simp)
  | x :: l, y :: m, hl, hm, h => by
    have h1 : lexP x y = false := by
      rcases List.mem_cons.mp (h.mem_iff.mp (List.mem_cons_self (a := x) (l := l))) with e | hx
      · subst e; exact lexP_irr _
      · exact (List.pairwise_cons.mp hm).1 x hx
    have h2 : lexP y x = false := by
      rcases List.mem_cons.mp (h.mem_iff.mpr (List.mem_cons_self (a := y) (l := m))) with e | hy
      · subst e; exact lexP_irr _
      · exact (List.pairwise_cons.mp hl).1 y hy
    have e := lexP_tot h1 h2
    subst e
    rw [sorted_uniq (List.pairwise_cons.mp hl).2 (List.pairwise_cons.mp hm).2 h.cons_inv]

/-! ### the values -/
def num0 : Value → Int
  | .int i _ => i
  | _ => 0
def IsLP (h : Heap) (v : Value) (d : Int × List Int) : Prop := ∃ a o t u m, v = .ref a ∧ h.get? a = some o ∧ o.cls = .type "tuple" ∧ o.data = .seq #[.int d.1 t, .ref u] m ∧ TS.TupInts h (.ref u) d.2
theorem IsLP.keeps {h h' : Heap} {v : Value} {d : Int × List Int} (p : IsLP h v d) (k : ∀ b o, h.get? b = some o → o.cls = .type "tuple" → h'.get? b = some o) : IsLP h' v d := by
  obtain ⟨a, o, t, u, m, e, ho, hc, hd, x⟩ := p
  exact ⟨a, o, t, u, m, e, k _ _ ho hc, hc, hd, x.keeps k⟩
def lpOf (h : Heap) (v : Value) : Int × List Int := match v with
  | .ref a => match h.get? a with
    | some o => match o.data with
      | .seq xs _ => (num0 (xs.getD 0 .none), TS.intsOf h (xs.getD 1 .none))
      | _ => (0, [])
    | none => (0, [])
  | _ => (0, [])
theorem IsLP.val {h : Heap} {v : Value} {d : Int × List Int} (p : IsLP h v d) : lpOf h v = d := by
  obtain ⟨a, o, t, u, m, rfl, ho, hc, hd, x⟩ := p
  simp only [lpOf, ho, hd]
  exact Prod.ext rfl x.ints
theorem readsAll_ints {h : Heap} : ∀ {its : List Value} {ns : List Int}, IntsAre its ns → ∃ as, ReadsAll h its (ns.map PyData.int) as
  | [], [], _ => ⟨_, ReadsAll.nil⟩
  | v :: its, n :: ns, h => by
    cases h with
    | cons _ t h =>
      obtain ⟨as, q⟩ := readsAll_ints h
      exact ⟨_, ReadsAll.cons (Reads.int n t) q⟩
theorem reads_tup {h : Heap} {u : Addr} {l : List Int} (x : TS.TupInts h (.ref u) l) : ∃ as, Reads h (.ref u) (.tuple (l.map PyData.int)) as := by
  obtain ⟨a, xs, e, ⟨o, ho, hc, n, hd⟩, i⟩ := x
  cases e
  obtain ⟨as, q⟩ := readsAll_ints (h := h) i
  exact ⟨_, Reads.tuple ho hc hd q⟩
theorem eqvAll_ints : ∀ {a b : List Int}, PyData.eqvAll (a.map PyData.int) (b.map PyData.int) = decide (a = b)
  | [], [] => by simp [PyData.eqvAll]
  | [], _ :: _ => by simp [PyData.eqvAll]
  | _ :: _, [] => by simp [PyData.eqvAll]
  | x :: xs, y :: ys => by
    simp only [List.map_cons, PyData.eqvAll, PyData.eqv, eqvAll_ints (a := xs) (b := ys)]
    by_cases h : x = y <;> simp [h]
theorem canLay_ints : ∀ (a : List Int), PyData.canLayAll0 (a.map PyData.int) = true
  | [] => rfl
  | x :: xs => by
    have := canLay_ints xs
    simp only [List.map_cons, PyData.canLayAll0, PyData.canLay0, this, Bool.and_self]
section
variable {prog : Program} {w : World} {A : Around} {E : Value → Shared → Prop} {s : Shared}
theorem lp_cmp {vs : List Value} {k : Value → Int × List Int} (hu : A.units + 64 < cLine) (hp : ∀ v ∈ vs, IsLP s.heap v (k v)) : SrtO.Cmp prog w A s (tuples' true) (fun p => p.1 ∈ vs) (SrtO.lt2 fun v u => lexP (k v) (k u)) := by
  intro p q hm hm'
  have h1 := hp _ hm
  have h2 := hp _ hm'
  show wpAny (model prog w) A (keyLt' (tuples' true) p.1 q.1) (fun r s' => s' = s ∧ r = lexP (k p.1) (k q.1)) (fun _ _ => False) s
  unfold lexP
  generalize k p.1 = x at h1 ⊢
  generalize k q.1 = y at h2 ⊢
  obtain ⟨a, o, t, u, n, e, ho, hc, hd, hx⟩ := h1
  obtain ⟨a', o', t', u', n', e', ho', hc', hd', hy⟩ := h2
  rw [e, e']
  refine PySem.W.kat_lt ho hd ho' hd' ?_
  show PySem.W.KatLex prog w A true (decide (2 < 2)) _ [(.int x.1 t, .int y.1 t'), (.ref u, .ref u')] 0 s
  refine PySem.W.kat_cons (SeqAt.EqAt.int_int x.1 t y.1 t' prog w _ _ ?_)
  refine PySem.W.kat_go (fun e1 => ?_) (fun e1 => ?_)
  · have ex : x.1 = y.1 := by simpa using e1
    obtain ⟨as, ra⟩ := reads_tup hx
    obtain ⟨bs, rb⟩ := reads_tup hy
    have md : min (PyData.depth (.tuple (x.2.map PyData.int))) (PyData.depth (.tuple (y.2.map PyData.int))) ≤ 64 := by
      have dd : ∀ l : List Int, PyData.depthAll (l.map PyData.int) ≤ 1 := by
        intro l
        induction l with
        | nil => simp [PyData.depthAll]
        | cons i l ih => simp only [List.map_cons, PyData.depthAll, PyData.depth]; omega
      have := dd x.2
      simp only [PyData.depth]
      omega
    refine PySem.W.kat_yes (PySem.W.kat_cons (SeqAt.eqAt_reads _ _ A s _ _ as bs ra rb (by simp only [PyData.canLay0, canLay_ints]) (by simp only [PyData.canLay0, canLay_ints]) (by omega) prog w _ _ ?_))
    refine PySem.W.kat_go (fun e2 => ?_) (fun e2 => ?_)
    · have ey : x.2 = y.2 := by simpa [PyData.eqv, eqvAll_ints] using e2
      have e3 : (if x.1 = y.1 then HT.lexLt x.2 y.2 else decide (x.1 < y.1)) = false := by
        have := lexP_irr x
        unfold lexP at this
        rw [if_pos rfl] at this
        rw [if_pos ex, ← ey]; exact this
      exact PySem.W.kat_yes (PySem.W.kat_nil ⟨rfl, e3.symm⟩)
    · have e3 : (if x.1 = y.1 then HT.lexLt x.2 y.2 else decide (x.1 < y.1)) = HT.lexLt x.2 y.2 := if_pos ex
      obtain ⟨b1, xs1, q1, T1, i1⟩ := hx
      obtain ⟨b2, xs2, q2, T2, i2⟩ := hy
      cases q1; cases q2
      refine PySem.W.kat_no (PySem.W.kat_one _ _ (HT.lt_tupInts T1 T2 i1 i2 (by omega) ?_))
      exact (show s = s ∧ HT.lexLt x.2 y.2 = _ from ⟨rfl, e3.symm⟩)
  · have ex : ¬ x.1 = y.1 := by simpa using e1
    have e3 : (if x.1 = y.1 then HT.lexLt x.2 y.2 else decide (x.1 < y.1)) = decide (x.1 < y.1) := if_neg ex
    exact PySem.W.kat_no (oneLt_int ⟨rfl, e3.symm⟩)
theorem lp_firsts {h : Heap} : ∀ {vs : List Value}, (∀ v ∈ vs, ∃ d, IsLP h v d) → ∃ fs : List Value, PySem.W.KatTups h vs fs ∧ fs.length = vs.length ∧ ∀ f ∈ fs, ∃ x t, f = Value.int x t
  | [], _ => ⟨[], PySem.W.KatTups.nil, rfl, fun _ hm => by simp at hm⟩
  | v :: vs, hp => by
    obtain ⟨fs, h1, h2, h3⟩ := lp_firsts (vs := vs) fun v' hm => hp v' (List.mem_cons_of_mem _ hm)
    obtain ⟨d, a, o, t, u, n, e, ho, hc, hd, _⟩ := hp v (List.mem_cons_self ..)
    subst e
    refine ⟨.int d.1 t :: fs, PySem.W.KatTups.cons ho hc hd rfl h1, by rw [List.length_cons, List.length_cons, h2], fun f hm => ?_⟩
    rcases List.mem_cons.mp hm with rfl | hm
    · exact ⟨d.1, t, rfl⟩
    · exact h3 f hm
theorem lp_sortableO {a : Addr} {vs : List Value} {k : Value → Int × List Int} (hu : A.units + 64 < cLine) (h0 : 0 < vs.length) (hp : ∀ v ∈ vs, IsLP s.heap v (k v)) (ha : ∀ o, s.heap.get? a = some o → o.cls ≠ .type "tuple") : SrtO.SortableO prog w A s a vs fun v u => lexP (k v) (k u) := by
  intro h' keep
  have hp' : ∀ v ∈ vs, IsLP h' v (k v) := fun v hm => (hp v hm).keeps fun b o e c => keep b o (fun z => by subst z; exact ha o e c) e
  obtain ⟨fs, h1, h2, h3⟩ := lp_firsts fun v hm => ⟨_, hp' v hm⟩
  refine ⟨tuples' true, fun Q E hq => ?_, lp_cmp (s := { s with heap := h' }) hu hp'⟩
  refine PySem.W.kat_kind (T := .type "int") h1 (by omega) (fun f hm => ?_) (by rfl) ?_
  · obtain ⟨x, t, rfl⟩ := h3 f hm
    exact PySem.W.Looks.now
  · have e : (Value.type "int" != Value.type "tuple") = true := by first | decide +kernel | rfl | decide
    rw [e]
    exact hq
theorem sorted_lp {l : Addr} {vs : List Value} {k : Value → Int × List Int} {Q : Value → Shared → Prop} (hu : A.in1.in1.units + 64 < cLine) (hl : s.heap.IsList l vs.toArray) (hz : vs.length ≤ sizeLine) (hp : ∀ v ∈ vs, IsLP s.heap v (k v))
    (h : ∀ (h' : Heap) (d : Addr) (out : List Value), SrtO.Srtd (fun v u => lexP (k v) (k u)) out → SrtO.Stb (fun v u => lexP (k v) (k u)) out vs → (∀ b o, s.heap.get? b = some o → h'.get? b = some o) → s.heap.objs.size ≤ d → (∃ n, h'.get? d = some (seqObj "list" out.toArray n)) → Q (.ref d) { s with heap := h' }) :
    wpAny (model prog w) A (call (.builtin "sorted") [.ref l]) Q E s := by
  refine SrtO.sorted_ord (swo_key lexP_swo k) hl hz (fun h2 h₁ a ha kk => ?_) fun out hs hb => ?_
  · refine lp_sortableO (s := { s with heap := h₁ }) hu (by omega) (fun v hm => (hp v hm).keeps fun b o e _ => (kk b o e).2) fun o e => ?_
    have e' : some o = some (seqObj "list" vs.toArray 0) := e.symm.trans ha
    cases e'
    intro c
    exact absurd (Value.type.inj c) (by decide)
  · exact h _ _ out hs hb (fun b o e => sortedAll_old e) (Nat.le_succ _) (sortedAll_at s.heap vs out.toArray)
end
end FL

/-! ### as a rule -/
namespace FL
open PySem L2 PyProof.Rows
def RepLP (K : PySem.W.Frag) (H : Hp) (x : V) (d : Int × List Int) : Prop := ∃ t u, x = .ref t ∧ SqT K H t [.int d.1, .ref u] ∧ SqT K H u (d.2.map V.int)
def rSortLP (K : PySem.W.Frag) : List V → Hp → VK → Prop := fun vs H Q => ∃ (a : Addr) (xs : List V) (ds : List (Int × List Int)), vs = [V.ref a] ∧ SqL K H a xs ∧ All2 (RepLP K H) xs ds ∧
  ∀ ys p, (∀ r : V → Int × List Int → Prop, All2 r xs ds → All2 r ys (srtP ds)) → H p = none → Q (.ref p) (upd H p (.lst ys))
section
variable {X : Cx} {pins : List (Addr × Obj)} {σ : L2.St} {H : Hp} {s : Shared}
theorem repLP_is (I : Inv X pins σ H s) {x : V} {d : Int × List Int} {u : Value} (h : RepLP X.K H x d) (r : RelV x u) : IsLP s.heap u d := by
  obtain ⟨t, v, rfl, h1, h2⟩ := h
  cases (show u = Value.ref t from r)
  obtain ⟨its, rv, ⟨o, ho, hc, n, hd⟩, _⟩ := I.tuple h1
  obtain ⟨u1, u2, rfl, r1, r2⟩ := vals2 rv
  obtain ⟨tk, rfl⟩ := r1
  cases (show u2 = Value.ref v from r2)
  exact ⟨t, o, tk, v, n, rfl, ho, hc, hd, tupI_raw I h2⟩
theorem all2_ix {α β : Type} {r : α → β → Prop} {xs : List α} {ys : List β} (h : All2 r xs ys) {x : α} (m : x ∈ xs) : ∃ y, y ∈ ys ∧ r x y := by
  obtain ⟨i, hi⟩ := List.getElem?_of_mem m
  obtain ⟨y, h1, h2⟩ := h.getL hi
  exact ⟨y, List.mem_of_getElem? h1, h2⟩
theorem repLP_det (I : Inv X pins σ H s) {x : V} {d d' : Int × List Int} (h : RepLP X.K H x d) (h' : RepLP X.K H x d') : d = d' := by
  obtain ⟨t, v, rfl, h1, h2⟩ := h
  obtain ⟨t', v', e, h1', h2'⟩ := h'
  cases e
  have a := I.tuple_inj h1 h1'
  have q1 : d.1 = d'.1 := by injection a with a1 a2; injection a1
  have q2 : v = v' := by injection a with a1 a2; injection a2 with a2 _; injection a2
  subst q2
  have b := I.tuple_inj h2 h2'
  have inj : ∀ {l m : List Int}, l.map V.int = m.map V.int → l = m := by
    intro l
    induction l with
    | nil => intro m h; cases m with
      | nil => rfl
      | cons => cases h
    | cons x l ih => intro m h; cases m with
      | nil => cases h
      | cons y m =>
        injection h with h1 h2
        injection h1 with h1
        rw [h1, ih h2]
  exact Prod.ext q1 (inj b)
theorem cr_sortLP (hu : X.A.units + 80 < cLine) : CallR X (.builtin "sorted") (rSortLP X.K) := by
  intro pins s σ H vs us Q I r h
  obtain ⟨a, xs, ds, rfl, hs, hx, q⟩ := h
  obtain ⟨its, rv, hl, hz⟩ := I.list hs
  obtain ⟨u, rfl, ru⟩ := vals1 r
  obtain rfl : u = Value.ref a := ru
  have hrefs : ∀ x ∈ xs, ∃ t, x = V.ref t := fun x m => let ⟨d, _, t, _, e, _⟩ := all2_ix hx m; ⟨t, e⟩
  obtain ⟨e1, e2⟩ := refs_back rv hrefs
  have hLP : ∀ v ∈ its, IsLP s.heap v (lpOf s.heap v) := fun v hv => by
    obtain ⟨t, rfl⟩ := e2 v hv
    have hm : V.ref t ∈ xs := by rw [e1]; exact List.mem_map.mpr ⟨_, hv, rfl⟩
    obtain ⟨d, _, hd⟩ := all2_ix hx hm
    have p := repLP_is I hd (show RelV (V.ref t) (Value.ref t) from rfl)
    rw [p.val]; exact p
  refine sorted_lp (k := lpOf s.heap) (by show X.A.units + 1 + 1 + 64 < cLine; omega) hl.isList (by rw [← rv.length]; exact hz) hLP fun h' d out h1 h2 kp hd hn => ?_
  have h3 : ∀ u ∈ out, ∃ a, u = Value.ref a := fun u hu => e2 u (h2.perm.mem_iff.mp hu)
  obtain ⟨n, hn⟩ := hn
  -- the data of a value
  have hdat : ∀ v ∈ its, RepLP X.K H (backV v) (lpOf s.heap v) := fun v hv => by
    obtain ⟨t, rfl⟩ := e2 v hv
    have hm : V.ref t ∈ xs := by rw [e1]; exact List.mem_map.mpr ⟨_, hv, rfl⟩
    obtain ⟨d, _, hd⟩ := all2_ix hx hm
    have p := repLP_is I hd (show RelV (V.ref t) (Value.ref t) from rfl)
    rw [p.val]; exact hd
  have hds : ds = its.map (lpOf s.heap) := by
    have key : ∀ {xs : List V} {ds : List (Int × List Int)} {its : List Value}, All2 (RepLP X.K H) xs ds → xs = its.map backV → (∀ v ∈ its, RepLP X.K H (backV v) (lpOf s.heap v)) → ds = its.map (lpOf s.heap) := by
      intro xs ds its h
      induction h generalizing its with
      | nil => intro e _; cases its with
        | nil => rfl
        | cons => cases e
      | cons h _ ih =>
        intro e hd
        cases its with
        | nil => cases e
        | cons v its =>
          injection e with ea eb
          rw [List.map_cons, ih eb fun v hv => hd v (List.mem_cons_of_mem _ hv)]
          subst ea
          rw [repLP_det I h (hd v List.mem_cons_self)]
    exact key hx e1 hdat
  have hout : ∀ r : V → Int × List Int → Prop, All2 r xs ds → All2 r (out.map backV) (out.map (lpOf s.heap)) := fun r hr => by
    rw [e1, hds] at hr
    have key : ∀ {its : List Value}, All2 r (its.map backV) (its.map (lpOf s.heap)) → ∀ v ∈ its, r (backV v) (lpOf s.heap v) := by
      intro its
      induction its with
      | nil => intro _ v hv; cases hv
      | cons w its ih =>
        intro h v hv
        cases h with
        | cons h t =>
          rcases List.mem_cons.mp hv with z | z
          · subst z; exact h
          · exact ih t v z
    have key2 : ∀ {out : List Value}, (∀ v ∈ out, r (backV v) (lpOf s.heap v)) → All2 r (out.map backV) (out.map (lpOf s.heap)) := by
      intro out h
      induction out with
      | nil => exact .nil
      | cons v out ih => exact .cons (h v List.mem_cons_self) (ih fun v hv => h v (List.mem_cons_of_mem _ hv))
    exact key2 fun v hv => key hr v (h2.perm.mem_iff.mp hv)
  have hsrt : out.map (lpOf s.heap) = srtP ds := by
    refine sorted_uniq (List.pairwise_map.mpr h1) (srtP_sorted ds) ?_
    rw [hds]
    exact (h2.perm.map _).trans (srtP_perm _).symm
  rw [hsrt] at hout
  refine ⟨.ref d, upd H d (.lst (out.map backV)), I.laid (t' := s.toks) kp hd ⟨?_, out, n, vals_back h3, hn⟩, rfl, q _ d hout (I.hok.fresh hd)⟩
  rw [List.length_map, h2.perm.length_eq, ← rv.length]
  exact hz
end
section
variable {K : PySem.W.Frag} {ρ ρ' ρ0 ρ1 ρ2 ρ3 : Env K} {α β : Type} {e : Enc K α} {ta tb te tc : TE}
theorem repLP_iff {H : Hp} {x : V} {d : Int × List Int} : (eP eI (eT eI) : Enc K (Int × List Int)).rep H x d → RepLP K H x d := fun ⟨p, a, b, h1, h2, h3, q, xs, h4, h5, h6, _⟩ => by
  have h3 : a = .int d.1 := h3
  subst h1; subst h3; subst h4
  have z : xs = d.2.map V.int := All2.eq_map (f := V.int) h6
  subst z
  exact ⟨p, q, rfl, h2, h5⟩
theorem insP_all2 {P : Int × List Int → Prop} : ∀ {l}, (∀ d ∈ l, P d) → ∀ d ∈ srtP l, P d := fun {l} h d hd => h d ((srtP_perm l).mem_iff.mp hd)
theorem en_sortLP {as : List (Int × List Int)} (ha : EvD ta ρ ρ1 (eL (eP eI (eT eI))) as) : EvN (tCB (rSortLP K) (tCons ta tNil)) ρ ρ1 (eP eI (eT eI)) (srtP as) := fun c σ Hk H k Q q =>
  ha c σ Hk H k _ fun v Hk1 H1 k1 x1 ⟨p, xs, e1, e2, e3, e4⟩ => by
    subst e1
    refine ⟨p, xs, as, rfl, ex_l k1.ex e2, e3.imp fun _ _ h => repLP_iff ((eP eI (eT eI)).mono k1.ex h), fun ys l hy hl => ?_⟩
    obtain ⟨k2, x2, n2⟩ := k1.newL (xs := ys) hl
    exact q l ys Hk1 _ k2 (x1.trans x2) n2 upd_same (hy _ e3) (by rw [(srtP_perm as).length_eq]; exact e4) (x1.th l hl)

/-! ### == of lists and tuples of ints -/
theorem dpAll_ints {H : Hp} : ∀ {xs : List V} {as : List Int}, All2 (fun v a => v = .int a) xs as → DpAll K H xs (as.map PyData.int)
  | [], [], _ => .nil
  | x :: xs, a :: as, .cons h t => by subst h; exact .cons (.int a) (dpAll_ints t)
theorem shaped_ints (as : List Int) : SeqAt.shaped (.list (as.map PyData.int)) = true ∧ SeqAt.shaped (.tuple (as.map PyData.int)) = true := by
  have dd : ∀ l : List Int, PyData.depthAll (l.map PyData.int) ≤ 1 := by
    intro l
    induction l with
    | nil => simp [PyData.depthAll]
    | cons i l ih => simp only [List.map_cons, PyData.depthAll, PyData.depth]; omega
  have := dd as
  constructor <;> (unfold SeqAt.shaped; rw [Bool.and_eq_true]; refine ⟨by simp only [PyData.canLay0, canLay_ints], decide_eq_true ?_⟩; simp only [PyData.depth]; omega)
theorem ev_eqLI {as bs : List Int} (ha : EvD ta ρ ρ1 (eL eI) as) (hb : EvD tb ρ1 ρ2 (eL eI) bs) : EvD (tOp (rEqD K) ta tb) ρ ρ2 eB (decide (as = bs)) :=
  ev_bin ha hb fun c σ Hk H x y k ⟨p, xs, e1, e2, e3, _⟩ ⟨q', ys, f1, f2, f3, _⟩ Q q => by
    subst e1; subst f1
    refine ⟨_, _, .lst (ex_l k.ex e2) (dpAll_ints e3), .lst (ex_l k.ex f2) (dpAll_ints f3), (shaped_ints as).1, (shaped_ints bs).1, q _ Hk H k Nxt.refl ?_⟩
    show V.bl _ = V.bl _
    rw [PyData.eqv, eqvAll_ints]
theorem ev_neLI {as bs : List Int} (ha : EvD ta ρ ρ1 (eL eI) as) (hb : EvD tb ρ1 ρ2 (eL eI) bs) : EvD (tOp (rNeD K) ta tb) ρ ρ2 eB (!decide (as = bs)) :=
  ev_bin ha hb fun c σ Hk H x y k ⟨p, xs, e1, e2, e3, _⟩ ⟨q', ys, f1, f2, f3, _⟩ Q q => by
    subst e1; subst f1
    refine ⟨_, _, .lst (ex_l k.ex e2) (dpAll_ints e3), .lst (ex_l k.ex f2) (dpAll_ints f3), (shaped_ints as).1, (shaped_ints bs).1, q _ Hk H k Nxt.refl ?_⟩
    show V.bl _ = V.bl _
    rw [PyData.eqv, eqvAll_ints]

/-! ### a list or a tuple walked -/
def iSeq (K : PySem.W.Frag) (tl : TE) : TI := fun σ H R => tl σ H fun x H1 => ∃ a, x = .ref a ∧ (((∃ xs, SqL K H1 a xs) ∧ R (Itl K a) H1) ∨ ((∃ xs, SqT K H1 a xs) ∧ R (Itt K a) H1))
theorem pi_seq {X : Cx} {tg l : Expr} {tl : TE} (hl : PE X l tl) : PI X tg l (iSeq X.K tl) := by
  refine ⟨fun pins s σ H R I h => ?_⟩
  refine thn (hl.run pins s σ H _ I h) fun v s1 ⟨x, H1, I1, r1, q1⟩ => ?_
  obtain ⟨a, e, q1⟩ := q1
  subst e
  cases r1
  rcases q1 with ⟨⟨xs, hq⟩, q⟩ | ⟨⟨xs, hq⟩, q⟩
  · obtain ⟨its, rv, p, hz⟩ := I1.list hq
    refine wpAny_pyIter_list p.isList ?_
    refine ⟨s1.heap.objs.size, [s1.heap.objs.size], _, _, H1, rfl, I1.kept (t' := s1.toks) fun b o e => Heap.get?_push_of_some _ e, turn_list a _, ⟨_, Heap.get?_push_size _ rfl, rfl, rfl⟩, fun b hb => ?_, q⟩
    have e : b = s1.heap.objs.size := by simpa using hb
    subst e
    exact I1.fpOk (Nat.le_refl _) (I1.hok.fresh (Nat.le_refl _))
  · obtain ⟨its, rv, p, hz⟩ := I1.tuple hq
    refine wpAny_pyIter_tuple (show s1.heap.IsTuple a its.toArray from p) ?_
    refine ⟨s1.heap.objs.size, [s1.heap.objs.size], _, _, H1, rfl, I1.kept (t' := s1.toks) fun b o e => Heap.get?_push_of_some _ e, turn_tuple a _, ⟨_, Heap.get?_push_size _ rfl, rfl, rfl⟩, fun b hb => ?_, q⟩
    have e : b = s1.heap.objs.size := by simpa using hb
    subst e
    exact I1.fpOk (Nat.le_refl _) (I1.hok.fresh (Nat.le_refl _))
theorem ei_seq {as : List α} (h : EvD te ρ ρ' (eQ e) as) : EvI (iSeq K te) ρ ρ' e as := fun c σ Hk H k R q =>
  h c σ Hk H k _ fun v Hk1 H1 k1 x1 h => by
    rcases h with ⟨p, xs, e1, e2, e3, e4⟩ | ⟨p, xs, e1, e2, e3, e4⟩
    · exact ⟨p, e1, .inl ⟨⟨xs, ex_l k1.ex e2⟩, q _ Hk1 H1 k1 x1
        ⟨e4, fun H2 y => ⟨xs, ex_l y e2, by rw [e3.len]; exact Nat.le_refl _⟩, fun i H2 hi y => ⟨xs, xs[i]'(by rw [e3.len]; exact hi), ex_l y e2, by simp⟩,
         fun i H2 x H3 hy hi c2 σ2 ρ2 Hk2 k2 y => by
          obtain ⟨rfl, hx⟩ := hy
          obtain ⟨a, a1, a2⟩ := e3.getL (hx xs (ex_l (y.trans k2.ex) e2))
          exact ⟨a, Hk2, a1, k2, Nxt.refl, e.mono y a2⟩⟩⟩⟩
    · exact ⟨p, e1, .inr ⟨⟨xs, ex_t k1.ex e2⟩, q _ Hk1 H1 k1 x1
        ⟨e4, fun H2 y => ⟨xs, ex_t y e2, by rw [e3.len]; exact Nat.le_refl _⟩, fun i H2 hi y => ⟨xs, xs[i]'(by rw [e3.len]; exact hi), ex_t y e2, by simp⟩,
         fun i H2 x H3 hy hi c2 σ2 ρ2 Hk2 k2 y => by
          obtain ⟨rfl, hx⟩ := hy
          obtain ⟨a, a1, a2⟩ := e3.getL (hx xs (ex_t (y.trans k2.ex) e2))
          exact ⟨a, Hk2, a1, k2, Nxt.refl, e.mono y a2⟩⟩⟩⟩

/-! ### one's own list walked: the turns must leave it as it is -/
/-! ### wider kinds -/
class Sub {α : Type} (e f : Enc K α) : Prop where
  sub : ∀ H v a, e.rep H v a → f.rep H v a
instance sub_refl {e : Enc K α} : Sub e e := ⟨fun _ _ _ h => h⟩
instance sub_LQ {e f : Enc K α} [Sub e f] : Sub (eL e) (eQ f) := ⟨fun H v a ⟨p, xs, h1, h2, h3, h4⟩ => .inl ⟨p, xs, h1, h2, h3.imp fun _ _ h => Sub.sub (f := f) _ _ _ h, h4⟩⟩
instance sub_TQ {e f : Enc K α} [Sub e f] : Sub (eT e) (eQ f) := ⟨fun H v a ⟨p, xs, h1, h2, h3, h4⟩ => .inr ⟨p, xs, h1, h2, h3.imp fun _ _ h => Sub.sub (f := f) _ _ _ h, h4⟩⟩
instance sub_LL {e f : Enc K α} [Sub e f] : Sub (eL e) (eL f) := ⟨fun H v a ⟨p, xs, h1, h2, h3, h4⟩ => ⟨p, xs, h1, h2, h3.imp fun _ _ h => Sub.sub (f := f) _ _ _ h, h4⟩⟩
instance sub_TT {e f : Enc K α} [Sub e f] : Sub (eT e) (eT f) := ⟨fun H v a ⟨p, xs, h1, h2, h3, h4⟩ => ⟨p, xs, h1, h2, h3.imp fun _ _ h => Sub.sub (f := f) _ _ _ h, h4⟩⟩
instance sub_PP {e e' : Enc K α} {f f' : Enc K β} [Sub e e'] [Sub f f'] : Sub (eP e f) (eP e' f') := ⟨fun H v a ⟨p, x, y, h1, h2, h3, h4⟩ => ⟨p, x, y, h1, h2, Sub.sub (f := e') _ _ _ h3, Sub.sub (f := f') _ _ _ h4⟩⟩
theorem ev_sub {f : Enc K α} [Sub e f] {a : α} (h : EvD te ρ ρ' e a) : EvD te ρ ρ' f a := fun c σ Hk H k Q q => h c σ Hk H k Q fun v Hk' H' k' x r => q v Hk' H' k' x (Sub.sub (e := e) _ _ _ r)
/-- tuple(xs), xs a list of one's own -/
theorem ev_tupleM {j : Nat} {as : List α} (h : ρ[j]? = some (.l e as)) : EvD (tCB (rTupleS K) (tCons (tVar j) tNil)) ρ ρ (eT e) as := fun c σ Hk H k Q q => by
  obtain ⟨p, xs, hv, hp, hx, hl⟩ := k.list h
  exact ⟨.ref p, hv, p, xs, rfl, .inl ⟨SqL.of hp, fun l hn => let ⟨k2, x2⟩ := k.new (o := .tup xs) hn; q _ _ _ k2 x2 ⟨l, xs, rfl, SqT.of upd_same, hx.imp fun _ _ h => e.mono x2.ex h, hl⟩⟩⟩
/-- [x] * n -/
theorem en_rep {as : List α} {n : Int} (ha : EvN ta ρ ρ1 e as) (hn : EvD tb ρ1 ρ1 eI n) (hc : 0 ≤ n ∧ (as.length : Int) * n ≤ 100000 ∧ n ≤ 100000) : EvN (tOp rRep ta tb) ρ ρ1 e (List.replicate n.toNat as).flatten := fun c σ Hk H k Q q =>
  ha c σ Hk H k _ fun p xs Hk1 H1 k1 x1 hk hp hx hl hH => by
    have hnm : ∀ (i : Nat) (s : Slot K), ρ1[i]? = some s → s.isM = true → σ[i]? ≠ some (some (V.ref p)) := fun i s z m => let ⟨s', e', m'⟩ := x1.sub i s z m; k.apart hH e' m'
    refine hn c σ Hk1 H1 k1 _ fun v Hk2 H2 k2 x2 r2 => ?_
    have hp2 : H2 p = some (.lst xs) := x2.fr p _ hp hnm
    have len : (List.replicate n.toNat as).flatten.length = as.length * n.toNat := by simp [Nat.mul_comm]
    have len' : xs.length * n.toNat ≤ 100000 := by
      rw [hx.len]
      have : ((as.length * n.toNat : Nat) : Int) ≤ 100000 := by rw [Int.natCast_mul, Int.toNat_of_nonneg hc.1]; exact hc.2.1
      omega
    refine ⟨p, n, xs, rfl, r2, hp2, by omega, by omega, Nat.le_trans len' (by decide), fun l hn' => ?_⟩
    obtain ⟨k3, x3, n3⟩ := k2.newL (xs := (List.replicate n.toNat xs).flatten) hn'
    refine q l _ Hk2 _ k3 ((x1.trans x2).trans x3) n3 upd_same ?_ (by rw [len, ← hx.len]; exact len') ((x1.trans x2).th l hn')
    have key : ∀ m : Nat, All2 (e.rep Hk2) (List.replicate m xs).flatten (List.replicate m as).flatten := by
      intro m
      induction m with
      | zero => exact .nil
      | succ m ih =>
        rw [List.replicate_succ, List.replicate_succ, List.flatten_cons, List.flatten_cons]
        exact (hx.imp fun _ _ h => e.mono x2.ex h).app ih
    exact key _
theorem xs_never {ts : TS} (h : False) : XS ts ρ ρ' := h.elim
theorem xb_never {ν lam γ : Type} {E : ν → Env K} {L : lam → Env K} {R : Ret K γ} {o : Out ν lam γ} {ts : TS} (h : False) : XB ts ρ E L R o := h.elim
theorem xs_let {ts us : TS} {δ τ : Type} {a : δ} {f : δ → τ} {E : τ → Env K} (E1 : δ → Env K) (h : XS ts ρ (E1 a)) (h2 : ∀ x, x = a → XS us (E1 x) (E (f x))) : XS (tSeq ts us) ρ (E (lt a f)) := xs_seq h (h2 a rfl)
theorem xs_end {τ : Type} {E : τ → Env K} {t : τ} (w : Weak ρ (E t)) : XS tNext ρ (E t) := xs_weak xs_pass w
end
end FL

/-! FL6: the statements' rules in the form that the printer uses. -/
namespace FL
open PySem L2 PyProof.Rows
section
variable {K : PySem.W.Frag} {ρ ρ' ρ0 ρ1 ρ2 ρ3 : Env K} {α β δ : Type} {e : Enc K α} {ta tb te tc : TE} {tt tu tw : TT} {ts us ws : TS}

theorem wk_n : WeakL (K := K) [] [] := trivial
theorem wk_s {s : Slot K} {r r' : Env K} (h : WeakL r r') : WeakL (s :: r) (s :: r') := ⟨.inl rfl, h⟩
theorem wk_u {s : Slot K} {r r' : Env K} (h : WeakL r r') : WeakL (s :: r) (.un :: r') := ⟨.inr rfl, h⟩
theorem wk_S {s : Slot K} {r r' : Env K} (h : WeakL r r') : Weak (s :: r) (s :: r') := ⟨.inl rfl, h⟩
theorem wk_U {s : Slot K} {r r' : Env K} (h : WeakL r r') (m : s.isM = false := by rfl) : Weak (s :: r) (.un :: r') := ⟨.inr ⟨rfl, m⟩, h⟩

/-- a block that goes through, its end told by a datum t -/
def XV (ts : TS) (ρ : Env K) {τ : Type} (E : τ → Env K) (t : τ) : Prop := XS ts ρ (E t)
variable {τ : Type} {E : τ → Env K} {t : τ}
theorem xv_end (w : Weak ρ (E t)) : XV tNext ρ E t := xs_end w
theorem xv_set {j : Nat} {a : α} {f : α → τ} (h : EvD te ρ ρ1 e a) (hj : okSet ρ1 j = true) (k : ∀ x, x = a → XV us (ρ1.set j (.d e x)) E (f x)) : XV (tSeq (tAsg te (gName j)) us) ρ E (lt a f) := xs_seq (xs_set h hj) (k a rfl)
theorem xv_own {j : Nat} {a : List α} {f : List α → τ} (h : EvN te ρ ρ1 e a) (hj : okSet ρ1 j = true) (k : ∀ x, x = a → XV us (ρ1.set j (.l e x)) E (f x)) : XV (tSeq (tAsg te (gName j)) us) ρ E (lt a f) := xs_seq (xs_own h hj) (k a rfl)
theorem xv_new {j : Nat} {b : δ} {M : MEnc K δ} {f : δ → τ} (h : EvW te ρ ρ1 (.m M b)) (hj : okSet ρ1 j = true) (k : ∀ x, x = b → XV us (ρ1.set j (.m M x)) E (f x)) : XV (tSeq (tAsg te (gName j)) us) ρ E (lt b f) := xs_seq (xs_new h hj) (k b rfl)
theorem xv_pair {i j : Nat} {e2 : Enc K β} {a : α × β} {f : α × β → τ} (h : EvD te ρ ρ1 (eP e e2) a) (hi : isMAt ρ1 i = false) (hj : isMAt ρ1 j = false) (k : ∀ x, x = a → XV us ((ρ1.set i (.d e x.1)).set j (.d e2 x.2)) E (f x)) :
    XV (tSeq (tAsg te (gTup K 2 (gCons (gName i) (gCons (gName j) gNil)))) us) ρ E (lt a f) := xs_seq (xs_tgt h eg_pair (noM_cons hi (noM_cons hj noM_nil))) (k a rfl)
theorem xv_drop {a : α} (h : EvD te ρ ρ1 e a) (k : XV us ρ1 E t) : XV (tSeq (tDrop te) us) ρ E t := xs_seq (xs_drop h) k
theorem xv_aug {j : Nat} {g : Int → Int → Int} {a b : Int} {f : Int → τ} (ha : ρ[j]? = some (.d eI a)) (h : EvD te ρ ρ1 eI b) (hj : isMAt ρ1 j = false) (k : ∀ x, x = g a b → XV us (ρ1.set j (.d eI x)) E (f x)) : XV (tSeq (tAug j te (ipI g)) us) ρ E (lt (g a b) f) := xs_seq (xs_aug ha h hj) (k _ rfl)
theorem xv_app {j : Nat} {a : α} {as : List α} {f : List α → τ} (hj : ρ[j]? = some (.l e as)) (h : EvD te ρ ρ1 e a) (hj1 : ρ1[j]? = some (.l e as)) (hl : as.length < 100000) (k : ∀ x, x = as ++ [a] → XV us (ρ1.set j (.l e x)) E (f x)) :
    XV (tSeq (tDrop (tBM K "list" rAppend (tVar j) (tCons te tNil))) us) ρ E (lt (as ++ [a]) f) := xs_seq (xs_app hj h hj1 hl) (k _ rfl)
theorem xv_ins {j : Nat} {a : α} {i : Int} {as : List α} {f : List α → τ} (hj : ρ[j]? = some (.l e as)) (hi : EvD ta ρ ρ1 eI i) (h : EvD te ρ1 ρ2 e a) (hj1 : ρ2[j]? = some (.l e as)) (hl : as.length < 100000 ∧ 0 ≤ i ∧ i < 2 ^ 62)
    (k : ∀ x, x = as.take i.toNat ++ [a] ++ as.drop i.toNat → XV us (ρ2.set j (.l e x)) E (f x)) : XV (tSeq (tDrop (tBM K "list" rInsert (tVar j) (tCons ta (tCons te tNil)))) us) ρ E (lt (as.take i.toNat ++ [a] ++ as.drop i.toNat) f) := xs_seq (xs_ins hj hi h hj1 hl) (k _ rfl)
theorem xv_setI {j : Nat} {a : α} {i : Int} {as : List α} {f : List α → τ} (h : EvD te ρ ρ1 e a) (hi : EvD ta ρ1 ρ2 eI i) (hj1 : ρ1[j]? = some (.l e as)) (hj : ρ2[j]? = some (.l e as)) (hc : inIx as.length i)
    (k : ∀ x, x = as.set (ixI as.length i) a → XV us (ρ2.set j (.l e x)) E (f x)) : XV (tSeq (tAsg te (gSub (tVar j) ta rSetL)) us) ρ E (lt (as.set (ixI as.length i) a) f) := xs_seq (xs_setI h hi hj1 hj hc) (k _ rfl)
theorem xv_fld {C : Addr} {fs : List (Str × DV K)} {a : α} {n : Str} {j : Nat} (h : EvD te ρ ρ1 e a) (hj : ρ1[j]? = some (.i C fs)) (hn : n ∉ fs.map Prod.fst) (hl : fs.length < 100) (cl : Cls K C) (na : NoAttr K C n) {f : α → τ} (k : ∀ x, x = a → XV us (ρ1.set j (.i C (fs ++ [(n, ⟨e, x⟩)]))) E (f x)) :
    XV (tSeq (sFld K (tVar j) te n) us) ρ E (lt a f) := xs_seq (xs_fld h hj hn hl cl na) (k a rfl)
theorem xv_pass (k : XV us ρ E t) : XV (tSeq tNext us) ρ E t := xs_seq xs_pass k
theorem xv_never (h : False) : XV ts ρ E t := h.elim
theorem xv_if {b : Bool} (E1 : δ → Env K) {x y : δ} {f : δ → τ} (h : EvT tt ρ ρ1 b) (h1 : b = true → XV ts ρ1 E1 x) (h2 : b = false → XV us ρ1 E1 y) (k : ∀ z, z = (bif b then x else y) → XV ws (E1 z) E (f z)) :
    XV (tSeq (tIfS tt ts us) ws) ρ E (lt (bif b then x else y) f) := xs_seq (xs_if E1 h h1 h2) (k _ rfl)
theorem xv_for {wi : TI} {g : TG} {tb : TS} {ex : Enc K α} {as : List α} {js : List Nat} {u : α → Env K → Env K} (E0 : δ → Env K) (t0 : δ) {h : δ → α → δ} {f : δ → τ}
    (hi : EvI wi ρ ρ1 ex as) (hw : Weak ρ1 (E0 t0)) (hg : EvG g ex js u) (hj : ∀ t, noMAt (E0 t) js)
    (hb : ∀ i a t, as[i]? = some a → t = (as.take i).foldl h t0 → XV tb (u a (E0 t)) E0 (h t a)) (k : ∀ x, x = as.foldl h t0 → XV us (E0 x) E (f x)) : XV (tSeq (tFor wi g tb) us) ρ E (lt (as.foldl h t0) f) := xs_seq (xs_for E0 t0 hi hw hg hj hb) (k _ rfl)

variable {ν lam γ : Type} {En : ν → Env K} {L : lam → Env K} {R : Ret K γ} {o : Out ν lam γ}
theorem xb_set {j : Nat} {a : α} {f : α → Out ν lam γ} (h : EvD te ρ ρ1 e a) (hj : okSet ρ1 j = true) (k : ∀ x, x = a → XB us (ρ1.set j (.d e x)) En L R (f x)) : XB (tSeq (tAsg te (gName j)) us) ρ En L R (lt a f) := xb_seq (xs_set h hj) (k a rfl)
theorem xb_own {j : Nat} {a : List α} {f : List α → Out ν lam γ} (h : EvN te ρ ρ1 e a) (hj : okSet ρ1 j = true) (k : ∀ x, x = a → XB us (ρ1.set j (.l e x)) En L R (f x)) : XB (tSeq (tAsg te (gName j)) us) ρ En L R (lt a f) := xb_seq (xs_own h hj) (k a rfl)
theorem xb_new {j : Nat} {b : δ} {M : MEnc K δ} {f : δ → Out ν lam γ} (h : EvW te ρ ρ1 (.m M b)) (hj : okSet ρ1 j = true) (k : ∀ x, x = b → XB us (ρ1.set j (.m M x)) En L R (f x)) : XB (tSeq (tAsg te (gName j)) us) ρ En L R (lt b f) := xb_seq (xs_new h hj) (k b rfl)
theorem xb_pair {i j : Nat} {e2 : Enc K β} {a : α × β} {f : α × β → Out ν lam γ} (h : EvD te ρ ρ1 (eP e e2) a) (hi : isMAt ρ1 i = false) (hj : isMAt ρ1 j = false) (k : ∀ x, x = a → XB us ((ρ1.set i (.d e x.1)).set j (.d e2 x.2)) En L R (f x)) :
    XB (tSeq (tAsg te (gTup K 2 (gCons (gName i) (gCons (gName j) gNil)))) us) ρ En L R (lt a f) := xb_seq (xs_tgt h eg_pair (noM_cons hi (noM_cons hj noM_nil))) (k a rfl)
theorem xb_drop {a : α} (h : EvD te ρ ρ1 e a) (k : XB us ρ1 En L R o) : XB (tSeq (tDrop te) us) ρ En L R o := xb_seq (xs_drop h) k
theorem xb_aug {j : Nat} {g : Int → Int → Int} {a b : Int} {f : Int → Out ν lam γ} (ha : ρ[j]? = some (.d eI a)) (h : EvD te ρ ρ1 eI b) (hj : isMAt ρ1 j = false) (k : ∀ x, x = g a b → XB us (ρ1.set j (.d eI x)) En L R (f x)) : XB (tSeq (tAug j te (ipI g)) us) ρ En L R (lt (g a b) f) := xb_seq (xs_aug ha h hj) (k _ rfl)
theorem xb_app {j : Nat} {a : α} {as : List α} {f : List α → Out ν lam γ} (hj : ρ[j]? = some (.l e as)) (h : EvD te ρ ρ1 e a) (hj1 : ρ1[j]? = some (.l e as)) (hl : as.length < 100000) (k : ∀ x, x = as ++ [a] → XB us (ρ1.set j (.l e x)) En L R (f x)) :
    XB (tSeq (tDrop (tBM K "list" rAppend (tVar j) (tCons te tNil))) us) ρ En L R (lt (as ++ [a]) f) := xb_seq (xs_app hj h hj1 hl) (k _ rfl)
theorem xb_ins {j : Nat} {a : α} {i : Int} {as : List α} {f : List α → Out ν lam γ} (hj : ρ[j]? = some (.l e as)) (hi : EvD ta ρ ρ1 eI i) (h : EvD te ρ1 ρ2 e a) (hj1 : ρ2[j]? = some (.l e as)) (hl : as.length < 100000 ∧ 0 ≤ i ∧ i < 2 ^ 62)
    (k : ∀ x, x = as.take i.toNat ++ [a] ++ as.drop i.toNat → XB us (ρ2.set j (.l e x)) En L R (f x)) : XB (tSeq (tDrop (tBM K "list" rInsert (tVar j) (tCons ta (tCons te tNil)))) us) ρ En L R (lt (as.take i.toNat ++ [a] ++ as.drop i.toNat) f) := xb_seq (xs_ins hj hi h hj1 hl) (k _ rfl)
theorem xb_setI {j : Nat} {a : α} {i : Int} {as : List α} {f : List α → Out ν lam γ} (h : EvD te ρ ρ1 e a) (hi : EvD ta ρ1 ρ2 eI i) (hj1 : ρ1[j]? = some (.l e as)) (hj : ρ2[j]? = some (.l e as)) (hc : inIx as.length i)
    (k : ∀ x, x = as.set (ixI as.length i) a → XB us (ρ2.set j (.l e x)) En L R (f x)) : XB (tSeq (tAsg te (gSub (tVar j) ta rSetL)) us) ρ En L R (lt (as.set (ixI as.length i) a) f) := xb_seq (xs_setI h hi hj1 hj hc) (k _ rfl)
theorem xb_fld {C : Addr} {fs : List (Str × DV K)} {a : α} {n : Str} {j : Nat} (h : EvD te ρ ρ1 e a) (hj : ρ1[j]? = some (.i C fs)) (hn : n ∉ fs.map Prod.fst) (hl : fs.length < 100) (cl : Cls K C) (na : NoAttr K C n) {f : α → Out ν lam γ} (k : ∀ x, x = a → XB us (ρ1.set j (.i C (fs ++ [(n, ⟨e, x⟩)]))) En L R (f x)) :
    XB (tSeq (sFld K (tVar j) te n) us) ρ En L R (lt a f) := xb_seq (xs_fld h hj hn hl cl na) (k a rfl)
theorem xb_pass (k : XB us ρ En L R o) : XB (tSeq tNext us) ρ En L R o := xb_seq xs_pass k
theorem xb_if {b : Bool} (E1 : δ → Env K) {x y : δ} {f : δ → Out ν lam γ} (h : EvT tt ρ ρ1 b) (h1 : b = true → XV ts ρ1 E1 x) (h2 : b = false → XV us ρ1 E1 y) (k : ∀ z, z = (bif b then x else y) → XB ws (E1 z) En L R (f z)) :
    XB (tSeq (tIfS tt ts us) ws) ρ En L R (lt (bif b then x else y) f) := xb_seq (xs_if E1 h h1 h2) (k _ rfl)
theorem xb_fold {wi : TI} {g : TG} {tb : TS} {ex : Enc K α} {as : List α} {js : List Nat} {u : α → Env K → Env K} (E0 : δ → Env K) (t0 : δ) {h : δ → α → δ} {f : δ → Out ν lam γ}
    (hi : EvI wi ρ ρ1 ex as) (hw : Weak ρ1 (E0 t0)) (hg : EvG g ex js u) (hj : ∀ t, noMAt (E0 t) js)
    (hb : ∀ i a t, as[i]? = some a → t = (as.take i).foldl h t0 → XV tb (u a (E0 t)) E0 (h t a)) (k : ∀ x, x = as.foldl h t0 → XB us (E0 x) En L R (f x)) : XB (tSeq (tFor wi g tb) us) ρ En L R (lt (as.foldl h t0) f) := xb_seq (xs_for E0 t0 hi hw hg hj hb) (k _ rfl)
/-- if c: return e; rest -/
theorem xb_ifR {b : Bool} {r : γ} (h : EvT tt ρ ρ1 b) (h1 : b = true → XB ts ρ1 (fun z : Empty => nomatch z) L R (.rt r)) (h2 : b = false → XB us ρ1 En L R o) : XB (tSeq (tIfS tt ts tNext) us) ρ En L R (bif b then .rt r else o) := fun c σ Hk H k D q =>
  xb_ifL (E := En) (o1 := .rt r) (o2 := o) h h1 h2 c σ Hk H k D (by cases b <;> exact q)
theorem xb_ifC {b : Bool} {t : lam} (h : EvT tt ρ ρ1 b) (h1 : b = true → XB ts ρ1 (fun z : Empty => nomatch z) L R (.ct t)) (h2 : b = false → XB us ρ1 En L R o) : XB (tSeq (tIfS tt ts tNext) us) ρ En L R (bif b then .ct t else o) := fun c σ Hk H k D q =>
  xb_ifL (E := En) (o1 := .ct t) (o2 := o) h h1 h2 c σ Hk H k D (by cases b <;> exact q)
theorem xb_ifB {b : Bool} {t : lam} (h : EvT tt ρ ρ1 b) (h1 : b = true → XB ts ρ1 (fun z : Empty => nomatch z) L R (.bk t)) (h2 : b = false → XB us ρ1 En L R o) : XB (tSeq (tIfS tt ts tNext) us) ρ En L R (bif b then .bk t else o) := fun c σ Hk H k D q =>
  xb_ifL (E := En) (o1 := .bk t) (o2 := o) h h1 h2 c σ Hk H k D (by cases b <;> exact q)
/-- a return ends its block -/
theorem xb_retS {r : γ} (h : EvD te ρ ρ1 R.e (R.val r)) (hl : R.ls r = none ∨ R.ls r = ρ1[0]?) (hn : R.nl r = none) : XB (tSeq (tRet te) us) ρ En L R (.rt r) := fun c σ Hk H k D q => xb_ret (E := En) (L := L) h hl hn c σ Hk H k { D with nx := us D } q
theorem xb_retSW {r : γ} {s : Slot K} (h : EvW te ρ ρ1 s) (hl : R.ls r = none ∨ R.ls r = ρ1[0]?) (hn : R.nl r = some s) (m : s.isM = true) : XB (tSeq (tRet te) us) ρ En L R (.rt r) := fun c σ Hk H k D q => xb_retW (E := En) (L := L) h hl hn m c σ Hk H k { D with nx := us D } q
theorem xb_retSV {r : γ} {s : Slot K} {j : Nat} (hj : ρ[j]? = some s) (j0 : j ≠ 0) (hl : R.ls r = none ∨ R.ls r = ρ[0]?) (hn : R.nl r = some s) (m : s.isM = true) : XB (tSeq (tRet (tVar j)) us) ρ En L R (.rt r) := fun c σ Hk H k D q => xb_retV (E := En) (L := L) hj j0 hl hn m c σ Hk H k { D with nx := us D } q
theorem xb_ctS {t : lam} (w : Weak ρ (L t)) : XB (tSeq tCont us) ρ En L R (.ct t) := fun c σ Hk H k D q => q σ Hk H (k.weak w) (Ex.refl _)
theorem xb_bkS {t : lam} (w : Weak ρ (L t)) : XB (tSeq tBreak us) ρ En L R (.bk t) := fun c σ Hk H k D q => q σ Hk H (k.weak w) (Ex.refl _)
/-- both ways end -/
theorem xb_ifE {b : Bool} {o1 o2 : Out Empty lam γ} (h : EvT tt ρ ρ1 b) (h1 : b = true → XB ts ρ1 (fun z : Empty => nomatch z) L R o1) (h2 : b = false → XB us ρ1 (fun z : Empty => nomatch z) L R o2) : XB (tSeq (tIfS tt ts us) ws) ρ En L R ((bif b then o1 else o2).bind fun z => nomatch z) :=
  xb_bind (xb_ifT h h1 h2) fun t => nomatch t
theorem xb_loop {wi : TI} {g : TG} {tb : TS} {ex : Enc K α} {as : List α} {js : List Nat} {u : α → Env K → Env K} (E0 : δ → Env K) (t0 : δ) {h : δ → α → Out δ δ γ} {f : δ → Out ν lam γ}
    (hi : EvI wi ρ ρ1 ex as) (hw : Weak ρ1 (E0 t0)) (hg : EvG g ex js u) (hj : ∀ t, noMAt (E0 t) js)
    (hb : ∀ i a t, as[i]? = some a → run h t0 (as.take i) = .nx t → XB tb (u a (E0 t)) E0 E0 R (h t a))
    (hr : ∀ t, (run h t0 as).done = (.nx t : Out δ lam γ) → XB us (E0 t) En L R (f t)) : XB (tSeq (tFor wi g tb) us) ρ En L R ((run h t0 as).done.bind f) := xb_for E0 t0 hi hw hg hj hb hr
theorem xb_eq {o o' : Out ν lam γ} (h : XB ts ρ En L R o) (q : o = o') : XB ts ρ En L R o' := q ▸ h

/-! ### the draws' box: a list of a list of ints and three ints -/
structure BoxD where
  cells : List Int
  a : Int
  b : Int
  c : Int
  deriving Inhabited
def mBox : MEnc K BoxD where
  rep := fun H o x => ∃ v, o = .lst [v, .int x.a, .int x.b, .int x.c] ∧ (eL (eI (K := K))).rep H v x.cells
  mono := fun {H H' o b} x h => let ⟨v, h1, h2⟩ := h; ⟨v, h1, (eL (eI (K := K))).mono x h2⟩
theorem Ok.box {c : Ent} {Hk H : Hp} {σ : List (Option V)} (k : Ok c Hk H σ ρ) {j : Nat} {x : BoxD} (h : ρ[j]? = some (.m mBox x)) : ∃ p v, σ[j]? = some (some (V.ref p)) ∧ H p = some (.lst [v, .int x.a, .int x.b, .int x.c]) ∧ (eL (eI (K := K))).rep Hk v x.cells := by
  obtain ⟨w, hw, p, o, e1, e2, e3, v, e4, e5⟩ := k.sl j _ h
  subst e1; subst e4
  exact ⟨p, v, hw, e3, e5⟩
theorem ev_box0 {j : Nat} {x : BoxD} (h : ρ[j]? = some (.m mBox x)) : EvD (tOp (rIxL K) (tVar j) (tC (.int 0))) ρ ρ (eL eI) x.cells := fun c σ Hk H k Q q => by
  obtain ⟨p, v, hv, hp, hr⟩ := k.box h
  exact ⟨.ref p, hv, p, _, 0, v, rfl, rfl, SqL.of hp, rfl, q v Hk H k Nxt.refl hr⟩
theorem ev_box1 {j : Nat} {x : BoxD} (h : ρ[j]? = some (.m mBox x)) : EvD (tOp (rIxL K) (tVar j) (tC (.int 1))) ρ ρ eI x.a := fun c σ Hk H k Q q => by
  obtain ⟨p, v, hv, hp, hr⟩ := k.box h
  exact ⟨.ref p, hv, p, _, 1, _, rfl, rfl, SqL.of hp, rfl, q _ Hk H k Nxt.refl rfl⟩
theorem ev_box2 {j : Nat} {x : BoxD} (h : ρ[j]? = some (.m mBox x)) : EvD (tOp (rIxL K) (tVar j) (tC (.int 2))) ρ ρ eI x.b := fun c σ Hk H k Q q => by
  obtain ⟨p, v, hv, hp, hr⟩ := k.box h
  exact ⟨.ref p, hv, p, _, 2, _, rfl, rfl, SqL.of hp, rfl, q _ Hk H k Nxt.refl rfl⟩
theorem ev_box3 {j : Nat} {x : BoxD} (h : ρ[j]? = some (.m mBox x)) : EvD (tOp (rIxL K) (tVar j) (tC (.int 3))) ρ ρ eI x.c := fun c σ Hk H k Q q => by
  obtain ⟨p, v, hv, hp, hr⟩ := k.box h
  exact ⟨.ref p, hv, p, _, 3, _, rfl, rfl, SqL.of hp, rfl, q _ Hk H k Nxt.refl rfl⟩
theorem xs_box {j n : Nat} {a : Int} {x : BoxD} {y : BoxD} (h : EvD te ρ ρ1 eI a) (hj : ρ1[j]? = some (.m mBox x)) (hn : n < 4) (hy : ∀ v, [v, V.int x.a, V.int x.b, V.int x.c].set n (.int a) = [v, .int y.a, .int y.b, .int y.c]) (hc : y.cells = x.cells) :
    XS (tAsg te (gSub (tVar j) (tC (.int (n : Int))) rSetL)) ρ (ρ1.set j (.m mBox y)) := fun c σ Hk H k D q => h c σ Hk H k _ fun w Hk1 H1 k1 x1 r1 => by
  obtain ⟨p, v, hv, hp, hr⟩ := k1.box hj
  cases (show w = .int a from r1)
  refine ⟨.ref p, hv, p, _, (n : Int), n, rfl, rfl, hp, ?_, q σ Hk1 _ (k1.mutate hj rfl rfl hv ⟨v, by rw [hy], by rw [hc]; exact hr⟩) x1.ex⟩
  unfold ixN
  rw [if_pos (by omega), if_pos (by show (n : Int) < 4; omega)]; simp
theorem xv_box1 {j : Nat} {a : Int} {x : BoxD} {f : BoxD → τ} (h : EvD te ρ ρ1 eI a) (hj : ρ1[j]? = some (.m mBox x)) (k : ∀ z, z = ({ x with a := a } : BoxD) → XV us (ρ1.set j (.m mBox z)) E (f z)) : XV (tSeq (tAsg te (gSub (tVar j) (tC (.int 1)) rSetL)) us) ρ E (lt ({ x with a := a } : BoxD) f) := xs_seq (xs_box (n := 1) (y := { x with a := a }) h hj (by decide) (fun v => rfl) rfl) (k _ rfl)
theorem xv_box2 {j : Nat} {a : Int} {x : BoxD} {f : BoxD → τ} (h : EvD te ρ ρ1 eI a) (hj : ρ1[j]? = some (.m mBox x)) (k : ∀ z, z = ({ x with b := a } : BoxD) → XV us (ρ1.set j (.m mBox z)) E (f z)) : XV (tSeq (tAsg te (gSub (tVar j) (tC (.int 2)) rSetL)) us) ρ E (lt ({ x with b := a } : BoxD) f) := xs_seq (xs_box (n := 2) (y := { x with b := a }) h hj (by decide) (fun v => rfl) rfl) (k _ rfl)
theorem xv_box3 {j : Nat} {a : Int} {x : BoxD} {f : BoxD → τ} (h : EvD te ρ ρ1 eI a) (hj : ρ1[j]? = some (.m mBox x)) (k : ∀ z, z = ({ x with c := a } : BoxD) → XV us (ρ1.set j (.m mBox z)) E (f z)) : XV (tSeq (tAsg te (gSub (tVar j) (tC (.int 3)) rSetL)) us) ρ E (lt ({ x with c := a } : BoxD) f) := xs_seq (xs_box (n := 3) (y := { x with c := a }) h hj (by decide) (fun v => rfl) rfl) (k _ rfl)
theorem xb_box1 {j : Nat} {a : Int} {x : BoxD} {f : BoxD → Out ν lam γ} (h : EvD te ρ ρ1 eI a) (hj : ρ1[j]? = some (.m mBox x)) (k : ∀ z, z = ({ x with a := a } : BoxD) → XB us (ρ1.set j (.m mBox z)) En L R (f z)) : XB (tSeq (tAsg te (gSub (tVar j) (tC (.int 1)) rSetL)) us) ρ En L R (lt ({ x with a := a } : BoxD) f) := xb_seq (xs_box (n := 1) (y := { x with a := a }) h hj (by decide) (fun v => rfl) rfl) (k _ rfl)
theorem xb_box2 {j : Nat} {a : Int} {x : BoxD} {f : BoxD → Out ν lam γ} (h : EvD te ρ ρ1 eI a) (hj : ρ1[j]? = some (.m mBox x)) (k : ∀ z, z = ({ x with b := a } : BoxD) → XB us (ρ1.set j (.m mBox z)) En L R (f z)) : XB (tSeq (tAsg te (gSub (tVar j) (tC (.int 2)) rSetL)) us) ρ En L R (lt ({ x with b := a } : BoxD) f) := xb_seq (xs_box (n := 2) (y := { x with b := a }) h hj (by decide) (fun v => rfl) rfl) (k _ rfl)
theorem xb_box3 {j : Nat} {a : Int} {x : BoxD} {f : BoxD → Out ν lam γ} (h : EvD te ρ ρ1 eI a) (hj : ρ1[j]? = some (.m mBox x)) (k : ∀ z, z = ({ x with c := a } : BoxD) → XB us (ρ1.set j (.m mBox z)) En L R (f z)) : XB (tSeq (tAsg te (gSub (tVar j) (tC (.int 3)) rSetL)) us) ρ En L R (lt ({ x with c := a } : BoxD) f) := xb_seq (xs_box (n := 3) (y := { x with c := a }) h hj (by decide) (fun v => rfl) rfl) (k _ rfl)
end
/-- a def of the text, where it stands -/
structure FunAt (K : PySem.W.Frag) (mg : Str → Option Value) (x qual : Str) (st : Stmt) (ps : List Str) : Prop where
  ex : ∃ f fd, Fun K x qual st f fd ∧ mg x = some (.ref f) ∧ Binds K fd ps []
structure MethAt (K : PySem.W.Frag) (C : Addr) (x qual : Str) (st : Stmt) (ps : List Str) : Prop where
  ex : ∃ f fd, Fun K x qual st f fd ∧ Meth K C x f ∧ Binds K fd ps []
structure InitAt (K : PySem.W.Frag) (mg : Str → Option Value) (cls : Str) (C : Addr) (x qual : Str) (st : Stmt) (ps : List Str) : Prop where
  ex : ∃ f fd, Fun K x qual st f fd ∧ Mk K C f ∧ mg cls = some (.ref C) ∧ Binds K fd ps []
/-- .. and keeps its promise -/
structure FnAt (P : Program) (w : World) (K : PySem.W.Frag) (mg : Str → Option Value) (base : Heap) (x : Str) (k : Nat) (ps : List Str) (sp : Sp) : Prop where
  ex : ∃ f fd, FnOk P w K mg base CX0 k f fd ps sp ∧ mg x = some (.ref f) ∧ PySem.W.keepIn K (.ref f) = true ∧ Binds K fd ps []
structure FmAt (P : Program) (w : World) (K : PySem.W.Frag) (mg : Str → Option Value) (base : Heap) (C : Addr) (x : Str) (k : Nat) (ps : List Str) (sp : Sp) : Prop where
  ex : ∃ f fd, FnOk P w K mg base CX0 k f fd ps sp ∧ Meth K C x f ∧ Binds K fd ps []
structure FiAt (P : Program) (w : World) (K : PySem.W.Frag) (mg : Str → Option Value) (base : Heap) (cls : Str) (C : Addr) (k : Nat) (ps : List Str) (sp : Sp) : Prop where
  ex : ∃ f fd, FnOk P w K mg base CX0 k f fd ps sp ∧ Mk K C f ∧ mg cls = some (.ref C) ∧ Binds K fd ps []
end FL

/-! FL7: small things that the printer uses. -/
namespace FL
open PySem L2 PyProof.Rows
section
variable {K : PySem.W.Frag} {ρ ρ' ρ0 ρ1 ρ2 ρ3 : Env K} {α β δ : Type} {e : Enc K α} {ta tb te tc : TE}
theorem ev_unw [Inhabited α] {o : Option α} (h : EvD te ρ ρ' (eO e) o) (hs : o.isSome = true) : EvD te ρ ρ' e (o.getD default) := by
  cases o with
  | none => cases hs
  | some a => exact h
theorem en_eq {as bs : List α} (h : EvN te ρ ρ' e as) (q : as = bs) : EvN te ρ ρ' e bs := q ▸ h
theorem xb_lastV {ν lam γ : Type} {E : ν → Env K} {L : lam → Env K} {R : Ret K γ} {ts : TS} {t : ν} (h : XV ts ρ E t) : XB ts ρ E L R (.nx t) := xb_last h
theorem agr1 {τ : Type} {E : τ → Env K} {j : Nat} (h : ∀ t t', (E t)[j]? = (E t')[j]?) : ∀ t t' i, i ∈ [j] → (E t)[i]? = (E t')[i]? := fun t t' i hi => by
  cases List.mem_singleton.mp hi; exact h t t'
theorem ev_lenP {f : Enc K β} {ab : α × β} (ha : EvD ta ρ ρ1 (eP e f) ab) : EvD (tCB (rLenS K) (tCons ta tNil)) ρ ρ1 eI (2 : Int) :=
  ev_cb ha fun c σ Hk H x k ⟨p, x1, x2, e1, e2, _⟩ Q q => ⟨p, [x1, x2], by rw [e1], .inr (ex_t k.ex e2), q _ Hk H k Nxt.refl rfl⟩
theorem noM_tail {ds : List (Slot K)} (h : ∀ s ∈ ds.tail, s.isM = false) {i : Nat} {s : Slot K} (e : ds[i + 1]? = some s) : s.isM = false := by
  cases ds with
  | nil => simp at e
  | cons d ds => exact h s (List.mem_of_getElem? (by simpa using e))
theorem xb_reb {ν lam γ δ' : Type} {En : ν → Env K} {L : lam → Env K} {R : Ret K γ} {us : TS} (ρf : δ' → Env K) (b : δ') {o : δ' → Out ν lam γ} (k : ∀ x, x = b → XB us (ρf x) En L R (o x)) : XB us (ρf b) En L R (lt b o) := k b rfl
theorem xv_reb {τ δ' : Type} {En : τ → Env K} {us : TS} (ρf : δ' → Env K) (b : δ') {f : δ' → τ} (k : ∀ x, x = b → XV us (ρf x) En (f x)) : XV us (ρf b) En (lt b f) := k b rfl
end
theorem room_80 {A : Around} {k : Nat} (hr : Room k A) : A.units + 80 < cLine := by have := hr.un; omega
theorem room_u {A : Around} {k : Nat} (hr : Room k A) : A.units + 64 < cLine := by have := hr.un; omega
section
variable {X : Cx} {CX : CXT} {k : Nat} {f : Addr} {fd : FuncData} {ps ks : List Str} {sp : Sp} {E : XK} {x : Str} {p pos : Pos} {kws : List Keyword} {tk : TA} {g : List Value → List Value → List Value} {gV : List V → List V → List V}
/-- f(k = v, ..) -/
theorem pe_callK0 (F : FnOk X.prog X.w X.K X.mg X.base CX k f fd ps sp) (hr : Room k X.A) (hg : Gl X x) (hm : X.mg x = some (.ref f)) (hk : PySem.W.keepIn X.K (.ref f) = true) (hb : KBinds X.K fd ps ks g gV) (hx : Passes CX X E)
    (hkw : PK X kws tk) (hall : (backToKw pos (keywordEach kws X.env)).all (·.1.isSome) = true := by rfl) (hks : (backToKw pos (keywordEach kws X.env)).filterMap (·.1) = ks := by rfl)
    (hdb : (x == ("__debug__" : Str)) = false := by decide) (hpl : ((backTo pos (starEach [] X.env)).any (·.1) || (backToKw pos (keywordEach kws X.env)).any (·.1.isNone)) = false := by rfl) :
    PE X (.Call (.Name x p) [] kws pos) (tCallK sp gV E tNil tk) := by
  refine ⟨fun pins s σ H Q I h => ?_⟩
  refine wpAny_Call_Name_kw (ld_glob I hg hm ?_ hdb)
  have h : tk σ H fun zs H2 => sp (gV [] zs) H2 Q E := h
  refine PySem.W.callWith_KW0 (h₀ := X.base) I.ok.mod.kin hk hall (thn (hkw.run pos pins s σ H _ I h) fun ws s2 ⟨zs, H2, I2, rz, q2⟩ => ⟨I2.kIn, ?_⟩) hpl
  rw [hks]
  exact run_fnk (us := []) F hr hb hx I2 .nil rz q2
end
theorem vals_rep : ∀ n : Nat, Vals (List.replicate n V.non) (List.replicate n Value.none)
  | 0 => .nil
  | n + 1 => .cons rfl (vals_rep n)
def kwG {α : Type} (n : Nat) (d : α) (us ws : List α) : List α := if us.length = 0 then ws else us ++ List.replicate n d
/-- all parameters given by their names, in order -/
theorem kbinds_all {K : PySem.W.Frag} {fd : FuncData} {ps : List Str} (h : ∀ ws : List Value, ws.length = ps.length → bindArgs fd ⟨[], ps.zip ws⟩ = pure (ps.zip ws)) : KBinds K fd ps ps (kwG ps.length Value.none) (kwG ps.length V.non) where
  to := fun s us ws X hl => by
    by_cases hu : us.length = 0
    · have : us = [] := List.eq_nil_of_length_eq_zero hu
      subst this
      exact .of_eq (h ws hl)
    · unfold kwG at hl
      rw [if_neg hu, List.length_append, List.length_replicate] at hl
      omega
  rel := fun {vs us zs ws} r z => by
    have l := r.length
    unfold kwG
    by_cases hu : us.length = 0
    · rw [if_pos hu, if_pos (l.trans hu)]; exact z
    · rw [if_neg hu, if_neg fun w => hu (l.symm.trans w)]; exact r.append (vals_rep _)
section
variable {K : PySem.W.Frag} {ρ ρ' ρ0 ρ1 ρ2 ρ3 : Env K} {α β δ : Type} {e : Enc K α} {ta tb te tc : TE}
variable {ι γ : Type} {ds : ι → List (Slot K)} {pre : ι → Prop} {R : Ret K γ} {f : ι → γ}
theorem ev_callKw {tk : TA} {E : XK} {n : Nat} (x : ι) (hk : EvA tk ρ ρ1 (ds x)) (hp : pre x) (hm : isMAt (ds x) 0 = false) (hnl : R.nl (f x) = none) : EvD (tCallK (spF ds pre R f) (kwG n V.non) E tNil tk) ρ ρ1 R.e (R.val (f x)) :=
  ev_callK x ea_nil hk (fun vs zs r h1 h2 => by cases h1; exact h2) (fun s h => by cases h) hp hm hnl
end
theorem fn_okG {K : PySem.W.Frag} {P : Program} {w : World} {mg : Str → Option Value} {base : Heap} {ι γ ν : Type} {ds : ι → List (Slot K)} {pre : ι → Prop} {R : Ret K γ} {fl : ι → ν → γ} {o : ι → Out ν Empty γ} {g : ι → γ} {f : Addr} {fd : FuncData} {ps : List Str} {k : Nat}
    (hf : ∀ x, g x = (o x).val (fl x)) (h : FnOk P w K mg base CX0 k f fd ps (spF ds pre R fun x => (o x).val (fl x))) : FnOk P w K mg base CX0 k f fd ps (spF ds pre R g) := by
  have e : g = fun x => (o x).val (fl x) := funext hf
  rw [e]; exact h
/-- a def of the text that is called by names, too -/
structure FnAtK (P : Program) (w : World) (K : PySem.W.Frag) (mg : Str → Option Value) (base : Heap) (x : Str) (k : Nat) (ps : List Str) (sp : Sp) : Prop where
  ex : ∃ f fd, FnOk P w K mg base CX0 k f fd ps sp ∧ mg x = some (.ref f) ∧ PySem.W.keepIn K (.ref f) = true ∧ Binds K fd ps [] ∧ KBinds K fd ps ps (kwG ps.length Value.none) (kwG ps.length V.non)
end FL

/-! FL8: the box's display, a try that never catches. -/
namespace FL
open PySem L2 PyProof.Rows
section
variable {K : PySem.W.Frag} {ρ ρ' ρ0 ρ1 ρ2 ρ3 : Env K} {te : TE}
theorem ew_box {cells : List Int} (h : EvD te ρ ρ1 (eL eI) cells) : EvW (tLst (tCons te (tCons (tC (.int 0)) (tCons (tC (.int 0)) (tCons (tC (.int 0)) tNil))))) ρ ρ1 (.m mBox ⟨cells, 0, 0, 0⟩) := fun c σ Hk H k Q q =>
  h c σ Hk H k _ fun v Hk1 H1 k1 x1 r1 => ⟨by show 4 ≤ _; decide, fun p hp =>
    let ⟨k2, x2, n1⟩ := k1.newL hp
    q p Hk1 _ k2 (x1.trans x2) ⟨p, _, rfl, n1, upd_same, v, rfl, r1⟩ (x1.th p hp)⟩
theorem xb_thru {ν lam γ : Type} {ts : TS} {En : ν → Env K} {L : lam → Env K} {R : Ret K γ} {o : Out ν lam γ} (h : XB ts ρ En L R o) : XB (tSeq ts tNext) ρ En L R o := fun c σ Hk H k D q => h c σ Hk H k { D with nx := tNext D } q
theorem all2_ints {H : Hp} : ∀ ns : List Int, All2 ((eI (K := K)).rep H) (ns.map V.int) ns
  | [] => .nil
  | _ :: ns => .cons rfl (all2_ints ns)
theorem law_sp {f : List Int → Bool} {pre : List Int → Prop} {H : Hp} {a : Addr} {ns : List Int} {E : XK} (h1 : pre ns) (h2 : f ns = true) (hl : ns.length ≤ 63) (hS : SqL K H a (ns.map V.int)) :
    spF (K := K) (fun x : List Int => [.d (eL eI) x]) pre (retD eB) f [.ref a] H (fun v _ => v = .bl true) E :=
  ⟨ns, H, h1, Ex.refl _, .cons ⟨_, rfl, a, _, rfl, hS, all2_ints ns, Nat.le_trans hl (by decide)⟩ .nil, fun v Hk' H' r => by
    have := r.rv rfl
    show v = .bl true
    have q : v = .bl (f ns) := this
    rw [q, h2]⟩
end
end FL

namespace G
open PySem L2 FL
def top (i : Nat) : Stmt := PySem.Challenge.pw_greatestnext_k20_exchange_fault.main.body.getD i (.Pass ⟨0, 0, 0, 0⟩)
structure Family where
  size : Int
  table : (List Bool)
  sets : (List (List Int))
  deriving Inhabited
def flFamily {K : PySem.W.Frag} : List (Str × Fld K Family) := [("size", ⟨eI, Family.size⟩), ("table", ⟨(eT eB), Family.table⟩), ("sets", ⟨(eT (eT eI)), Family.sets⟩)]
theorem flFamily_nd {K : PySem.W.Frag} : ((flFamily (K := K)).map Prod.fst).Nodup := by
  show (["size", "table", "sets"] : List Str).Nodup
  decide +kernel
abbrev eFamily {K : PySem.W.Frag} (c : Addr) : Enc K Family := eObj c flFamily
abbrev s_is_thing : Stmt := top 9
abbrev s_is_set : Stmt := top 10
abbrev s_check_size : Stmt := top 11
abbrev s_checked_sets : Stmt := top 12
abbrev s_mask_of : Stmt := top 13
abbrev s_things_of : Stmt := top 14
abbrev s_all_sets : Stmt := top 15
abbrev s_is_within : Stmt := top 17
abbrev s_Family_init : Stmt := inClass (top 8) 0
abbrev s_Family_addable : Stmt := inClass (top 8) 7
abbrev s_exchange_fault : Stmt := top 16
abbrev s_law_draw : Stmt := top 20
abbrev s_law_things : Stmt := top 21
abbrev s_law_counts : Stmt := top 22
abbrev s_law_closed : Stmt := top 23
abbrev s_law_vectors : Stmt := top 24
abbrev s_law_quotas : Stmt := top 25
abbrev s_law_full : Stmt := top 26
abbrev s_law_inside : Stmt := top 27
abbrev s_law_ordered : Stmt := top 28
abbrev s_law_mask : Stmt := top 29
abbrev s_law_due : Stmt := top 30
abbrev s_law_family : Stmt := top 31
abbrev s_law_is_set : Stmt := top 32
abbrev s_law_right : Stmt := top 33
abbrev s_law_box : Stmt := top 19
abbrev s_law_all : Stmt := top 34
abbrev s_law : Stmt := top 35
structure Txt (K : PySem.W.Frag) (mg : Str → Option Value) (cFamily : Addr) : Prop where
  b_abs : mg "abs" = none
  b_all : mg "all" = none
  b_any : mg "any" = none
  b_bool : mg "bool" = none
  b_enumerate : mg "enumerate" = none
  b_int : mg "int" = none
  b_isinstance : mg "isinstance" = none
  b_len : mg "len" = none
  b_list : mg "list" = none
  b_range : mg "range" = none
  b_sorted : mg "sorted" = none
  b_sum : mg "sum" = none
  b_tuple : mg "tuple" = none
  g_MOST_THINGS : ∃ t, mg "MOST_THINGS" = some (.int 6 t)
  cl_Family : Cls K cFamily
  na_Family_size : NoAttr K cFamily "size"
  na_Family_table : NoAttr K cFamily "table"
  na_Family_sets : NoAttr K cFamily "sets"
  d_is_thing : ∃ f fd, Fun K "is_thing" "is_thing" s_is_thing f fd ∧ mg "is_thing" = some (.ref f) ∧ Binds K fd ["size", "value"] []
  d_is_set : ∃ f fd, Fun K "is_set" "is_set" s_is_set f fd ∧ mg "is_set" = some (.ref f) ∧ Binds K fd ["size", "value"] []
  d_check_size : ∃ f fd, Fun K "check_size" "check_size" s_check_size f fd ∧ mg "check_size" = some (.ref f) ∧ Binds K fd ["size"] []
  d_checked_sets : ∃ f fd, Fun K "checked_sets" "checked_sets" s_checked_sets f fd ∧ mg "checked_sets" = some (.ref f) ∧ Binds K fd ["size", "sets"] []
  d_mask_of : ∃ f fd, Fun K "mask_of" "mask_of" s_mask_of f fd ∧ mg "mask_of" = some (.ref f) ∧ Binds K fd ["things"] []
  d_things_of : ∃ f fd, Fun K "things_of" "things_of" s_things_of f fd ∧ mg "things_of" = some (.ref f) ∧ Binds K fd ["mask"] []
  d_all_sets : ∃ f fd, Fun K "all_sets" "all_sets" s_all_sets f fd ∧ mg "all_sets" = some (.ref f) ∧ Binds K fd ["size"] []
  d_is_within : ∃ f fd, Fun K "_is_within" "_is_within" s_is_within f fd ∧ mg "_is_within" = some (.ref f) ∧ Binds K fd ["part", "mask"] []
  d_Family_init : ∃ f fd, Fun K "__init__" "Family.__init__" s_Family_init f fd ∧ Mk K cFamily f ∧ mg "Family" = some (.ref cFamily) ∧ Binds K fd ["self", "size", "sets"] []
  d_Family_addable : ∃ f fd, Fun K "addable" "Family.addable" s_Family_addable f fd ∧ Meth K cFamily "addable" f ∧ Binds K fd ["self", "taken"] []
  d_exchange_fault : ∃ f fd, Fun K "exchange_fault" "exchange_fault" s_exchange_fault f fd ∧ mg "exchange_fault" = some (.ref f) ∧ Binds K fd ["family"] [] ∧ KBinds K fd ["family"] ["family"] (kwG 1 Value.none) (kwG 1 V.non)
  d_law_draw : ∃ f fd, Fun K "_law_draw" "_law_draw" s_law_draw f fd ∧ mg "_law_draw" = some (.ref f) ∧ Binds K fd ["box", "limit"] []
  d_law_things : ∃ f fd, Fun K "_law_things" "_law_things" s_law_things f fd ∧ mg "_law_things" = some (.ref f) ∧ Binds K fd ["mask"] []
  d_law_counts : ∃ f fd, Fun K "_law_counts" "_law_counts" s_law_counts f fd ∧ mg "_law_counts" = some (.ref f) ∧ Binds K fd ["size"] []
  d_law_closed : ∃ f fd, Fun K "_law_closed" "_law_closed" s_law_closed f fd ∧ mg "_law_closed" = some (.ref f) ∧ Binds K fd ["size", "tops"] []
  d_law_vectors : ∃ f fd, Fun K "_law_vectors" "_law_vectors" s_law_vectors f fd ∧ mg "_law_vectors" = some (.ref f) ∧ Binds K fd ["box", "size", "counts"] []
  d_law_quotas : ∃ f fd, Fun K "_law_quotas" "_law_quotas" s_law_quotas f fd ∧ mg "_law_quotas" = some (.ref f) ∧ Binds K fd ["box", "size", "counts"] []
  d_law_full : ∃ f fd, Fun K "_law_full" "_law_full" s_law_full f fd ∧ mg "_law_full" = some (.ref f) ∧ Binds K fd ["inside", "size"] []
  d_law_inside : ∃ f fd, Fun K "_law_inside" "_law_inside" s_law_inside f fd ∧ mg "_law_inside" = some (.ref f) ∧ Binds K fd ["box", "size"] []
  d_law_ordered : ∃ f fd, Fun K "_law_ordered" "_law_ordered" s_law_ordered f fd ∧ mg "_law_ordered" = some (.ref f) ∧ Binds K fd ["inside"] []
  d_law_mask : ∃ f fd, Fun K "_law_mask" "_law_mask" s_law_mask f fd ∧ mg "_law_mask" = some (.ref f) ∧ Binds K fd ["things"] []
  d_law_due : ∃ f fd, Fun K "_law_due" "_law_due" s_law_due f fd ∧ mg "_law_due" = some (.ref f) ∧ Binds K fd ["inside", "size"] []
  d_law_family : ∃ f fd, Fun K "_law_family" "_law_family" s_law_family f fd ∧ mg "_law_family" = some (.ref f) ∧ Binds K fd ["box", "inside", "size"] []
  d_law_is_set : ∃ f fd, Fun K "_law_is_set" "_law_is_set" s_law_is_set f fd ∧ mg "_law_is_set" = some (.ref f) ∧ Binds K fd ["actual", "due"] []
  d_law_right : ∃ f fd, Fun K "_law_right" "_law_right" s_law_right f fd ∧ mg "_law_right" = some (.ref f) ∧ Binds K fd ["actual", "due"] []
  d_law_box : ∃ f fd, Fun K "_law_box" "_law_box" s_law_box f fd ∧ mg "_law_box" = some (.ref f) ∧ Binds K fd ["script"] []
  d_law_all : ∃ f fd, Fun K "_law_all" "_law_all" s_law_all f fd ∧ mg "_law_all" = some (.ref f) ∧ Binds K fd ["script"] []
/-! ### is_thing -/
abbrev N_is_thing : List Str := ["size", "value"]
theorem sc_is_thing : FnScope N_is_thing ["size", "value"] (defScope s_is_thing) := ⟨rfl, rfl, rfl, by decide +kernel, rfl, by decide +kernel, by decide +kernel⟩
def o_is_thing (size : Int) (value : Int) : Out Empty Empty Bool :=
  (.rt (true && ((!false) && (decide ((0 : Int) ≤ value) && decide (value < size)))))
@[irreducible] def f_is_thing (size : Int) (value : Int) : Bool := (o_is_thing size value).get
theorem f_is_thing_eq (size : Int) (value : Int) : f_is_thing size value = (o_is_thing size value).get := by delta f_is_thing; rfl
section
variable {K : PySem.W.Frag} {cFamily : Addr}
abbrev sp_is_thing : Sp := spF (K := K) (ι := (Int × Int)) (fun x => [.d eI x.1, .d eI x.2]) (fun _ => True) (retD eB) (fun x => f_is_thing x.1 x.2)
end
set_option maxHeartbeats 4000000 in
theorem at_is_thing {P : Program} {w : World} {K : PySem.W.Frag} {mg : Str → Option Value} {base : Heap} {cFamily : Addr} (T : Txt K mg cFamily) : FnAt P w K mg base "is_thing" 1 ["size", "value"] (sp_is_thing (K := K)) := by
  obtain ⟨f, fd, F, mg_, bd_⟩ := T.d_is_thing
  refine ⟨⟨f, fd, fn_okG (fun x => f_is_thing_eq x.1 x.2) <| fn_okE (o := fun x : (Int × Int) => o_is_thing x.1 x.2) (k := 0) F sc_is_thing (fun x => rfl) (fun x i s h => noM_tail (by simp [Slot.isM]) h) (fun cdv A outer s H EX hr x hp => ?_), mg_, F.kp, bd_⟩⟩
  obtain ⟨size, value⟩ := x
  exact ⟨_, _, rfl,
    (pss_cons (ps_ret (pe_and (pe_callB call_isi (by rfl) T.b_isinstance (by decide +kernel) (pa_cons (pv 1) (pa_cons (pe_bltn (v := .ty "int") (by rfl) T.b_int (by decide +kernel) rfl) pa_nil))) (pe_and (pe_not (pe_callB call_isi (by rfl) T.b_isinstance (by decide +kernel) (pa_cons (pv 1) (pa_cons (pe_bltn (v := .ty "bool") (by rfl) T.b_bool (by decide +kernel) rfl) pa_nil)))) (pe_one (pe_chain op_le op_lt pe_int (pv 1) (pv 0)))))) pss_nil),
    (xb_retS (ev_eq (ev_andV (ev_isi (b := true) (ev_var (i := 1) rfl) (by decide +kernel)) (fun hb_1 => (ev_andV (ev_notV (ev_isi (b := false) (ev_var (i := 1) rfl) (by decide +kernel))) (fun hb_2 => (ev_chain ev_int (ev_var (i := 1) rfl) (ev_var (i := 0) rfl)))))) rfl) (.inl rfl) rfl)⟩
/-! ### is_set -/
abbrev N_is_set : List Str := ["size", "value", "k", "thing"]
theorem sc_is_set : FnScope N_is_set ["size", "value"] (defScope s_is_set) := ⟨rfl, rfl, rfl, by decide +kernel, rfl, by decide +kernel, by decide +kernel⟩
def o_is_set (size : Int) (value : (List Int)) : Out Empty Empty Bool :=
  (bif ((!true) || (!((((value).map fun thing_4 => (f_is_thing size thing_4))).all id))) then (.rt false) else (.rt (((((rng (1 : Int) ((value).length : Int))).map fun k_9 => (decide ((at_ value (k_9 - (1 : Int))) < (at_ value k_9))))).all id)))
@[irreducible] def f_is_set (size : Int) (value : (List Int)) : Bool := (o_is_set size value).get
theorem f_is_set_eq (size : Int) (value : (List Int)) : f_is_set size value = (o_is_set size value).get := by delta f_is_set; rfl
def ok_is_set (size : Int) (value : (List Int)) : Prop :=
  (∀ (hc_7 : (((!true) || (!((((value).map fun thing_4 => (f_is_thing size thing_4))).all id)))) = false), (-100000 ≤ (1 : Int) ∧ (1 : Int) ≤ 100000 ∧ -100000 ≤ ((value).length : Int) ∧ ((value).length : Int) ≤ 100000 ∧ ((value).length : Int) - (1 : Int) ≤ 100000) ∧ (∀ (k_9 : Int) (hx_10 : k_9 ∈ (rng (1 : Int) ((value).length : Int))), (inIx (value).length (k_9 - (1 : Int))) ∧ (inIx (value).length k_9)))
section
variable {K : PySem.W.Frag} {cFamily : Addr}
abbrev sp_is_set : Sp := spF (K := K) (ι := (Int × (List Int))) (fun x => [.d eI x.1, .d (eQ eI) x.2]) (fun x => ok_is_set x.1 x.2) (retD eB) (fun x => f_is_set x.1 x.2)
end
set_option maxHeartbeats 4000000 in
theorem at_is_set {P : Program} {w : World} {K : PySem.W.Frag} {mg : Str → Option Value} {base : Heap} {cFamily : Addr} (T : Txt K mg cFamily) : FnAt P w K mg base "is_set" 2 ["size", "value"] (sp_is_set (K := K)) := by
  obtain ⟨f, fd, F, mg_, bd_⟩ := T.d_is_set
  obtain ⟨⟨a_is_thing, d_is_thing, G_is_thing, m_is_thing, k_is_thing, b_is_thing⟩⟩ := at_is_thing (P := P) (w := w) (base := base) T
  refine ⟨⟨f, fd, fn_okG (fun x => f_is_set_eq x.1 x.2) <| fn_okE (o := fun x : (Int × (List Int)) => o_is_set x.1 x.2) (k := 1) F sc_is_set (fun x => rfl) (fun x i s h => noM_tail (by simp [Slot.isM]) h) (fun cdv A outer s H EX hr x hp => ?_), mg_, F.kp, bd_⟩⟩
  obtain ⟨size, value⟩ := x
  have okh : ok_is_set size value := hp
  exact ⟨_, _, rfl,
    (pss_cons (ps_if (PW.pt (pw_or (pt_not (pt_val (pe_callB call_isiT (by rfl) T.b_isinstance (by decide +kernel) (pa_cons (pv 1) (pa_cons (pe_tup (pa_cons (pe_bltn (v := .ty "list") (by rfl) T.b_list (by decide +kernel) rfl) (pa_cons (pe_bltn (v := .ty "tuple") (by rfl) T.b_tuple (by decide +kernel) rfl) pa_nil))) pa_nil))))) (pw_or1 (pt_not (pt_val (pe_callB (cr_all rfl) (by rfl) T.b_all (by decide +kernel) (pa_cons (pe_lc (own := [("thing", 3)]) (g := gName 3) (tt := tYes) rfl sc_is_set.nd (pi_seq (pv 1)) (blkOk_by (N := N_is_set) (sc := defScope s_is_set) (by decide +kernel)) (fun _ _ _ _ _ => (pg_name (i := 3) sc_is_set.nd rfl (by first | exact Or.inl rfl | exact Or.inr rfl))) (fun _ _ _ _ _ => pts_nil) (fun _ _ _ _ _ => (pe_call G_is_thing (hr.mono (by decide)) (by rfl) m_is_thing k_is_thing b_is_thing .nil pass0 (pa_cons (pv 0) (pa_cons (pv 3) pa_nil))))) pa_nil))))))) (pss_cons (ps_ret pe_bl) pss_nil) pss_nil) (pss_cons (ps_ret (pe_callB (cr_all rfl) (by rfl) T.b_all (by decide +kernel) (pa_cons (pe_lc (own := [("k", 2)]) (g := gName 2) (tt := tYes) rfl sc_is_set.nd (pi_range2 (by rfl) T.b_range (pa_cons pe_int (pa_cons (pe_callB call_len_seq (by rfl) T.b_len (by decide +kernel) (pa_cons (pv 1) pa_nil)) pa_nil))) (blkOk_by (N := N_is_set) (sc := defScope s_is_set) (by decide +kernel)) (fun _ _ _ _ _ => (pg_name (i := 2) sc_is_set.nd rfl (by first | exact Or.inl rfl | exact Or.inr rfl))) (fun _ _ _ _ _ => pts_nil) (fun _ _ _ _ _ => (pe_cmpR op_lt (pe_ix ix_seq (pv 1) (pe_op op_sub (pv 2) pe_int) (fun _ _ => rfl)) (pe_ix ix_seq (pv 1) (pv 2) (fun _ _ => rfl)) (nomark _)))) pa_nil))) pss_nil)),
    (xb_ifR (et_eq (et_or (et_not (et_B (ev_isQ (ev_var (i := 1) rfl)))) (fun hb_3 => (et_not (et_B (ev_all (EvN.d (en_lcY (v := fun thing_4 => (f_is_thing size thing_4)) (ei_seq (ev_var (i := 1) rfl)) eg_name (by decide) (noM_cons rfl noM_nil) (fun thing_4 hx_5 => (ev_eq (ev_call (size, thing_4) (ea_cons (ev_eq (ev_var (i := 0) rfl) rfl) (ea_cons (ev_eq (ev_var (i := 3) rfl) rfl) ea_nil)) trivial rfl rfl) rfl))))))))) rfl) (fun hc_7 => (xb_retS (ev_eq ev_bl rfl) (.inl rfl) rfl)) (fun hc_7 => (xb_retS (ev_eq (ev_all (EvN.d (en_lcY (v := fun k_9 => (decide ((at_ value (k_9 - (1 : Int))) < (at_ value k_9)))) (ei_range2 ev_int (ev_lenQ (ev_var (i := 1) rfl)) ((okh hc_7).1)) eg_name (by decide) (noM_cons rfl noM_nil) (fun k_9 hx_10 => (ev_eq (ev_IB (ev_ixQ (ev_var (i := 1) rfl) (ev_I0 (ev_var (i := 2) rfl) ev_int) (((okh hc_7).2 k_9 hx_10).1)) (ev_ixQ (ev_var (i := 1) rfl) (ev_var (i := 2) rfl) (((okh hc_7).2 k_9 hx_10).2))) rfl))))) rfl) (.inl rfl) rfl)))⟩
/-! ### check_size -/
abbrev N_check_size : List Str := ["size"]
theorem sc_check_size : FnScope N_check_size ["size"] (defScope s_check_size) := ⟨rfl, rfl, rfl, by decide +kernel, rfl, by decide +kernel, by decide +kernel⟩
def o_check_size (size : Int) : Out Unit Empty Unit :=
  .nx (lt (bif ((!(f_is_thing ((6 : Int) + (1 : Int)) size)) || (decide (size = (0 : Int)))) then () else ()) fun z_17 => ())
@[irreducible] def f_check_size (size : Int) : Unit := (o_check_size size).val (fun t => t)
theorem f_check_size_eq (size : Int) : f_check_size size = (o_check_size size).val (fun t => t) := by delta f_check_size; rfl
def ok_check_size (size : Int) : Prop :=
  (∀ (hc_15 : (((!(f_is_thing ((6 : Int) + (1 : Int)) size)) || (decide (size = (0 : Int))))) = true), (False))
section
variable {K : PySem.W.Frag} {cFamily : Addr}
abbrev sp_check_size : Sp := spF (K := K) (ι := Int) (fun x => [.d eI x]) (fun x => ok_check_size x) (retD eN) (fun x => f_check_size x)
end
set_option maxHeartbeats 4000000 in
theorem at_check_size {P : Program} {w : World} {K : PySem.W.Frag} {mg : Str → Option Value} {base : Heap} {cFamily : Addr} (T : Txt K mg cFamily) : FnAt P w K mg base "check_size" 2 ["size"] (sp_check_size (K := K)) := by
  obtain ⟨f, fd, F, mg_, bd_⟩ := T.d_check_size
  obtain ⟨⟨a_is_thing, d_is_thing, G_is_thing, m_is_thing, k_is_thing, b_is_thing⟩⟩ := at_is_thing (P := P) (w := w) (base := base) T
  obtain ⟨t_MOST_THINGS, g_MOST_THINGS⟩ := T.g_MOST_THINGS
  refine ⟨⟨f, fd, fn_okG (fun x => f_check_size_eq x) <| fn_ok (ν := Unit) (γ := Unit) (fl := fun _ t => t) (o := fun x : Int => o_check_size x) (E := fun (x : Int) t => [.un]) (k := 1) F sc_check_size (fun x => rfl) (fun x i s h => noM_tail (by simp [Slot.isM]) h) (fun x t => ⟨fun _ => rfl, rfl, fun s h => nomatch h⟩) (fun cdv A outer s H EX hr size hp => ?_), mg_, F.kp, bd_⟩⟩
  have okh : ok_check_size size := hp
  exact ⟨_, _, rfl,
    (pss_cons (ps_if (PW.pt (pw_or (pt_not (pt_val (pe_call G_is_thing (hr.mono (by decide)) (by rfl) m_is_thing k_is_thing b_is_thing .nil pass0 (pa_cons (pe_op op_add (pe_glob (v := .int 6) (by rfl) g_MOST_THINGS ⟨_, rfl⟩) pe_int) (pa_cons (pv 0) pa_nil))))) (pw_or1 (pt_cmpR op_eq (pv 0) pe_int (nomark _))))) (pss_cons ps_never pss_nil) pss_nil) pss_nil),
    xb_lastV (E := fun t : Unit => [.un]) (xv_if (fun t : Unit => [.d eI size]) (et_eq (et_or (et_not (et_B (ev_call (((6 : Int) + (1 : Int)), size) (ea_cons (ev_eq (ev_I0 ev_int ev_int) rfl) (ea_cons (ev_eq (ev_var (i := 0) rfl) rfl) ea_nil)) trivial rfl rfl))) (fun hb_14 => (et_test (ev_eqI (ev_var (i := 0) rfl) ev_int)))) rfl) (fun hc_15 => (xv_never ((okh hc_15)))) (fun hc_15 => (xv_end (by exact (wk_S wk_n)))) (fun z_17 h_18 => (xv_end (by exact (wk_U wk_n)))))⟩
/-! ### checked_sets -/
abbrev N_checked_sets : List Str := ["size", "sets", "at", "things"]
theorem sc_checked_sets : FnScope N_checked_sets ["size", "sets"] (defScope s_checked_sets) := ⟨rfl, rfl, rfl, by decide +kernel, rfl, by decide +kernel, by decide +kernel⟩
def o_checked_sets (size : Int) (sets : (List (List Int))) : Out Empty Empty (List (List Int)) :=
  (lt (List.foldl (fun (t_19 : Unit) (q_20 : (Int × (List Int))) => (lt (bif (!(f_is_set size q_20.2)) then () else ()) fun z_27 => ())) () (enum sets)) fun s_29 => (.rt ((sets).map fun things_31 => things_31)))
@[irreducible] def f_checked_sets (size : Int) (sets : (List (List Int))) : (List (List Int)) := (o_checked_sets size sets).get
theorem f_checked_sets_eq (size : Int) (sets : (List (List Int))) : f_checked_sets size sets = (o_checked_sets size sets).get := by delta f_checked_sets; rfl
def ok_checked_sets (size : Int) (sets : (List (List Int))) : Prop :=
  (∀ (i_21 : Nat) (q_20 : (Int × (List Int))) (t_19 : Unit) (hi_22 : ((enum sets))[i_21]? = some q_20) (ht_23 : t_19 = (((enum sets)).take i_21).foldl (fun (t_19 : Unit) (q_20 : (Int × (List Int))) => (lt (bif (!(f_is_set size q_20.2)) then () else ()) fun z_27 => ())) ()), (ok_is_set size q_20.2) ∧ (∀ (hc_25 : ((!(f_is_set size q_20.2))) = true), (False)))
section
variable {K : PySem.W.Frag} {cFamily : Addr}
abbrev sp_checked_sets : Sp := spF (K := K) (ι := (Int × (List (List Int)))) (fun x => [.d eI x.1, .d (eL (eQ eI)) x.2]) (fun x => ok_checked_sets x.1 x.2) (retL (eT eI)) (fun x => f_checked_sets x.1 x.2)
end
set_option maxHeartbeats 4000000 in
theorem at_checked_sets {P : Program} {w : World} {K : PySem.W.Frag} {mg : Str → Option Value} {base : Heap} {cFamily : Addr} (T : Txt K mg cFamily) : FnAt P w K mg base "checked_sets" 3 ["size", "sets"] (sp_checked_sets (K := K)) := by
  obtain ⟨f, fd, F, mg_, bd_⟩ := T.d_checked_sets
  obtain ⟨⟨a_is_set, d_is_set, G_is_set, m_is_set, k_is_set, b_is_set⟩⟩ := at_is_set (P := P) (w := w) (base := base) T
  refine ⟨⟨f, fd, fn_okG (fun x => f_checked_sets_eq x.1 x.2) <| fn_okE (o := fun x : (Int × (List (List Int))) => o_checked_sets x.1 x.2) (k := 2) F sc_checked_sets (fun x => rfl) (fun x i s h => noM_tail (by simp [Slot.isM]) h) (fun cdv A outer s H EX hr x hp => ?_), mg_, F.kp, bd_⟩⟩
  obtain ⟨size, sets⟩ := x
  have okh : ok_checked_sets size sets := hp
  exact ⟨_, _, rfl,
    (pss_cons (ps_for PassesOwn.never rfl (pi_enum (by rfl) T.b_enumerate (pa_cons (pv 1) pa_nil)) (pg_tup (by rfl) (pgs_cons (pg_name (i := 2) sc_checked_sets.nd rfl (by first | exact Or.inl rfl | exact Or.inr rfl)) (pgs_cons (pg_name (i := 3) sc_checked_sets.nd rfl (by first | exact Or.inl rfl | exact Or.inr rfl)) pgs_nil))) (pss_cons (ps_if (pt_not (pt_val (pe_call G_is_set (hr.mono (by decide)) (by rfl) m_is_set k_is_set b_is_set .nil pass0 (pa_cons (pv 0) (pa_cons (pv 3) pa_nil))))) (pss_cons ps_never pss_nil) pss_nil) pss_nil)) (pss_cons (ps_ret (pe_lc (own := [("things", 3)]) (g := gName 3) (tt := tYes) rfl sc_checked_sets.nd (pi_list (pv 1)) (blkOk_by (N := N_checked_sets) (sc := defScope s_checked_sets) (by decide +kernel)) (fun _ _ _ _ _ => (pg_name (i := 3) sc_checked_sets.nd rfl (by first | exact Or.inl rfl | exact Or.inr rfl))) (fun _ _ _ _ _ => pts_nil) (fun _ _ _ _ _ => (pe_callTy call_tuple_of (by rfl) T.b_tuple (by decide +kernel) (pa_cons (pv 3) pa_nil))))) pss_nil)),
    (xb_fold (fun t_19 : Unit => [.d eI size, .d (eL (eQ eI)) sets, .un, .un]) () (h := (fun (t_19 : Unit) (q_20 : (Int × (List Int))) => (lt (bif (!(f_is_set size q_20.2)) then () else ()) fun z_27 => ()))) (ei_enum (ev_var (i := 1) rfl)) (wk_S (wk_s (wk_s (wk_s wk_n)))) eg_pair (fun _ => (noM_cons rfl (noM_cons rfl noM_nil))) (fun i_21 q_20 t_19 hi_22 ht_23 => (xv_if (fun t : Unit => [.d eI size, .d (eL (eQ eI)) sets, .d eI q_20.1, .d (eQ eI) q_20.2]) (et_eq (et_not (et_B (ev_call (size, q_20.2) (ea_cons (ev_eq (ev_var (i := 0) rfl) rfl) (ea_cons (ev_eq (ev_var (i := 3) rfl) rfl) ea_nil)) ((okh i_21 q_20 t_19 hi_22 ht_23).1) rfl rfl))) rfl) (fun hc_25 => (xv_never (((okh i_21 q_20 t_19 hi_22 ht_23).2 hc_25)))) (fun hc_25 => (xv_end (by exact (wk_S (wk_s (wk_s (wk_s wk_n))))))) (fun z_27 h_28 => (xv_end (by exact (wk_S (wk_s (wk_u (wk_u wk_n))))))))) (fun s_29 h_30 => (xb_retSW (EvN.w (en_eq (en_lcY (v := fun things_31 => things_31) (ei_list (ev_var (i := 1) rfl)) eg_name (by decide) (noM_cons rfl noM_nil) (fun things_31 hx_32 => (ev_eq (ev_tuple (ev_var (i := 3) rfl)) rfl))) rfl)) (.inl rfl) rfl rfl)))⟩
/-! ### mask_of -/
abbrev N_mask_of : List Str := ["things", "thing"]
theorem sc_mask_of : FnScope N_mask_of ["things"] (defScope s_mask_of) := ⟨rfl, rfl, rfl, by decide +kernel, rfl, by decide +kernel, by decide +kernel⟩
def o_mask_of (things : (List Int)) : Out Empty Empty Int :=
  (.rt (((things).map fun thing_34 => ((1 : Int) * 2 ^ (thing_34).toNat))).sum)
@[irreducible] def f_mask_of (things : (List Int)) : Int := (o_mask_of things).get
theorem f_mask_of_eq (things : (List Int)) : f_mask_of things = (o_mask_of things).get := by delta f_mask_of; rfl
def ok_mask_of (things : (List Int)) : Prop :=
  (∀ (thing_34 : Int) (hx_35 : thing_34 ∈ things), (CPow (1 : Int) thing_34))
section
variable {K : PySem.W.Frag} {cFamily : Addr}
abbrev sp_mask_of : Sp := spF (K := K) (ι := (List Int)) (fun x => [.d (eT eI) x]) (fun x => ok_mask_of x) (retD eI) (fun x => f_mask_of x)
end
set_option maxHeartbeats 4000000 in
theorem at_mask_of {P : Program} {w : World} {K : PySem.W.Frag} {mg : Str → Option Value} {base : Heap} {cFamily : Addr} (T : Txt K mg cFamily) : FnAt P w K mg base "mask_of" 1 ["things"] (sp_mask_of (K := K)) := by
  obtain ⟨f, fd, F, mg_, bd_⟩ := T.d_mask_of
  refine ⟨⟨f, fd, fn_okG (fun x => f_mask_of_eq x) <| fn_okE (o := fun x : (List Int) => o_mask_of x) (k := 0) F sc_mask_of (fun x => rfl) (fun x i s h => noM_tail (by simp [Slot.isM]) h) (fun cdv A outer s H EX hr things hp => ?_), mg_, F.kp, bd_⟩⟩
  have okh : ok_mask_of things := hp
  exact ⟨_, _, rfl,
    (pss_cons (ps_ret (pe_callB (cr_sum rfl) (by rfl) T.b_sum (by decide +kernel) (pa_cons (pe_lc (own := [("thing", 1)]) (g := gName 1) (tt := tYes) rfl sc_mask_of.nd (pi_tup (pv 0)) (blkOk_by (N := N_mask_of) (sc := defScope s_mask_of) (by decide +kernel)) (fun _ _ _ _ _ => (pg_name (i := 1) sc_mask_of.nd rfl (by first | exact Or.inl rfl | exact Or.inr rfl))) (fun _ _ _ _ _ => pts_nil) (fun _ _ _ _ _ => (pe_op op_shl pe_int (pv 1)))) pa_nil))) pss_nil),
    (xb_retS (ev_eq (ev_sum (EvN.d (en_lcY (v := fun thing_34 => ((1 : Int) * 2 ^ (thing_34).toNat)) (ei_tup (ev_var (i := 0) rfl)) eg_name (by decide) (noM_cons rfl noM_nil) (fun thing_34 hx_35 => (ev_eq (ev_I ev_int (ev_var (i := 1) rfl) ((okh thing_34 hx_35))) rfl))))) rfl) (.inl rfl) rfl)⟩
/-! ### things_of -/
abbrev N_things_of : List Str := ["mask", "thing"]
theorem sc_things_of : FnScope N_things_of ["mask"] (defScope s_things_of) := ⟨rfl, rfl, rfl, by decide +kernel, rfl, by decide +kernel, by decide +kernel⟩
def o_things_of (mask : Int) : Out Empty Empty (List Int) :=
  (.rt ((((rng 0 (6 : Int))).filter fun thing_38 => (decide ((Int.fmod (Int.fdiv mask ((1 : Int) * 2 ^ (thing_38).toNat)) (2 : Int)) = (1 : Int)))).map fun thing_38 => thing_38))
@[irreducible] def f_things_of (mask : Int) : (List Int) := (o_things_of mask).get
theorem f_things_of_eq (mask : Int) : f_things_of mask = (o_things_of mask).get := by delta f_things_of; rfl
def ok_things_of (mask : Int) : Prop :=
  (∀ (thing_38 : Int) (hx_39 : thing_38 ∈ (rng 0 (6 : Int))), (CPow (1 : Int) thing_38) ∧ (CDivN mask ((1 : Int) * 2 ^ (thing_38).toNat)))
section
variable {K : PySem.W.Frag} {cFamily : Addr}
abbrev sp_things_of : Sp := spF (K := K) (ι := Int) (fun x => [.d eI x]) (fun x => ok_things_of x) (retD (eT eI)) (fun x => f_things_of x)
end
set_option maxHeartbeats 4000000 in
theorem at_things_of {P : Program} {w : World} {K : PySem.W.Frag} {mg : Str → Option Value} {base : Heap} {cFamily : Addr} (T : Txt K mg cFamily) : FnAt P w K mg base "things_of" 1 ["mask"] (sp_things_of (K := K)) := by
  obtain ⟨f, fd, F, mg_, bd_⟩ := T.d_things_of
  obtain ⟨t_MOST_THINGS, g_MOST_THINGS⟩ := T.g_MOST_THINGS
  refine ⟨⟨f, fd, fn_okG (fun x => f_things_of_eq x) <| fn_okE (o := fun x : Int => o_things_of x) (k := 0) F sc_things_of (fun x => rfl) (fun x i s h => noM_tail (by simp [Slot.isM]) h) (fun cdv A outer s H EX hr mask hp => ?_), mg_, F.kp, bd_⟩⟩
  have okh : ok_things_of mask := hp
  exact ⟨_, _, rfl,
    (pss_cons (ps_ret (pe_callTy call_tuple_of (by rfl) T.b_tuple (by decide +kernel) (pa_cons (pe_lc (own := [("thing", 1)]) (g := gName 1) rfl sc_things_of.nd (pi_range1 (by rfl) T.b_range (pa_cons (pe_glob (v := .int 6) (by rfl) g_MOST_THINGS ⟨_, rfl⟩) pa_nil)) (blkOk_by (N := N_things_of) (sc := defScope s_things_of) (by decide +kernel)) (fun _ _ _ _ _ => (pg_name (i := 1) sc_things_of.nd rfl (by first | exact Or.inl rfl | exact Or.inr rfl))) (fun _ _ _ _ _ => pts_one (pt_cmpR op_eq (pe_op op_modN (pe_op op_fdivN (pv 0) (pe_op op_shl pe_int (pv 1))) pe_int) pe_int (nomark _))) (fun _ _ _ _ _ => (pv 1))) pa_nil))) pss_nil),
    (xb_retS (ev_eq (ev_tuple (ev_sub (f := (eQ eI)) (EvN.d (en_lc (p := fun thing_38 => (decide ((Int.fmod (Int.fdiv mask ((1 : Int) * 2 ^ (thing_38).toNat)) (2 : Int)) = (1 : Int)))) (v := fun thing_38 => thing_38) (ei_range1 ev_int (by decide)) eg_name (by decide) (noM_cons rfl noM_nil) (fun thing_38 hx_39 => (et_eq (et_test (ev_eqI (ev_I (ev_I (ev_var (i := 0) rfl) (ev_I ev_int (ev_var (i := 1) rfl) ((okh thing_38 hx_39).1)) ((okh thing_38 hx_39).2)) ev_int (by decide)) ev_int)) rfl)) (fun thing_38 hx_39 hp_42 => (ev_eq (ev_var (i := 1) rfl) rfl)))))) rfl) (.inl rfl) rfl)⟩
/-! ### all_sets -/
abbrev N_all_sets : List Str := ["size", "sets", "mask", "_", "things"]
theorem sc_all_sets : FnScope N_all_sets ["size"] (defScope s_all_sets) := ⟨rfl, rfl, rfl, by decide +kernel, rfl, by decide +kernel, by decide +kernel⟩
def o_all_sets (size : Int) : Out Empty Empty (List (List Int)) :=
  (lt (((rng 0 ((1 : Int) * 2 ^ (size).toNat))).map fun mask_45 => (f_things_of mask_45)) fun sets_49 => (.rt (((srtP ((sets_49).map fun things_51 => (((things_51).length : Int), things_51)))).map fun q_54 => q_54.2)))
@[irreducible] def f_all_sets (size : Int) : (List (List Int)) := (o_all_sets size).get
theorem f_all_sets_eq (size : Int) : f_all_sets size = (o_all_sets size).get := by delta f_all_sets; rfl
def ok_all_sets (size : Int) : Prop :=
  (CPow (1 : Int) size) ∧ (-100000 ≤ ((1 : Int) * 2 ^ (size).toNat) ∧ ((1 : Int) * 2 ^ (size).toNat) ≤ 100000) ∧ (∀ (mask_45 : Int) (hx_46 : mask_45 ∈ (rng 0 ((1 : Int) * 2 ^ (size).toNat))), (ok_things_of mask_45))
section
variable {K : PySem.W.Frag} {cFamily : Addr}
abbrev sp_all_sets : Sp := spF (K := K) (ι := Int) (fun x => [.d eI x]) (fun x => ok_all_sets x) (retL (eT eI)) (fun x => f_all_sets x)
end
set_option maxHeartbeats 4000000 in
theorem at_all_sets {P : Program} {w : World} {K : PySem.W.Frag} {mg : Str → Option Value} {base : Heap} {cFamily : Addr} (T : Txt K mg cFamily) : FnAt P w K mg base "all_sets" 2 ["size"] (sp_all_sets (K := K)) := by
  obtain ⟨f, fd, F, mg_, bd_⟩ := T.d_all_sets
  obtain ⟨⟨a_things_of, d_things_of, G_things_of, m_things_of, k_things_of, b_things_of⟩⟩ := at_things_of (P := P) (w := w) (base := base) T
  refine ⟨⟨f, fd, fn_okG (fun x => f_all_sets_eq x) <| fn_okE (o := fun x : Int => o_all_sets x) (k := 1) F sc_all_sets (fun x => rfl) (fun x i s h => noM_tail (by simp [Slot.isM]) h) (fun cdv A outer s H EX hr size hp => ?_), mg_, F.kp, bd_⟩⟩
  have okh : ok_all_sets size := hp
  exact ⟨_, _, rfl,
    (pss_cons (ps_setLc (i := 1) (own := [("mask", 2)]) (g := gName 2) (tt := tYes) rfl sc_all_sets.nd rfl rfl (sw_true rfl rfl rfl (by decide +kernel)) (pi_range1 (by rfl) T.b_range (pa_cons (pe_op op_shl pe_int (pv 0)) pa_nil)) (blkOk_by (N := N_all_sets) (sc := defScope s_all_sets) (by decide +kernel)) (fun _ _ _ _ _ => (pg_name (i := 2) sc_all_sets.nd rfl (by first | exact Or.inl rfl | exact Or.inr rfl))) (fun _ _ _ _ _ => pts_nil) (fun _ _ _ _ _ => (pe_call G_things_of (hr.mono (by decide)) (by rfl) m_things_of k_things_of b_things_of .nil pass0 (pa_cons (pv 2) pa_nil)))) (pss_cons (ps_ret (pe_lc (own := [("_", 3), ("things", 4)]) (g := (gTup K 2 (gCons (gName 3) (gCons (gName 4) gNil)))) (tt := tYes) rfl sc_all_sets.nd (pi_list (pe_callB (cr_sortLP (room_80 hr)) (by rfl) T.b_sorted (by decide +kernel) (pa_cons (pe_lc (own := [("things", 4)]) (g := gName 4) (tt := tYes) rfl sc_all_sets.nd (pi_list (pv 1)) (blkOk_by (N := N_all_sets) (sc := defScope s_all_sets) (by decide +kernel)) (fun _ _ _ _ _ => (pg_name (i := 4) sc_all_sets.nd rfl (by first | exact Or.inl rfl | exact Or.inr rfl))) (fun _ _ _ _ _ => pts_nil) (fun _ _ _ _ _ => (pe_tup (pa_cons (pe_callB call_len_seq (by rfl) T.b_len (by decide +kernel) (pa_cons (pv 4) pa_nil)) (pa_cons (pv 4) pa_nil))))) pa_nil))) (blkOk_by (N := N_all_sets) (sc := defScope s_all_sets) (by decide +kernel)) (fun _ _ _ _ _ => (pg_tup (by rfl) (pgs_cons (pg_name (i := 3) sc_all_sets.nd rfl (by first | exact Or.inl rfl | exact Or.inr rfl)) (pgs_cons (pg_name (i := 4) sc_all_sets.nd rfl (by first | exact Or.inl rfl | exact Or.inr rfl)) pgs_nil)))) (fun _ _ _ _ _ => pts_nil) (fun _ _ _ _ _ => (pv 4)))) pss_nil)),
    (xb_set (ev_eq (EvN.d (en_lcY (v := fun mask_45 => (f_things_of mask_45)) (ei_range1 (ev_I ev_int (ev_var (i := 0) rfl) (okh.1)) (okh.2.1)) eg_name (by decide) (noM_cons rfl noM_nil) (fun mask_45 hx_46 => (ev_eq (ev_call mask_45 (ea_cons (ev_eq (ev_var (i := 2) rfl) rfl) ea_nil) ((okh.2.2 mask_45 hx_46)) rfl rfl) rfl)))) rfl) rfl (fun sets_49 h_50 => (xb_retSW (EvN.w (en_eq (en_lcY (v := fun q_54 => q_54.2) (ei_list (EvN.d (en_sortLP (EvN.d (en_lcY (v := fun things_51 => (((things_51).length : Int), things_51)) (ei_list (ev_var (i := 1) rfl)) eg_name (by decide) (noM_cons rfl noM_nil) (fun things_51 hx_52 => (ev_eq (ev_pair (ev_lenT (ev_var (i := 4) rfl)) (ev_var (i := 4) rfl)) rfl))))))) eg_pair (by decide) (noM_cons rfl (noM_cons rfl noM_nil)) (fun q_54 hx_55 => (ev_eq (ev_var (i := 4) rfl) rfl))) rfl)) (.inl rfl) rfl rfl)))⟩
/-! ### _is_within -/
abbrev N_is_within : List Str := ["part", "mask", "thing"]
theorem sc_is_within : FnScope N_is_within ["part", "mask"] (defScope s_is_within) := ⟨rfl, rfl, rfl, by decide +kernel, rfl, by decide +kernel, by decide +kernel⟩
def o_is_within (part : Int) (mask : Int) : Out Empty Empty Bool :=
  (.rt (((((f_things_of part)).map fun thing_58 => (decide ((Int.fmod (Int.fdiv mask ((1 : Int) * 2 ^ (thing_58).toNat)) (2 : Int)) = (1 : Int))))).all id))
@[irreducible] def f_is_within (part : Int) (mask : Int) : Bool := (o_is_within part mask).get
theorem f_is_within_eq (part : Int) (mask : Int) : f_is_within part mask = (o_is_within part mask).get := by delta f_is_within; rfl
def ok_is_within (part : Int) (mask : Int) : Prop :=
  (ok_things_of part) ∧ (∀ (thing_58 : Int) (hx_59 : thing_58 ∈ (f_things_of part)), (CPow (1 : Int) thing_58) ∧ (CDivN mask ((1 : Int) * 2 ^ (thing_58).toNat)))
section
variable {K : PySem.W.Frag} {cFamily : Addr}
abbrev sp_is_within : Sp := spF (K := K) (ι := (Int × Int)) (fun x => [.d eI x.1, .d eI x.2]) (fun x => ok_is_within x.1 x.2) (retD eB) (fun x => f_is_within x.1 x.2)
end
set_option maxHeartbeats 4000000 in
theorem at_is_within {P : Program} {w : World} {K : PySem.W.Frag} {mg : Str → Option Value} {base : Heap} {cFamily : Addr} (T : Txt K mg cFamily) : FnAt P w K mg base "_is_within" 2 ["part", "mask"] (sp_is_within (K := K)) := by
  obtain ⟨f, fd, F, mg_, bd_⟩ := T.d_is_within
  obtain ⟨⟨a_things_of, d_things_of, G_things_of, m_things_of, k_things_of, b_things_of⟩⟩ := at_things_of (P := P) (w := w) (base := base) T
  refine ⟨⟨f, fd, fn_okG (fun x => f_is_within_eq x.1 x.2) <| fn_okE (o := fun x : (Int × Int) => o_is_within x.1 x.2) (k := 1) F sc_is_within (fun x => rfl) (fun x i s h => noM_tail (by simp [Slot.isM]) h) (fun cdv A outer s H EX hr x hp => ?_), mg_, F.kp, bd_⟩⟩
  obtain ⟨part, mask⟩ := x
  have okh : ok_is_within part mask := hp
  exact ⟨_, _, rfl,
    (pss_cons (ps_ret (pe_callB (cr_all rfl) (by rfl) T.b_all (by decide +kernel) (pa_cons (pe_lc (own := [("thing", 2)]) (g := gName 2) (tt := tYes) rfl sc_is_within.nd (pi_tup (pe_call G_things_of (hr.mono (by decide)) (by rfl) m_things_of k_things_of b_things_of .nil pass0 (pa_cons (pv 0) pa_nil))) (blkOk_by (N := N_is_within) (sc := defScope s_is_within) (by decide +kernel)) (fun _ _ _ _ _ => (pg_name (i := 2) sc_is_within.nd rfl (by first | exact Or.inl rfl | exact Or.inr rfl))) (fun _ _ _ _ _ => pts_nil) (fun _ _ _ _ _ => (pe_cmpR op_eq (pe_op op_modN (pe_op op_fdivN (pv 1) (pe_op op_shl pe_int (pv 2))) pe_int) pe_int (nomark _)))) pa_nil))) pss_nil),
    (xb_retS (ev_eq (ev_all (EvN.d (en_lcY (v := fun thing_58 => (decide ((Int.fmod (Int.fdiv mask ((1 : Int) * 2 ^ (thing_58).toNat)) (2 : Int)) = (1 : Int)))) (ei_tup (ev_call part (ea_cons (ev_eq (ev_var (i := 0) rfl) rfl) ea_nil) (okh.1) rfl rfl)) eg_name (by decide) (noM_cons rfl noM_nil) (fun thing_58 hx_59 => (ev_eq (ev_eqI (ev_I (ev_I (ev_var (i := 1) rfl) (ev_I ev_int (ev_var (i := 2) rfl) ((okh.2 thing_58 hx_59).1)) ((okh.2 thing_58 hx_59).2)) ev_int (by decide)) ev_int) rfl))))) rfl) (.inl rfl) rfl)⟩
/-! ### Family.__init__ -/
abbrev N_Family_init : List Str := ["self", "size", "sets", "told", "table", "things", "mask", "other"]
theorem sc_Family_init : FnScope N_Family_init ["self", "size", "sets"] (defScope s_Family_init) := ⟨rfl, rfl, rfl, by decide +kernel, rfl, by decide +kernel, by decide +kernel⟩
def o_Family_init (size : Int) (sets : (List (List Int))) : Out Family Empty Family :=
  .nx (lt (f_checked_sets size sets) fun told_65 => (lt ((List.replicate (((1 : Int) * 2 ^ (size).toNat)).toNat [false]).flatten) fun table_69 => (lt (List.foldl (fun (t_71 : (List Bool)) (things_72 : (List Int)) => (lt (List.set t_71 (ixI (t_71).length (f_mask_of things_72)) true) fun table_78 => table_78)) table_69 told_65) fun s_80 => (lt (List.foldl (fun (t_83 : Unit) (things_84 : (List Int)) => (lt (f_mask_of things_84) fun mask_89 => (lt (bif ((!(at_ s_80 mask_89)) && ((decide (mask_89 = (0 : Int))) || ((((told_65).map fun other_94 => (f_is_within mask_89 (f_mask_of other_94)))).any id))) then () else ()) fun z_101 => ()))) () (f_all_sets size)) fun s_103 => (lt size fun size_105 => (lt s_80 fun table_107 => (lt ((((f_all_sets size)).filter fun things_110 => (at_ s_80 (f_mask_of things_110))).map fun things_110 => things_110) fun sets_115 => ({ size := size_105, table := table_107, sets := sets_115 } : Family))))))))
@[irreducible] def f_Family_init (size : Int) (sets : (List (List Int))) : Family := (o_Family_init size sets).val (fun t => t)
theorem f_Family_init_eq (size : Int) (sets : (List (List Int))) : f_Family_init size sets = (o_Family_init size sets).val (fun t => t) := by delta f_Family_init; rfl
def ok_Family_init (size : Int) (sets : (List (List Int))) : Prop :=
  (ok_check_size size) ∧ (ok_checked_sets size sets) ∧ (∀ told_65 (h_66 : told_65 = (f_checked_sets size sets)), (CPow (1 : Int) size) ∧ (0 ≤ ((1 : Int) * 2 ^ (size).toNat) ∧ (([false]).length : Int) * ((1 : Int) * 2 ^ (size).toNat) ≤ 100000 ∧ ((1 : Int) * 2 ^ (size).toNat) ≤ 100000) ∧ (∀ table_69 (h_70 : table_69 = (List.replicate (((1 : Int) * 2 ^ (size).toNat)).toNat [false]).flatten), (∀ (i_73 : Nat) (things_72 : (List Int)) (t_71 : (List Bool)) (hi_74 : (told_65)[i_73]? = some things_72) (ht_75 : t_71 = ((told_65).take i_73).foldl (fun (t_71 : (List Bool)) (things_72 : (List Int)) => (lt (List.set t_71 (ixI (t_71).length (f_mask_of things_72)) true) fun table_78 => table_78)) table_69), (ok_mask_of things_72) ∧ (inIx (t_71).length (f_mask_of things_72))) ∧ (∀ s_80 (h_81 : s_80 = (List.foldl (fun (t_71 : (List Bool)) (things_72 : (List Int)) => (lt (List.set t_71 (ixI (t_71).length (f_mask_of things_72)) true) fun table_78 => table_78)) table_69 told_65)), (ok_all_sets size) ∧ (∀ (i_85 : Nat) (things_84 : (List Int)) (t_83 : Unit) (hi_86 : ((f_all_sets size))[i_85]? = some things_84) (ht_87 : t_83 = (((f_all_sets size)).take i_85).foldl (fun (t_83 : Unit) (things_84 : (List Int)) => (lt (f_mask_of things_84) fun mask_89 => (lt (bif ((!(at_ s_80 mask_89)) && ((decide (mask_89 = (0 : Int))) || ((((told_65).map fun other_94 => (f_is_within mask_89 (f_mask_of other_94)))).any id))) then () else ()) fun z_101 => ()))) ()), (ok_mask_of things_84) ∧ (∀ mask_89 (h_90 : mask_89 = (f_mask_of things_84)), (inIx (s_80).length mask_89) ∧ (∀ (hb_92 : ((!(at_ s_80 mask_89))) = true), (∀ (hb_93 : ((decide (mask_89 = (0 : Int)))) = false), (∀ (other_94 : (List Int)) (hx_95 : other_94 ∈ told_65), (ok_mask_of other_94) ∧ (ok_is_within mask_89 (f_mask_of other_94))))) ∧ (∀ (hc_99 : (((!(at_ s_80 mask_89)) && ((decide (mask_89 = (0 : Int))) || ((((told_65).map fun other_94 => (f_is_within mask_89 (f_mask_of other_94)))).any id)))) = true), (False)))) ∧ (∀ s_103 (h_104 : s_103 = (List.foldl (fun (t_83 : Unit) (things_84 : (List Int)) => (lt (f_mask_of things_84) fun mask_89 => (lt (bif ((!(at_ s_80 mask_89)) && ((decide (mask_89 = (0 : Int))) || ((((told_65).map fun other_94 => (f_is_within mask_89 (f_mask_of other_94)))).any id))) then () else ()) fun z_101 => ()))) () (f_all_sets size))), (∀ size_105 (h_106 : size_105 = size), (∀ table_107 (h_108 : table_107 = s_80), (ok_all_sets size) ∧ (∀ (things_110 : (List Int)) (hx_111 : things_110 ∈ (f_all_sets size)), (ok_mask_of things_110) ∧ (inIx (s_80).length (f_mask_of things_110)))))))))
section
variable {K : PySem.W.Frag} {cFamily : Addr}
abbrev sp_Family_init (cFamily : Addr) : Sp := spF (K := K) (ι := (Int × (List (List Int)))) (fun x => [.i cFamily [], .d eI x.1, .d (eL (eQ eI)) x.2]) (fun x => ok_Family_init x.1 x.2) ((⟨eN, fun _ => (), fun r => some (.i cFamily (insOf flFamily r)), fun _ => none⟩ : Ret K Family)) (fun x => f_Family_init x.1 x.2)
end
set_option maxHeartbeats 4000000 in
theorem at_Family_init {P : Program} {w : World} {K : PySem.W.Frag} {mg : Str → Option Value} {base : Heap} {cFamily : Addr} (T : Txt K mg cFamily) : FiAt P w K mg base "Family" cFamily 4 ["self", "size", "sets"] (sp_Family_init cFamily (K := K)) := by
  obtain ⟨f, fd, F, mk_, mg_, bd_⟩ := T.d_Family_init
  obtain ⟨⟨a_is_within, d_is_within, G_is_within, m_is_within, k_is_within, b_is_within⟩⟩ := at_is_within (P := P) (w := w) (base := base) T
  obtain ⟨⟨a_all_sets, d_all_sets, G_all_sets, m_all_sets, k_all_sets, b_all_sets⟩⟩ := at_all_sets (P := P) (w := w) (base := base) T
  obtain ⟨⟨a_check_size, d_check_size, G_check_size, m_check_size, k_check_size, b_check_size⟩⟩ := at_check_size (P := P) (w := w) (base := base) T
  obtain ⟨⟨a_checked_sets, d_checked_sets, G_checked_sets, m_checked_sets, k_checked_sets, b_checked_sets⟩⟩ := at_checked_sets (P := P) (w := w) (base := base) T
  obtain ⟨⟨a_mask_of, d_mask_of, G_mask_of, m_mask_of, k_mask_of, b_mask_of⟩⟩ := at_mask_of (P := P) (w := w) (base := base) T
  refine ⟨⟨f, fd, fn_okG (fun x => f_Family_init_eq x.1 x.2) <| fn_ok (ν := Family) (γ := Family) (fl := fun _ t => t) (o := fun x : (Int × (List (List Int))) => o_Family_init x.1 x.2) (E := fun (x : (Int × (List (List Int)))) t => .i cFamily (insOf flFamily t) :: List.replicate 7 .un) (k := 3) F sc_Family_init (fun x => rfl) (fun x i s h => noM_tail (by simp [Slot.isM]) h) (fun x t => ⟨fun _ => rfl, rfl, fun s h => h⟩) (fun cdv A outer s H EX hr x hp => ?_), mk_, mg_, bd_⟩⟩
  obtain ⟨size, sets⟩ := x
  have okh : ok_Family_init size sets := hp
  exact ⟨_, _, rfl,
    (pss_cons (ps_expr (pe_call G_check_size (hr.mono (by decide)) (by rfl) m_check_size k_check_size b_check_size .nil pass0 (pa_cons (pv 1) pa_nil))) (pss_cons (ps_set (i := 3) sc_Family_init.nd rfl (by first | exact Or.inl rfl | exact Or.inr rfl) (pe_call G_checked_sets (hr.mono (by decide)) (by rfl) m_checked_sets k_checked_sets b_checked_sets .nil pass0 (pa_cons (pv 1) (pa_cons (pv 2) pa_nil)))) (pss_cons (ps_set (i := 4) sc_Family_init.nd rfl (by first | exact Or.inl rfl | exact Or.inr rfl) (pe_op op_rep (pe_lst (pa_cons pe_bl pa_nil)) (pe_op op_shl pe_int (pv 1)))) (pss_cons (ps_for PassesOwn.never rfl (pi_list (pv 3)) (pg_name (i := 5) sc_Family_init.nd rfl (by first | exact Or.inl rfl | exact Or.inr rfl)) (pss_cons (ps_asg pe_bl (pg_sub (pv 4) (pe_call G_mask_of (hr.mono (by decide)) (by rfl) m_mask_of k_mask_of b_mask_of .nil pass0 (pa_cons (pv 5) pa_nil)) set_list)) pss_nil)) (pss_cons (ps_for PassesOwn.never rfl (pi_list (pe_call G_all_sets (hr.mono (by decide)) (by rfl) m_all_sets k_all_sets b_all_sets .nil pass0 (pa_cons (pv 1) pa_nil))) (pg_name (i := 5) sc_Family_init.nd rfl (by first | exact Or.inl rfl | exact Or.inr rfl)) (pss_cons (ps_set (i := 6) sc_Family_init.nd rfl (by first | exact Or.inl rfl | exact Or.inr rfl) (pe_call G_mask_of (hr.mono (by decide)) (by rfl) m_mask_of k_mask_of b_mask_of .nil pass0 (pa_cons (pv 5) pa_nil))) (pss_cons (ps_if (PW.pt (pw_and (pt_not (pt_val (pe_ix ix_list (pv 4) (pv 6) (fun _ _ => rfl)))) (pw_and1 (PW.pt (pw_or (pt_cmpR op_eq (pv 6) pe_int (nomark _)) (pw_or1 (pt_val (pe_callB (cr_any rfl) (by rfl) T.b_any (by decide +kernel) (pa_cons (pe_lc (own := [("other", 7)]) (g := gName 7) (tt := tYes) rfl sc_Family_init.nd (pi_list (pv 3)) (blkOk_by (N := N_Family_init) (sc := defScope s_Family_init) (by decide +kernel)) (fun _ _ _ _ _ => (pg_name (i := 7) sc_Family_init.nd rfl (by first | exact Or.inl rfl | exact Or.inr rfl))) (fun _ _ _ _ _ => pts_nil) (fun _ _ _ _ _ => (pe_call G_is_within (hr.mono (by decide)) (by rfl) m_is_within k_is_within b_is_within .nil pass0 (pa_cons (pv 6) (pa_cons (pe_call G_mask_of (hr.mono (by decide)) (by rfl) m_mask_of k_mask_of b_mask_of .nil pass0 (pa_cons (pv 7) pa_nil)) pa_nil))))) pa_nil))))))))) (pss_cons ps_never pss_nil) pss_nil) pss_nil))) (pss_cons (ps_fld (pv 0) (pv 1) rfl) (pss_cons (ps_fld (pv 0) (pe_callTy call_tuple_of (by rfl) T.b_tuple (by decide +kernel) (pa_cons (pv 4) pa_nil)) rfl) (pss_cons (ps_fld (pv 0) (pe_callTy call_tuple_of (by rfl) T.b_tuple (by decide +kernel) (pa_cons (pe_lc (own := [("things", 5)]) (g := gName 5) rfl sc_Family_init.nd (pi_list (pe_call G_all_sets (hr.mono (by decide)) (by rfl) m_all_sets k_all_sets b_all_sets .nil pass0 (pa_cons (pv 1) pa_nil))) (blkOk_by (N := N_Family_init) (sc := defScope s_Family_init) (by decide +kernel)) (fun _ _ _ _ _ => (pg_name (i := 5) sc_Family_init.nd rfl (by first | exact Or.inl rfl | exact Or.inr rfl))) (fun _ _ _ _ _ => pts_one (pt_val (pe_ix ix_list (pv 4) (pe_call G_mask_of (hr.mono (by decide)) (by rfl) m_mask_of k_mask_of b_mask_of .nil pass0 (pa_cons (pv 5) pa_nil)) (fun _ _ => rfl)))) (fun _ _ _ _ _ => (pv 5))) pa_nil)) rfl) pss_nil)))))))),
    xb_lastV (E := fun t => .i cFamily (insOf flFamily t) :: List.replicate 7 .un) (xv_drop (ev_call size (ea_cons (ev_eq (ev_var (i := 1) rfl) rfl) ea_nil) (okh.1) rfl rfl) (xv_set (ev_eq (EvN.d (EvW.n (ev_callW (size, sets) (ea_cons (ev_eq (ev_var (i := 1) rfl) rfl) (ea_cons (ev_eq (ev_var (i := 2) rfl) rfl) ea_nil)) (okh.2.1) rfl rfl))) rfl) rfl (fun told_65 h_66 => (xv_own (en_eq (en_rep (en_lst (eas_cons ev_bl eas_nil) (by show 1 ≤ 100000; decide)) (ev_I ev_int (ev_var (i := 1) rfl) ((okh.2.2 told_65 h_66).1)) ((okh.2.2 told_65 h_66).2.1)) rfl) rfl (fun table_69 h_70 => (xv_for (fun t_71 : (List Bool) => [.i cFamily [], .d eI size, .d (eL (eQ eI)) sets, .d (eL (eT eI)) told_65, .l eB t_71, .un, .un, .un]) table_69 (h := (fun (t_71 : (List Bool)) (things_72 : (List Int)) => (lt (List.set t_71 (ixI (t_71).length (f_mask_of things_72)) true) fun table_78 => table_78))) (ei_list (ev_var (i := 3) rfl)) (wk_S (wk_s (wk_s (wk_s (wk_s (wk_s (wk_s (wk_s wk_n)))))))) eg_name (fun _ => (noM_cons rfl noM_nil)) (fun i_73 things_72 t_71 hi_74 ht_75 => (xv_setI (ev_eq ev_bl rfl) (ev_eq (ev_call things_72 (ea_cons (ev_eq (ev_var (i := 5) rfl) rfl) ea_nil) ((((okh.2.2 told_65 h_66).2.2 table_69 h_70).1 i_73 things_72 t_71 hi_74 ht_75).1) rfl rfl) rfl) rfl rfl ((((okh.2.2 told_65 h_66).2.2 table_69 h_70).1 i_73 things_72 t_71 hi_74 ht_75).2) (fun table_78 h_79 => (xv_end (by exact (wk_S (wk_s (wk_s (wk_s (wk_s (wk_u (wk_s (wk_s wk_n))))))))))))) (fun s_80 h_81 => (xv_for (fun t_83 : Unit => [.i cFamily [], .d eI size, .d (eL (eQ eI)) sets, .d (eL (eT eI)) told_65, .l eB s_80, .un, .un, .un]) () (h := (fun (t_83 : Unit) (things_84 : (List Int)) => (lt (f_mask_of things_84) fun mask_89 => (lt (bif ((!(at_ s_80 mask_89)) && ((decide (mask_89 = (0 : Int))) || ((((told_65).map fun other_94 => (f_is_within mask_89 (f_mask_of other_94)))).any id))) then () else ()) fun z_101 => ())))) (ei_list (EvN.d (EvW.n (ev_callW size (ea_cons (ev_eq (ev_var (i := 1) rfl) rfl) ea_nil) ((((okh.2.2 told_65 h_66).2.2 table_69 h_70).2 s_80 h_81).1) rfl rfl)))) (wk_S (wk_s (wk_s (wk_s (wk_s (wk_s (wk_s (wk_s wk_n)))))))) eg_name (fun _ => (noM_cons rfl noM_nil)) (fun i_85 things_84 t_83 hi_86 ht_87 => (xv_set (ev_eq (ev_call things_84 (ea_cons (ev_eq (ev_var (i := 5) rfl) rfl) ea_nil) (((((okh.2.2 told_65 h_66).2.2 table_69 h_70).2 s_80 h_81).2.1 i_85 things_84 t_83 hi_86 ht_87).1) rfl rfl) rfl) rfl (fun mask_89 h_90 => (xv_if (fun t : Unit => [.i cFamily [], .d eI size, .d (eL (eQ eI)) sets, .d (eL (eT eI)) told_65, .l eB s_80, .d (eT eI) things_84, .d eI mask_89, .un]) (et_eq (et_borrow (et_and (et_not (et_B (ev_ixL (ev_var (i := 4) rfl) (ev_var (i := 6) rfl) ((((((okh.2.2 told_65 h_66).2.2 table_69 h_70).2 s_80 h_81).2.1 i_85 things_84 t_83 hi_86 ht_87).2 mask_89 h_90).1)))) (fun hb_92 => (et_or (et_test (ev_eqI (ev_var (i := 6) rfl) ev_int)) (fun hb_93 => (et_B (ev_any (EvN.d (en_lcY (v := fun other_94 => (f_is_within mask_89 (f_mask_of other_94))) (ei_list (ev_var (i := 3) rfl)) eg_name (by decide) (noM_cons rfl noM_nil) (fun other_94 hx_95 => (ev_eq (ev_call (mask_89, (f_mask_of other_94)) (ea_cons (ev_eq (ev_var (i := 6) rfl) rfl) (ea_cons (ev_eq (ev_call other_94 (ea_cons (ev_eq (ev_var (i := 7) rfl) rfl) ea_nil) (((((((((okh.2.2 told_65 h_66).2.2 table_69 h_70).2 s_80 h_81).2.1 i_85 things_84 t_83 hi_86 ht_87).2 mask_89 h_90).2.1 hb_92) hb_93) other_94 hx_95).1) rfl rfl) rfl) ea_nil)) (((((((((okh.2.2 told_65 h_66).2.2 table_69 h_70).2 s_80 h_81).2.1 i_85 things_84 t_83 hi_86 ht_87).2 mask_89 h_90).2.1 hb_92) hb_93) other_94 hx_95).2) rfl rfl) rfl))))))))))) rfl) (fun hc_99 => (xv_never (((((((okh.2.2 told_65 h_66).2.2 table_69 h_70).2 s_80 h_81).2.1 i_85 things_84 t_83 hi_86 ht_87).2 mask_89 h_90).2.2 hc_99)))) (fun hc_99 => (xv_end (by exact (wk_S (wk_s (wk_s (wk_s (wk_s (wk_s (wk_s (wk_s wk_n))))))))))) (fun z_101 h_102 => (xv_end (by exact (wk_S (wk_s (wk_s (wk_s (wk_s (wk_u (wk_u (wk_s wk_n))))))))))))))) (fun s_103 h_104 => (xv_fld (fs := []) (ev_eq (ev_var (i := 1) rfl) rfl) rfl (by show ("size" : Str) ∉ ([] : List Str); decide +kernel) (by show 0 < 100; decide) T.cl_Family T.na_Family_size (fun size_105 h_106 => (xv_fld (fs := [("size", ⟨eI, size_105⟩)]) (ev_eq (ev_tupleM (j := 4) rfl) rfl) rfl (by show ("table" : Str) ∉ (["size"] : List Str); decide +kernel) (by show 1 < 100; decide) T.cl_Family T.na_Family_table (fun table_107 h_108 => (xv_fld (fs := [("size", ⟨eI, size_105⟩), ("table", ⟨(eT eB), table_107⟩)]) (ev_eq (ev_tuple (ev_sub (f := (eQ (eT eI))) (EvN.d (en_lc (p := fun things_110 => (at_ s_80 (f_mask_of things_110))) (v := fun things_110 => things_110) (ei_list (EvN.d (EvW.n (ev_callW size (ea_cons (ev_eq (ev_var (i := 1) rfl) rfl) ea_nil) (((((((okh.2.2 told_65 h_66).2.2 table_69 h_70).2 s_80 h_81).2.2 s_103 h_104) size_105 h_106) table_107 h_108).1) rfl rfl)))) eg_name (by decide) (noM_cons rfl noM_nil) (fun things_110 hx_111 => (et_eq (et_borrow (et_B (ev_ixL (ev_var (i := 4) rfl) (ev_call things_110 (ea_cons (ev_eq (ev_var (i := 5) rfl) rfl) ea_nil) ((((((((okh.2.2 told_65 h_66).2.2 table_69 h_70).2 s_80 h_81).2.2 s_103 h_104) size_105 h_106) table_107 h_108).2 things_110 hx_111).1) rfl rfl) ((((((((okh.2.2 told_65 h_66).2.2 table_69 h_70).2 s_80 h_81).2.2 s_103 h_104) size_105 h_106) table_107 h_108).2 things_110 hx_111).2)))) rfl)) (fun things_110 hx_111 hp_114 => (ev_eq (ev_var (i := 5) rfl) rfl)))))) rfl) rfl (by show ("sets" : Str) ∉ (["size", "table"] : List Str); decide +kernel) (by show 2 < 100; decide) T.cl_Family T.na_Family_sets (fun sets_115 h_116 => (xv_end (by exact (wk_S (wk_u (wk_u (wk_u (wk_u (wk_u (wk_u (wk_u wk_n)))))))))))))))))))))))))⟩
/-! ### Family.addable -/
abbrev N_Family_addable : List Str := ["self", "taken", "mask", "found", "thing"]
theorem sc_Family_addable : FnScope N_Family_addable ["self", "taken"] (defScope s_Family_addable) := ⟨rfl, rfl, rfl, by decide +kernel, rfl, by decide +kernel, by decide +kernel⟩
def o_Family_addable (self : Family) (taken : (List Int)) : Out Empty Empty (List Int) :=
  (lt (f_mask_of taken) fun mask_118 => (lt ([] : List Int) fun found_120 => (lt (List.foldl (fun (t_123 : (List Int)) (thing_124 : Int) => (lt (bif ((decide ((Int.fmod (Int.fdiv mask_118 ((1 : Int) * 2 ^ (thing_124).toNat)) (2 : Int)) = (0 : Int))) && (at_ self.table (mask_118 + ((1 : Int) * 2 ^ (thing_124).toNat)))) then (lt (t_123 ++ [thing_124]) fun found_135 => found_135) else t_123) fun z_137 => z_137)) found_120 (rng 0 self.size)) fun s_139 => (.rt s_139))))
@[irreducible] def f_Family_addable (self : Family) (taken : (List Int)) : (List Int) := (o_Family_addable self taken).get
theorem f_Family_addable_eq (self : Family) (taken : (List Int)) : f_Family_addable self taken = (o_Family_addable self taken).get := by delta f_Family_addable; rfl
def ok_Family_addable (self : Family) (taken : (List Int)) : Prop :=
  (ok_mask_of taken) ∧ (∀ mask_118 (h_119 : mask_118 = (f_mask_of taken)), (∀ found_120 (h_121 : found_120 = ([] : List Int)), (-100000 ≤ self.size ∧ self.size ≤ 100000) ∧ (∀ (i_125 : Nat) (thing_124 : Int) (t_123 : (List Int)) (hi_126 : ((rng 0 self.size))[i_125]? = some thing_124) (ht_127 : t_123 = (((rng 0 self.size)).take i_125).foldl (fun (t_123 : (List Int)) (thing_124 : Int) => (lt (bif ((decide ((Int.fmod (Int.fdiv mask_118 ((1 : Int) * 2 ^ (thing_124).toNat)) (2 : Int)) = (0 : Int))) && (at_ self.table (mask_118 + ((1 : Int) * 2 ^ (thing_124).toNat)))) then (lt (t_123 ++ [thing_124]) fun found_135 => found_135) else t_123) fun z_137 => z_137)) found_120), (CPow (1 : Int) thing_124) ∧ (CDivN mask_118 ((1 : Int) * 2 ^ (thing_124).toNat)) ∧ (∀ (hb_130 : ((decide ((Int.fmod (Int.fdiv mask_118 ((1 : Int) * 2 ^ (thing_124).toNat)) (2 : Int)) = (0 : Int)))) = true), (CPow (1 : Int) thing_124) ∧ (inIx (self.table).length (mask_118 + ((1 : Int) * 2 ^ (thing_124).toNat)))) ∧ (∀ (hc_133 : (((decide ((Int.fmod (Int.fdiv mask_118 ((1 : Int) * 2 ^ (thing_124).toNat)) (2 : Int)) = (0 : Int))) && (at_ self.table (mask_118 + ((1 : Int) * 2 ^ (thing_124).toNat))))) = true), ((t_123).length < 100000)))))
section
variable {K : PySem.W.Frag} {cFamily : Addr}
abbrev sp_Family_addable (cFamily : Addr) : Sp := spF (K := K) (ι := (Family × (List Int))) (fun x => [.d (eFamily cFamily) x.1, .d (eT eI) x.2]) (fun x => ok_Family_addable x.1 x.2) (retD (eT eI)) (fun x => f_Family_addable x.1 x.2)
end
set_option maxHeartbeats 4000000 in
theorem at_Family_addable {P : Program} {w : World} {K : PySem.W.Frag} {mg : Str → Option Value} {base : Heap} {cFamily : Addr} (T : Txt K mg cFamily) : FmAt P w K mg base cFamily "addable" 2 ["self", "taken"] (sp_Family_addable cFamily (K := K)) := by
  obtain ⟨f, fd, F, mt_, bd_⟩ := T.d_Family_addable
  obtain ⟨⟨a_mask_of, d_mask_of, G_mask_of, m_mask_of, k_mask_of, b_mask_of⟩⟩ := at_mask_of (P := P) (w := w) (base := base) T
  refine ⟨⟨f, fd, fn_okG (fun x => f_Family_addable_eq x.1 x.2) <| fn_okE (o := fun x : (Family × (List Int)) => o_Family_addable x.1 x.2) (k := 1) F sc_Family_addable (fun x => rfl) (fun x i s h => noM_tail (by simp [Slot.isM]) h) (fun cdv A outer s H EX hr x hp => ?_), mt_, bd_⟩⟩
  obtain ⟨self, taken⟩ := x
  have okh : ok_Family_addable self taken := hp
  exact ⟨_, _, rfl,
    (pss_cons (ps_set (i := 2) sc_Family_addable.nd rfl (by first | exact Or.inl rfl | exact Or.inr rfl) (pe_call G_mask_of (hr.mono (by decide)) (by rfl) m_mask_of k_mask_of b_mask_of .nil pass0 (pa_cons (pv 1) pa_nil))) (pss_cons (ps_set (i := 3) sc_Family_addable.nd rfl (by first | exact Or.inl rfl | exact Or.inr rfl) (pe_lst pa_nil)) (pss_cons (ps_for PassesOwn.never rfl (pi_range1 (by rfl) T.b_range (pa_cons (pe_fld (pv 0) rfl) pa_nil)) (pg_name (i := 4) sc_Family_addable.nd rfl (by first | exact Or.inl rfl | exact Or.inr rfl)) (pss_cons (ps_if (PW.pt (pw_and (pt_cmpR op_eq (pe_op op_modN (pe_op op_fdivN (pv 2) (pe_op op_shl pe_int (pv 4))) pe_int) pe_int (nomark _)) (pw_and1 (pt_val (pe_ix ix_tup (pe_fld (pv 0) rfl) (pe_op op_add (pv 2) (pe_op op_shl pe_int (pv 4))) (fun _ _ => rfl)))))) (pss_cons (ps_expr (pe_bm PySem.F.plainAttrs_list PySem.F.slot_list_append PySem.F.type_list_append mt_append (pv 3) (pa_cons (pv 4) pa_nil))) pss_nil) pss_nil) pss_nil)) (pss_cons (ps_ret (pe_callTy call_tuple_of (by rfl) T.b_tuple (by decide +kernel) (pa_cons (pv 3) pa_nil))) pss_nil)))),
    (xb_set (ev_eq (ev_call taken (ea_cons (ev_eq (ev_var (i := 1) rfl) rfl) ea_nil) (okh.1) rfl rfl) rfl) rfl (fun mask_118 h_119 => (xb_own (en_eq (en_lst (eas_nil (e := eI)) (by show 0 ≤ 100000; decide)) rfl) rfl (fun found_120 h_121 => (xb_fold (fun t_123 : (List Int) => [.d (eFamily cFamily) self, .d (eT eI) taken, .d eI mask_118, .l eI t_123, .un]) found_120 (h := (fun (t_123 : (List Int)) (thing_124 : Int) => (lt (bif ((decide ((Int.fmod (Int.fdiv mask_118 ((1 : Int) * 2 ^ (thing_124).toNat)) (2 : Int)) = (0 : Int))) && (at_ self.table (mask_118 + ((1 : Int) * 2 ^ (thing_124).toNat)))) then (lt (t_123 ++ [thing_124]) fun found_135 => found_135) else t_123) fun z_137 => z_137))) (ei_range1 (ev_fld (F := ⟨eI, Family.size⟩) (ev_var (i := 0) rfl) 0 rfl flFamily_nd T.cl_Family T.na_Family_size) (((okh.2 mask_118 h_119) found_120 h_121).1)) (wk_S (wk_s (wk_s (wk_s (wk_s wk_n))))) eg_name (fun _ => (noM_cons rfl noM_nil)) (fun i_125 thing_124 t_123 hi_126 ht_127 => (xv_if (fun t : (List Int) => [.d (eFamily cFamily) self, .d (eT eI) taken, .d eI mask_118, .l eI t, .d eI thing_124]) (et_eq (et_and (et_test (ev_eqI (ev_I (ev_I (ev_var (i := 2) rfl) (ev_I ev_int (ev_var (i := 4) rfl) ((((okh.2 mask_118 h_119) found_120 h_121).2 i_125 thing_124 t_123 hi_126 ht_127).1)) ((((okh.2 mask_118 h_119) found_120 h_121).2 i_125 thing_124 t_123 hi_126 ht_127).2.1)) ev_int (by decide)) ev_int)) (fun hb_130 => (et_B (ev_ixT (ev_fld (F := ⟨(eT eB), Family.table⟩) (ev_var (i := 0) rfl) 1 rfl flFamily_nd T.cl_Family T.na_Family_table) (ev_I0 (ev_var (i := 2) rfl) (ev_I ev_int (ev_var (i := 4) rfl) (((((okh.2 mask_118 h_119) found_120 h_121).2 i_125 thing_124 t_123 hi_126 ht_127).2.2.1 hb_130).1))) (((((okh.2 mask_118 h_119) found_120 h_121).2 i_125 thing_124 t_123 hi_126 ht_127).2.2.1 hb_130).2))))) rfl) (fun hc_133 => (xv_app rfl (ev_eq (ev_var (i := 4) rfl) rfl) rfl (((((okh.2 mask_118 h_119) found_120 h_121).2 i_125 thing_124 t_123 hi_126 ht_127).2.2.2 hc_133)) (fun found_135 h_136 => (xv_end (by exact (wk_S (wk_s (wk_s (wk_s (wk_s wk_n)))))))))) (fun hc_133 => (xv_end (by exact (wk_S (wk_s (wk_s (wk_s (wk_s wk_n)))))))) (fun z_137 h_138 => (xv_end (by exact (wk_S (wk_s (wk_s (wk_s (wk_u wk_n)))))))))) (fun s_139 h_140 => (xb_retS (ev_eq (ev_tupleM (j := 3) rfl) rfl) (.inl rfl) rfl)))))))⟩
/-! ### exchange_fault -/
abbrev N_exchange_fault : List Str := ["family", "smaller", "addable", "larger", "thing"]
theorem sc_exchange_fault : FnScope N_exchange_fault ["family"] (defScope s_exchange_fault) := ⟨rfl, rfl, rfl, by decide +kernel, rfl, by decide +kernel, by decide +kernel⟩
def o_exchange_fault (family : Family) : Out Empty Empty (Option ((List Int) × (List Int))) :=
  (((FL.run (fun (t_141 : Unit) (smaller_142 : (List Int)) => ((lt (f_Family_addable family smaller_142) fun addable_147 => (((FL.run (fun (t_149 : Unit) (larger_150 : (List Int)) => ((bif ((decide (((smaller_142).length : Int) < ((larger_150).length : Int))) && (!((((larger_150).map fun thing_155 => (decide (thing_155 ∈ addable_147)))).any id))) then (.rt (some (smaller_142, larger_150))) else (.nx ())) : Out Unit Unit (Option ((List Int) × (List Int))))) () family.sets).done : Out Unit Unit (Option ((List Int) × (List Int)))).bind fun s_159 => (.nx ()))) : Out Unit Unit (Option ((List Int) × (List Int))))) () family.sets).done : Out Unit Empty (Option ((List Int) × (List Int)))).bind fun s_161 => (.rt (none : (Option ((List Int) × (List Int))))))
@[irreducible] def f_exchange_fault (family : Family) : (Option ((List Int) × (List Int))) := (o_exchange_fault family).get
theorem f_exchange_fault_eq (family : Family) : f_exchange_fault family = (o_exchange_fault family).get := by delta f_exchange_fault; rfl
def ok_exchange_fault (family : Family) : Prop :=
  (∀ (i_143 : Nat) (smaller_142 : (List Int)) (t_141 : Unit) (hi_144 : (family.sets)[i_143]? = some smaller_142) (ht_145 : FL.run (fun (t_141 : Unit) (smaller_142 : (List Int)) => ((lt (f_Family_addable family smaller_142) fun addable_147 => (((FL.run (fun (t_149 : Unit) (larger_150 : (List Int)) => ((bif ((decide (((smaller_142).length : Int) < ((larger_150).length : Int))) && (!((((larger_150).map fun thing_155 => (decide (thing_155 ∈ addable_147)))).any id))) then (.rt (some (smaller_142, larger_150))) else (.nx ())) : Out Unit Unit (Option ((List Int) × (List Int))))) () family.sets).done : Out Unit Unit (Option ((List Int) × (List Int)))).bind fun s_159 => (.nx ()))) : Out Unit Unit (Option ((List Int) × (List Int))))) () ((family.sets).take i_143) = .nx t_141), (ok_Family_addable family smaller_142))
section
variable {K : PySem.W.Frag} {cFamily : Addr}
abbrev sp_exchange_fault (cFamily : Addr) : Sp := spF (K := K) (ι := Family) (fun x => [.d (eFamily cFamily) x]) (fun x => ok_exchange_fault x) (retD (eO (eP (eT eI) (eT eI)))) (fun x => f_exchange_fault x)
end
set_option maxHeartbeats 4000000 in
theorem at_exchange_fault {P : Program} {w : World} {K : PySem.W.Frag} {mg : Str → Option Value} {base : Heap} {cFamily : Addr} (T : Txt K mg cFamily) : FnAtK P w K mg base "exchange_fault" 3 ["family"] (sp_exchange_fault cFamily (K := K)) := by
  obtain ⟨f, fd, F, mg_, bd_, kb_⟩ := T.d_exchange_fault
  obtain ⟨⟨a_Family_addable, d_Family_addable, G_Family_addable, mt_Family_addable, b_Family_addable⟩⟩ := at_Family_addable (P := P) (w := w) (base := base) T
  refine ⟨⟨f, fd, fn_okG (fun x => f_exchange_fault_eq x) <| fn_okE (o := fun x : Family => o_exchange_fault x) (k := 2) F sc_exchange_fault (fun x => rfl) (fun x i s h => noM_tail (by simp [Slot.isM]) h) (fun cdv A outer s H EX hr family hp => ?_), mg_, F.kp, bd_, kb_⟩⟩
  have okh : ok_exchange_fault family := hp
  exact ⟨_, _, rfl,
    (pss_cons (ps_for PassesOwn.never rfl (pi_tup (pe_fld (pv 0) rfl)) (pg_name (i := 1) sc_exchange_fault.nd rfl (by first | exact Or.inl rfl | exact Or.inr rfl)) (pss_cons (ps_set (i := 2) sc_exchange_fault.nd rfl (by first | exact Or.inl rfl | exact Or.inr rfl) (pe_meth (pv 0) T.cl_Family mt_Family_addable G_Family_addable (hr.mono (by decide)) b_Family_addable .nil pass0 (pa_cons (pv 1) pa_nil))) (pss_cons (ps_for PassesOwn.never rfl (pi_tup (pe_fld (pv 0) rfl)) (pg_name (i := 3) sc_exchange_fault.nd rfl (by first | exact Or.inl rfl | exact Or.inr rfl)) (pss_cons (ps_if (PW.pt (pw_and (pt_cmpR op_gt (pe_callB call_len_seq (by rfl) T.b_len (by decide +kernel) (pa_cons (pv 3) pa_nil)) (pe_callB call_len_seq (by rfl) T.b_len (by decide +kernel) (pa_cons (pv 1) pa_nil)) (nomark _)) (pw_and1 (pt_not (pt_val (pe_callB (cr_any rfl) (by rfl) T.b_any (by decide +kernel) (pa_cons (pe_lc (own := [("thing", 4)]) (g := gName 4) (tt := tYes) rfl sc_exchange_fault.nd (pi_tup (pv 3)) (blkOk_by (N := N_exchange_fault) (sc := defScope s_exchange_fault) (by decide +kernel)) (fun _ _ _ _ _ => (pg_name (i := 4) sc_exchange_fault.nd rfl (by first | exact Or.inl rfl | exact Or.inr rfl))) (fun _ _ _ _ _ => pts_nil) (fun _ _ _ _ _ => (pe_cmpR op_in_seq (pv 4) (pv 2) rfl))) pa_nil))))))) (pss_cons (ps_ret (pe_tup (pa_cons (pv 1) (pa_cons (pv 3) pa_nil)))) pss_nil) pss_nil) pss_nil)) pss_nil))) (pss_cons (ps_ret pe_non) pss_nil)),
    (xb_loop (fun t_141 : Unit => [.d (eFamily cFamily) family, .un, .un, .un, .un]) () (h := (fun (t_141 : Unit) (smaller_142 : (List Int)) => ((lt (f_Family_addable family smaller_142) fun addable_147 => (((FL.run (fun (t_149 : Unit) (larger_150 : (List Int)) => ((bif ((decide (((smaller_142).length : Int) < ((larger_150).length : Int))) && (!((((larger_150).map fun thing_155 => (decide (thing_155 ∈ addable_147)))).any id))) then (.rt (some (smaller_142, larger_150))) else (.nx ())) : Out Unit Unit (Option ((List Int) × (List Int))))) () family.sets).done : Out Unit Unit (Option ((List Int) × (List Int)))).bind fun s_159 => (.nx ()))) : Out Unit Unit (Option ((List Int) × (List Int)))))) (ei_tup (ev_fld (F := ⟨(eT (eT eI)), Family.sets⟩) (ev_var (i := 0) rfl) 2 rfl flFamily_nd T.cl_Family T.na_Family_sets)) (wk_S (wk_s (wk_s (wk_s (wk_s wk_n))))) eg_name (fun _ => (noM_cons rfl noM_nil)) (fun i_143 smaller_142 t_141 hi_144 ht_145 => (xb_set (ev_eq (ev_meth (family, smaller_142) (ev_var (i := 0) rfl) (by show ("addable" : Str) ∉ (["size", "table", "sets"] : List Str); decide +kernel) (ea_cons (ev_eq (ev_var (i := 1) rfl) rfl) ea_nil) rfl ((okh i_143 smaller_142 t_141 hi_144 ht_145)) rfl) rfl) rfl (fun addable_147 h_148 => (xb_loop (fun t_149 : Unit => [.d (eFamily cFamily) family, .d (eT eI) smaller_142, .d (eT eI) addable_147, .un, .un]) () (h := (fun (t_149 : Unit) (larger_150 : (List Int)) => ((bif ((decide (((smaller_142).length : Int) < ((larger_150).length : Int))) && (!((((larger_150).map fun thing_155 => (decide (thing_155 ∈ addable_147)))).any id))) then (.rt (some (smaller_142, larger_150))) else (.nx ())) : Out Unit Unit (Option ((List Int) × (List Int)))))) (ei_tup (ev_fld (F := ⟨(eT (eT eI)), Family.sets⟩) (ev_var (i := 0) rfl) 2 rfl flFamily_nd T.cl_Family T.na_Family_sets)) (wk_S (wk_s (wk_s (wk_s (wk_s wk_n))))) eg_name (fun _ => (noM_cons rfl noM_nil)) (fun i_151 larger_150 t_149 hi_152 ht_153 => (xb_ifR (et_eq (et_and (et_test (ev_IB (ev_lenT (ev_var (i := 3) rfl)) (ev_lenT (ev_var (i := 1) rfl)))) (fun hb_154 => (et_not (et_B (ev_any (EvN.d (en_lcY (v := fun thing_155 => (decide (thing_155 ∈ addable_147))) (ei_tup (ev_var (i := 3) rfl)) eg_name (by decide) (noM_cons rfl noM_nil) (fun thing_155 hx_156 => (ev_eq (ev_in (neg := false) (ev_var (i := 4) rfl) (ev_sub (f := (eQ eI)) (ev_var (i := 2) rfl))) rfl))))))))) rfl) (fun hc_158 => (xb_retS (ev_eq (ev_some (ev_pair (ev_var (i := 1) rfl) (ev_var (i := 3) rfl))) rfl) (.inl rfl) rfl)) (fun hc_158 => (xb_nil (by exact (wk_S (wk_s (wk_s (wk_u (wk_s wk_n)))))))))) (fun s_159 hs_160 => (xb_nil (by exact (wk_S (wk_u (wk_u (wk_s (wk_s wk_n)))))))))))) (fun s_161 hs_162 => (xb_retS (ev_eq (ev_none (e := (eP (eT eI) (eT eI)))) rfl) (.inl rfl) rfl)))⟩
/-! ### _law_draw -/
abbrev N_law_draw : List Str := ["box", "limit", "cells", "k", "cell", "mixed", "digit"]
theorem sc_law_draw : FnScope N_law_draw ["box", "limit"] (defScope s_law_draw) := ⟨rfl, rfl, rfl, by decide +kernel, rfl, by decide +kernel, by decide +kernel⟩
def o_law_draw (box : BoxD) (limit : Int) : Out Empty Empty (Int × BoxD) :=
  (lt box.cells fun cells_163 => (lt ({ box with a := (box.a + (1 : Int)) } : BoxD) fun bx_165 => (((FL.run (fun (t_168 : BoxD) (k_169 : Int) => (((bif ((decide (t_168.b = (0 : Int))) && (decide (t_168.c < ((cells_163).length : Int)))) then (lt (bif (decide (((10 : Int) ^ ((18 : Int)).toNat) ≤ (if (at_ cells_163 t_168.c) < 0 then -(at_ cells_163 t_168.c) else (at_ cells_163 t_168.c)))) then (lt ({ t_168 with b := (if (at_ cells_163 t_168.c) < 0 then -(at_ cells_163 t_168.c) else (at_ cells_163 t_168.c)) } : BoxD) fun bx_178 => bx_178) else t_168) fun z_180 => (lt ({ z_180 with c := (z_180.c + (1 : Int)) } : BoxD) fun bx_182 => (.nx bx_182))) else (.bk t_168) : Out BoxD BoxD (Int × BoxD)).bind fun z_184 => (.nx z_184)) : Out BoxD BoxD (Int × BoxD))) bx_165 (rng 0 ((cells_163).length : Int))).done : Out BoxD Empty (Int × BoxD)).bind fun s_186 => (bif (decide ((0 : Int) < s_186.b)) then ((lt (Int.fmod s_186.b limit) fun digit_190 => (lt ({ s_186 with b := (Int.fdiv s_186.b limit) } : BoxD) fun bx_193 => (.rt (digit_190, bx_193)))) : Out Empty Empty (Int × BoxD)).bind (fun z : Empty => nomatch z) else (lt (0 : Int) fun cell_195 => (lt (bif (decide ((0 : Int) < ((cells_163).length : Int))) then (lt (if (at_ cells_163 (Int.fmod s_186.a ((cells_163).length : Int))) < 0 then -(at_ cells_163 (Int.fmod s_186.a ((cells_163).length : Int))) else (at_ cells_163 (Int.fmod s_186.a ((cells_163).length : Int)))) fun cell_200 => cell_200) else cell_195) fun z_202 => (lt (Int.fmod (((z_202 * (48271 : Int)) + (s_186.a * (69621 : Int))) + (7 : Int)) (2147483647 : Int)) fun mixed_204 => (lt (Int.fmod (((mixed_204 * mixed_204) + (s_186.a * (7919 : Int))) + z_202) (1000003 : Int)) fun mixed_207 => (lt (Int.fmod ((((mixed_207 * mixed_207) * (16807 : Int)) + (Int.fdiv z_202 (5 : Int))) + (11 : Int)) (998244353 : Int)) fun mixed_210 => (.rt ((Int.fmod (Int.fdiv mixed_210 (3 : Int)) limit), s_186)))))))))))
@[irreducible] def f_law_draw (box : BoxD) (limit : Int) : (Int × BoxD) := (o_law_draw box limit).get
theorem f_law_draw_eq (box : BoxD) (limit : Int) : f_law_draw box limit = (o_law_draw box limit).get := by delta f_law_draw; rfl
def ok_law_draw (box : BoxD) (limit : Int) : Prop :=
  (∀ cells_163 (h_164 : cells_163 = box.cells), (∀ bx_165 (h_166 : bx_165 = ({ box with a := (box.a + (1 : Int)) } : BoxD)), (-100000 ≤ ((cells_163).length : Int) ∧ ((cells_163).length : Int) ≤ 100000) ∧ (∀ (i_170 : Nat) (k_169 : Int) (t_168 : BoxD) (hi_171 : ((rng 0 ((cells_163).length : Int)))[i_170]? = some k_169) (ht_172 : FL.run (fun (t_168 : BoxD) (k_169 : Int) => (((bif ((decide (t_168.b = (0 : Int))) && (decide (t_168.c < ((cells_163).length : Int)))) then (lt (bif (decide (((10 : Int) ^ ((18 : Int)).toNat) ≤ (if (at_ cells_163 t_168.c) < 0 then -(at_ cells_163 t_168.c) else (at_ cells_163 t_168.c)))) then (lt ({ t_168 with b := (if (at_ cells_163 t_168.c) < 0 then -(at_ cells_163 t_168.c) else (at_ cells_163 t_168.c)) } : BoxD) fun bx_178 => bx_178) else t_168) fun z_180 => (lt ({ z_180 with c := (z_180.c + (1 : Int)) } : BoxD) fun bx_182 => (.nx bx_182))) else (.bk t_168) : Out BoxD BoxD (Int × BoxD)).bind fun z_184 => (.nx z_184)) : Out BoxD BoxD (Int × BoxD))) bx_165 (((rng 0 ((cells_163).length : Int))).take i_170) = .nx t_168), (∀ (hc_174 : (((decide (t_168.b = (0 : Int))) && (decide (t_168.c < ((cells_163).length : Int))))) = true), (inIx (cells_163).length t_168.c) ∧ (∀ (hc_176 : ((decide (((10 : Int) ^ ((18 : Int)).toNat) ≤ (if (at_ cells_163 t_168.c) < 0 then -(at_ cells_163 t_168.c) else (at_ cells_163 t_168.c))))) = true), (inIx (cells_163).length t_168.c)))) ∧ (∀ (s_186 : BoxD) (hs_187 : (FL.run (fun (t_168 : BoxD) (k_169 : Int) => (((bif ((decide (t_168.b = (0 : Int))) && (decide (t_168.c < ((cells_163).length : Int)))) then (lt (bif (decide (((10 : Int) ^ ((18 : Int)).toNat) ≤ (if (at_ cells_163 t_168.c) < 0 then -(at_ cells_163 t_168.c) else (at_ cells_163 t_168.c)))) then (lt ({ t_168 with b := (if (at_ cells_163 t_168.c) < 0 then -(at_ cells_163 t_168.c) else (at_ cells_163 t_168.c)) } : BoxD) fun bx_178 => bx_178) else t_168) fun z_180 => (lt ({ z_180 with c := (z_180.c + (1 : Int)) } : BoxD) fun bx_182 => (.nx bx_182))) else (.bk t_168) : Out BoxD BoxD (Int × BoxD)).bind fun z_184 => (.nx z_184)) : Out BoxD BoxD (Int × BoxD))) bx_165 (rng 0 ((cells_163).length : Int))).done = (.nx s_186 : Out BoxD Empty (Int × BoxD))), (∀ (hc_188 : ((decide ((0 : Int) < s_186.b))) = true), (limit ≠ 0) ∧ (∀ digit_190 (h_191 : digit_190 = (Int.fmod s_186.b limit)), (CDivN s_186.b limit))) ∧ (∀ (hc_188 : ((decide ((0 : Int) < s_186.b))) = false), (∀ cell_195 (h_196 : cell_195 = (0 : Int)), (∀ (hc_197 : ((decide ((0 : Int) < ((cells_163).length : Int)))) = true), (((cells_163).length : Int) ≠ 0) ∧ (inIx (cells_163).length (Int.fmod s_186.a ((cells_163).length : Int)))) ∧ (∀ z_202 (h_203 : z_202 = (bif (decide ((0 : Int) < ((cells_163).length : Int))) then (lt (if (at_ cells_163 (Int.fmod s_186.a ((cells_163).length : Int))) < 0 then -(at_ cells_163 (Int.fmod s_186.a ((cells_163).length : Int))) else (at_ cells_163 (Int.fmod s_186.a ((cells_163).length : Int)))) fun cell_200 => cell_200) else cell_195)), (∀ mixed_204 (h_205 : mixed_204 = (Int.fmod (((z_202 * (48271 : Int)) + (s_186.a * (69621 : Int))) + (7 : Int)) (2147483647 : Int))), (CMul mixed_204 mixed_204) ∧ (∀ mixed_207 (h_208 : mixed_207 = (Int.fmod (((mixed_204 * mixed_204) + (s_186.a * (7919 : Int))) + z_202) (1000003 : Int))), (CMul mixed_207 mixed_207) ∧ (∀ mixed_210 (h_211 : mixed_210 = (Int.fmod ((((mixed_207 * mixed_207) * (16807 : Int)) + (Int.fdiv z_202 (5 : Int))) + (11 : Int)) (998244353 : Int))), (limit ≠ 0))))))))))
section
variable {K : PySem.W.Frag} {cFamily : Addr}
abbrev sp_law_draw : Sp := spF (K := K) (ι := (BoxD × Int)) (fun x => [.m mBox x.1, .d eI x.2]) (fun x => ok_law_draw x.1 x.2) (retM eI mBox) (fun x => f_law_draw x.1 x.2)
end
set_option maxHeartbeats 4000000 in
theorem at_law_draw {P : Program} {w : World} {K : PySem.W.Frag} {mg : Str → Option Value} {base : Heap} {cFamily : Addr} (T : Txt K mg cFamily) : FnAt P w K mg base "_law_draw" 1 ["box", "limit"] (sp_law_draw (K := K)) := by
  obtain ⟨f, fd, F, mg_, bd_⟩ := T.d_law_draw
  refine ⟨⟨f, fd, fn_okG (fun x => f_law_draw_eq x.1 x.2) <| fn_okE (o := fun x : (BoxD × Int) => o_law_draw x.1 x.2) (k := 0) F sc_law_draw (fun x => rfl) (fun x i s h => noM_tail (by simp [Slot.isM]) h) (fun cdv A outer s H EX hr x hp => ?_), mg_, F.kp, bd_⟩⟩
  obtain ⟨box, limit⟩ := x
  have okh : ok_law_draw box limit := hp
  exact ⟨_, _, rfl,
    (pss_cons (ps_set (i := 2) sc_law_draw.nd rfl (by first | exact Or.inl rfl | exact Or.inr rfl) (pe_ix ix_list (pv 0) pe_int (fun _ _ => rfl))) (pss_cons (ps_asg (pe_op op_add (pe_ix ix_list (pv 0) pe_int (fun _ _ => rfl)) pe_int) (pg_sub (pv 0) pe_int set_list)) (pss_cons (ps_for PassesOwn.never rfl (pi_range1 (by rfl) T.b_range (pa_cons (pe_callB call_len_seq (by rfl) T.b_len (by decide +kernel) (pa_cons (pv 2) pa_nil)) pa_nil)) (pg_name (i := 3) sc_law_draw.nd rfl (by first | exact Or.inl rfl | exact Or.inr rfl)) (pss_cons (ps_if (PW.pt (pw_and (pt_cmpR op_eq (pe_ix ix_list (pv 0) pe_int (fun _ _ => rfl)) pe_int (nomark _)) (pw_and1 (pt_cmpR op_lt (pe_ix ix_list (pv 0) pe_int (fun _ _ => rfl)) (pe_callB call_len_seq (by rfl) T.b_len (by decide +kernel) (pa_cons (pv 2) pa_nil)) (nomark _))))) (pss_cons (ps_if (pt_cmpR op_ge (pe_callB call_abs (by rfl) T.b_abs (by decide +kernel) (pa_cons (pe_ix ix_list (pv 2) (pe_ix ix_list (pv 0) pe_int (fun _ _ => rfl)) (fun _ _ => rfl)) pa_nil)) (pe_op op_pow pe_int pe_int) (nomark _)) (pss_cons (ps_asg (pe_callB call_abs (by rfl) T.b_abs (by decide +kernel) (pa_cons (pe_ix ix_list (pv 2) (pe_ix ix_list (pv 0) pe_int (fun _ _ => rfl)) (fun _ _ => rfl)) pa_nil)) (pg_sub (pv 0) pe_int set_list)) pss_nil) pss_nil) (pss_cons (ps_asg (pe_op op_add (pe_ix ix_list (pv 0) pe_int (fun _ _ => rfl)) pe_int) (pg_sub (pv 0) pe_int set_list)) pss_nil)) (pss_cons ps_break pss_nil)) pss_nil)) (pss_cons (ps_if (pt_cmpR op_gt (pe_ix ix_list (pv 0) pe_int (fun _ _ => rfl)) pe_int (nomark _)) (pss_cons (ps_set (i := 6) sc_law_draw.nd rfl (by first | exact Or.inl rfl | exact Or.inr rfl) (pe_op op_modN (pe_callTy call_int1 (by rfl) T.b_int (by decide +kernel) (pa_cons (pe_ix ix_list (pv 0) pe_int (fun _ _ => rfl)) pa_nil)) (pv 1))) (pss_cons (ps_asg (pe_op op_fdivN (pe_ix ix_list (pv 0) pe_int (fun _ _ => rfl)) (pv 1)) (pg_sub (pv 0) pe_int set_list)) (pss_cons (ps_ret (pv 6)) pss_nil))) pss_nil) (pss_cons (ps_set (i := 4) sc_law_draw.nd rfl (by first | exact Or.inl rfl | exact Or.inr rfl) pe_int) (pss_cons (ps_if (pt_cmpR op_gt (pe_callB call_len_seq (by rfl) T.b_len (by decide +kernel) (pa_cons (pv 2) pa_nil)) pe_int (nomark _)) (pss_cons (ps_set (i := 4) sc_law_draw.nd rfl (by first | exact Or.inl rfl | exact Or.inr rfl) (pe_callB call_abs (by rfl) T.b_abs (by decide +kernel) (pa_cons (pe_ix ix_list (pv 2) (pe_op op_modN (pe_callTy call_int1 (by rfl) T.b_int (by decide +kernel) (pa_cons (pe_ix ix_list (pv 0) pe_int (fun _ _ => rfl)) pa_nil)) (pe_callB call_len_seq (by rfl) T.b_len (by decide +kernel) (pa_cons (pv 2) pa_nil))) (fun _ _ => rfl)) pa_nil))) pss_nil) pss_nil) (pss_cons (ps_set (i := 5) sc_law_draw.nd rfl (by first | exact Or.inl rfl | exact Or.inr rfl) (pe_op op_modN (pe_callTy call_int1 (by rfl) T.b_int (by decide +kernel) (pa_cons (pe_op op_add (pe_op op_add (pe_op op_mul (pv 4) pe_int) (pe_op op_mul (pe_ix ix_list (pv 0) pe_int (fun _ _ => rfl)) pe_int)) pe_int) pa_nil)) pe_int)) (pss_cons (ps_set (i := 5) sc_law_draw.nd rfl (by first | exact Or.inl rfl | exact Or.inr rfl) (pe_op op_modN (pe_callTy call_int1 (by rfl) T.b_int (by decide +kernel) (pa_cons (pe_op op_add (pe_op op_add (pe_op op_mul (pv 5) (pv 5)) (pe_op op_mul (pe_ix ix_list (pv 0) pe_int (fun _ _ => rfl)) pe_int)) (pv 4)) pa_nil)) pe_int)) (pss_cons (ps_set (i := 5) sc_law_draw.nd rfl (by first | exact Or.inl rfl | exact Or.inr rfl) (pe_op op_modN (pe_callTy call_int1 (by rfl) T.b_int (by decide +kernel) (pa_cons (pe_op op_add (pe_op op_add (pe_op op_mul (pe_op op_mul (pv 5) (pv 5)) pe_int) (pe_op op_fdivN (pv 4) pe_int)) pe_int) pa_nil)) pe_int)) (pss_cons (ps_ret (pe_op op_modN (pe_callTy call_int1 (by rfl) T.b_int (by decide +kernel) (pa_cons (pe_op op_fdivN (pv 5) pe_int) pa_nil)) (pv 1))) pss_nil)))))))))),
    (xb_set (ev_eq (ev_box0 rfl) rfl) rfl (fun cells_163 h_164 => (xb_box1 (ev_eq (ev_I0 (ev_box1 rfl) ev_int) rfl) rfl (fun bx_165 h_166 => (xb_loop (fun t_168 : BoxD => [.m mBox t_168, .d eI limit, .d (eL eI) cells_163, .un, .un, .un, .un]) bx_165 (h := (fun (t_168 : BoxD) (k_169 : Int) => (((bif ((decide (t_168.b = (0 : Int))) && (decide (t_168.c < ((cells_163).length : Int)))) then (lt (bif (decide (((10 : Int) ^ ((18 : Int)).toNat) ≤ (if (at_ cells_163 t_168.c) < 0 then -(at_ cells_163 t_168.c) else (at_ cells_163 t_168.c)))) then (lt ({ t_168 with b := (if (at_ cells_163 t_168.c) < 0 then -(at_ cells_163 t_168.c) else (at_ cells_163 t_168.c)) } : BoxD) fun bx_178 => bx_178) else t_168) fun z_180 => (lt ({ z_180 with c := (z_180.c + (1 : Int)) } : BoxD) fun bx_182 => (.nx bx_182))) else (.bk t_168) : Out BoxD BoxD (Int × BoxD)).bind fun z_184 => (.nx z_184)) : Out BoxD BoxD (Int × BoxD)))) (ei_range1 (ev_lenL (ev_var (i := 2) rfl)) (((okh cells_163 h_164) bx_165 h_166).1)) (wk_S (wk_s (wk_s (wk_s (wk_s (wk_s (wk_s wk_n))))))) eg_name (fun _ => (noM_cons rfl noM_nil)) (fun i_170 k_169 t_168 hi_171 ht_172 => (xb_bind (E1 := fun t : BoxD => [.m mBox t, .d eI limit, .d (eL eI) cells_163, .d eI k_169, .un, .un, .un]) (xb_ifT (et_eq (et_and (et_test (ev_eqI (ev_box2 rfl) ev_int)) (fun hb_173 => (et_test (ev_IB (ev_box3 rfl) (ev_lenL (ev_var (i := 2) rfl)))))) rfl) (fun hc_174 => (xb_if (fun t : BoxD => [.m mBox t, .d eI limit, .d (eL eI) cells_163, .d eI k_169, .un, .un, .un]) (et_eq (et_test (ev_IB (ev_abs (ev_ixL (ev_var (i := 2) rfl) (ev_box3 rfl) (((((okh cells_163 h_164) bx_165 h_166).2.1 i_170 k_169 t_168 hi_171 ht_172) hc_174).1))) (ev_I ev_int ev_int ⟨by decide, by decide, by decide⟩))) rfl) (fun hc_176 => (xv_box2 (ev_eq (ev_abs (ev_ixL (ev_var (i := 2) rfl) (ev_box3 rfl) ((((((okh cells_163 h_164) bx_165 h_166).2.1 i_170 k_169 t_168 hi_171 ht_172) hc_174).2 hc_176)))) rfl) rfl (fun bx_178 h_179 => (xv_end (by exact (wk_S (wk_s (wk_s (wk_s (wk_s (wk_s (wk_s wk_n)))))))))))) (fun hc_176 => (xv_end (by exact (wk_S (wk_s (wk_s (wk_s (wk_s (wk_s (wk_s wk_n)))))))))) (fun z_180 h_181 => (xb_box3 (ev_eq (ev_I0 (ev_box3 rfl) ev_int) rfl) rfl (fun bx_182 h_183 => (xb_nil (by exact (wk_S (wk_s (wk_s (wk_s (wk_s (wk_s (wk_s wk_n)))))))))))))) (fun hc_174 => (xb_bkS (by exact (wk_S (wk_s (wk_s (wk_u (wk_s (wk_s (wk_s wk_n))))))))))) (fun z_184 hz_185 => (xb_nil (by exact (wk_S (wk_s (wk_s (wk_u (wk_s (wk_s (wk_s wk_n)))))))))))) (fun s_186 hs_187 => (xb_ifL (et_eq (et_test (ev_IB (ev_box2 rfl) ev_int)) rfl) (fun hc_188 => (xb_set (ev_eq (ev_I (ev_int1 (ev_box2 rfl)) (ev_var (i := 1) rfl) (((((okh cells_163 h_164) bx_165 h_166).2.2 s_186 hs_187).1 hc_188).1)) rfl) rfl (fun digit_190 h_191 => (xb_box2 (ev_eq (ev_I (ev_box2 rfl) (ev_var (i := 1) rfl) ((((((okh cells_163 h_164) bx_165 h_166).2.2 s_186 hs_187).1 hc_188).2 digit_190 h_191))) rfl) rfl (fun bx_193 h_194 => (xb_retS (ev_eq (ev_var (i := 6) rfl) rfl) (.inr rfl) rfl)))))) (fun hc_188 => (xb_set (ev_eq ev_int rfl) rfl (fun cell_195 h_196 => (xb_if (fun t : Int => [.m mBox s_186, .d eI limit, .d (eL eI) cells_163, .un, .d eI t, .un, .un]) (et_eq (et_test (ev_IB (ev_lenL (ev_var (i := 2) rfl)) ev_int)) rfl) (fun hc_197 => (xv_set (ev_eq (ev_abs (ev_ixL (ev_var (i := 2) rfl) (ev_I (ev_int1 (ev_box1 rfl)) (ev_lenL (ev_var (i := 2) rfl)) (((((((okh cells_163 h_164) bx_165 h_166).2.2 s_186 hs_187).2 hc_188) cell_195 h_196).1 hc_197).1)) (((((((okh cells_163 h_164) bx_165 h_166).2.2 s_186 hs_187).2 hc_188) cell_195 h_196).1 hc_197).2))) rfl) rfl (fun cell_200 h_201 => (xv_end (by exact (wk_S (wk_s (wk_s (wk_s (wk_s (wk_s (wk_s wk_n)))))))))))) (fun hc_197 => (xv_end (by exact (wk_S (wk_s (wk_s (wk_s (wk_s (wk_s (wk_s wk_n)))))))))) (fun z_202 h_203 => (xb_set (ev_eq (ev_I (ev_int1 (ev_I0 (ev_I0 (ev_I (ev_var (i := 4) rfl) ev_int (.inr (by decide))) (ev_I (ev_box1 rfl) ev_int (.inr (by decide)))) ev_int)) ev_int (by decide)) rfl) rfl (fun mixed_204 h_205 => (xb_set (ev_eq (ev_I (ev_int1 (ev_I0 (ev_I0 (ev_I (ev_var (i := 5) rfl) (ev_var (i := 5) rfl) ((((((((okh cells_163 h_164) bx_165 h_166).2.2 s_186 hs_187).2 hc_188) cell_195 h_196).2 z_202 h_203) mixed_204 h_205).1)) (ev_I (ev_box1 rfl) ev_int (.inr (by decide)))) (ev_var (i := 4) rfl))) ev_int (by decide)) rfl) rfl (fun mixed_207 h_208 => (xb_set (ev_eq (ev_I (ev_int1 (ev_I0 (ev_I0 (ev_I (ev_I (ev_var (i := 5) rfl) (ev_var (i := 5) rfl) (((((((((okh cells_163 h_164) bx_165 h_166).2.2 s_186 hs_187).2 hc_188) cell_195 h_196).2 z_202 h_203) mixed_204 h_205).2 mixed_207 h_208).1)) ev_int (.inr (by decide))) (ev_I (ev_var (i := 4) rfl) ev_int ⟨by decide, by decide⟩)) ev_int)) ev_int (by decide)) rfl) rfl (fun mixed_210 h_211 => (xb_retS (ev_eq (ev_I (ev_int1 (ev_I (ev_var (i := 5) rfl) ev_int ⟨by decide, by decide⟩)) (ev_var (i := 1) rfl) ((((((((((okh cells_163 h_164) bx_165 h_166).2.2 s_186 hs_187).2 hc_188) cell_195 h_196).2 z_202 h_203) mixed_204 h_205).2 mixed_207 h_208).2 mixed_210 h_211))) rfl) (.inr rfl) rfl)))))))))))))))))))⟩
/-! ### _law_things -/
abbrev N_law_things : List Str := ["mask", "thing"]
theorem sc_law_things : FnScope N_law_things ["mask"] (defScope s_law_things) := ⟨rfl, rfl, rfl, by decide +kernel, rfl, by decide +kernel, by decide +kernel⟩
def o_law_things (mask : Int) : Out Empty Empty (List Int) :=
  (.rt ((((rng 0 (6 : Int))).filter fun thing_213 => (decide ((Int.fmod (mask / 2 ^ (thing_213).toNat) (2 : Int)) = (1 : Int)))).map fun thing_213 => thing_213))
@[irreducible] def f_law_things (mask : Int) : (List Int) := (o_law_things mask).get
theorem f_law_things_eq (mask : Int) : f_law_things mask = (o_law_things mask).get := by delta f_law_things; rfl
def ok_law_things (mask : Int) : Prop :=
  (∀ (thing_213 : Int) (hx_214 : thing_213 ∈ (rng 0 (6 : Int))), (0 ≤ thing_213))
section
variable {K : PySem.W.Frag} {cFamily : Addr}
abbrev sp_law_things : Sp := spF (K := K) (ι := Int) (fun x => [.d eI x]) (fun x => ok_law_things x) (retD (eT eI)) (fun x => f_law_things x)
end
set_option maxHeartbeats 4000000 in
theorem at_law_things {P : Program} {w : World} {K : PySem.W.Frag} {mg : Str → Option Value} {base : Heap} {cFamily : Addr} (T : Txt K mg cFamily) : FnAt P w K mg base "_law_things" 1 ["mask"] (sp_law_things (K := K)) := by
  obtain ⟨f, fd, F, mg_, bd_⟩ := T.d_law_things
  refine ⟨⟨f, fd, fn_okG (fun x => f_law_things_eq x) <| fn_okE (o := fun x : Int => o_law_things x) (k := 0) F sc_law_things (fun x => rfl) (fun x i s h => noM_tail (by simp [Slot.isM]) h) (fun cdv A outer s H EX hr mask hp => ?_), mg_, F.kp, bd_⟩⟩
  have okh : ok_law_things mask := hp
  exact ⟨_, _, rfl,
    (pss_cons (ps_ret (pe_callTy call_tuple_of (by rfl) T.b_tuple (by decide +kernel) (pa_cons (pe_lc (own := [("thing", 1)]) (g := gName 1) rfl sc_law_things.nd (pi_range1 (by rfl) T.b_range (pa_cons pe_int pa_nil)) (blkOk_by (N := N_law_things) (sc := defScope s_law_things) (by decide +kernel)) (fun _ _ _ _ _ => (pg_name (i := 1) sc_law_things.nd rfl (by first | exact Or.inl rfl | exact Or.inr rfl))) (fun _ _ _ _ _ => pts_one (pt_cmpR op_eq (pe_op op_modN (pe_callTy call_int1 (by rfl) T.b_int (by decide +kernel) (pa_cons (pe_op op_shr (pv 0) (pv 1)) pa_nil)) pe_int) pe_int (nomark _))) (fun _ _ _ _ _ => (pv 1))) pa_nil))) pss_nil),
    (xb_retS (ev_eq (ev_tuple (ev_sub (f := (eQ eI)) (EvN.d (en_lc (p := fun thing_213 => (decide ((Int.fmod (mask / 2 ^ (thing_213).toNat) (2 : Int)) = (1 : Int)))) (v := fun thing_213 => thing_213) (ei_range1 ev_int (by decide)) eg_name (by decide) (noM_cons rfl noM_nil) (fun thing_213 hx_214 => (et_eq (et_test (ev_eqI (ev_I (ev_int1 (ev_I (ev_var (i := 0) rfl) (ev_var (i := 1) rfl) ((okh thing_213 hx_214)))) ev_int (by decide)) ev_int)) rfl)) (fun thing_213 hx_214 hp_216 => (ev_eq (ev_var (i := 1) rfl) rfl)))))) rfl) (.inl rfl) rfl)⟩
/-! ### _law_counts -/
abbrev N_law_counts : List Str := ["size", "out", "mask"]
theorem sc_law_counts : FnScope N_law_counts ["size"] (defScope s_law_counts) := ⟨rfl, rfl, rfl, by decide +kernel, rfl, by decide +kernel, by decide +kernel⟩
def o_law_counts (size : Int) : Out Empty Empty (List Int) :=
  (lt [(0 : Int)] fun out_217 => (lt (List.foldl (fun (t_221 : (List Int)) (mask_222 : Int) => (lt (t_221 ++ [((at_ t_221 (mask_222 / 2 ^ ((1 : Int)).toNat)) + (Int.fmod mask_222 (2 : Int)))]) fun out_228 => out_228)) out_217 (rng (1 : Int) ((1 : Int) * 2 ^ (size).toNat))) fun s_230 => (.rt s_230)))
@[irreducible] def f_law_counts (size : Int) : (List Int) := (o_law_counts size).get
theorem f_law_counts_eq (size : Int) : f_law_counts size = (o_law_counts size).get := by delta f_law_counts; rfl
def ok_law_counts (size : Int) : Prop :=
  (∀ out_217 (h_218 : out_217 = [(0 : Int)]), (CPow (1 : Int) size) ∧ (-100000 ≤ (1 : Int) ∧ (1 : Int) ≤ 100000 ∧ -100000 ≤ ((1 : Int) * 2 ^ (size).toNat) ∧ ((1 : Int) * 2 ^ (size).toNat) ≤ 100000 ∧ ((1 : Int) * 2 ^ (size).toNat) - (1 : Int) ≤ 100000) ∧ (∀ (i_223 : Nat) (mask_222 : Int) (t_221 : (List Int)) (hi_224 : ((rng (1 : Int) ((1 : Int) * 2 ^ (size).toNat)))[i_223]? = some mask_222) (ht_225 : t_221 = (((rng (1 : Int) ((1 : Int) * 2 ^ (size).toNat))).take i_223).foldl (fun (t_221 : (List Int)) (mask_222 : Int) => (lt (t_221 ++ [((at_ t_221 (mask_222 / 2 ^ ((1 : Int)).toNat)) + (Int.fmod mask_222 (2 : Int)))]) fun out_228 => out_228)) out_217), (inIx (t_221).length (mask_222 / 2 ^ ((1 : Int)).toNat)) ∧ ((t_221).length < 100000)))
section
variable {K : PySem.W.Frag} {cFamily : Addr}
abbrev sp_law_counts : Sp := spF (K := K) (ι := Int) (fun x => [.d eI x]) (fun x => ok_law_counts x) (retL eI) (fun x => f_law_counts x)
end
set_option maxHeartbeats 4000000 in
theorem at_law_counts {P : Program} {w : World} {K : PySem.W.Frag} {mg : Str → Option Value} {base : Heap} {cFamily : Addr} (T : Txt K mg cFamily) : FnAt P w K mg base "_law_counts" 1 ["size"] (sp_law_counts (K := K)) := by
  obtain ⟨f, fd, F, mg_, bd_⟩ := T.d_law_counts
  refine ⟨⟨f, fd, fn_okG (fun x => f_law_counts_eq x) <| fn_okE (o := fun x : Int => o_law_counts x) (k := 0) F sc_law_counts (fun x => rfl) (fun x i s h => noM_tail (by simp [Slot.isM]) h) (fun cdv A outer s H EX hr size hp => ?_), mg_, F.kp, bd_⟩⟩
  have okh : ok_law_counts size := hp
  exact ⟨_, _, rfl,
    (pss_cons (ps_set (i := 1) sc_law_counts.nd rfl (by first | exact Or.inl rfl | exact Or.inr rfl) (pe_lst (pa_cons pe_int pa_nil))) (pss_cons (ps_for PassesOwn.never rfl (pi_range2 (by rfl) T.b_range (pa_cons pe_int (pa_cons (pe_op op_shl pe_int (pv 0)) pa_nil))) (pg_name (i := 2) sc_law_counts.nd rfl (by first | exact Or.inl rfl | exact Or.inr rfl)) (pss_cons (ps_expr (pe_bm PySem.F.plainAttrs_list PySem.F.slot_list_append PySem.F.type_list_append mt_append (pv 1) (pa_cons (pe_op op_add (pe_ix ix_list (pv 1) (pe_op op_shr (pv 2) pe_int) (fun _ _ => rfl)) (pe_op op_modN (pe_callTy call_int1 (by rfl) T.b_int (by decide +kernel) (pa_cons (pv 2) pa_nil)) pe_int)) pa_nil))) pss_nil)) (pss_cons (ps_ret (pv 1)) pss_nil))),
    (xb_own (en_eq (en_lst (eas_cons ev_int eas_nil) (by show 1 ≤ 100000; decide)) rfl) rfl (fun out_217 h_218 => (xb_fold (fun t_221 : (List Int) => [.d eI size, .l eI t_221, .un]) out_217 (h := (fun (t_221 : (List Int)) (mask_222 : Int) => (lt (t_221 ++ [((at_ t_221 (mask_222 / 2 ^ ((1 : Int)).toNat)) + (Int.fmod mask_222 (2 : Int)))]) fun out_228 => out_228))) (ei_range2 ev_int (ev_I ev_int (ev_var (i := 0) rfl) ((okh out_217 h_218).1)) ((okh out_217 h_218).2.1)) (wk_S (wk_s (wk_s wk_n))) eg_name (fun _ => (noM_cons rfl noM_nil)) (fun i_223 mask_222 t_221 hi_224 ht_225 => (xv_app rfl (ev_eq (ev_borrow (ev_I0 (ev_ixL (ev_var (i := 1) rfl) (ev_I (ev_var (i := 2) rfl) ev_int (by decide)) (((okh out_217 h_218).2.2 i_223 mask_222 t_221 hi_224 ht_225).1)) (ev_I (ev_int1 (ev_var (i := 2) rfl)) ev_int (by decide)))) rfl) rfl (((okh out_217 h_218).2.2 i_223 mask_222 t_221 hi_224 ht_225).2) (fun out_228 h_229 => (xv_end (by exact (wk_S (wk_s (wk_u wk_n)))))))) (fun s_230 h_231 => (xb_retSV (j := 1) rfl (by decide) (.inl rfl) rfl rfl)))))⟩
/-! ### _law_closed -/
abbrev N_law_closed : List Str := ["size", "tops", "out", "top", "mask"]
theorem sc_law_closed : FnScope N_law_closed ["size", "tops"] (defScope s_law_closed) := ⟨rfl, rfl, rfl, by decide +kernel, rfl, by decide +kernel, by decide +kernel⟩
def o_law_closed (size : Int) (tops : (List Int)) : Out Empty Empty (List Bool) :=
  (lt (((rng 0 ((1 : Int) * 2 ^ (size).toNat))).map fun mask_234 => (decide (mask_234 = (0 : Int)))) fun out_237 => (lt (List.foldl (fun (t_239 : (List Bool)) (top_240 : Int) => (lt (List.foldl (fun (t_246 : (List Bool)) (mask_247 : Int) => (lt (bif (decide ((PySem.Builtin.bitAnd mask_247 top_240) = mask_247)) then (lt (List.set t_246 (ixI (t_246).length mask_247) true) fun out_253 => out_253) else t_246) fun z_255 => z_255)) t_239 (rng 0 ((1 : Int) * 2 ^ (size).toNat))) fun s_257 => s_257)) out_237 tops) fun s_259 => (.rt s_259)))
@[irreducible] def f_law_closed (size : Int) (tops : (List Int)) : (List Bool) := (o_law_closed size tops).get
theorem f_law_closed_eq (size : Int) (tops : (List Int)) : f_law_closed size tops = (o_law_closed size tops).get := by delta f_law_closed; rfl
def ok_law_closed (size : Int) (tops : (List Int)) : Prop :=
  (CPow (1 : Int) size) ∧ (-100000 ≤ ((1 : Int) * 2 ^ (size).toNat) ∧ ((1 : Int) * 2 ^ (size).toNat) ≤ 100000) ∧ (∀ out_237 (h_238 : out_237 = (((rng 0 ((1 : Int) * 2 ^ (size).toNat))).map fun mask_234 => (decide (mask_234 = (0 : Int))))), (∀ (i_241 : Nat) (top_240 : Int) (t_239 : (List Bool)) (hi_242 : (tops)[i_241]? = some top_240) (ht_243 : t_239 = ((tops).take i_241).foldl (fun (t_239 : (List Bool)) (top_240 : Int) => (lt (List.foldl (fun (t_246 : (List Bool)) (mask_247 : Int) => (lt (bif (decide ((PySem.Builtin.bitAnd mask_247 top_240) = mask_247)) then (lt (List.set t_246 (ixI (t_246).length mask_247) true) fun out_253 => out_253) else t_246) fun z_255 => z_255)) t_239 (rng 0 ((1 : Int) * 2 ^ (size).toNat))) fun s_257 => s_257)) out_237), (CPow (1 : Int) size) ∧ (-100000 ≤ ((1 : Int) * 2 ^ (size).toNat) ∧ ((1 : Int) * 2 ^ (size).toNat) ≤ 100000) ∧ (∀ (i_248 : Nat) (mask_247 : Int) (t_246 : (List Bool)) (hi_249 : ((rng 0 ((1 : Int) * 2 ^ (size).toNat)))[i_248]? = some mask_247) (ht_250 : t_246 = (((rng 0 ((1 : Int) * 2 ^ (size).toNat))).take i_248).foldl (fun (t_246 : (List Bool)) (mask_247 : Int) => (lt (bif (decide ((PySem.Builtin.bitAnd mask_247 top_240) = mask_247)) then (lt (List.set t_246 (ixI (t_246).length mask_247) true) fun out_253 => out_253) else t_246) fun z_255 => z_255)) t_239), (∀ (hc_251 : ((decide ((PySem.Builtin.bitAnd mask_247 top_240) = mask_247))) = true), (inIx (t_246).length mask_247)))))
section
variable {K : PySem.W.Frag} {cFamily : Addr}
abbrev sp_law_closed : Sp := spF (K := K) (ι := (Int × (List Int))) (fun x => [.d eI x.1, .d (eL eI) x.2]) (fun x => ok_law_closed x.1 x.2) (retL eB) (fun x => f_law_closed x.1 x.2)
end
set_option maxHeartbeats 4000000 in
theorem at_law_closed {P : Program} {w : World} {K : PySem.W.Frag} {mg : Str → Option Value} {base : Heap} {cFamily : Addr} (T : Txt K mg cFamily) : FnAt P w K mg base "_law_closed" 1 ["size", "tops"] (sp_law_closed (K := K)) := by
  obtain ⟨f, fd, F, mg_, bd_⟩ := T.d_law_closed
  refine ⟨⟨f, fd, fn_okG (fun x => f_law_closed_eq x.1 x.2) <| fn_okE (o := fun x : (Int × (List Int)) => o_law_closed x.1 x.2) (k := 0) F sc_law_closed (fun x => rfl) (fun x i s h => noM_tail (by simp [Slot.isM]) h) (fun cdv A outer s H EX hr x hp => ?_), mg_, F.kp, bd_⟩⟩
  obtain ⟨size, tops⟩ := x
  have okh : ok_law_closed size tops := hp
  exact ⟨_, _, rfl,
    (pss_cons (ps_setLc (i := 2) (own := [("mask", 4)]) (g := gName 4) (tt := tYes) rfl sc_law_closed.nd rfl rfl (sw_true rfl rfl rfl (by decide +kernel)) (pi_range1 (by rfl) T.b_range (pa_cons (pe_op op_shl pe_int (pv 0)) pa_nil)) (blkOk_by (N := N_law_closed) (sc := defScope s_law_closed) (by decide +kernel)) (fun _ _ _ _ _ => (pg_name (i := 4) sc_law_closed.nd rfl (by first | exact Or.inl rfl | exact Or.inr rfl))) (fun _ _ _ _ _ => pts_nil) (fun _ _ _ _ _ => (pe_cmpR op_eq (pv 4) pe_int (nomark _)))) (pss_cons (ps_for PassesOwn.never rfl (pi_list (pv 1)) (pg_name (i := 3) sc_law_closed.nd rfl (by first | exact Or.inl rfl | exact Or.inr rfl)) (pss_cons (ps_for PassesOwn.never rfl (pi_range1 (by rfl) T.b_range (pa_cons (pe_op op_shl pe_int (pv 0)) pa_nil)) (pg_name (i := 4) sc_law_closed.nd rfl (by first | exact Or.inl rfl | exact Or.inr rfl)) (pss_cons (ps_if (pt_cmpR op_eq (pe_op op_and (pv 4) (pv 3)) (pv 4) (nomark _)) (pss_cons (ps_asg pe_bl (pg_sub (pv 2) (pv 4) set_list)) pss_nil) pss_nil) pss_nil)) pss_nil)) (pss_cons (ps_ret (pv 2)) pss_nil))),
    (xb_own (en_eq (en_lcY (v := fun mask_234 => (decide (mask_234 = (0 : Int)))) (ei_range1 (ev_I ev_int (ev_var (i := 0) rfl) (okh.1)) (okh.2.1)) eg_name (by decide) (noM_cons rfl noM_nil) (fun mask_234 hx_235 => (ev_eq (ev_eqI (ev_var (i := 4) rfl) ev_int) rfl))) rfl) rfl (fun out_237 h_238 => (xb_fold (fun t_239 : (List Bool) => [.d eI size, .d (eL eI) tops, .l eB t_239, .un, .un]) out_237 (h := (fun (t_239 : (List Bool)) (top_240 : Int) => (lt (List.foldl (fun (t_246 : (List Bool)) (mask_247 : Int) => (lt (bif (decide ((PySem.Builtin.bitAnd mask_247 top_240) = mask_247)) then (lt (List.set t_246 (ixI (t_246).length mask_247) true) fun out_253 => out_253) else t_246) fun z_255 => z_255)) t_239 (rng 0 ((1 : Int) * 2 ^ (size).toNat))) fun s_257 => s_257))) (ei_list (ev_var (i := 1) rfl)) (wk_S (wk_s (wk_s (wk_s (wk_s wk_n))))) eg_name (fun _ => (noM_cons rfl noM_nil)) (fun i_241 top_240 t_239 hi_242 ht_243 => (xv_for (fun t_246 : (List Bool) => [.d eI size, .d (eL eI) tops, .l eB t_246, .d eI top_240, .un]) t_239 (h := (fun (t_246 : (List Bool)) (mask_247 : Int) => (lt (bif (decide ((PySem.Builtin.bitAnd mask_247 top_240) = mask_247)) then (lt (List.set t_246 (ixI (t_246).length mask_247) true) fun out_253 => out_253) else t_246) fun z_255 => z_255))) (ei_range1 (ev_I ev_int (ev_var (i := 0) rfl) (((okh.2.2 out_237 h_238) i_241 top_240 t_239 hi_242 ht_243).1)) (((okh.2.2 out_237 h_238) i_241 top_240 t_239 hi_242 ht_243).2.1)) (wk_S (wk_s (wk_s (wk_s (wk_s wk_n))))) eg_name (fun _ => (noM_cons rfl noM_nil)) (fun i_248 mask_247 t_246 hi_249 ht_250 => (xv_if (fun t : (List Bool) => [.d eI size, .d (eL eI) tops, .l eB t, .d eI top_240, .d eI mask_247]) (et_eq (et_test (ev_eqI (ev_I0 (ev_var (i := 4) rfl) (ev_var (i := 3) rfl)) (ev_var (i := 4) rfl))) rfl) (fun hc_251 => (xv_setI (ev_eq ev_bl rfl) (ev_eq (ev_var (i := 4) rfl) rfl) rfl rfl (((((okh.2.2 out_237 h_238) i_241 top_240 t_239 hi_242 ht_243).2.2 i_248 mask_247 t_246 hi_249 ht_250) hc_251)) (fun out_253 h_254 => (xv_end (by exact (wk_S (wk_s (wk_s (wk_s (wk_s wk_n)))))))))) (fun hc_251 => (xv_end (by exact (wk_S (wk_s (wk_s (wk_s (wk_s wk_n)))))))) (fun z_255 h_256 => (xv_end (by exact (wk_S (wk_s (wk_s (wk_s (wk_u wk_n)))))))))) (fun s_257 h_258 => (xv_end (by exact (wk_S (wk_s (wk_s (wk_u (wk_s wk_n)))))))))) (fun s_259 h_260 => (xb_retSV (j := 2) rfl (by decide) (.inl rfl) rfl rfl)))))⟩
/-! ### _law_vectors -/
abbrev N_law_vectors : List Str := ["box", "size", "counts", "wide", "vectors", "most", "out", "mask", "summed", "right", "thing"]
theorem sc_law_vectors : FnScope N_law_vectors ["box", "size", "counts"] (defScope s_law_vectors) := ⟨rfl, rfl, rfl, by decide +kernel, rfl, by decide +kernel, by decide +kernel⟩
def o_law_vectors (box : BoxD) (size : Int) (counts : (List Int)) : Out Empty Empty ((List Bool) × BoxD) :=
  (lt ((2 : Int) + ((14 : Int) * (f_law_draw box (2 : Int)).1)) fun wide_262 => (lt ((f_law_draw box (2 : Int)).2) fun bx_264 => (lt ((lcGo (fun b_269 thing_267 => (f_law_draw b_269 wide_262).2) (fun _ _ => true) (fun b_269 thing_267 => (f_law_draw b_269 wide_262).1) bx_264 (rng 0 size)).2) fun vectors_274 => (lt ((lcGo (fun b_269 thing_267 => (f_law_draw b_269 wide_262).2) (fun _ _ => true) (fun b_269 thing_267 => (f_law_draw b_269 wide_262).1) bx_264 (rng 0 size)).1) fun bx_276 => (lt (bif (decide ((f_law_draw bx_276 (3 : Int)).1 = (0 : Int))) then (lt (((rng 0 size)).map fun thing_281 => ((1 : Int) * 2 ^ (thing_281).toNat)) fun vectors_285 => vectors_285) else vectors_274) fun z_287 => (lt ((f_law_draw bx_276 (3 : Int)).2) fun bx_289 => (lt ((1 : Int) + (f_law_draw bx_289 size).1) fun most_292 => (lt ((f_law_draw bx_289 size).2) fun bx_294 => (lt [true] fun out_296 => (lt (List.foldl (fun (t_300 : (List Bool)) (mask_301 : Int) => (lt (0 : Int) fun summed_305 => (lt (decide ((at_ counts mask_301) ≤ most_292)) fun right_308 => (lt (List.foldl (fun (t_311 : (Int × Bool)) (thing_312 : Int) => (lt (bif (decide ((PySem.Builtin.bitAnd (mask_301 / 2 ^ (thing_312).toNat) (1 : Int)) = (1 : Int))) then (lt (PySem.Builtin.bitXor t_311.1 (at_ z_287 thing_312)) fun summed_319 => (lt (t_311.2 && (at_ t_300 (mask_301 - ((1 : Int) * 2 ^ (thing_312).toNat)))) fun right_324 => (summed_319, right_324))) else (t_311.1, t_311.2)) fun z_326 => (z_326.1, z_326.2))) (summed_305, right_308) (rng 0 size)) fun s_328 => (lt (t_300 ++ [(s_328.2 && (!decide (s_328.1 = (0 : Int))))]) fun out_332 => out_332))))) out_296 (rng (1 : Int) ((1 : Int) * 2 ^ (size).toNat))) fun s_334 => (.rt (s_334, bx_294))))))))))))
@[irreducible] def f_law_vectors (box : BoxD) (size : Int) (counts : (List Int)) : ((List Bool) × BoxD) := (o_law_vectors box size counts).get
theorem f_law_vectors_eq (box : BoxD) (size : Int) (counts : (List Int)) : f_law_vectors box size counts = (o_law_vectors box size counts).get := by delta f_law_vectors; rfl
def ok_law_vectors (box : BoxD) (size : Int) (counts : (List Int)) : Prop :=
  (ok_law_draw box (2 : Int)) ∧ (∀ wide_262 (h_263 : wide_262 = ((2 : Int) + ((14 : Int) * (f_law_draw box (2 : Int)).1))), (∀ bx_264 (h_265 : bx_264 = (f_law_draw box (2 : Int)).2), (-100000 ≤ size ∧ size ≤ 100000) ∧ (∀ (i_271 : Nat) (thing_267 : Int) (b_269 : BoxD) (hi_272 : ((rng 0 size))[i_271]? = some thing_267) (ht_273 : b_269 = (lcGo (fun b_269 thing_267 => (f_law_draw b_269 wide_262).2) (fun _ _ => true) (fun b_269 thing_267 => (f_law_draw b_269 wide_262).1) bx_264 (((rng 0 size)).take i_271)).1), (ok_law_draw b_269 wide_262)) ∧ (∀ vectors_274 (h_275 : vectors_274 = (lcGo (fun b_269 thing_267 => (f_law_draw b_269 wide_262).2) (fun _ _ => true) (fun b_269 thing_267 => (f_law_draw b_269 wide_262).1) bx_264 (rng 0 size)).2), (∀ bx_276 (h_277 : bx_276 = (lcGo (fun b_269 thing_267 => (f_law_draw b_269 wide_262).2) (fun _ _ => true) (fun b_269 thing_267 => (f_law_draw b_269 wide_262).1) bx_264 (rng 0 size)).1), (ok_law_draw bx_276 (3 : Int)) ∧ (∀ (hc_279 : ((decide ((f_law_draw bx_276 (3 : Int)).1 = (0 : Int)))) = true), (-100000 ≤ size ∧ size ≤ 100000) ∧ (∀ (thing_281 : Int) (hx_282 : thing_281 ∈ (rng 0 size)), (CPow (1 : Int) thing_281))) ∧ (∀ z_287 (h_288 : z_287 = (bif (decide ((f_law_draw bx_276 (3 : Int)).1 = (0 : Int))) then (lt (((rng 0 size)).map fun thing_281 => ((1 : Int) * 2 ^ (thing_281).toNat)) fun vectors_285 => vectors_285) else vectors_274)), (∀ bx_289 (h_290 : bx_289 = (f_law_draw bx_276 (3 : Int)).2), (ok_law_draw bx_289 size) ∧ (∀ most_292 (h_293 : most_292 = ((1 : Int) + (f_law_draw bx_289 size).1)), (∀ bx_294 (h_295 : bx_294 = (f_law_draw bx_289 size).2), (∀ out_296 (h_297 : out_296 = [true]), (CPow (1 : Int) size) ∧ (-100000 ≤ (1 : Int) ∧ (1 : Int) ≤ 100000 ∧ -100000 ≤ ((1 : Int) * 2 ^ (size).toNat) ∧ ((1 : Int) * 2 ^ (size).toNat) ≤ 100000 ∧ ((1 : Int) * 2 ^ (size).toNat) - (1 : Int) ≤ 100000) ∧ (∀ (i_302 : Nat) (mask_301 : Int) (t_300 : (List Bool)) (hi_303 : ((rng (1 : Int) ((1 : Int) * 2 ^ (size).toNat)))[i_302]? = some mask_301) (ht_304 : t_300 = (((rng (1 : Int) ((1 : Int) * 2 ^ (size).toNat))).take i_302).foldl (fun (t_300 : (List Bool)) (mask_301 : Int) => (lt (0 : Int) fun summed_305 => (lt (decide ((at_ counts mask_301) ≤ most_292)) fun right_308 => (lt (List.foldl (fun (t_311 : (Int × Bool)) (thing_312 : Int) => (lt (bif (decide ((PySem.Builtin.bitAnd (mask_301 / 2 ^ (thing_312).toNat) (1 : Int)) = (1 : Int))) then (lt (PySem.Builtin.bitXor t_311.1 (at_ z_287 thing_312)) fun summed_319 => (lt (t_311.2 && (at_ t_300 (mask_301 - ((1 : Int) * 2 ^ (thing_312).toNat)))) fun right_324 => (summed_319, right_324))) else (t_311.1, t_311.2)) fun z_326 => (z_326.1, z_326.2))) (summed_305, right_308) (rng 0 size)) fun s_328 => (lt (t_300 ++ [(s_328.2 && (!decide (s_328.1 = (0 : Int))))]) fun out_332 => out_332))))) out_296), (∀ summed_305 (h_306 : summed_305 = (0 : Int)), (inIx (counts).length mask_301) ∧ (∀ right_308 (h_309 : right_308 = (decide ((at_ counts mask_301) ≤ most_292))), (-100000 ≤ size ∧ size ≤ 100000) ∧ (∀ (i_313 : Nat) (thing_312 : Int) (t_311 : (Int × Bool)) (hi_314 : ((rng 0 size))[i_313]? = some thing_312) (ht_315 : t_311 = (((rng 0 size)).take i_313).foldl (fun (t_311 : (Int × Bool)) (thing_312 : Int) => (lt (bif (decide ((PySem.Builtin.bitAnd (mask_301 / 2 ^ (thing_312).toNat) (1 : Int)) = (1 : Int))) then (lt (PySem.Builtin.bitXor t_311.1 (at_ z_287 thing_312)) fun summed_319 => (lt (t_311.2 && (at_ t_300 (mask_301 - ((1 : Int) * 2 ^ (thing_312).toNat)))) fun right_324 => (summed_319, right_324))) else (t_311.1, t_311.2)) fun z_326 => (z_326.1, z_326.2))) (summed_305, right_308)), (0 ≤ thing_312) ∧ (∀ (hc_317 : ((decide ((PySem.Builtin.bitAnd (mask_301 / 2 ^ (thing_312).toNat) (1 : Int)) = (1 : Int)))) = true), (inIx (z_287).length thing_312) ∧ (∀ summed_319 (h_320 : summed_319 = (PySem.Builtin.bitXor t_311.1 (at_ z_287 thing_312))), (∀ (hb_321 : (t_311.2) = true), (CPow (1 : Int) thing_312) ∧ (inIx (t_300).length (mask_301 - ((1 : Int) * 2 ^ (thing_312).toNat))))))) ∧ (∀ s_328 (h_329 : s_328 = (List.foldl (fun (t_311 : (Int × Bool)) (thing_312 : Int) => (lt (bif (decide ((PySem.Builtin.bitAnd (mask_301 / 2 ^ (thing_312).toNat) (1 : Int)) = (1 : Int))) then (lt (PySem.Builtin.bitXor t_311.1 (at_ z_287 thing_312)) fun summed_319 => (lt (t_311.2 && (at_ t_300 (mask_301 - ((1 : Int) * 2 ^ (thing_312).toNat)))) fun right_324 => (summed_319, right_324))) else (t_311.1, t_311.2)) fun z_326 => (z_326.1, z_326.2))) (summed_305, right_308) (rng 0 size))), ((t_300).length < 100000))))))))))))))
section
variable {K : PySem.W.Frag} {cFamily : Addr}
abbrev sp_law_vectors : Sp := spF (K := K) (ι := (BoxD × Int × (List Int))) (fun x => [.m mBox x.1, .d eI x.2.1, .d (eL eI) x.2.2]) (fun x => ok_law_vectors x.1 x.2.1 x.2.2) (retLM eB mBox) (fun x => f_law_vectors x.1 x.2.1 x.2.2)
end
set_option maxHeartbeats 4000000 in
theorem at_law_vectors {P : Program} {w : World} {K : PySem.W.Frag} {mg : Str → Option Value} {base : Heap} {cFamily : Addr} (T : Txt K mg cFamily) : FnAt P w K mg base "_law_vectors" 2 ["box", "size", "counts"] (sp_law_vectors (K := K)) := by
  obtain ⟨f, fd, F, mg_, bd_⟩ := T.d_law_vectors
  obtain ⟨⟨a_law_draw, d_law_draw, G_law_draw, m_law_draw, k_law_draw, b_law_draw⟩⟩ := at_law_draw (P := P) (w := w) (base := base) T
  refine ⟨⟨f, fd, fn_okG (fun x => f_law_vectors_eq x.1 x.2.1 x.2.2) <| fn_okE (o := fun x : (BoxD × Int × (List Int)) => o_law_vectors x.1 x.2.1 x.2.2) (k := 1) F sc_law_vectors (fun x => rfl) (fun x i s h => noM_tail (by simp [Slot.isM]) h) (fun cdv A outer s H EX hr x hp => ?_), mg_, F.kp, bd_⟩⟩
  obtain ⟨box, size, counts⟩ := x
  have okh : ok_law_vectors box size counts := hp
  exact ⟨_, _, rfl,
    (pss_cons (ps_set (i := 3) sc_law_vectors.nd rfl (by first | exact Or.inl rfl | exact Or.inr rfl) (pe_op op_add pe_int (pe_op op_mul pe_int (pe_call G_law_draw (hr.mono (by decide)) (by rfl) m_law_draw k_law_draw b_law_draw .nil pass0 (pa_cons (pv 0) (pa_cons pe_int pa_nil)))))) (pss_cons (ps_setLc (i := 4) (own := [("thing", 10)]) (g := gName 10) (tt := tYes) rfl sc_law_vectors.nd rfl rfl (sw_true rfl rfl rfl (by decide +kernel)) (pi_range1 (by rfl) T.b_range (pa_cons (pv 1) pa_nil)) (blkOk_by (N := N_law_vectors) (sc := defScope s_law_vectors) (by decide +kernel)) (fun _ _ _ _ _ => (pg_name (i := 10) sc_law_vectors.nd rfl (by first | exact Or.inl rfl | exact Or.inr rfl))) (fun _ _ _ _ _ => pts_nil) (fun _ _ _ _ _ => (pe_call G_law_draw (hr.mono (by decide)) (by rfl) m_law_draw k_law_draw b_law_draw .nil pass0 (pa_cons (pv 0) (pa_cons (pv 3) pa_nil))))) (pss_cons (ps_if (pt_cmpR op_eq (pe_call G_law_draw (hr.mono (by decide)) (by rfl) m_law_draw k_law_draw b_law_draw .nil pass0 (pa_cons (pv 0) (pa_cons pe_int pa_nil))) pe_int (nomark _)) (pss_cons (ps_setLc (i := 4) (own := [("thing", 10)]) (g := gName 10) (tt := tYes) rfl sc_law_vectors.nd rfl rfl (sw_true rfl rfl rfl (by decide +kernel)) (pi_range1 (by rfl) T.b_range (pa_cons (pv 1) pa_nil)) (blkOk_by (N := N_law_vectors) (sc := defScope s_law_vectors) (by decide +kernel)) (fun _ _ _ _ _ => (pg_name (i := 10) sc_law_vectors.nd rfl (by first | exact Or.inl rfl | exact Or.inr rfl))) (fun _ _ _ _ _ => pts_nil) (fun _ _ _ _ _ => (pe_op op_shl pe_int (pv 10)))) pss_nil) pss_nil) (pss_cons (ps_set (i := 5) sc_law_vectors.nd rfl (by first | exact Or.inl rfl | exact Or.inr rfl) (pe_op op_add pe_int (pe_call G_law_draw (hr.mono (by decide)) (by rfl) m_law_draw k_law_draw b_law_draw .nil pass0 (pa_cons (pv 0) (pa_cons (pv 1) pa_nil))))) (pss_cons (ps_set (i := 6) sc_law_vectors.nd rfl (by first | exact Or.inl rfl | exact Or.inr rfl) (pe_lst (pa_cons pe_bl pa_nil))) (pss_cons (ps_for PassesOwn.never rfl (pi_range2 (by rfl) T.b_range (pa_cons pe_int (pa_cons (pe_op op_shl pe_int (pv 1)) pa_nil))) (pg_name (i := 7) sc_law_vectors.nd rfl (by first | exact Or.inl rfl | exact Or.inr rfl)) (pss_cons (ps_set (i := 8) sc_law_vectors.nd rfl (by first | exact Or.inl rfl | exact Or.inr rfl) pe_int) (pss_cons (ps_set (i := 9) sc_law_vectors.nd rfl (by first | exact Or.inl rfl | exact Or.inr rfl) (pe_cmpR op_le (pe_ix ix_list (pv 2) (pv 7) (fun _ _ => rfl)) (pv 5) (nomark _))) (pss_cons (ps_for PassesOwn.never rfl (pi_range1 (by rfl) T.b_range (pa_cons (pv 1) pa_nil)) (pg_name (i := 10) sc_law_vectors.nd rfl (by first | exact Or.inl rfl | exact Or.inr rfl)) (pss_cons (ps_if (pt_cmpR op_eq (pe_op op_and (pe_op op_shr (pv 7) (pv 10)) pe_int) pe_int (nomark _)) (pss_cons (ps_set (i := 8) sc_law_vectors.nd rfl (by first | exact Or.inl rfl | exact Or.inr rfl) (pe_op op_xor (pv 8) (pe_ix ix_list (pv 4) (pv 10) (fun _ _ => rfl)))) (pss_cons (ps_set (i := 9) sc_law_vectors.nd rfl (by first | exact Or.inl rfl | exact Or.inr rfl) (pe_and (pv 9) (pe_one (pe_ix ix_list (pv 6) (pe_op op_sub (pv 7) (pe_op op_shl pe_int (pv 10))) (fun _ _ => rfl))))) pss_nil)) pss_nil) pss_nil)) (pss_cons (ps_expr (pe_bm PySem.F.plainAttrs_list PySem.F.slot_list_append PySem.F.type_list_append mt_append (pv 6) (pa_cons (pe_and (pv 9) (pe_one (pe_cmpR op_ne (pv 8) pe_int (nomark _)))) pa_nil))) pss_nil))))) (pss_cons (ps_ret (pv 6)) pss_nil))))))),
    (xb_set (ev_eq (ev_I0 ev_int (ev_I ev_int (ev_callM (j := 0) (box, (2 : Int)) rfl rfl (ea_cons (ev_eq ev_int rfl) ea_nil) rfl rfl rfl (okh.1) rfl rfl rfl) (.inl (by decide)))) rfl) rfl (fun wide_262 h_263 => (xb_reb (fun bx_264 => [.m mBox bx_264, .d eI size, .d (eL eI) counts, .d eI wide_262, .un, .un, .un, .un, .un, .un, .un]) ((f_law_draw box (2 : Int)).2) (fun bx_264 h_265 => (xb_set (ev_eq (EvN.d (en_lcS (s := (fun b_269 thing_267 => (f_law_draw b_269 wide_262).2)) (p := (fun _ _ => true)) (v := (fun b_269 thing_267 => (f_law_draw b_269 wide_262).1)) (fun b : BoxD => [.m mBox b, .d eI size, .d (eL eI) counts, .d eI wide_262, .un, .un, .un, .un, .un, .un, .un]) bx_264 (ei_range1 (ev_var (i := 1) rfl) (((okh.2 wide_262 h_263) bx_264 h_265).1)) eg_name (by decide) (fun _ => (noM_cons rfl noM_nil)) (agr1 (fun _ _ => rfl)) (fun _ _ _ _ _ => et_yes) (fun i_271 thing_267 b_269 hi_272 ht_273 _ => (ev_eq (ev_callM (j := 0) (b_269, wide_262) rfl rfl (ea_cons (ev_eq (ev_var (i := 3) rfl) rfl) ea_nil) rfl rfl rfl ((((okh.2 wide_262 h_263) bx_264 h_265).2.1 i_271 thing_267 b_269 hi_272 ht_273)) rfl rfl rfl) rfl)))) rfl) rfl (fun vectors_274 h_275 => (xb_reb (fun bx_276 => [.m mBox bx_276, .d eI size, .d (eL eI) counts, .d eI wide_262, .d (eL eI) vectors_274, .un, .un, .un, .un, .un, .un]) ((lcGo (fun b_269 thing_267 => (f_law_draw b_269 wide_262).2) (fun _ _ => true) (fun b_269 thing_267 => (f_law_draw b_269 wide_262).1) bx_264 (rng 0 size)).1) (fun bx_276 h_277 => (xb_if (fun t : (List Int) => [.m mBox (f_law_draw bx_276 (3 : Int)).2, .d eI size, .d (eL eI) counts, .d eI wide_262, .d (eL eI) t, .un, .un, .un, .un, .un, .un]) (et_eq (et_test (ev_eqI (ev_callM (j := 0) (bx_276, (3 : Int)) rfl rfl (ea_cons (ev_eq ev_int rfl) ea_nil) rfl rfl rfl (((((okh.2 wide_262 h_263) bx_264 h_265).2.2 vectors_274 h_275) bx_276 h_277).1) rfl rfl rfl) ev_int)) rfl) (fun hc_279 => (xv_set (ev_eq (EvN.d (en_lcY (v := fun thing_281 => ((1 : Int) * 2 ^ (thing_281).toNat)) (ei_range1 (ev_var (i := 1) rfl) ((((((okh.2 wide_262 h_263) bx_264 h_265).2.2 vectors_274 h_275) bx_276 h_277).2.1 hc_279).1)) eg_name (by decide) (noM_cons rfl noM_nil) (fun thing_281 hx_282 => (ev_eq (ev_I ev_int (ev_var (i := 10) rfl) (((((((okh.2 wide_262 h_263) bx_264 h_265).2.2 vectors_274 h_275) bx_276 h_277).2.1 hc_279).2 thing_281 hx_282))) rfl)))) rfl) rfl (fun vectors_285 h_286 => (xv_end (by exact (wk_S (wk_s (wk_s (wk_s (wk_s (wk_s (wk_s (wk_s (wk_s (wk_s (wk_s wk_n)))))))))))))))) (fun hc_279 => (xv_end (by exact (wk_S (wk_s (wk_s (wk_s (wk_s (wk_s (wk_s (wk_s (wk_s (wk_s (wk_s wk_n)))))))))))))) (fun z_287 h_288 => (xb_reb (fun bx_289 => [.m mBox bx_289, .d eI size, .d (eL eI) counts, .d eI wide_262, .d (eL eI) z_287, .un, .un, .un, .un, .un, .un]) ((f_law_draw bx_276 (3 : Int)).2) (fun bx_289 h_290 => (xb_set (ev_eq (ev_I0 ev_int (ev_callM (j := 0) (bx_289, size) rfl rfl (ea_cons (ev_eq (ev_var (i := 1) rfl) rfl) ea_nil) rfl rfl rfl (((((((okh.2 wide_262 h_263) bx_264 h_265).2.2 vectors_274 h_275) bx_276 h_277).2.2 z_287 h_288) bx_289 h_290).1) rfl rfl rfl)) rfl) rfl (fun most_292 h_293 => (xb_reb (fun bx_294 => [.m mBox bx_294, .d eI size, .d (eL eI) counts, .d eI wide_262, .d (eL eI) z_287, .d eI most_292, .un, .un, .un, .un, .un]) ((f_law_draw bx_289 size).2) (fun bx_294 h_295 => (xb_own (en_eq (en_lst (eas_cons ev_bl eas_nil) (by show 1 ≤ 100000; decide)) rfl) rfl (fun out_296 h_297 => (xb_fold (fun t_300 : (List Bool) => [.m mBox bx_294, .d eI size, .d (eL eI) counts, .d eI wide_262, .d (eL eI) z_287, .d eI most_292, .l eB t_300, .un, .un, .un, .un]) out_296 (h := (fun (t_300 : (List Bool)) (mask_301 : Int) => (lt (0 : Int) fun summed_305 => (lt (decide ((at_ counts mask_301) ≤ most_292)) fun right_308 => (lt (List.foldl (fun (t_311 : (Int × Bool)) (thing_312 : Int) => (lt (bif (decide ((PySem.Builtin.bitAnd (mask_301 / 2 ^ (thing_312).toNat) (1 : Int)) = (1 : Int))) then (lt (PySem.Builtin.bitXor t_311.1 (at_ z_287 thing_312)) fun summed_319 => (lt (t_311.2 && (at_ t_300 (mask_301 - ((1 : Int) * 2 ^ (thing_312).toNat)))) fun right_324 => (summed_319, right_324))) else (t_311.1, t_311.2)) fun z_326 => (z_326.1, z_326.2))) (summed_305, right_308) (rng 0 size)) fun s_328 => (lt (t_300 ++ [(s_328.2 && (!decide (s_328.1 = (0 : Int))))]) fun out_332 => out_332)))))) (ei_range2 ev_int (ev_I ev_int (ev_var (i := 1) rfl) ((((((((((okh.2 wide_262 h_263) bx_264 h_265).2.2 vectors_274 h_275) bx_276 h_277).2.2 z_287 h_288) bx_289 h_290).2 most_292 h_293) bx_294 h_295) out_296 h_297).1)) ((((((((((okh.2 wide_262 h_263) bx_264 h_265).2.2 vectors_274 h_275) bx_276 h_277).2.2 z_287 h_288) bx_289 h_290).2 most_292 h_293) bx_294 h_295) out_296 h_297).2.1)) (wk_S (wk_s (wk_s (wk_s (wk_s (wk_s (wk_s (wk_s (wk_s (wk_s (wk_s wk_n))))))))))) eg_name (fun _ => (noM_cons rfl noM_nil)) (fun i_302 mask_301 t_300 hi_303 ht_304 => (xv_set (ev_eq ev_int rfl) rfl (fun summed_305 h_306 => (xv_set (ev_eq (ev_IB (ev_ixL (ev_var (i := 2) rfl) (ev_var (i := 7) rfl) ((((((((((((okh.2 wide_262 h_263) bx_264 h_265).2.2 vectors_274 h_275) bx_276 h_277).2.2 z_287 h_288) bx_289 h_290).2 most_292 h_293) bx_294 h_295) out_296 h_297).2.2 i_302 mask_301 t_300 hi_303 ht_304) summed_305 h_306).1)) (ev_var (i := 5) rfl)) rfl) rfl (fun right_308 h_309 => (xv_for (fun t_311 : (Int × Bool) => [.m mBox bx_294, .d eI size, .d (eL eI) counts, .d eI wide_262, .d (eL eI) z_287, .d eI most_292, .l eB t_300, .d eI mask_301, .d eI t_311.1, .d eB t_311.2, .un]) (summed_305, right_308) (h := (fun (t_311 : (Int × Bool)) (thing_312 : Int) => (lt (bif (decide ((PySem.Builtin.bitAnd (mask_301 / 2 ^ (thing_312).toNat) (1 : Int)) = (1 : Int))) then (lt (PySem.Builtin.bitXor t_311.1 (at_ z_287 thing_312)) fun summed_319 => (lt (t_311.2 && (at_ t_300 (mask_301 - ((1 : Int) * 2 ^ (thing_312).toNat)))) fun right_324 => (summed_319, right_324))) else (t_311.1, t_311.2)) fun z_326 => (z_326.1, z_326.2)))) (ei_range1 (ev_var (i := 1) rfl) (((((((((((((okh.2 wide_262 h_263) bx_264 h_265).2.2 vectors_274 h_275) bx_276 h_277).2.2 z_287 h_288) bx_289 h_290).2 most_292 h_293) bx_294 h_295) out_296 h_297).2.2 i_302 mask_301 t_300 hi_303 ht_304) summed_305 h_306).2 right_308 h_309).1)) (wk_S (wk_s (wk_s (wk_s (wk_s (wk_s (wk_s (wk_s (wk_s (wk_s (wk_s wk_n))))))))))) eg_name (fun _ => (noM_cons rfl noM_nil)) (fun i_313 thing_312 t_311 hi_314 ht_315 => (xv_if (fun t : (Int × Bool) => [.m mBox bx_294, .d eI size, .d (eL eI) counts, .d eI wide_262, .d (eL eI) z_287, .d eI most_292, .l eB t_300, .d eI mask_301, .d eI t.1, .d eB t.2, .d eI thing_312]) (et_eq (et_test (ev_eqI (ev_I0 (ev_I (ev_var (i := 7) rfl) (ev_var (i := 10) rfl) ((((((((((((((okh.2 wide_262 h_263) bx_264 h_265).2.2 vectors_274 h_275) bx_276 h_277).2.2 z_287 h_288) bx_289 h_290).2 most_292 h_293) bx_294 h_295) out_296 h_297).2.2 i_302 mask_301 t_300 hi_303 ht_304) summed_305 h_306).2 right_308 h_309).2.1 i_313 thing_312 t_311 hi_314 ht_315).1)) ev_int) ev_int)) rfl) (fun hc_317 => (xv_set (ev_eq (ev_I0 (ev_var (i := 8) rfl) (ev_ixL (ev_var (i := 4) rfl) (ev_var (i := 10) rfl) (((((((((((((((okh.2 wide_262 h_263) bx_264 h_265).2.2 vectors_274 h_275) bx_276 h_277).2.2 z_287 h_288) bx_289 h_290).2 most_292 h_293) bx_294 h_295) out_296 h_297).2.2 i_302 mask_301 t_300 hi_303 ht_304) summed_305 h_306).2 right_308 h_309).2.1 i_313 thing_312 t_311 hi_314 ht_315).2 hc_317).1))) rfl) rfl (fun summed_319 h_320 => (xv_set (ev_eq (ev_borrow (ev_andV (ev_var (i := 9) rfl) (fun hb_321 => (ev_ixL (ev_var (i := 6) rfl) (ev_I0 (ev_var (i := 7) rfl) (ev_I ev_int (ev_var (i := 10) rfl) (((((((((((((((((okh.2 wide_262 h_263) bx_264 h_265).2.2 vectors_274 h_275) bx_276 h_277).2.2 z_287 h_288) bx_289 h_290).2 most_292 h_293) bx_294 h_295) out_296 h_297).2.2 i_302 mask_301 t_300 hi_303 ht_304) summed_305 h_306).2 right_308 h_309).2.1 i_313 thing_312 t_311 hi_314 ht_315).2 hc_317).2 summed_319 h_320) hb_321).1))) (((((((((((((((((okh.2 wide_262 h_263) bx_264 h_265).2.2 vectors_274 h_275) bx_276 h_277).2.2 z_287 h_288) bx_289 h_290).2 most_292 h_293) bx_294 h_295) out_296 h_297).2.2 i_302 mask_301 t_300 hi_303 ht_304) summed_305 h_306).2 right_308 h_309).2.1 i_313 thing_312 t_311 hi_314 ht_315).2 hc_317).2 summed_319 h_320) hb_321).2))))) rfl) rfl (fun right_324 h_325 => (xv_end (by exact (wk_S (wk_s (wk_s (wk_s (wk_s (wk_s (wk_s (wk_s (wk_s (wk_s (wk_s wk_n)))))))))))))))))) (fun hc_317 => (xv_end (by exact (wk_S (wk_s (wk_s (wk_s (wk_s (wk_s (wk_s (wk_s (wk_s (wk_s (wk_s wk_n)))))))))))))) (fun z_326 h_327 => (xv_end (by exact (wk_S (wk_s (wk_s (wk_s (wk_s (wk_s (wk_s (wk_s (wk_s (wk_s (wk_u wk_n)))))))))))))))) (fun s_328 h_329 => (xv_app rfl (ev_eq (ev_andV (ev_var (i := 9) rfl) (fun hb_330 => (ev_neI (ev_var (i := 8) rfl) ev_int))) rfl) rfl ((((((((((((((okh.2 wide_262 h_263) bx_264 h_265).2.2 vectors_274 h_275) bx_276 h_277).2.2 z_287 h_288) bx_289 h_290).2 most_292 h_293) bx_294 h_295) out_296 h_297).2.2 i_302 mask_301 t_300 hi_303 ht_304) summed_305 h_306).2 right_308 h_309).2.2 s_328 h_329)) (fun out_332 h_333 => (xv_end (by exact (wk_S (wk_s (wk_s (wk_s (wk_s (wk_s (wk_s (wk_u (wk_u (wk_u (wk_s wk_n)))))))))))))))))))))) (fun s_334 h_335 => (xb_retSV (j := 6) rfl (by decide) (.inr rfl) rfl rfl)))))))))))))))))))))⟩
/-! ### _law_quotas -/
abbrev N_law_quotas : List Str := ["box", "size", "counts", "first", "second", "low", "high", "mask"]
theorem sc_law_quotas : FnScope N_law_quotas ["box", "size", "counts"] (defScope s_law_quotas) := ⟨rfl, rfl, rfl, by decide +kernel, rfl, by decide +kernel, by decide +kernel⟩
def o_law_quotas (box : BoxD) (size : Int) (counts : (List Int)) : Out Empty Empty ((List Bool) × BoxD) :=
  (lt ((f_law_draw box ((1 : Int) * 2 ^ (size).toNat)).1) fun first_338 => (lt ((f_law_draw box ((1 : Int) * 2 ^ (size).toNat)).2) fun bx_340 => (lt ((f_law_draw bx_340 ((1 : Int) * 2 ^ (size).toNat)).1) fun second_344 => (lt ((f_law_draw bx_340 ((1 : Int) * 2 ^ (size).toNat)).2) fun bx_346 => (lt (bif (decide ((f_law_draw bx_346 (2 : Int)).1 = (0 : Int))) then (lt (PySem.Builtin.bitAnd second_344 ((((1 : Int) * 2 ^ (size).toNat) - (1 : Int)) - first_338)) fun second_351 => second_351) else (lt (PySem.Builtin.bitOr second_344 first_338) fun second_353 => second_353)) fun z_355 => (lt ((f_law_draw bx_346 (2 : Int)).2) fun bx_357 => (lt ((f_law_draw bx_357 (3 : Int)).1) fun low_360 => (lt ((f_law_draw bx_357 (3 : Int)).2) fun bx_362 => (lt ((f_law_draw bx_362 (4 : Int)).1) fun high_365 => (lt ((f_law_draw bx_362 (4 : Int)).2) fun bx_367 => (.rt ((((rng 0 ((1 : Int) * 2 ^ (size).toNat))).map fun mask_371 => ((decide ((at_ counts (PySem.Builtin.bitAnd mask_371 first_338)) ≤ low_360)) && (decide ((at_ counts (PySem.Builtin.bitAnd mask_371 z_355)) ≤ high_365)))), bx_367))))))))))))
@[irreducible] def f_law_quotas (box : BoxD) (size : Int) (counts : (List Int)) : ((List Bool) × BoxD) := (o_law_quotas box size counts).get
theorem f_law_quotas_eq (box : BoxD) (size : Int) (counts : (List Int)) : f_law_quotas box size counts = (o_law_quotas box size counts).get := by delta f_law_quotas; rfl
def ok_law_quotas (box : BoxD) (size : Int) (counts : (List Int)) : Prop :=
  (CPow (1 : Int) size) ∧ (ok_law_draw box ((1 : Int) * 2 ^ (size).toNat)) ∧ (∀ first_338 (h_339 : first_338 = (f_law_draw box ((1 : Int) * 2 ^ (size).toNat)).1), (∀ bx_340 (h_341 : bx_340 = (f_law_draw box ((1 : Int) * 2 ^ (size).toNat)).2), (CPow (1 : Int) size) ∧ (ok_law_draw bx_340 ((1 : Int) * 2 ^ (size).toNat)) ∧ (∀ second_344 (h_345 : second_344 = (f_law_draw bx_340 ((1 : Int) * 2 ^ (size).toNat)).1), (∀ bx_346 (h_347 : bx_346 = (f_law_draw bx_340 ((1 : Int) * 2 ^ (size).toNat)).2), (ok_law_draw bx_346 (2 : Int)) ∧ (∀ (hc_349 : ((decide ((f_law_draw bx_346 (2 : Int)).1 = (0 : Int)))) = true), (CPow (1 : Int) size)) ∧ (∀ z_355 (h_356 : z_355 = (bif (decide ((f_law_draw bx_346 (2 : Int)).1 = (0 : Int))) then (lt (PySem.Builtin.bitAnd second_344 ((((1 : Int) * 2 ^ (size).toNat) - (1 : Int)) - first_338)) fun second_351 => second_351) else (lt (PySem.Builtin.bitOr second_344 first_338) fun second_353 => second_353))), (∀ bx_357 (h_358 : bx_357 = (f_law_draw bx_346 (2 : Int)).2), (ok_law_draw bx_357 (3 : Int)) ∧ (∀ low_360 (h_361 : low_360 = (f_law_draw bx_357 (3 : Int)).1), (∀ bx_362 (h_363 : bx_362 = (f_law_draw bx_357 (3 : Int)).2), (ok_law_draw bx_362 (4 : Int)) ∧ (∀ high_365 (h_366 : high_365 = (f_law_draw bx_362 (4 : Int)).1), (∀ bx_367 (h_368 : bx_367 = (f_law_draw bx_362 (4 : Int)).2), (CPow (1 : Int) size) ∧ (-100000 ≤ ((1 : Int) * 2 ^ (size).toNat) ∧ ((1 : Int) * 2 ^ (size).toNat) ≤ 100000) ∧ (∀ (mask_371 : Int) (hx_372 : mask_371 ∈ (rng 0 ((1 : Int) * 2 ^ (size).toNat))), (inIx (counts).length (PySem.Builtin.bitAnd mask_371 first_338)) ∧ (∀ (hb_374 : ((decide ((at_ counts (PySem.Builtin.bitAnd mask_371 first_338)) ≤ low_360))) = true), (inIx (counts).length (PySem.Builtin.bitAnd mask_371 z_355))))))))))))))
section
variable {K : PySem.W.Frag} {cFamily : Addr}
abbrev sp_law_quotas : Sp := spF (K := K) (ι := (BoxD × Int × (List Int))) (fun x => [.m mBox x.1, .d eI x.2.1, .d (eL eI) x.2.2]) (fun x => ok_law_quotas x.1 x.2.1 x.2.2) (retLM eB mBox) (fun x => f_law_quotas x.1 x.2.1 x.2.2)
end
set_option maxHeartbeats 4000000 in
theorem at_law_quotas {P : Program} {w : World} {K : PySem.W.Frag} {mg : Str → Option Value} {base : Heap} {cFamily : Addr} (T : Txt K mg cFamily) : FnAt P w K mg base "_law_quotas" 2 ["box", "size", "counts"] (sp_law_quotas (K := K)) := by
  obtain ⟨f, fd, F, mg_, bd_⟩ := T.d_law_quotas
  obtain ⟨⟨a_law_draw, d_law_draw, G_law_draw, m_law_draw, k_law_draw, b_law_draw⟩⟩ := at_law_draw (P := P) (w := w) (base := base) T
  refine ⟨⟨f, fd, fn_okG (fun x => f_law_quotas_eq x.1 x.2.1 x.2.2) <| fn_okE (o := fun x : (BoxD × Int × (List Int)) => o_law_quotas x.1 x.2.1 x.2.2) (k := 1) F sc_law_quotas (fun x => rfl) (fun x i s h => noM_tail (by simp [Slot.isM]) h) (fun cdv A outer s H EX hr x hp => ?_), mg_, F.kp, bd_⟩⟩
  obtain ⟨box, size, counts⟩ := x
  have okh : ok_law_quotas box size counts := hp
  exact ⟨_, _, rfl,
    (pss_cons (ps_set (i := 3) sc_law_quotas.nd rfl (by first | exact Or.inl rfl | exact Or.inr rfl) (pe_call G_law_draw (hr.mono (by decide)) (by rfl) m_law_draw k_law_draw b_law_draw .nil pass0 (pa_cons (pv 0) (pa_cons (pe_op op_shl pe_int (pv 1)) pa_nil)))) (pss_cons (ps_set (i := 4) sc_law_quotas.nd rfl (by first | exact Or.inl rfl | exact Or.inr rfl) (pe_call G_law_draw (hr.mono (by decide)) (by rfl) m_law_draw k_law_draw b_law_draw .nil pass0 (pa_cons (pv 0) (pa_cons (pe_op op_shl pe_int (pv 1)) pa_nil)))) (pss_cons (ps_if (pt_cmpR op_eq (pe_call G_law_draw (hr.mono (by decide)) (by rfl) m_law_draw k_law_draw b_law_draw .nil pass0 (pa_cons (pv 0) (pa_cons pe_int pa_nil))) pe_int (nomark _)) (pss_cons (ps_set (i := 4) sc_law_quotas.nd rfl (by first | exact Or.inl rfl | exact Or.inr rfl) (pe_op op_and (pv 4) (pe_op op_sub (pe_op op_sub (pe_op op_shl pe_int (pv 1)) pe_int) (pv 3)))) pss_nil) (pss_cons (ps_set (i := 4) sc_law_quotas.nd rfl (by first | exact Or.inl rfl | exact Or.inr rfl) (pe_op op_or (pv 4) (pv 3))) pss_nil)) (pss_cons (ps_set (i := 5) sc_law_quotas.nd rfl (by first | exact Or.inl rfl | exact Or.inr rfl) (pe_call G_law_draw (hr.mono (by decide)) (by rfl) m_law_draw k_law_draw b_law_draw .nil pass0 (pa_cons (pv 0) (pa_cons pe_int pa_nil)))) (pss_cons (ps_set (i := 6) sc_law_quotas.nd rfl (by first | exact Or.inl rfl | exact Or.inr rfl) (pe_call G_law_draw (hr.mono (by decide)) (by rfl) m_law_draw k_law_draw b_law_draw .nil pass0 (pa_cons (pv 0) (pa_cons pe_int pa_nil)))) (pss_cons (ps_ret (pe_lc (own := [("mask", 7)]) (g := gName 7) (tt := tYes) rfl sc_law_quotas.nd (pi_range1 (by rfl) T.b_range (pa_cons (pe_op op_shl pe_int (pv 1)) pa_nil)) (blkOk_by (N := N_law_quotas) (sc := defScope s_law_quotas) (by decide +kernel)) (fun _ _ _ _ _ => (pg_name (i := 7) sc_law_quotas.nd rfl (by first | exact Or.inl rfl | exact Or.inr rfl))) (fun _ _ _ _ _ => pts_nil) (fun _ _ _ _ _ => (pe_and (pe_cmpR op_le (pe_ix ix_list (pv 2) (pe_op op_and (pv 7) (pv 3)) (fun _ _ => rfl)) (pv 5) (nomark _)) (pe_one (pe_cmpR op_le (pe_ix ix_list (pv 2) (pe_op op_and (pv 7) (pv 4)) (fun _ _ => rfl)) (pv 6) (nomark _))))))) pss_nil)))))),
    (xb_set (ev_eq (ev_callM (j := 0) (box, ((1 : Int) * 2 ^ (size).toNat)) rfl rfl (ea_cons (ev_eq (ev_I ev_int (ev_var (i := 1) rfl) (okh.1)) rfl) ea_nil) rfl rfl rfl (okh.2.1) rfl rfl rfl) rfl) rfl (fun first_338 h_339 => (xb_reb (fun bx_340 => [.m mBox bx_340, .d eI size, .d (eL eI) counts, .d eI first_338, .un, .un, .un, .un]) ((f_law_draw box ((1 : Int) * 2 ^ (size).toNat)).2) (fun bx_340 h_341 => (xb_set (ev_eq (ev_callM (j := 0) (bx_340, ((1 : Int) * 2 ^ (size).toNat)) rfl rfl (ea_cons (ev_eq (ev_I ev_int (ev_var (i := 1) rfl) (((okh.2.2 first_338 h_339) bx_340 h_341).1)) rfl) ea_nil) rfl rfl rfl (((okh.2.2 first_338 h_339) bx_340 h_341).2.1) rfl rfl rfl) rfl) rfl (fun second_344 h_345 => (xb_reb (fun bx_346 => [.m mBox bx_346, .d eI size, .d (eL eI) counts, .d eI first_338, .d eI second_344, .un, .un, .un]) ((f_law_draw bx_340 ((1 : Int) * 2 ^ (size).toNat)).2) (fun bx_346 h_347 => (xb_if (fun t : Int => [.m mBox (f_law_draw bx_346 (2 : Int)).2, .d eI size, .d (eL eI) counts, .d eI first_338, .d eI t, .un, .un, .un]) (et_eq (et_test (ev_eqI (ev_callM (j := 0) (bx_346, (2 : Int)) rfl rfl (ea_cons (ev_eq ev_int rfl) ea_nil) rfl rfl rfl (((((okh.2.2 first_338 h_339) bx_340 h_341).2.2 second_344 h_345) bx_346 h_347).1) rfl rfl rfl) ev_int)) rfl) (fun hc_349 => (xv_set (ev_eq (ev_I0 (ev_var (i := 4) rfl) (ev_I0 (ev_I0 (ev_I ev_int (ev_var (i := 1) rfl) ((((((okh.2.2 first_338 h_339) bx_340 h_341).2.2 second_344 h_345) bx_346 h_347).2.1 hc_349))) ev_int) (ev_var (i := 3) rfl))) rfl) rfl (fun second_351 h_352 => (xv_end (by exact (wk_S (wk_s (wk_s (wk_s (wk_s (wk_s (wk_s (wk_s wk_n))))))))))))) (fun hc_349 => (xv_set (ev_eq (ev_I0 (ev_var (i := 4) rfl) (ev_var (i := 3) rfl)) rfl) rfl (fun second_353 h_354 => (xv_end (by exact (wk_S (wk_s (wk_s (wk_s (wk_s (wk_s (wk_s (wk_s wk_n))))))))))))) (fun z_355 h_356 => (xb_reb (fun bx_357 => [.m mBox bx_357, .d eI size, .d (eL eI) counts, .d eI first_338, .d eI z_355, .un, .un, .un]) ((f_law_draw bx_346 (2 : Int)).2) (fun bx_357 h_358 => (xb_set (ev_eq (ev_callM (j := 0) (bx_357, (3 : Int)) rfl rfl (ea_cons (ev_eq ev_int rfl) ea_nil) rfl rfl rfl (((((((okh.2.2 first_338 h_339) bx_340 h_341).2.2 second_344 h_345) bx_346 h_347).2.2 z_355 h_356) bx_357 h_358).1) rfl rfl rfl) rfl) rfl (fun low_360 h_361 => (xb_reb (fun bx_362 => [.m mBox bx_362, .d eI size, .d (eL eI) counts, .d eI first_338, .d eI z_355, .d eI low_360, .un, .un]) ((f_law_draw bx_357 (3 : Int)).2) (fun bx_362 h_363 => (xb_set (ev_eq (ev_callM (j := 0) (bx_362, (4 : Int)) rfl rfl (ea_cons (ev_eq ev_int rfl) ea_nil) rfl rfl rfl (((((((((okh.2.2 first_338 h_339) bx_340 h_341).2.2 second_344 h_345) bx_346 h_347).2.2 z_355 h_356) bx_357 h_358).2 low_360 h_361) bx_362 h_363).1) rfl rfl rfl) rfl) rfl (fun high_365 h_366 => (xb_reb (fun bx_367 => [.m mBox bx_367, .d eI size, .d (eL eI) counts, .d eI first_338, .d eI z_355, .d eI low_360, .d eI high_365, .un]) ((f_law_draw bx_362 (4 : Int)).2) (fun bx_367 h_368 => (xb_retSW (EvN.w (en_eq (en_lcY (v := fun mask_371 => ((decide ((at_ counts (PySem.Builtin.bitAnd mask_371 first_338)) ≤ low_360)) && (decide ((at_ counts (PySem.Builtin.bitAnd mask_371 z_355)) ≤ high_365)))) (ei_range1 (ev_I ev_int (ev_var (i := 1) rfl) (((((((((((okh.2.2 first_338 h_339) bx_340 h_341).2.2 second_344 h_345) bx_346 h_347).2.2 z_355 h_356) bx_357 h_358).2 low_360 h_361) bx_362 h_363).2 high_365 h_366) bx_367 h_368).1)) (((((((((((okh.2.2 first_338 h_339) bx_340 h_341).2.2 second_344 h_345) bx_346 h_347).2.2 z_355 h_356) bx_357 h_358).2 low_360 h_361) bx_362 h_363).2 high_365 h_366) bx_367 h_368).2.1)) eg_name (by decide) (noM_cons rfl noM_nil) (fun mask_371 hx_372 => (ev_eq (ev_andV (ev_IB (ev_ixL (ev_var (i := 2) rfl) (ev_I0 (ev_var (i := 7) rfl) (ev_var (i := 3) rfl)) ((((((((((((okh.2.2 first_338 h_339) bx_340 h_341).2.2 second_344 h_345) bx_346 h_347).2.2 z_355 h_356) bx_357 h_358).2 low_360 h_361) bx_362 h_363).2 high_365 h_366) bx_367 h_368).2.2 mask_371 hx_372).1)) (ev_var (i := 5) rfl)) (fun hb_374 => (ev_IB (ev_ixL (ev_var (i := 2) rfl) (ev_I0 (ev_var (i := 7) rfl) (ev_var (i := 4) rfl)) (((((((((((((okh.2.2 first_338 h_339) bx_340 h_341).2.2 second_344 h_345) bx_346 h_347).2.2 z_355 h_356) bx_357 h_358).2 low_360 h_361) bx_362 h_363).2 high_365 h_366) bx_367 h_368).2.2 mask_371 hx_372).2 hb_374))) (ev_var (i := 6) rfl)))) rfl))) rfl)) (.inr rfl) rfl rfl)))))))))))))))))))))⟩
/-! ### _law_full -/
abbrev N_law_full : List Str := ["inside", "size", "out", "mask", "more", "k"]
theorem sc_law_full : FnScope N_law_full ["inside", "size"] (defScope s_law_full) := ⟨rfl, rfl, rfl, by decide +kernel, rfl, by decide +kernel, by decide +kernel⟩
def o_law_full (inside : (List Bool)) (size : Int) : Out Empty Empty (List Int) :=
  (lt ([] : List Int) fun out_377 => (lt (List.foldl (fun (t_380 : (List Int)) (mask_381 : Int) => (lt (bif (at_ inside mask_381) then (lt ((((rng 0 size)).filter fun k_388 => ((decide ((PySem.Builtin.bitAnd (mask_381 / 2 ^ (k_388).toNat) (1 : Int)) = (0 : Int))) && (at_ inside (PySem.Builtin.bitOr mask_381 ((1 : Int) * 2 ^ (k_388).toNat))))).map fun k_388 => k_388) fun more_395 => (lt (bif (decide (((more_395).length : Int) = (0 : Int))) then (lt (t_380 ++ [mask_381]) fun out_399 => out_399) else t_380) fun z_401 => z_401)) else t_380) fun z_403 => z_403)) out_377 (rng 0 ((inside).length : Int))) fun s_405 => (.rt s_405)))
@[irreducible] def f_law_full (inside : (List Bool)) (size : Int) : (List Int) := (o_law_full inside size).get
theorem f_law_full_eq (inside : (List Bool)) (size : Int) : f_law_full inside size = (o_law_full inside size).get := by delta f_law_full; rfl
def ok_law_full (inside : (List Bool)) (size : Int) : Prop :=
  (∀ out_377 (h_378 : out_377 = ([] : List Int)), (-100000 ≤ ((inside).length : Int) ∧ ((inside).length : Int) ≤ 100000) ∧ (∀ (i_382 : Nat) (mask_381 : Int) (t_380 : (List Int)) (hi_383 : ((rng 0 ((inside).length : Int)))[i_382]? = some mask_381) (ht_384 : t_380 = (((rng 0 ((inside).length : Int))).take i_382).foldl (fun (t_380 : (List Int)) (mask_381 : Int) => (lt (bif (at_ inside mask_381) then (lt ((((rng 0 size)).filter fun k_388 => ((decide ((PySem.Builtin.bitAnd (mask_381 / 2 ^ (k_388).toNat) (1 : Int)) = (0 : Int))) && (at_ inside (PySem.Builtin.bitOr mask_381 ((1 : Int) * 2 ^ (k_388).toNat))))).map fun k_388 => k_388) fun more_395 => (lt (bif (decide (((more_395).length : Int) = (0 : Int))) then (lt (t_380 ++ [mask_381]) fun out_399 => out_399) else t_380) fun z_401 => z_401)) else t_380) fun z_403 => z_403)) out_377), (inIx (inside).length mask_381) ∧ (∀ (hc_386 : ((at_ inside mask_381)) = true), (-100000 ≤ size ∧ size ≤ 100000) ∧ (∀ (k_388 : Int) (hx_389 : k_388 ∈ (rng 0 size)), (0 ≤ k_388) ∧ (∀ (hb_391 : ((decide ((PySem.Builtin.bitAnd (mask_381 / 2 ^ (k_388).toNat) (1 : Int)) = (0 : Int)))) = true), (CPow (1 : Int) k_388) ∧ (inIx (inside).length (PySem.Builtin.bitOr mask_381 ((1 : Int) * 2 ^ (k_388).toNat))))) ∧ (∀ more_395 (h_396 : more_395 = ((((rng 0 size)).filter fun k_388 => ((decide ((PySem.Builtin.bitAnd (mask_381 / 2 ^ (k_388).toNat) (1 : Int)) = (0 : Int))) && (at_ inside (PySem.Builtin.bitOr mask_381 ((1 : Int) * 2 ^ (k_388).toNat))))).map fun k_388 => k_388)), (∀ (hc_397 : ((decide (((more_395).length : Int) = (0 : Int)))) = true), ((t_380).length < 100000))))))
section
variable {K : PySem.W.Frag} {cFamily : Addr}
abbrev sp_law_full : Sp := spF (K := K) (ι := ((List Bool) × Int)) (fun x => [.d (eL eB) x.1, .d eI x.2]) (fun x => ok_law_full x.1 x.2) (retL eI) (fun x => f_law_full x.1 x.2)
end
set_option maxHeartbeats 4000000 in
theorem at_law_full {P : Program} {w : World} {K : PySem.W.Frag} {mg : Str → Option Value} {base : Heap} {cFamily : Addr} (T : Txt K mg cFamily) : FnAt P w K mg base "_law_full" 1 ["inside", "size"] (sp_law_full (K := K)) := by
  obtain ⟨f, fd, F, mg_, bd_⟩ := T.d_law_full
  refine ⟨⟨f, fd, fn_okG (fun x => f_law_full_eq x.1 x.2) <| fn_okE (o := fun x : ((List Bool) × Int) => o_law_full x.1 x.2) (k := 0) F sc_law_full (fun x => rfl) (fun x i s h => noM_tail (by simp [Slot.isM]) h) (fun cdv A outer s H EX hr x hp => ?_), mg_, F.kp, bd_⟩⟩
  obtain ⟨inside, size⟩ := x
  have okh : ok_law_full inside size := hp
  exact ⟨_, _, rfl,
    (pss_cons (ps_set (i := 2) sc_law_full.nd rfl (by first | exact Or.inl rfl | exact Or.inr rfl) (pe_lst pa_nil)) (pss_cons (ps_for PassesOwn.never rfl (pi_range1 (by rfl) T.b_range (pa_cons (pe_callB call_len_seq (by rfl) T.b_len (by decide +kernel) (pa_cons (pv 0) pa_nil)) pa_nil)) (pg_name (i := 3) sc_law_full.nd rfl (by first | exact Or.inl rfl | exact Or.inr rfl)) (pss_cons (ps_if (pt_val (pe_ix ix_list (pv 0) (pv 3) (fun _ _ => rfl))) (pss_cons (ps_setLc (i := 4) (own := [("k", 5)]) (g := gName 5) rfl sc_law_full.nd rfl rfl (sw_true rfl rfl rfl (by decide +kernel)) (pi_range1 (by rfl) T.b_range (pa_cons (pv 1) pa_nil)) (blkOk_by (N := N_law_full) (sc := defScope s_law_full) (by decide +kernel)) (fun _ _ _ _ _ => (pg_name (i := 5) sc_law_full.nd rfl (by first | exact Or.inl rfl | exact Or.inr rfl))) (fun _ _ _ _ _ => pts_one (PW.pt (pw_and (pt_cmpR op_eq (pe_op op_and (pe_op op_shr (pv 3) (pv 5)) pe_int) pe_int (nomark _)) (pw_and1 (pt_val (pe_ix ix_list (pv 0) (pe_op op_or (pv 3) (pe_op op_shl pe_int (pv 5))) (fun _ _ => rfl))))))) (fun _ _ _ _ _ => (pv 5))) (pss_cons (ps_if (pt_cmpR op_eq (pe_callB call_len_seq (by rfl) T.b_len (by decide +kernel) (pa_cons (pv 4) pa_nil)) pe_int (nomark _)) (pss_cons (ps_expr (pe_bm PySem.F.plainAttrs_list PySem.F.slot_list_append PySem.F.type_list_append mt_append (pv 2) (pa_cons (pv 3) pa_nil))) pss_nil) pss_nil) pss_nil)) pss_nil) pss_nil)) (pss_cons (ps_ret (pv 2)) pss_nil))),
    (xb_own (en_eq (en_lst (eas_nil (e := eI)) (by show 0 ≤ 100000; decide)) rfl) rfl (fun out_377 h_378 => (xb_fold (fun t_380 : (List Int) => [.d (eL eB) inside, .d eI size, .l eI t_380, .un, .un, .un]) out_377 (h := (fun (t_380 : (List Int)) (mask_381 : Int) => (lt (bif (at_ inside mask_381) then (lt ((((rng 0 size)).filter fun k_388 => ((decide ((PySem.Builtin.bitAnd (mask_381 / 2 ^ (k_388).toNat) (1 : Int)) = (0 : Int))) && (at_ inside (PySem.Builtin.bitOr mask_381 ((1 : Int) * 2 ^ (k_388).toNat))))).map fun k_388 => k_388) fun more_395 => (lt (bif (decide (((more_395).length : Int) = (0 : Int))) then (lt (t_380 ++ [mask_381]) fun out_399 => out_399) else t_380) fun z_401 => z_401)) else t_380) fun z_403 => z_403))) (ei_range1 (ev_lenL (ev_var (i := 0) rfl)) ((okh out_377 h_378).1)) (wk_S (wk_s (wk_s (wk_s (wk_s (wk_s wk_n)))))) eg_name (fun _ => (noM_cons rfl noM_nil)) (fun i_382 mask_381 t_380 hi_383 ht_384 => (xv_if (fun t : (List Int) => [.d (eL eB) inside, .d eI size, .l eI t, .d eI mask_381, .un, .un]) (et_eq (et_B (ev_ixL (ev_var (i := 0) rfl) (ev_var (i := 3) rfl) (((okh out_377 h_378).2 i_382 mask_381 t_380 hi_383 ht_384).1))) rfl) (fun hc_386 => (xv_set (ev_eq (EvN.d (en_lc (p := fun k_388 => ((decide ((PySem.Builtin.bitAnd (mask_381 / 2 ^ (k_388).toNat) (1 : Int)) = (0 : Int))) && (at_ inside (PySem.Builtin.bitOr mask_381 ((1 : Int) * 2 ^ (k_388).toNat))))) (v := fun k_388 => k_388) (ei_range1 (ev_var (i := 1) rfl) ((((okh out_377 h_378).2 i_382 mask_381 t_380 hi_383 ht_384).2 hc_386).1)) eg_name (by decide) (noM_cons rfl noM_nil) (fun k_388 hx_389 => (et_eq (et_and (et_test (ev_eqI (ev_I0 (ev_I (ev_var (i := 3) rfl) (ev_var (i := 5) rfl) (((((okh out_377 h_378).2 i_382 mask_381 t_380 hi_383 ht_384).2 hc_386).2.1 k_388 hx_389).1)) ev_int) ev_int)) (fun hb_391 => (et_B (ev_ixL (ev_var (i := 0) rfl) (ev_I0 (ev_var (i := 3) rfl) (ev_I ev_int (ev_var (i := 5) rfl) ((((((okh out_377 h_378).2 i_382 mask_381 t_380 hi_383 ht_384).2 hc_386).2.1 k_388 hx_389).2 hb_391).1))) ((((((okh out_377 h_378).2 i_382 mask_381 t_380 hi_383 ht_384).2 hc_386).2.1 k_388 hx_389).2 hb_391).2))))) rfl)) (fun k_388 hx_389 hp_394 => (ev_eq (ev_var (i := 5) rfl) rfl)))) rfl) rfl (fun more_395 h_396 => (xv_if (fun t : (List Int) => [.d (eL eB) inside, .d eI size, .l eI t, .d eI mask_381, .d (eL eI) more_395, .un]) (et_eq (et_test (ev_eqI (ev_lenL (ev_var (i := 4) rfl)) ev_int)) rfl) (fun hc_397 => (xv_app rfl (ev_eq (ev_var (i := 3) rfl) rfl) rfl ((((((okh out_377 h_378).2 i_382 mask_381 t_380 hi_383 ht_384).2 hc_386).2.2 more_395 h_396) hc_397)) (fun out_399 h_400 => (xv_end (by exact (wk_S (wk_s (wk_s (wk_s (wk_s (wk_s wk_n))))))))))) (fun hc_397 => (xv_end (by exact (wk_S (wk_s (wk_s (wk_s (wk_s (wk_s wk_n))))))))) (fun z_401 h_402 => (xv_end (by exact (wk_S (wk_s (wk_s (wk_s (wk_u (wk_s wk_n))))))))))))) (fun hc_386 => (xv_end (by exact (wk_S (wk_s (wk_s (wk_s (wk_s (wk_s wk_n))))))))) (fun z_403 h_404 => (xv_end (by exact (wk_S (wk_s (wk_s (wk_u (wk_s (wk_s wk_n))))))))))) (fun s_405 h_406 => (xb_retSV (j := 2) rfl (by decide) (.inl rfl) rfl rfl)))))⟩
/-! ### _law_inside -/
abbrev N_law_inside : List Str := ["box", "size", "counts", "shape", "out", "full", "top", "mask", "k"]
theorem sc_law_inside : FnScope N_law_inside ["box", "size"] (defScope s_law_inside) := ⟨rfl, rfl, rfl, by decide +kernel, rfl, by decide +kernel, by decide +kernel⟩
def o_law_inside (box : BoxD) (size : Int) : Out Empty Empty ((List Bool) × BoxD) :=
  (lt (f_law_counts size) fun counts_408 => (lt ((f_law_draw box (6 : Int)).1) fun shape_411 => (lt ((f_law_draw box (6 : Int)).2) fun bx_413 => (bif (decide (shape_411 = (0 : Int))) then (.rt ((f_law_closed size ((lcGo (fun b_420 k_418 => (f_law_draw b_420 ((1 : Int) * 2 ^ (size).toNat)).2) (fun _ _ => true) (fun b_420 k_418 => (f_law_draw b_420 ((1 : Int) * 2 ^ (size).toNat)).1) (f_law_draw bx_413 (5 : Int)).2 (rng 0 (f_law_draw bx_413 (5 : Int)).1)).2)), (lcGo (fun b_420 k_418 => (f_law_draw b_420 ((1 : Int) * 2 ^ (size).toNat)).2) (fun _ _ => true) (fun b_420 k_418 => (f_law_draw b_420 ((1 : Int) * 2 ^ (size).toNat)).1) (f_law_draw bx_413 (5 : Int)).2 (rng 0 (f_law_draw bx_413 (5 : Int)).1)).1)) else (bif (decide (shape_411 = (1 : Int))) then (.rt ((f_law_quotas bx_413 size counts_408).1, (f_law_quotas bx_413 size counts_408).2)) else (lt ((f_law_vectors bx_413 size counts_408).1) fun out_430 => (lt ((f_law_vectors bx_413 size counts_408).2) fun bx_432 => (lt (bif (decide (shape_411 = (2 : Int))) then (lt (f_law_full out_430 size) fun full_436 => (lt (bif (!decide (full_436 = [(0 : Int)])) then (lt (List.set out_430 (ixI (out_430).length (at_ full_436 (f_law_draw bx_432 ((full_436).length : Int)).1)) false) fun out_442 => (out_442, (f_law_draw bx_432 ((full_436).length : Int)).2)) else (out_430, bx_432)) fun z_444 => (z_444.1, z_444.2))) else (out_430, bx_432)) fun z_446 => (lt (bif (decide (shape_411 = (3 : Int))) then (lt ((f_law_draw z_446.2 ((1 : Int) * 2 ^ (size).toNat)).1) fun top_451 => (lt ((f_law_draw z_446.2 ((1 : Int) * 2 ^ (size).toNat)).2) fun bx_453 => (lt (((rng 0 ((1 : Int) * 2 ^ (size).toNat))).map fun mask_457 => ((at_ z_446.1 mask_457) || (decide ((PySem.Builtin.bitAnd mask_457 top_451) = mask_457)))) fun out_462 => (bx_453, out_462)))) else (z_446.2, z_446.1)) fun z_464 => (.rt (z_464.2, z_464.1)))))))))))
@[irreducible] def f_law_inside (box : BoxD) (size : Int) : ((List Bool) × BoxD) := (o_law_inside box size).get
theorem f_law_inside_eq (box : BoxD) (size : Int) : f_law_inside box size = (o_law_inside box size).get := by delta f_law_inside; rfl
def ok_law_inside (box : BoxD) (size : Int) : Prop :=
  (ok_law_counts size) ∧ (∀ counts_408 (h_409 : counts_408 = (f_law_counts size)), (ok_law_draw box (6 : Int)) ∧ (∀ shape_411 (h_412 : shape_411 = (f_law_draw box (6 : Int)).1), (∀ bx_413 (h_414 : bx_413 = (f_law_draw box (6 : Int)).2), (∀ (hc_415 : ((decide (shape_411 = (0 : Int)))) = true), (ok_law_draw bx_413 (5 : Int)) ∧ (-100000 ≤ (f_law_draw bx_413 (5 : Int)).1 ∧ (f_law_draw bx_413 (5 : Int)).1 ≤ 100000) ∧ (∀ (i_423 : Nat) (k_418 : Int) (b_420 : BoxD) (hi_424 : ((rng 0 (f_law_draw bx_413 (5 : Int)).1))[i_423]? = some k_418) (ht_425 : b_420 = (lcGo (fun b_420 k_418 => (f_law_draw b_420 ((1 : Int) * 2 ^ (size).toNat)).2) (fun _ _ => true) (fun b_420 k_418 => (f_law_draw b_420 ((1 : Int) * 2 ^ (size).toNat)).1) (f_law_draw bx_413 (5 : Int)).2 (((rng 0 (f_law_draw bx_413 (5 : Int)).1)).take i_423)).1), (CPow (1 : Int) size) ∧ (ok_law_draw b_420 ((1 : Int) * 2 ^ (size).toNat))) ∧ (ok_law_closed size ((lcGo (fun b_420 k_418 => (f_law_draw b_420 ((1 : Int) * 2 ^ (size).toNat)).2) (fun _ _ => true) (fun b_420 k_418 => (f_law_draw b_420 ((1 : Int) * 2 ^ (size).toNat)).1) (f_law_draw bx_413 (5 : Int)).2 (rng 0 (f_law_draw bx_413 (5 : Int)).1)).2))) ∧ (∀ (hc_415 : ((decide (shape_411 = (0 : Int)))) = false), (∀ (hc_427 : ((decide (shape_411 = (1 : Int)))) = true), (ok_law_quotas bx_413 size counts_408)) ∧ (∀ (hc_427 : ((decide (shape_411 = (1 : Int)))) = false), (ok_law_vectors bx_413 size counts_408) ∧ (∀ out_430 (h_431 : out_430 = (f_law_vectors bx_413 size counts_408).1), (∀ bx_432 (h_433 : bx_432 = (f_law_vectors bx_413 size counts_408).2), (∀ (hc_434 : ((decide (shape_411 = (2 : Int)))) = true), (ok_law_full out_430 size) ∧ (∀ full_436 (h_437 : full_436 = (f_law_full out_430 size)), (∀ (hc_438 : ((!decide (full_436 = [(0 : Int)]))) = true), (ok_law_draw bx_432 ((full_436).length : Int)) ∧ (inIx (full_436).length (f_law_draw bx_432 ((full_436).length : Int)).1) ∧ (inIx (out_430).length (at_ full_436 (f_law_draw bx_432 ((full_436).length : Int)).1))))) ∧ (∀ z_446 (h_447 : z_446 = (bif (decide (shape_411 = (2 : Int))) then (lt (f_law_full out_430 size) fun full_436 => (lt (bif (!decide (full_436 = [(0 : Int)])) then (lt (List.set out_430 (ixI (out_430).length (at_ full_436 (f_law_draw bx_432 ((full_436).length : Int)).1)) false) fun out_442 => (out_442, (f_law_draw bx_432 ((full_436).length : Int)).2)) else (out_430, bx_432)) fun z_444 => (z_444.1, z_444.2))) else (out_430, bx_432))), (∀ (hc_448 : ((decide (shape_411 = (3 : Int)))) = true), (CPow (1 : Int) size) ∧ (ok_law_draw z_446.2 ((1 : Int) * 2 ^ (size).toNat)) ∧ (∀ top_451 (h_452 : top_451 = (f_law_draw z_446.2 ((1 : Int) * 2 ^ (size).toNat)).1), (∀ bx_453 (h_454 : bx_453 = (f_law_draw z_446.2 ((1 : Int) * 2 ^ (size).toNat)).2), (CPow (1 : Int) size) ∧ (-100000 ≤ ((1 : Int) * 2 ^ (size).toNat) ∧ ((1 : Int) * 2 ^ (size).toNat) ≤ 100000) ∧ (∀ (mask_457 : Int) (hx_458 : mask_457 ∈ (rng 0 ((1 : Int) * 2 ^ (size).toNat))), (inIx (z_446.1).length mask_457)))))))))))))
section
variable {K : PySem.W.Frag} {cFamily : Addr}
abbrev sp_law_inside : Sp := spF (K := K) (ι := (BoxD × Int)) (fun x => [.m mBox x.1, .d eI x.2]) (fun x => ok_law_inside x.1 x.2) (retLM eB mBox) (fun x => f_law_inside x.1 x.2)
end
set_option maxHeartbeats 4000000 in
theorem at_law_inside {P : Program} {w : World} {K : PySem.W.Frag} {mg : Str → Option Value} {base : Heap} {cFamily : Addr} (T : Txt K mg cFamily) : FnAt P w K mg base "_law_inside" 3 ["box", "size"] (sp_law_inside (K := K)) := by
  obtain ⟨f, fd, F, mg_, bd_⟩ := T.d_law_inside
  obtain ⟨⟨a_law_closed, d_law_closed, G_law_closed, m_law_closed, k_law_closed, b_law_closed⟩⟩ := at_law_closed (P := P) (w := w) (base := base) T
  obtain ⟨⟨a_law_counts, d_law_counts, G_law_counts, m_law_counts, k_law_counts, b_law_counts⟩⟩ := at_law_counts (P := P) (w := w) (base := base) T
  obtain ⟨⟨a_law_draw, d_law_draw, G_law_draw, m_law_draw, k_law_draw, b_law_draw⟩⟩ := at_law_draw (P := P) (w := w) (base := base) T
  obtain ⟨⟨a_law_full, d_law_full, G_law_full, m_law_full, k_law_full, b_law_full⟩⟩ := at_law_full (P := P) (w := w) (base := base) T
  obtain ⟨⟨a_law_quotas, d_law_quotas, G_law_quotas, m_law_quotas, k_law_quotas, b_law_quotas⟩⟩ := at_law_quotas (P := P) (w := w) (base := base) T
  obtain ⟨⟨a_law_vectors, d_law_vectors, G_law_vectors, m_law_vectors, k_law_vectors, b_law_vectors⟩⟩ := at_law_vectors (P := P) (w := w) (base := base) T
  refine ⟨⟨f, fd, fn_okG (fun x => f_law_inside_eq x.1 x.2) <| fn_okE (o := fun x : (BoxD × Int) => o_law_inside x.1 x.2) (k := 2) F sc_law_inside (fun x => rfl) (fun x i s h => noM_tail (by simp [Slot.isM]) h) (fun cdv A outer s H EX hr x hp => ?_), mg_, F.kp, bd_⟩⟩
  obtain ⟨box, size⟩ := x
  have okh : ok_law_inside box size := hp
  exact ⟨_, _, rfl,
    (pss_cons (ps_set (i := 2) sc_law_inside.nd rfl (by first | exact Or.inl rfl | exact Or.inr rfl) (pe_call G_law_counts (hr.mono (by decide)) (by rfl) m_law_counts k_law_counts b_law_counts .nil pass0 (pa_cons (pv 1) pa_nil))) (pss_cons (ps_set (i := 3) sc_law_inside.nd rfl (by first | exact Or.inl rfl | exact Or.inr rfl) (pe_call G_law_draw (hr.mono (by decide)) (by rfl) m_law_draw k_law_draw b_law_draw .nil pass0 (pa_cons (pv 0) (pa_cons pe_int pa_nil)))) (pss_cons (ps_if (pt_cmpR op_eq (pv 3) pe_int (nomark _)) (pss_cons (ps_ret (pe_call G_law_closed (hr.mono (by decide)) (by rfl) m_law_closed k_law_closed b_law_closed .nil pass0 (pa_cons (pv 1) (pa_cons (pe_lc (own := [("k", 8)]) (g := gName 8) (tt := tYes) rfl sc_law_inside.nd (pi_range1 (by rfl) T.b_range (pa_cons (pe_call G_law_draw (hr.mono (by decide)) (by rfl) m_law_draw k_law_draw b_law_draw .nil pass0 (pa_cons (pv 0) (pa_cons pe_int pa_nil))) pa_nil)) (blkOk_by (N := N_law_inside) (sc := defScope s_law_inside) (by decide +kernel)) (fun _ _ _ _ _ => (pg_name (i := 8) sc_law_inside.nd rfl (by first | exact Or.inl rfl | exact Or.inr rfl))) (fun _ _ _ _ _ => pts_nil) (fun _ _ _ _ _ => (pe_call G_law_draw (hr.mono (by decide)) (by rfl) m_law_draw k_law_draw b_law_draw .nil pass0 (pa_cons (pv 0) (pa_cons (pe_op op_shl pe_int (pv 1)) pa_nil))))) pa_nil)))) pss_nil) pss_nil) (pss_cons (ps_if (pt_cmpR op_eq (pv 3) pe_int (nomark _)) (pss_cons (ps_ret (pe_call G_law_quotas (hr.mono (by decide)) (by rfl) m_law_quotas k_law_quotas b_law_quotas .nil pass0 (pa_cons (pv 0) (pa_cons (pv 1) (pa_cons (pv 2) pa_nil))))) pss_nil) pss_nil) (pss_cons (ps_set (i := 4) sc_law_inside.nd rfl (by first | exact Or.inl rfl | exact Or.inr rfl) (pe_call G_law_vectors (hr.mono (by decide)) (by rfl) m_law_vectors k_law_vectors b_law_vectors .nil pass0 (pa_cons (pv 0) (pa_cons (pv 1) (pa_cons (pv 2) pa_nil))))) (pss_cons (ps_if (pt_cmpR op_eq (pv 3) pe_int (nomark _)) (pss_cons (ps_set (i := 5) sc_law_inside.nd rfl (by first | exact Or.inl rfl | exact Or.inr rfl) (pe_call G_law_full (hr.mono (by decide)) (by rfl) m_law_full k_law_full b_law_full .nil pass0 (pa_cons (pv 4) (pa_cons (pv 1) pa_nil)))) (pss_cons (ps_if (pt_cmpR (op_neD (room_u hr)) (pv 5) (pe_lst (pa_cons pe_int pa_nil)) (nomark _)) (pss_cons (ps_asg pe_bl (pg_sub (pv 4) (pe_ix ix_list (pv 5) (pe_call G_law_draw (hr.mono (by decide)) (by rfl) m_law_draw k_law_draw b_law_draw .nil pass0 (pa_cons (pv 0) (pa_cons (pe_callB call_len_seq (by rfl) T.b_len (by decide +kernel) (pa_cons (pv 5) pa_nil)) pa_nil))) (fun _ _ => rfl)) set_list)) pss_nil) pss_nil) pss_nil)) pss_nil) (pss_cons (ps_if (pt_cmpR op_eq (pv 3) pe_int (nomark _)) (pss_cons (ps_set (i := 6) sc_law_inside.nd rfl (by first | exact Or.inl rfl | exact Or.inr rfl) (pe_call G_law_draw (hr.mono (by decide)) (by rfl) m_law_draw k_law_draw b_law_draw .nil pass0 (pa_cons (pv 0) (pa_cons (pe_op op_shl pe_int (pv 1)) pa_nil)))) (pss_cons (ps_set (i := 4) sc_law_inside.nd rfl (by first | exact Or.inl rfl | exact Or.inr rfl) (pe_lc (own := [("mask", 7)]) (g := gName 7) (tt := tYes) rfl sc_law_inside.nd (pi_range1 (by rfl) T.b_range (pa_cons (pe_op op_shl pe_int (pv 1)) pa_nil)) (blkOk_by (N := N_law_inside) (sc := defScope s_law_inside) (by decide +kernel)) (fun _ _ _ _ _ => (pg_name (i := 7) sc_law_inside.nd rfl (by first | exact Or.inl rfl | exact Or.inr rfl))) (fun _ _ _ _ _ => pts_nil) (fun _ _ _ _ _ => (pe_or (pe_ix ix_list (pv 4) (pv 7) (fun _ _ => rfl)) (pe_one (pe_cmpR op_eq (pe_op op_and (pv 7) (pv 6)) (pv 7) (nomark _))))))) pss_nil)) pss_nil) (pss_cons (ps_ret (pv 4)) pss_nil)))))))),
    (xb_set (ev_eq (EvN.d (EvW.n (ev_callW size (ea_cons (ev_eq (ev_var (i := 1) rfl) rfl) ea_nil) (okh.1) rfl rfl))) rfl) rfl (fun counts_408 h_409 => (xb_set (ev_eq (ev_callM (j := 0) (box, (6 : Int)) rfl rfl (ea_cons (ev_eq ev_int rfl) ea_nil) rfl rfl rfl ((okh.2 counts_408 h_409).1) rfl rfl rfl) rfl) rfl (fun shape_411 h_412 => (xb_reb (fun bx_413 => [.m mBox bx_413, .d eI size, .d (eL eI) counts_408, .d eI shape_411, .un, .un, .un, .un, .un]) ((f_law_draw box (6 : Int)).2) (fun bx_413 h_414 => (xb_ifR (et_eq (et_test (ev_eqI (ev_var (i := 3) rfl) ev_int)) rfl) (fun hc_415 => (xb_retSW (EvN.w (en_eq (EvW.n (ev_callW (size, (lcGo (fun b_420 k_418 => (f_law_draw b_420 ((1 : Int) * 2 ^ (size).toNat)).2) (fun _ _ => true) (fun b_420 k_418 => (f_law_draw b_420 ((1 : Int) * 2 ^ (size).toNat)).1) (f_law_draw bx_413 (5 : Int)).2 (rng 0 (f_law_draw bx_413 (5 : Int)).1)).2) (ea_cons (ev_eq (ev_var (i := 1) rfl) rfl) (ea_cons (ev_eq (EvN.d (en_lcS (s := (fun b_420 k_418 => (f_law_draw b_420 ((1 : Int) * 2 ^ (size).toNat)).2)) (p := (fun _ _ => true)) (v := (fun b_420 k_418 => (f_law_draw b_420 ((1 : Int) * 2 ^ (size).toNat)).1)) (fun b : BoxD => [.m mBox b, .d eI size, .d (eL eI) counts_408, .d eI shape_411, .un, .un, .un, .un, .un]) (f_law_draw bx_413 (5 : Int)).2 (ei_range1 (ev_callM (j := 0) (bx_413, (5 : Int)) rfl rfl (ea_cons (ev_eq ev_int rfl) ea_nil) rfl rfl rfl (((((okh.2 counts_408 h_409).2 shape_411 h_412) bx_413 h_414).1 hc_415).1) rfl rfl rfl) (((((okh.2 counts_408 h_409).2 shape_411 h_412) bx_413 h_414).1 hc_415).2.1)) eg_name (by decide) (fun _ => (noM_cons rfl noM_nil)) (agr1 (fun _ _ => rfl)) (fun _ _ _ _ _ => et_yes) (fun i_423 k_418 b_420 hi_424 ht_425 _ => (ev_eq (ev_callM (j := 0) (b_420, ((1 : Int) * 2 ^ (size).toNat)) rfl rfl (ea_cons (ev_eq (ev_I ev_int (ev_var (i := 1) rfl) ((((((okh.2 counts_408 h_409).2 shape_411 h_412) bx_413 h_414).1 hc_415).2.2.1 i_423 k_418 b_420 hi_424 ht_425).1)) rfl) ea_nil) rfl rfl rfl ((((((okh.2 counts_408 h_409).2 shape_411 h_412) bx_413 h_414).1 hc_415).2.2.1 i_423 k_418 b_420 hi_424 ht_425).2) rfl rfl rfl) rfl)))) rfl) ea_nil)) (((((okh.2 counts_408 h_409).2 shape_411 h_412) bx_413 h_414).1 hc_415).2.2.2) rfl rfl)) rfl)) (.inr rfl) rfl rfl)) (fun hc_415 => (xb_ifR (et_eq (et_test (ev_eqI (ev_var (i := 3) rfl) ev_int)) rfl) (fun hc_427 => (xb_retSW (EvN.w (en_eq (EvW.n (ev_callMW (j := 0) (bx_413, size, counts_408) rfl rfl (ea_cons (ev_eq (ev_var (i := 1) rfl) rfl) (ea_cons (ev_eq (ev_var (i := 2) rfl) rfl) ea_nil)) rfl rfl rfl ((((((okh.2 counts_408 h_409).2 shape_411 h_412) bx_413 h_414).2 hc_415).1 hc_427)) rfl rfl rfl)) rfl)) (.inr rfl) rfl rfl)) (fun hc_427 => (xb_own (en_eq (EvW.n (ev_callMW (j := 0) (bx_413, size, counts_408) rfl rfl (ea_cons (ev_eq (ev_var (i := 1) rfl) rfl) (ea_cons (ev_eq (ev_var (i := 2) rfl) rfl) ea_nil)) rfl rfl rfl ((((((okh.2 counts_408 h_409).2 shape_411 h_412) bx_413 h_414).2 hc_415).2 hc_427).1) rfl rfl rfl)) rfl) rfl (fun out_430 h_431 => (xb_reb (fun bx_432 => [.m mBox bx_432, .d eI size, .d (eL eI) counts_408, .d eI shape_411, .l eB out_430, .un, .un, .un, .un]) ((f_law_vectors bx_413 size counts_408).2) (fun bx_432 h_433 => (xb_if (fun t : ((List Bool) × BoxD) => [.m mBox t.2, .d eI size, .d (eL eI) counts_408, .d eI shape_411, .l eB t.1, .un, .un, .un, .un]) (et_eq (et_test (ev_eqI (ev_var (i := 3) rfl) ev_int)) rfl) (fun hc_434 => (xv_set (ev_eq (EvN.d (en_borrow (EvW.n (ev_callW (out_430, size) (ea_cons (ev_eq (ev_var (i := 4) rfl) rfl) (ea_cons (ev_eq (ev_var (i := 1) rfl) rfl) ea_nil)) (((((((((okh.2 counts_408 h_409).2 shape_411 h_412) bx_413 h_414).2 hc_415).2 hc_427).2 out_430 h_431) bx_432 h_433).1 hc_434).1) rfl rfl)))) rfl) rfl (fun full_436 h_437 => (xv_if (fun t : ((List Bool) × BoxD) => [.m mBox t.2, .d eI size, .d (eL eI) counts_408, .d eI shape_411, .l eB t.1, .d (eL eI) full_436, .un, .un, .un]) (et_eq (et_test (ev_neLI (ev_var (i := 5) rfl) (EvN.d (en_lst (eas_cons ev_int eas_nil) (by show 1 ≤ 100000; decide))))) rfl) (fun hc_438 => (xv_setI (ev_eq ev_bl rfl) (ev_eq (ev_ixL (ev_var (i := 5) rfl) (ev_callM (j := 0) (bx_432, ((full_436).length : Int)) rfl rfl (ea_cons (ev_eq (ev_lenL (ev_var (i := 5) rfl)) rfl) ea_nil) rfl rfl rfl (((((((((((okh.2 counts_408 h_409).2 shape_411 h_412) bx_413 h_414).2 hc_415).2 hc_427).2 out_430 h_431) bx_432 h_433).1 hc_434).2 full_436 h_437) hc_438).1) rfl rfl rfl) (((((((((((okh.2 counts_408 h_409).2 shape_411 h_412) bx_413 h_414).2 hc_415).2 hc_427).2 out_430 h_431) bx_432 h_433).1 hc_434).2 full_436 h_437) hc_438).2.1)) rfl) rfl rfl (((((((((((okh.2 counts_408 h_409).2 shape_411 h_412) bx_413 h_414).2 hc_415).2 hc_427).2 out_430 h_431) bx_432 h_433).1 hc_434).2 full_436 h_437) hc_438).2.2) (fun out_442 h_443 => (xv_end (by exact (wk_S (wk_s (wk_s (wk_s (wk_s (wk_s (wk_s (wk_s (wk_s wk_n)))))))))))))) (fun hc_438 => (xv_end (by exact (wk_S (wk_s (wk_s (wk_s (wk_s (wk_s (wk_s (wk_s (wk_s wk_n)))))))))))) (fun z_444 h_445 => (xv_end (by exact (wk_S (wk_s (wk_s (wk_s (wk_s (wk_u (wk_s (wk_s (wk_s wk_n)))))))))))))))) (fun hc_434 => (xv_end (by exact (wk_S (wk_s (wk_s (wk_s (wk_s (wk_s (wk_s (wk_s (wk_s wk_n)))))))))))) (fun z_446 h_447 => (xb_if (fun t : (BoxD × (List Bool)) => [.m mBox t.1, .d eI size, .d (eL eI) counts_408, .d eI shape_411, .l eB t.2, .un, .un, .un, .un]) (et_eq (et_test (ev_eqI (ev_var (i := 3) rfl) ev_int)) rfl) (fun hc_448 => (xv_set (ev_eq (ev_callM (j := 0) (z_446.2, ((1 : Int) * 2 ^ (size).toNat)) rfl rfl (ea_cons (ev_eq (ev_I ev_int (ev_var (i := 1) rfl) ((((((((((okh.2 counts_408 h_409).2 shape_411 h_412) bx_413 h_414).2 hc_415).2 hc_427).2 out_430 h_431) bx_432 h_433).2 z_446 h_447) hc_448).1)) rfl) ea_nil) rfl rfl rfl ((((((((((okh.2 counts_408 h_409).2 shape_411 h_412) bx_413 h_414).2 hc_415).2 hc_427).2 out_430 h_431) bx_432 h_433).2 z_446 h_447) hc_448).2.1) rfl rfl rfl) rfl) rfl (fun top_451 h_452 => (xv_reb (fun bx_453 => [.m mBox bx_453, .d eI size, .d (eL eI) counts_408, .d eI shape_411, .l eB z_446.1, .un, .d eI top_451, .un, .un]) ((f_law_draw z_446.2 ((1 : Int) * 2 ^ (size).toNat)).2) (fun bx_453 h_454 => (xv_own (en_eq (en_borrow (en_lcY (v := fun mask_457 => ((at_ z_446.1 mask_457) || (decide ((PySem.Builtin.bitAnd mask_457 top_451) = mask_457)))) (ei_range1 (ev_I ev_int (ev_var (i := 1) rfl) ((((((((((((okh.2 counts_408 h_409).2 shape_411 h_412) bx_413 h_414).2 hc_415).2 hc_427).2 out_430 h_431) bx_432 h_433).2 z_446 h_447) hc_448).2.2 top_451 h_452) bx_453 h_454).1)) ((((((((((((okh.2 counts_408 h_409).2 shape_411 h_412) bx_413 h_414).2 hc_415).2 hc_427).2 out_430 h_431) bx_432 h_433).2 z_446 h_447) hc_448).2.2 top_451 h_452) bx_453 h_454).2.1)) eg_name (by decide) (noM_cons rfl noM_nil) (fun mask_457 hx_458 => (ev_eq (ev_orV (ev_ixL (ev_var (i := 4) rfl) (ev_var (i := 7) rfl) (((((((((((((okh.2 counts_408 h_409).2 shape_411 h_412) bx_413 h_414).2 hc_415).2 hc_427).2 out_430 h_431) bx_432 h_433).2 z_446 h_447) hc_448).2.2 top_451 h_452) bx_453 h_454).2.2 mask_457 hx_458))) (fun hb_460 => (ev_eqI (ev_I0 (ev_var (i := 7) rfl) (ev_var (i := 6) rfl)) (ev_var (i := 7) rfl)))) rfl)))) rfl) rfl (fun out_462 h_463 => (xv_end (by exact (wk_S (wk_s (wk_s (wk_s (wk_s (wk_s (wk_u (wk_s (wk_s wk_n)))))))))))))))))) (fun hc_448 => (xv_end (by exact (wk_S (wk_s (wk_s (wk_s (wk_s (wk_s (wk_s (wk_s (wk_s wk_n)))))))))))) (fun z_464 h_465 => (xb_retSV (j := 4) rfl (by decide) (.inr rfl) rfl rfl)))))))))))))))))))⟩
/-! ### _law_ordered -/
abbrev N_law_ordered : List Str := ["inside", "pairs", "pair", "mask"]
theorem sc_law_ordered : FnScope N_law_ordered ["inside"] (defScope s_law_ordered) := ⟨rfl, rfl, rfl, by decide +kernel, rfl, by decide +kernel, by decide +kernel⟩
def o_law_ordered (inside : (List Bool)) : Out Empty Empty (List (List Int)) :=
  (lt (srtP ((((rng 0 ((inside).length : Int))).filter fun mask_467 => (at_ inside mask_467)).map fun mask_467 => ((((f_law_things mask_467)).length : Int), (f_law_things mask_467)))) fun pairs_473 => (.rt ((pairs_473).map fun pair_475 => pair_475.2)))
@[irreducible] def f_law_ordered (inside : (List Bool)) : (List (List Int)) := (o_law_ordered inside).get
theorem f_law_ordered_eq (inside : (List Bool)) : f_law_ordered inside = (o_law_ordered inside).get := by delta f_law_ordered; rfl
def ok_law_ordered (inside : (List Bool)) : Prop :=
  (-100000 ≤ ((inside).length : Int) ∧ ((inside).length : Int) ≤ 100000) ∧ (∀ (mask_467 : Int) (hx_468 : mask_467 ∈ (rng 0 ((inside).length : Int))), (inIx (inside).length mask_467) ∧ (∀ (hp_472 : ((at_ inside mask_467)) = true), (ok_law_things mask_467) ∧ (ok_law_things mask_467)))
section
variable {K : PySem.W.Frag} {cFamily : Addr}
abbrev sp_law_ordered : Sp := spF (K := K) (ι := (List Bool)) (fun x => [.d (eL eB) x]) (fun x => ok_law_ordered x) (retL (eT eI)) (fun x => f_law_ordered x)
end
set_option maxHeartbeats 4000000 in
theorem at_law_ordered {P : Program} {w : World} {K : PySem.W.Frag} {mg : Str → Option Value} {base : Heap} {cFamily : Addr} (T : Txt K mg cFamily) : FnAt P w K mg base "_law_ordered" 2 ["inside"] (sp_law_ordered (K := K)) := by
  obtain ⟨f, fd, F, mg_, bd_⟩ := T.d_law_ordered
  obtain ⟨⟨a_law_things, d_law_things, G_law_things, m_law_things, k_law_things, b_law_things⟩⟩ := at_law_things (P := P) (w := w) (base := base) T
  refine ⟨⟨f, fd, fn_okG (fun x => f_law_ordered_eq x) <| fn_okE (o := fun x : (List Bool) => o_law_ordered x) (k := 1) F sc_law_ordered (fun x => rfl) (fun x i s h => noM_tail (by simp [Slot.isM]) h) (fun cdv A outer s H EX hr inside hp => ?_), mg_, F.kp, bd_⟩⟩
  have okh : ok_law_ordered inside := hp
  exact ⟨_, _, rfl,
    (pss_cons (ps_set (i := 1) sc_law_ordered.nd rfl (by first | exact Or.inl rfl | exact Or.inr rfl) (pe_callB (cr_sortLP (room_80 hr)) (by rfl) T.b_sorted (by decide +kernel) (pa_cons (pe_lc (own := [("mask", 3)]) (g := gName 3) rfl sc_law_ordered.nd (pi_range1 (by rfl) T.b_range (pa_cons (pe_callB call_len_seq (by rfl) T.b_len (by decide +kernel) (pa_cons (pv 0) pa_nil)) pa_nil)) (blkOk_by (N := N_law_ordered) (sc := defScope s_law_ordered) (by decide +kernel)) (fun _ _ _ _ _ => (pg_name (i := 3) sc_law_ordered.nd rfl (by first | exact Or.inl rfl | exact Or.inr rfl))) (fun _ _ _ _ _ => pts_one (pt_val (pe_ix ix_list (pv 0) (pv 3) (fun _ _ => rfl)))) (fun _ _ _ _ _ => (pe_tup (pa_cons (pe_callB call_len_seq (by rfl) T.b_len (by decide +kernel) (pa_cons (pe_call G_law_things (hr.mono (by decide)) (by rfl) m_law_things k_law_things b_law_things .nil pass0 (pa_cons (pv 3) pa_nil)) pa_nil)) (pa_cons (pe_call G_law_things (hr.mono (by decide)) (by rfl) m_law_things k_law_things b_law_things .nil pass0 (pa_cons (pv 3) pa_nil)) pa_nil))))) pa_nil))) (pss_cons (ps_ret (pe_lc (own := [("pair", 2)]) (g := gName 2) (tt := tYes) rfl sc_law_ordered.nd (pi_list (pv 1)) (blkOk_by (N := N_law_ordered) (sc := defScope s_law_ordered) (by decide +kernel)) (fun _ _ _ _ _ => (pg_name (i := 2) sc_law_ordered.nd rfl (by first | exact Or.inl rfl | exact Or.inr rfl))) (fun _ _ _ _ _ => pts_nil) (fun _ _ _ _ _ => (pe_ix ix_tup (pv 2) pe_int (fun _ _ => rfl))))) pss_nil)),
    (xb_set (ev_eq (EvN.d (en_sortLP (EvN.d (en_lc (p := fun mask_467 => (at_ inside mask_467)) (v := fun mask_467 => ((((f_law_things mask_467)).length : Int), (f_law_things mask_467))) (ei_range1 (ev_lenL (ev_var (i := 0) rfl)) (okh.1)) eg_name (by decide) (noM_cons rfl noM_nil) (fun mask_467 hx_468 => (et_eq (et_B (ev_ixL (ev_var (i := 0) rfl) (ev_var (i := 3) rfl) ((okh.2 mask_467 hx_468).1))) rfl)) (fun mask_467 hx_468 hp_472 => (ev_eq (ev_pair (ev_lenT (ev_call mask_467 (ea_cons (ev_eq (ev_var (i := 3) rfl) rfl) ea_nil) (((okh.2 mask_467 hx_468).2 hp_472).1) rfl rfl)) (ev_call mask_467 (ea_cons (ev_eq (ev_var (i := 3) rfl) rfl) ea_nil) (((okh.2 mask_467 hx_468).2 hp_472).2) rfl rfl)) rfl)))))) rfl) rfl (fun pairs_473 h_474 => (xb_retSW (EvN.w (en_eq (en_lcY (v := fun pair_475 => pair_475.2) (ei_list (ev_var (i := 1) rfl)) eg_name (by decide) (noM_cons rfl noM_nil) (fun pair_475 hx_476 => (ev_eq (ev_snd (ev_var (i := 2) rfl)) rfl))) rfl)) (.inl rfl) rfl rfl)))⟩
/-! ### _law_mask -/
abbrev N_law_mask : List Str := ["things", "thing"]
theorem sc_law_mask : FnScope N_law_mask ["things"] (defScope s_law_mask) := ⟨rfl, rfl, rfl, by decide +kernel, rfl, by decide +kernel, by decide +kernel⟩
def o_law_mask (things : (List Int)) : Out Empty Empty Int :=
  (.rt (((things).map fun thing_478 => ((1 : Int) * 2 ^ (thing_478).toNat))).sum)
@[irreducible] def f_law_mask (things : (List Int)) : Int := (o_law_mask things).get
theorem f_law_mask_eq (things : (List Int)) : f_law_mask things = (o_law_mask things).get := by delta f_law_mask; rfl
def ok_law_mask (things : (List Int)) : Prop :=
  (∀ (thing_478 : Int) (hx_479 : thing_478 ∈ things), (CPow (1 : Int) thing_478))
section
variable {K : PySem.W.Frag} {cFamily : Addr}
abbrev sp_law_mask : Sp := spF (K := K) (ι := (List Int)) (fun x => [.d (eT eI) x]) (fun x => ok_law_mask x) (retD eI) (fun x => f_law_mask x)
end
set_option maxHeartbeats 4000000 in
theorem at_law_mask {P : Program} {w : World} {K : PySem.W.Frag} {mg : Str → Option Value} {base : Heap} {cFamily : Addr} (T : Txt K mg cFamily) : FnAt P w K mg base "_law_mask" 1 ["things"] (sp_law_mask (K := K)) := by
  obtain ⟨f, fd, F, mg_, bd_⟩ := T.d_law_mask
  refine ⟨⟨f, fd, fn_okG (fun x => f_law_mask_eq x) <| fn_okE (o := fun x : (List Int) => o_law_mask x) (k := 0) F sc_law_mask (fun x => rfl) (fun x i s h => noM_tail (by simp [Slot.isM]) h) (fun cdv A outer s H EX hr things hp => ?_), mg_, F.kp, bd_⟩⟩
  have okh : ok_law_mask things := hp
  exact ⟨_, _, rfl,
    (pss_cons (ps_ret (pe_callB (cr_sum rfl) (by rfl) T.b_sum (by decide +kernel) (pa_cons (pe_lc (own := [("thing", 1)]) (g := gName 1) (tt := tYes) rfl sc_law_mask.nd (pi_tup (pv 0)) (blkOk_by (N := N_law_mask) (sc := defScope s_law_mask) (by decide +kernel)) (fun _ _ _ _ _ => (pg_name (i := 1) sc_law_mask.nd rfl (by first | exact Or.inl rfl | exact Or.inr rfl))) (fun _ _ _ _ _ => pts_nil) (fun _ _ _ _ _ => (pe_op op_shl pe_int (pv 1)))) pa_nil))) pss_nil),
    (xb_retS (ev_eq (ev_sum (EvN.d (en_lcY (v := fun thing_478 => ((1 : Int) * 2 ^ (thing_478).toNat)) (ei_tup (ev_var (i := 0) rfl)) eg_name (by decide) (noM_cons rfl noM_nil) (fun thing_478 hx_479 => (ev_eq (ev_I ev_int (ev_var (i := 1) rfl) ((okh thing_478 hx_479))) rfl))))) rfl) (.inl rfl) rfl)⟩
/-! ### _law_due -/
abbrev N_law_due : List Str := ["inside", "size", "sets", "masks", "k", "free", "thing", "at", "things"]
theorem sc_law_due : FnScope N_law_due ["inside", "size"] (defScope s_law_due) := ⟨rfl, rfl, rfl, by decide +kernel, rfl, by decide +kernel, by decide +kernel⟩
def o_law_due (inside : (List Bool)) (size : Int) : Out Empty Empty (Option ((List Int) × (List Int))) :=
  (lt (f_law_ordered inside) fun sets_483 => (lt ((sets_483).map fun things_485 => (f_law_mask things_485)) fun masks_489 => (((FL.run (fun (t_492 : Unit) (k_493 : Int) => ((lt (0 : Int) fun free_497 => (lt (List.foldl (fun (t_500 : Int) (thing_501 : Int) => (lt (bif ((decide ((PySem.Builtin.bitAnd ((at_ masks_489 k_493) / 2 ^ (thing_501).toNat) (1 : Int)) = (0 : Int))) && (at_ inside (PySem.Builtin.bitOr (at_ masks_489 k_493) ((1 : Int) * 2 ^ (thing_501).toNat)))) then (lt (PySem.Builtin.bitOr t_500 ((1 : Int) * 2 ^ (thing_501).toNat)) fun free_513 => free_513) else t_500) fun z_515 => z_515)) free_497 (rng 0 size)) fun s_517 => (((FL.run (fun (t_520 : Unit) (at_521 : Int) => ((bif ((decide ((((at_ sets_483 k_493)).length : Int) < (((at_ sets_483 at_521)).length : Int))) && (decide ((PySem.Builtin.bitAnd (at_ masks_489 at_521) s_517) = (0 : Int)))) then (.rt (some ((at_ sets_483 k_493), (at_ sets_483 at_521)))) else (.nx ())) : Out Unit Unit (Option ((List Int) × (List Int))))) () (rng (k_493 + (1 : Int)) ((sets_483).length : Int))).done : Out Unit Unit (Option ((List Int) × (List Int)))).bind fun s_532 => (.nx ())))) : Out Unit Unit (Option ((List Int) × (List Int))))) () (rng 0 ((sets_483).length : Int))).done : Out Unit Empty (Option ((List Int) × (List Int)))).bind fun s_534 => (.rt (none : (Option ((List Int) × (List Int))))))))
@[irreducible] def f_law_due (inside : (List Bool)) (size : Int) : (Option ((List Int) × (List Int))) := (o_law_due inside size).get
theorem f_law_due_eq (inside : (List Bool)) (size : Int) : f_law_due inside size = (o_law_due inside size).get := by delta f_law_due; rfl
def ok_law_due (inside : (List Bool)) (size : Int) : Prop :=
  (ok_law_ordered inside) ∧ (∀ sets_483 (h_484 : sets_483 = (f_law_ordered inside)), (∀ (things_485 : (List Int)) (hx_486 : things_485 ∈ sets_483), (ok_law_mask things_485)) ∧ (∀ masks_489 (h_490 : masks_489 = ((sets_483).map fun things_485 => (f_law_mask things_485))), (-100000 ≤ ((sets_483).length : Int) ∧ ((sets_483).length : Int) ≤ 100000) ∧ (∀ (i_494 : Nat) (k_493 : Int) (t_492 : Unit) (hi_495 : ((rng 0 ((sets_483).length : Int)))[i_494]? = some k_493) (ht_496 : FL.run (fun (t_492 : Unit) (k_493 : Int) => ((lt (0 : Int) fun free_497 => (lt (List.foldl (fun (t_500 : Int) (thing_501 : Int) => (lt (bif ((decide ((PySem.Builtin.bitAnd ((at_ masks_489 k_493) / 2 ^ (thing_501).toNat) (1 : Int)) = (0 : Int))) && (at_ inside (PySem.Builtin.bitOr (at_ masks_489 k_493) ((1 : Int) * 2 ^ (thing_501).toNat)))) then (lt (PySem.Builtin.bitOr t_500 ((1 : Int) * 2 ^ (thing_501).toNat)) fun free_513 => free_513) else t_500) fun z_515 => z_515)) free_497 (rng 0 size)) fun s_517 => (((FL.run (fun (t_520 : Unit) (at_521 : Int) => ((bif ((decide ((((at_ sets_483 k_493)).length : Int) < (((at_ sets_483 at_521)).length : Int))) && (decide ((PySem.Builtin.bitAnd (at_ masks_489 at_521) s_517) = (0 : Int)))) then (.rt (some ((at_ sets_483 k_493), (at_ sets_483 at_521)))) else (.nx ())) : Out Unit Unit (Option ((List Int) × (List Int))))) () (rng (k_493 + (1 : Int)) ((sets_483).length : Int))).done : Out Unit Unit (Option ((List Int) × (List Int)))).bind fun s_532 => (.nx ())))) : Out Unit Unit (Option ((List Int) × (List Int))))) () (((rng 0 ((sets_483).length : Int))).take i_494) = .nx t_492), (∀ free_497 (h_498 : free_497 = (0 : Int)), (-100000 ≤ size ∧ size ≤ 100000) ∧ (∀ (i_502 : Nat) (thing_501 : Int) (t_500 : Int) (hi_503 : ((rng 0 size))[i_502]? = some thing_501) (ht_504 : t_500 = (((rng 0 size)).take i_502).foldl (fun (t_500 : Int) (thing_501 : Int) => (lt (bif ((decide ((PySem.Builtin.bitAnd ((at_ masks_489 k_493) / 2 ^ (thing_501).toNat) (1 : Int)) = (0 : Int))) && (at_ inside (PySem.Builtin.bitOr (at_ masks_489 k_493) ((1 : Int) * 2 ^ (thing_501).toNat)))) then (lt (PySem.Builtin.bitOr t_500 ((1 : Int) * 2 ^ (thing_501).toNat)) fun free_513 => free_513) else t_500) fun z_515 => z_515)) free_497), (inIx (masks_489).length k_493) ∧ (0 ≤ thing_501) ∧ (∀ (hb_507 : ((decide ((PySem.Builtin.bitAnd ((at_ masks_489 k_493) / 2 ^ (thing_501).toNat) (1 : Int)) = (0 : Int)))) = true), (inIx (masks_489).length k_493) ∧ (CPow (1 : Int) thing_501) ∧ (inIx (inside).length (PySem.Builtin.bitOr (at_ masks_489 k_493) ((1 : Int) * 2 ^ (thing_501).toNat)))) ∧ (∀ (hc_511 : (((decide ((PySem.Builtin.bitAnd ((at_ masks_489 k_493) / 2 ^ (thing_501).toNat) (1 : Int)) = (0 : Int))) && (at_ inside (PySem.Builtin.bitOr (at_ masks_489 k_493) ((1 : Int) * 2 ^ (thing_501).toNat))))) = true), (CPow (1 : Int) thing_501))) ∧ (∀ s_517 (h_518 : s_517 = (List.foldl (fun (t_500 : Int) (thing_501 : Int) => (lt (bif ((decide ((PySem.Builtin.bitAnd ((at_ masks_489 k_493) / 2 ^ (thing_501).toNat) (1 : Int)) = (0 : Int))) && (at_ inside (PySem.Builtin.bitOr (at_ masks_489 k_493) ((1 : Int) * 2 ^ (thing_501).toNat)))) then (lt (PySem.Builtin.bitOr t_500 ((1 : Int) * 2 ^ (thing_501).toNat)) fun free_513 => free_513) else t_500) fun z_515 => z_515)) free_497 (rng 0 size))), (-100000 ≤ (k_493 + (1 : Int)) ∧ (k_493 + (1 : Int)) ≤ 100000 ∧ -100000 ≤ ((sets_483).length : Int) ∧ ((sets_483).length : Int) ≤ 100000 ∧ ((sets_483).length : Int) - (k_493 + (1 : Int)) ≤ 100000) ∧ (∀ (i_522 : Nat) (at_521 : Int) (t_520 : Unit) (hi_523 : ((rng (k_493 + (1 : Int)) ((sets_483).length : Int)))[i_522]? = some at_521) (ht_524 : FL.run (fun (t_520 : Unit) (at_521 : Int) => ((bif ((decide ((((at_ sets_483 k_493)).length : Int) < (((at_ sets_483 at_521)).length : Int))) && (decide ((PySem.Builtin.bitAnd (at_ masks_489 at_521) s_517) = (0 : Int)))) then (.rt (some ((at_ sets_483 k_493), (at_ sets_483 at_521)))) else (.nx ())) : Out Unit Unit (Option ((List Int) × (List Int))))) () (((rng (k_493 + (1 : Int)) ((sets_483).length : Int))).take i_522) = .nx t_520), (inIx (sets_483).length at_521) ∧ (inIx (sets_483).length k_493) ∧ (∀ (hb_527 : ((decide ((((at_ sets_483 k_493)).length : Int) < (((at_ sets_483 at_521)).length : Int)))) = true), (inIx (masks_489).length at_521)) ∧ (∀ (hc_529 : (((decide ((((at_ sets_483 k_493)).length : Int) < (((at_ sets_483 at_521)).length : Int))) && (decide ((PySem.Builtin.bitAnd (at_ masks_489 at_521) s_517) = (0 : Int))))) = true), (inIx (sets_483).length k_493) ∧ (inIx (sets_483).length at_521))))))))
section
variable {K : PySem.W.Frag} {cFamily : Addr}
abbrev sp_law_due : Sp := spF (K := K) (ι := ((List Bool) × Int)) (fun x => [.d (eL eB) x.1, .d eI x.2]) (fun x => ok_law_due x.1 x.2) (retD (eO (eP (eT eI) (eT eI)))) (fun x => f_law_due x.1 x.2)
end
set_option maxHeartbeats 4000000 in
theorem at_law_due {P : Program} {w : World} {K : PySem.W.Frag} {mg : Str → Option Value} {base : Heap} {cFamily : Addr} (T : Txt K mg cFamily) : FnAt P w K mg base "_law_due" 3 ["inside", "size"] (sp_law_due (K := K)) := by
  obtain ⟨f, fd, F, mg_, bd_⟩ := T.d_law_due
  obtain ⟨⟨a_law_mask, d_law_mask, G_law_mask, m_law_mask, k_law_mask, b_law_mask⟩⟩ := at_law_mask (P := P) (w := w) (base := base) T
  obtain ⟨⟨a_law_ordered, d_law_ordered, G_law_ordered, m_law_ordered, k_law_ordered, b_law_ordered⟩⟩ := at_law_ordered (P := P) (w := w) (base := base) T
  refine ⟨⟨f, fd, fn_okG (fun x => f_law_due_eq x.1 x.2) <| fn_okE (o := fun x : ((List Bool) × Int) => o_law_due x.1 x.2) (k := 2) F sc_law_due (fun x => rfl) (fun x i s h => noM_tail (by simp [Slot.isM]) h) (fun cdv A outer s H EX hr x hp => ?_), mg_, F.kp, bd_⟩⟩
  obtain ⟨inside, size⟩ := x
  have okh : ok_law_due inside size := hp
  exact ⟨_, _, rfl,
    (pss_cons (ps_set (i := 2) sc_law_due.nd rfl (by first | exact Or.inl rfl | exact Or.inr rfl) (pe_call G_law_ordered (hr.mono (by decide)) (by rfl) m_law_ordered k_law_ordered b_law_ordered .nil pass0 (pa_cons (pv 0) pa_nil))) (pss_cons (ps_setLc (i := 3) (own := [("things", 8)]) (g := gName 8) (tt := tYes) rfl sc_law_due.nd rfl rfl (sw_true rfl rfl rfl (by decide +kernel)) (pi_list (pv 2)) (blkOk_by (N := N_law_due) (sc := defScope s_law_due) (by decide +kernel)) (fun _ _ _ _ _ => (pg_name (i := 8) sc_law_due.nd rfl (by first | exact Or.inl rfl | exact Or.inr rfl))) (fun _ _ _ _ _ => pts_nil) (fun _ _ _ _ _ => (pe_call G_law_mask (hr.mono (by decide)) (by rfl) m_law_mask k_law_mask b_law_mask .nil pass0 (pa_cons (pv 8) pa_nil)))) (pss_cons (ps_for PassesOwn.never rfl (pi_range1 (by rfl) T.b_range (pa_cons (pe_callB call_len_seq (by rfl) T.b_len (by decide +kernel) (pa_cons (pv 2) pa_nil)) pa_nil)) (pg_name (i := 4) sc_law_due.nd rfl (by first | exact Or.inl rfl | exact Or.inr rfl)) (pss_cons (ps_set (i := 5) sc_law_due.nd rfl (by first | exact Or.inl rfl | exact Or.inr rfl) pe_int) (pss_cons (ps_for PassesOwn.never rfl (pi_range1 (by rfl) T.b_range (pa_cons (pv 1) pa_nil)) (pg_name (i := 6) sc_law_due.nd rfl (by first | exact Or.inl rfl | exact Or.inr rfl)) (pss_cons (ps_if (PW.pt (pw_and (pt_cmpR op_eq (pe_op op_and (pe_op op_shr (pe_ix ix_list (pv 3) (pv 4) (fun _ _ => rfl)) (pv 6)) pe_int) pe_int (nomark _)) (pw_and1 (pt_val (pe_ix ix_list (pv 0) (pe_op op_or (pe_ix ix_list (pv 3) (pv 4) (fun _ _ => rfl)) (pe_op op_shl pe_int (pv 6))) (fun _ _ => rfl)))))) (pss_cons (ps_set (i := 5) sc_law_due.nd rfl (by first | exact Or.inl rfl | exact Or.inr rfl) (pe_op op_or (pv 5) (pe_op op_shl pe_int (pv 6)))) pss_nil) pss_nil) pss_nil)) (pss_cons (ps_for PassesOwn.never rfl (pi_range2 (by rfl) T.b_range (pa_cons (pe_op op_add (pv 4) pe_int) (pa_cons (pe_callB call_len_seq (by rfl) T.b_len (by decide +kernel) (pa_cons (pv 2) pa_nil)) pa_nil))) (pg_name (i := 7) sc_law_due.nd rfl (by first | exact Or.inl rfl | exact Or.inr rfl)) (pss_cons (ps_if (PW.pt (pw_and (pt_cmpR op_gt (pe_callB call_len_seq (by rfl) T.b_len (by decide +kernel) (pa_cons (pe_ix ix_list (pv 2) (pv 7) (fun _ _ => rfl)) pa_nil)) (pe_callB call_len_seq (by rfl) T.b_len (by decide +kernel) (pa_cons (pe_ix ix_list (pv 2) (pv 4) (fun _ _ => rfl)) pa_nil)) (nomark _)) (pw_and1 (pt_cmpR op_eq (pe_op op_and (pe_ix ix_list (pv 3) (pv 7) (fun _ _ => rfl)) (pv 5)) pe_int (nomark _))))) (pss_cons (ps_ret (pe_tup (pa_cons (pe_ix ix_list (pv 2) (pv 4) (fun _ _ => rfl)) (pa_cons (pe_ix ix_list (pv 2) (pv 7) (fun _ _ => rfl)) pa_nil)))) pss_nil) pss_nil) pss_nil)) pss_nil)))) (pss_cons (ps_ret pe_non) pss_nil)))),
    (xb_set (ev_eq (EvN.d (EvW.n (ev_callW inside (ea_cons (ev_eq (ev_var (i := 0) rfl) rfl) ea_nil) (okh.1) rfl rfl))) rfl) rfl (fun sets_483 h_484 => (xb_set (ev_eq (EvN.d (en_lcY (v := fun things_485 => (f_law_mask things_485)) (ei_list (ev_var (i := 2) rfl)) eg_name (by decide) (noM_cons rfl noM_nil) (fun things_485 hx_486 => (ev_eq (ev_call things_485 (ea_cons (ev_eq (ev_var (i := 8) rfl) rfl) ea_nil) (((okh.2 sets_483 h_484).1 things_485 hx_486)) rfl rfl) rfl)))) rfl) rfl (fun masks_489 h_490 => (xb_loop (fun t_492 : Unit => [.d (eL eB) inside, .d eI size, .d (eL (eT eI)) sets_483, .d (eL eI) masks_489, .un, .un, .un, .un, .un]) () (h := (fun (t_492 : Unit) (k_493 : Int) => ((lt (0 : Int) fun free_497 => (lt (List.foldl (fun (t_500 : Int) (thing_501 : Int) => (lt (bif ((decide ((PySem.Builtin.bitAnd ((at_ masks_489 k_493) / 2 ^ (thing_501).toNat) (1 : Int)) = (0 : Int))) && (at_ inside (PySem.Builtin.bitOr (at_ masks_489 k_493) ((1 : Int) * 2 ^ (thing_501).toNat)))) then (lt (PySem.Builtin.bitOr t_500 ((1 : Int) * 2 ^ (thing_501).toNat)) fun free_513 => free_513) else t_500) fun z_515 => z_515)) free_497 (rng 0 size)) fun s_517 => (((FL.run (fun (t_520 : Unit) (at_521 : Int) => ((bif ((decide ((((at_ sets_483 k_493)).length : Int) < (((at_ sets_483 at_521)).length : Int))) && (decide ((PySem.Builtin.bitAnd (at_ masks_489 at_521) s_517) = (0 : Int)))) then (.rt (some ((at_ sets_483 k_493), (at_ sets_483 at_521)))) else (.nx ())) : Out Unit Unit (Option ((List Int) × (List Int))))) () (rng (k_493 + (1 : Int)) ((sets_483).length : Int))).done : Out Unit Unit (Option ((List Int) × (List Int)))).bind fun s_532 => (.nx ())))) : Out Unit Unit (Option ((List Int) × (List Int)))))) (ei_range1 (ev_lenL (ev_var (i := 2) rfl)) (((okh.2 sets_483 h_484).2 masks_489 h_490).1)) (wk_S (wk_s (wk_s (wk_s (wk_s (wk_s (wk_s (wk_s (wk_s wk_n))))))))) eg_name (fun _ => (noM_cons rfl noM_nil)) (fun i_494 k_493 t_492 hi_495 ht_496 => (xb_set (ev_eq ev_int rfl) rfl (fun free_497 h_498 => (xb_fold (fun t_500 : Int => [.d (eL eB) inside, .d eI size, .d (eL (eT eI)) sets_483, .d (eL eI) masks_489, .d eI k_493, .d eI t_500, .un, .un, .un]) free_497 (h := (fun (t_500 : Int) (thing_501 : Int) => (lt (bif ((decide ((PySem.Builtin.bitAnd ((at_ masks_489 k_493) / 2 ^ (thing_501).toNat) (1 : Int)) = (0 : Int))) && (at_ inside (PySem.Builtin.bitOr (at_ masks_489 k_493) ((1 : Int) * 2 ^ (thing_501).toNat)))) then (lt (PySem.Builtin.bitOr t_500 ((1 : Int) * 2 ^ (thing_501).toNat)) fun free_513 => free_513) else t_500) fun z_515 => z_515))) (ei_range1 (ev_var (i := 1) rfl) (((((okh.2 sets_483 h_484).2 masks_489 h_490).2 i_494 k_493 t_492 hi_495 ht_496) free_497 h_498).1)) (wk_S (wk_s (wk_s (wk_s (wk_s (wk_s (wk_s (wk_s (wk_s wk_n))))))))) eg_name (fun _ => (noM_cons rfl noM_nil)) (fun i_502 thing_501 t_500 hi_503 ht_504 => (xv_if (fun t : Int => [.d (eL eB) inside, .d eI size, .d (eL (eT eI)) sets_483, .d (eL eI) masks_489, .d eI k_493, .d eI t, .d eI thing_501, .un, .un]) (et_eq (et_and (et_test (ev_eqI (ev_I0 (ev_I (ev_ixL (ev_var (i := 3) rfl) (ev_var (i := 4) rfl) ((((((okh.2 sets_483 h_484).2 masks_489 h_490).2 i_494 k_493 t_492 hi_495 ht_496) free_497 h_498).2.1 i_502 thing_501 t_500 hi_503 ht_504).1)) (ev_var (i := 6) rfl) ((((((okh.2 sets_483 h_484).2 masks_489 h_490).2 i_494 k_493 t_492 hi_495 ht_496) free_497 h_498).2.1 i_502 thing_501 t_500 hi_503 ht_504).2.1)) ev_int) ev_int)) (fun hb_507 => (et_B (ev_ixL (ev_var (i := 0) rfl) (ev_I0 (ev_ixL (ev_var (i := 3) rfl) (ev_var (i := 4) rfl) (((((((okh.2 sets_483 h_484).2 masks_489 h_490).2 i_494 k_493 t_492 hi_495 ht_496) free_497 h_498).2.1 i_502 thing_501 t_500 hi_503 ht_504).2.2.1 hb_507).1)) (ev_I ev_int (ev_var (i := 6) rfl) (((((((okh.2 sets_483 h_484).2 masks_489 h_490).2 i_494 k_493 t_492 hi_495 ht_496) free_497 h_498).2.1 i_502 thing_501 t_500 hi_503 ht_504).2.2.1 hb_507).2.1))) (((((((okh.2 sets_483 h_484).2 masks_489 h_490).2 i_494 k_493 t_492 hi_495 ht_496) free_497 h_498).2.1 i_502 thing_501 t_500 hi_503 ht_504).2.2.1 hb_507).2.2))))) rfl) (fun hc_511 => (xv_set (ev_eq (ev_I0 (ev_var (i := 5) rfl) (ev_I ev_int (ev_var (i := 6) rfl) (((((((okh.2 sets_483 h_484).2 masks_489 h_490).2 i_494 k_493 t_492 hi_495 ht_496) free_497 h_498).2.1 i_502 thing_501 t_500 hi_503 ht_504).2.2.2 hc_511)))) rfl) rfl (fun free_513 h_514 => (xv_end (by exact (wk_S (wk_s (wk_s (wk_s (wk_s (wk_s (wk_s (wk_s (wk_s wk_n)))))))))))))) (fun hc_511 => (xv_end (by exact (wk_S (wk_s (wk_s (wk_s (wk_s (wk_s (wk_s (wk_s (wk_s wk_n)))))))))))) (fun z_515 h_516 => (xv_end (by exact (wk_S (wk_s (wk_s (wk_s (wk_s (wk_s (wk_u (wk_s (wk_s wk_n)))))))))))))) (fun s_517 h_518 => (xb_loop (fun t_520 : Unit => [.d (eL eB) inside, .d eI size, .d (eL (eT eI)) sets_483, .d (eL eI) masks_489, .d eI k_493, .d eI s_517, .un, .un, .un]) () (h := (fun (t_520 : Unit) (at_521 : Int) => ((bif ((decide ((((at_ sets_483 k_493)).length : Int) < (((at_ sets_483 at_521)).length : Int))) && (decide ((PySem.Builtin.bitAnd (at_ masks_489 at_521) s_517) = (0 : Int)))) then (.rt (some ((at_ sets_483 k_493), (at_ sets_483 at_521)))) else (.nx ())) : Out Unit Unit (Option ((List Int) × (List Int)))))) (ei_range2 (ev_I0 (ev_var (i := 4) rfl) ev_int) (ev_lenL (ev_var (i := 2) rfl)) ((((((okh.2 sets_483 h_484).2 masks_489 h_490).2 i_494 k_493 t_492 hi_495 ht_496) free_497 h_498).2.2 s_517 h_518).1)) (wk_S (wk_s (wk_s (wk_s (wk_s (wk_s (wk_s (wk_s (wk_s wk_n))))))))) eg_name (fun _ => (noM_cons rfl noM_nil)) (fun i_522 at_521 t_520 hi_523 ht_524 => (xb_ifR (et_eq (et_and (et_test (ev_IB (ev_lenT (ev_ixL (ev_var (i := 2) rfl) (ev_var (i := 7) rfl) (((((((okh.2 sets_483 h_484).2 masks_489 h_490).2 i_494 k_493 t_492 hi_495 ht_496) free_497 h_498).2.2 s_517 h_518).2 i_522 at_521 t_520 hi_523 ht_524).1))) (ev_lenT (ev_ixL (ev_var (i := 2) rfl) (ev_var (i := 4) rfl) (((((((okh.2 sets_483 h_484).2 masks_489 h_490).2 i_494 k_493 t_492 hi_495 ht_496) free_497 h_498).2.2 s_517 h_518).2 i_522 at_521 t_520 hi_523 ht_524).2.1))))) (fun hb_527 => (et_test (ev_eqI (ev_I0 (ev_ixL (ev_var (i := 3) rfl) (ev_var (i := 7) rfl) ((((((((okh.2 sets_483 h_484).2 masks_489 h_490).2 i_494 k_493 t_492 hi_495 ht_496) free_497 h_498).2.2 s_517 h_518).2 i_522 at_521 t_520 hi_523 ht_524).2.2.1 hb_527))) (ev_var (i := 5) rfl)) ev_int)))) rfl) (fun hc_529 => (xb_retS (ev_eq (ev_some (ev_pair (ev_ixL (ev_var (i := 2) rfl) (ev_var (i := 4) rfl) ((((((((okh.2 sets_483 h_484).2 masks_489 h_490).2 i_494 k_493 t_492 hi_495 ht_496) free_497 h_498).2.2 s_517 h_518).2 i_522 at_521 t_520 hi_523 ht_524).2.2.2 hc_529).1)) (ev_ixL (ev_var (i := 2) rfl) (ev_var (i := 7) rfl) ((((((((okh.2 sets_483 h_484).2 masks_489 h_490).2 i_494 k_493 t_492 hi_495 ht_496) free_497 h_498).2.2 s_517 h_518).2 i_522 at_521 t_520 hi_523 ht_524).2.2.2 hc_529).2)))) rfl) (.inl rfl) rfl)) (fun hc_529 => (xb_nil (by exact (wk_S (wk_s (wk_s (wk_s (wk_s (wk_s (wk_s (wk_u (wk_s wk_n)))))))))))))) (fun s_532 hs_533 => (xb_nil (by exact (wk_S (wk_s (wk_s (wk_s (wk_u (wk_u (wk_s (wk_s (wk_s wk_n)))))))))))))))))) (fun s_534 hs_535 => (xb_retS (ev_eq (ev_none (e := (eP (eT eI) (eT eI)))) rfl) (.inl rfl) rfl)))))))⟩
/-! ### _law_family -/
abbrev N_law_family : List Str := ["box", "inside", "size", "sets", "things"]
theorem sc_law_family : FnScope N_law_family ["box", "inside", "size"] (defScope s_law_family) := ⟨rfl, rfl, rfl, by decide +kernel, rfl, by decide +kernel, by decide +kernel⟩
def o_law_family (box : BoxD) (inside : (List Bool)) (size : Int) : Out Empty Empty (Family × BoxD) :=
  (lt ([] : List (List Int)) fun sets_536 => (lt (List.foldl (fun (t_539 : ((List (List Int)) × BoxD)) (things_540 : (List Int)) => (lt (List.take ((f_law_draw t_539.2 (((t_539.1).length : Int) + (1 : Int))).1).toNat t_539.1 ++ [(at_ [things_540, things_540] (f_law_draw ((f_law_draw t_539.2 (((t_539.1).length : Int) + (1 : Int))).2) (2 : Int)).1)] ++ List.drop ((f_law_draw t_539.2 (((t_539.1).length : Int) + (1 : Int))).1).toNat t_539.1) fun sets_548 => (sets_548, (f_law_draw ((f_law_draw t_539.2 (((t_539.1).length : Int) + (1 : Int))).2) (2 : Int)).2))) (sets_536, box) (f_law_ordered inside)) fun s_550 => (.rt ((f_Family_init size s_550.1), s_550.2))))
@[irreducible] def f_law_family (box : BoxD) (inside : (List Bool)) (size : Int) : (Family × BoxD) := (o_law_family box inside size).get
theorem f_law_family_eq (box : BoxD) (inside : (List Bool)) (size : Int) : f_law_family box inside size = (o_law_family box inside size).get := by delta f_law_family; rfl
def ok_law_family (box : BoxD) (inside : (List Bool)) (size : Int) : Prop :=
  (∀ sets_536 (h_537 : sets_536 = ([] : List (List Int))), (ok_law_ordered inside) ∧ (∀ (i_541 : Nat) (things_540 : (List Int)) (t_539 : ((List (List Int)) × BoxD)) (hi_542 : ((f_law_ordered inside))[i_541]? = some things_540) (ht_543 : t_539 = (((f_law_ordered inside)).take i_541).foldl (fun (t_539 : ((List (List Int)) × BoxD)) (things_540 : (List Int)) => (lt (List.take ((f_law_draw t_539.2 (((t_539.1).length : Int) + (1 : Int))).1).toNat t_539.1 ++ [(at_ [things_540, things_540] (f_law_draw ((f_law_draw t_539.2 (((t_539.1).length : Int) + (1 : Int))).2) (2 : Int)).1)] ++ List.drop ((f_law_draw t_539.2 (((t_539.1).length : Int) + (1 : Int))).1).toNat t_539.1) fun sets_548 => (sets_548, (f_law_draw ((f_law_draw t_539.2 (((t_539.1).length : Int) + (1 : Int))).2) (2 : Int)).2))) (sets_536, box)), (ok_law_draw t_539.2 (((t_539.1).length : Int) + (1 : Int))) ∧ (ok_law_draw ((f_law_draw t_539.2 (((t_539.1).length : Int) + (1 : Int))).2) (2 : Int)) ∧ (inIx ([things_540, things_540]).length (f_law_draw ((f_law_draw t_539.2 (((t_539.1).length : Int) + (1 : Int))).2) (2 : Int)).1) ∧ ((t_539.1).length < 100000 ∧ 0 ≤ (f_law_draw t_539.2 (((t_539.1).length : Int) + (1 : Int))).1 ∧ (f_law_draw t_539.2 (((t_539.1).length : Int) + (1 : Int))).1 < 2 ^ 62)) ∧ (∀ s_550 (h_551 : s_550 = (List.foldl (fun (t_539 : ((List (List Int)) × BoxD)) (things_540 : (List Int)) => (lt (List.take ((f_law_draw t_539.2 (((t_539.1).length : Int) + (1 : Int))).1).toNat t_539.1 ++ [(at_ [things_540, things_540] (f_law_draw ((f_law_draw t_539.2 (((t_539.1).length : Int) + (1 : Int))).2) (2 : Int)).1)] ++ List.drop ((f_law_draw t_539.2 (((t_539.1).length : Int) + (1 : Int))).1).toNat t_539.1) fun sets_548 => (sets_548, (f_law_draw ((f_law_draw t_539.2 (((t_539.1).length : Int) + (1 : Int))).2) (2 : Int)).2))) (sets_536, box) (f_law_ordered inside))), (ok_Family_init size s_550.1)))
section
variable {K : PySem.W.Frag} {cFamily : Addr}
abbrev sp_law_family (cFamily : Addr) : Sp := spF (K := K) (ι := (BoxD × (List Bool) × Int)) (fun x => [.m mBox x.1, .d (eL eB) x.2.1, .d eI x.2.2]) (fun x => ok_law_family x.1 x.2.1 x.2.2) (retM (eFamily cFamily) mBox) (fun x => f_law_family x.1 x.2.1 x.2.2)
end
set_option maxHeartbeats 4000000 in
theorem at_law_family {P : Program} {w : World} {K : PySem.W.Frag} {mg : Str → Option Value} {base : Heap} {cFamily : Addr} (T : Txt K mg cFamily) : FnAt P w K mg base "_law_family" 6 ["box", "inside", "size"] (sp_law_family cFamily (K := K)) := by
  obtain ⟨f, fd, F, mg_, bd_⟩ := T.d_law_family
  obtain ⟨⟨a_Family_init, d_Family_init, G_Family_init, mk_Family_init, m_Family_init, b_Family_init⟩⟩ := at_Family_init (P := P) (w := w) (base := base) T
  obtain ⟨⟨a_law_draw, d_law_draw, G_law_draw, m_law_draw, k_law_draw, b_law_draw⟩⟩ := at_law_draw (P := P) (w := w) (base := base) T
  obtain ⟨⟨a_law_ordered, d_law_ordered, G_law_ordered, m_law_ordered, k_law_ordered, b_law_ordered⟩⟩ := at_law_ordered (P := P) (w := w) (base := base) T
  refine ⟨⟨f, fd, fn_okG (fun x => f_law_family_eq x.1 x.2.1 x.2.2) <| fn_okE (o := fun x : (BoxD × (List Bool) × Int) => o_law_family x.1 x.2.1 x.2.2) (k := 5) F sc_law_family (fun x => rfl) (fun x i s h => noM_tail (by simp [Slot.isM]) h) (fun cdv A outer s H EX hr x hp => ?_), mg_, F.kp, bd_⟩⟩
  obtain ⟨box, inside, size⟩ := x
  have okh : ok_law_family box inside size := hp
  exact ⟨_, _, rfl,
    (pss_cons (ps_set (i := 3) sc_law_family.nd rfl (by first | exact Or.inl rfl | exact Or.inr rfl) (pe_lst pa_nil)) (pss_cons (ps_for PassesOwn.never rfl (pi_list (pe_call G_law_ordered (hr.mono (by decide)) (by rfl) m_law_ordered k_law_ordered b_law_ordered .nil pass0 (pa_cons (pv 1) pa_nil))) (pg_name (i := 4) sc_law_family.nd rfl (by first | exact Or.inl rfl | exact Or.inr rfl)) (pss_cons (ps_expr (pe_bm PySem.F.plainAttrs_list PySem.F.slot_list_insert PySem.F.type_list_insert mt_insert (pv 3) (pa_cons (pe_call G_law_draw (hr.mono (by decide)) (by rfl) m_law_draw k_law_draw b_law_draw .nil pass0 (pa_cons (pv 0) (pa_cons (pe_op op_add (pe_callB call_len_seq (by rfl) T.b_len (by decide +kernel) (pa_cons (pv 3) pa_nil)) pe_int) pa_nil))) (pa_cons (pe_ix ix_list (pe_lst (pa_cons (pe_callTy call_list_of (by rfl) T.b_list (by decide +kernel) (pa_cons (pv 4) pa_nil)) (pa_cons (pv 4) pa_nil))) (pe_call G_law_draw (hr.mono (by decide)) (by rfl) m_law_draw k_law_draw b_law_draw .nil pass0 (pa_cons (pv 0) (pa_cons pe_int pa_nil))) (fun _ _ => rfl)) pa_nil)))) pss_nil)) (pss_cons (ps_ret (pe_make mk_Family_init G_Family_init (hr.mono (by decide)) (by rfl) m_Family_init b_Family_init .nil pass0 (pa_cons (pv 2) (pa_cons (pv 3) pa_nil)))) pss_nil))),
    (xb_own (en_eq (en_lst (eas_nil (e := (eQ eI))) (by show 0 ≤ 100000; decide)) rfl) rfl (fun sets_536 h_537 => (xb_fold (fun t_539 : ((List (List Int)) × BoxD) => [.m mBox t_539.2, .d (eL eB) inside, .d eI size, .l (eQ eI) t_539.1, .un]) (sets_536, box) (h := (fun (t_539 : ((List (List Int)) × BoxD)) (things_540 : (List Int)) => (lt (List.take ((f_law_draw t_539.2 (((t_539.1).length : Int) + (1 : Int))).1).toNat t_539.1 ++ [(at_ [things_540, things_540] (f_law_draw ((f_law_draw t_539.2 (((t_539.1).length : Int) + (1 : Int))).2) (2 : Int)).1)] ++ List.drop ((f_law_draw t_539.2 (((t_539.1).length : Int) + (1 : Int))).1).toNat t_539.1) fun sets_548 => (sets_548, (f_law_draw ((f_law_draw t_539.2 (((t_539.1).length : Int) + (1 : Int))).2) (2 : Int)).2)))) (ei_list (EvN.d (EvW.n (ev_callW inside (ea_cons (ev_eq (ev_var (i := 1) rfl) rfl) ea_nil) ((okh sets_536 h_537).1) rfl rfl)))) (wk_S (wk_s (wk_s (wk_s (wk_s wk_n))))) eg_name (fun _ => (noM_cons rfl noM_nil)) (fun i_541 things_540 t_539 hi_542 ht_543 => (xv_ins rfl (ev_eq (ev_callM (j := 0) (t_539.2, (((t_539.1).length : Int) + (1 : Int))) rfl rfl (ea_cons (ev_eq (ev_borrow (ev_I0 (ev_lenL (ev_var (i := 3) rfl)) ev_int)) rfl) ea_nil) rfl rfl rfl (((okh sets_536 h_537).2.1 i_541 things_540 t_539 hi_542 ht_543).1) rfl rfl rfl) rfl) (ev_eq (ev_ixL (EvN.d (en_lst (eas_cons (ev_sub (f := (eQ eI)) (EvN.d (en_list (ev_sub (f := (eQ eI)) (ev_var (i := 4) rfl))))) (eas_cons (ev_sub (f := (eQ eI)) (ev_var (i := 4) rfl)) eas_nil)) (by show 2 ≤ 100000; decide))) (ev_callM (j := 0) ((f_law_draw t_539.2 (((t_539.1).length : Int) + (1 : Int))).2, (2 : Int)) rfl rfl (ea_cons (ev_eq ev_int rfl) ea_nil) rfl rfl rfl (((okh sets_536 h_537).2.1 i_541 things_540 t_539 hi_542 ht_543).2.1) rfl rfl rfl) (((okh sets_536 h_537).2.1 i_541 things_540 t_539 hi_542 ht_543).2.2.1)) rfl) rfl (((okh sets_536 h_537).2.1 i_541 things_540 t_539 hi_542 ht_543).2.2.2) (fun sets_548 h_549 => (xv_end (by exact (wk_S (wk_s (wk_s (wk_s (wk_u wk_n)))))))))) (fun s_550 h_551 => (xb_retS (ev_eq (ev_make (fl := flFamily) (size, s_550.1) (ea_cons (ev_eq (ev_var (i := 2) rfl) rfl) (ea_cons (ev_eq (ev_give (i := 3) rfl (by decide)) rfl) ea_nil)) rfl (((okh sets_536 h_537).2.2 s_550 h_551)) (fun _ _ h => h) rfl rfl) rfl) (.inr rfl) rfl)))))⟩
/-! ### _law_is_set -/
abbrev N_law_is_set : List Str := ["actual", "due", "k"]
theorem sc_law_is_set : FnScope N_law_is_set ["actual", "due"] (defScope s_law_is_set) := ⟨rfl, rfl, rfl, by decide +kernel, rfl, by decide +kernel, by decide +kernel⟩
def o_law_is_set (actual : (List Int)) (due : (List Int)) : Out Empty Empty Bool :=
  (bif ((!true) || (!decide (((actual).length : Int) = ((due).length : Int)))) then (.rt false) else (((FL.run (fun (t_556 : Unit) (k_557 : Int) => ((bif ((!true) || (false || (!decide ((at_ actual k_557) = (at_ due k_557))))) then (.rt false) else (.nx ())) : Out Unit Unit Bool)) () (rng 0 ((due).length : Int))).done : Out Unit Empty Bool).bind fun s_568 => (.rt true)))
@[irreducible] def f_law_is_set (actual : (List Int)) (due : (List Int)) : Bool := (o_law_is_set actual due).get
theorem f_law_is_set_eq (actual : (List Int)) (due : (List Int)) : f_law_is_set actual due = (o_law_is_set actual due).get := by delta f_law_is_set; rfl
def ok_law_is_set (actual : (List Int)) (due : (List Int)) : Prop :=
  (∀ (hc_554 : (((!true) || (!decide (((actual).length : Int) = ((due).length : Int))))) = false), (-100000 ≤ ((due).length : Int) ∧ ((due).length : Int) ≤ 100000) ∧ (∀ (i_558 : Nat) (k_557 : Int) (t_556 : Unit) (hi_559 : ((rng 0 ((due).length : Int)))[i_558]? = some k_557) (ht_560 : FL.run (fun (t_556 : Unit) (k_557 : Int) => ((bif ((!true) || (false || (!decide ((at_ actual k_557) = (at_ due k_557))))) then (.rt false) else (.nx ())) : Out Unit Unit Bool)) () (((rng 0 ((due).length : Int))).take i_558) = .nx t_556), (inIx (actual).length k_557) ∧ (∀ (hb_562 : ((!true)) = false), (inIx (actual).length k_557) ∧ (∀ (hb_564 : (false) = false), (inIx (actual).length k_557) ∧ (inIx (due).length k_557)))))
section
variable {K : PySem.W.Frag} {cFamily : Addr}
abbrev sp_law_is_set : Sp := spF (K := K) (ι := ((List Int) × (List Int))) (fun x => [.d (eT eI) x.1, .d (eT eI) x.2]) (fun x => ok_law_is_set x.1 x.2) (retD eB) (fun x => f_law_is_set x.1 x.2)
end
set_option maxHeartbeats 4000000 in
theorem at_law_is_set {P : Program} {w : World} {K : PySem.W.Frag} {mg : Str → Option Value} {base : Heap} {cFamily : Addr} (T : Txt K mg cFamily) : FnAt P w K mg base "_law_is_set" 1 ["actual", "due"] (sp_law_is_set (K := K)) := by
  obtain ⟨f, fd, F, mg_, bd_⟩ := T.d_law_is_set
  refine ⟨⟨f, fd, fn_okG (fun x => f_law_is_set_eq x.1 x.2) <| fn_okE (o := fun x : ((List Int) × (List Int)) => o_law_is_set x.1 x.2) (k := 0) F sc_law_is_set (fun x => rfl) (fun x i s h => noM_tail (by simp [Slot.isM]) h) (fun cdv A outer s H EX hr x hp => ?_), mg_, F.kp, bd_⟩⟩
  obtain ⟨actual, due⟩ := x
  have okh : ok_law_is_set actual due := hp
  exact ⟨_, _, rfl,
    (pss_cons (ps_if (PW.pt (pw_or (pt_not (pt_val (pe_callB call_isi (by rfl) T.b_isinstance (by decide +kernel) (pa_cons (pv 0) (pa_cons (pe_bltn (v := .ty "tuple") (by rfl) T.b_tuple (by decide +kernel) rfl) pa_nil))))) (pw_or1 (pt_cmpR op_ne (pe_callB call_len_seq (by rfl) T.b_len (by decide +kernel) (pa_cons (pv 0) pa_nil)) (pe_callB call_len_seq (by rfl) T.b_len (by decide +kernel) (pa_cons (pv 1) pa_nil)) (nomark _))))) (pss_cons (ps_ret pe_bl) pss_nil) pss_nil) (pss_cons (ps_for PassesOwn.never rfl (pi_range1 (by rfl) T.b_range (pa_cons (pe_callB call_len_seq (by rfl) T.b_len (by decide +kernel) (pa_cons (pv 1) pa_nil)) pa_nil)) (pg_name (i := 2) sc_law_is_set.nd rfl (by first | exact Or.inl rfl | exact Or.inr rfl)) (pss_cons (ps_if (PW.pt (pw_or (pt_not (pt_val (pe_callB call_isi (by rfl) T.b_isinstance (by decide +kernel) (pa_cons (pe_ix ix_tup (pv 0) (pv 2) (fun _ _ => rfl)) (pa_cons (pe_bltn (v := .ty "int") (by rfl) T.b_int (by decide +kernel) rfl) pa_nil))))) (pw_or (pt_val (pe_callB call_isi (by rfl) T.b_isinstance (by decide +kernel) (pa_cons (pe_ix ix_tup (pv 0) (pv 2) (fun _ _ => rfl)) (pa_cons (pe_bltn (v := .ty "bool") (by rfl) T.b_bool (by decide +kernel) rfl) pa_nil)))) (pw_or1 (pt_cmpR op_ne (pe_ix ix_tup (pv 0) (pv 2) (fun _ _ => rfl)) (pe_ix ix_tup (pv 1) (pv 2) (fun _ _ => rfl)) (nomark _)))))) (pss_cons (ps_ret pe_bl) pss_nil) pss_nil) pss_nil)) (pss_cons (ps_ret pe_bl) pss_nil))),
    (xb_ifR (et_eq (et_or (et_not (et_B (ev_isi (b := true) (ev_var (i := 0) rfl) (by decide +kernel)))) (fun hb_553 => (et_test (ev_neI (ev_lenT (ev_var (i := 0) rfl)) (ev_lenT (ev_var (i := 1) rfl)))))) rfl) (fun hc_554 => (xb_retS (ev_eq ev_bl rfl) (.inl rfl) rfl)) (fun hc_554 => (xb_loop (fun t_556 : Unit => [.d (eT eI) actual, .d (eT eI) due, .un]) () (h := (fun (t_556 : Unit) (k_557 : Int) => ((bif ((!true) || (false || (!decide ((at_ actual k_557) = (at_ due k_557))))) then (.rt false) else (.nx ())) : Out Unit Unit Bool))) (ei_range1 (ev_lenT (ev_var (i := 1) rfl)) ((okh hc_554).1)) (wk_S (wk_s (wk_s wk_n))) eg_name (fun _ => (noM_cons rfl noM_nil)) (fun i_558 k_557 t_556 hi_559 ht_560 => (xb_ifR (et_eq (et_or (et_not (et_B (ev_isi (b := true) (ev_ixT (ev_var (i := 0) rfl) (ev_var (i := 2) rfl) (((okh hc_554).2 i_558 k_557 t_556 hi_559 ht_560).1)) (by decide +kernel)))) (fun hb_562 => (et_or (et_B (ev_isi (b := false) (ev_ixT (ev_var (i := 0) rfl) (ev_var (i := 2) rfl) ((((okh hc_554).2 i_558 k_557 t_556 hi_559 ht_560).2 hb_562).1)) (by decide +kernel))) (fun hb_564 => (et_test (ev_neI (ev_ixT (ev_var (i := 0) rfl) (ev_var (i := 2) rfl) (((((okh hc_554).2 i_558 k_557 t_556 hi_559 ht_560).2 hb_562).2 hb_564).1)) (ev_ixT (ev_var (i := 1) rfl) (ev_var (i := 2) rfl) (((((okh hc_554).2 i_558 k_557 t_556 hi_559 ht_560).2 hb_562).2 hb_564).2)))))))) rfl) (fun hc_567 => (xb_retS (ev_eq ev_bl rfl) (.inl rfl) rfl)) (fun hc_567 => (xb_nil (by exact (wk_S (wk_s (wk_u wk_n)))))))) (fun s_568 hs_569 => (xb_retS (ev_eq ev_bl rfl) (.inl rfl) rfl)))))⟩
/-! ### _law_right -/
abbrev N_law_right : List Str := ["actual", "due"]
theorem sc_law_right : FnScope N_law_right ["actual", "due"] (defScope s_law_right) := ⟨rfl, rfl, rfl, by decide +kernel, rfl, by decide +kernel, by decide +kernel⟩
def o_law_right (actual : (Option ((List Int) × (List Int)))) (due : (Option ((List Int) × (List Int)))) : Out Empty Empty Bool :=
  (bif (due).isNone then (.rt (actual).isNone) else (bif ((!(actual).isSome) || (!decide ((2 : Int) = (2 : Int)))) then (.rt false) else (.rt ((f_law_is_set (((actual).getD default).1) (((due).getD default).1)) && (f_law_is_set (((actual).getD default).2) (((due).getD default).2))))))
@[irreducible] def f_law_right (actual : (Option ((List Int) × (List Int)))) (due : (Option ((List Int) × (List Int)))) : Bool := (o_law_right actual due).get
theorem f_law_right_eq (actual : (Option ((List Int) × (List Int)))) (due : (Option ((List Int) × (List Int)))) : f_law_right actual due = (o_law_right actual due).get := by delta f_law_right; rfl
def ok_law_right (actual : (Option ((List Int) × (List Int)))) (due : (Option ((List Int) × (List Int)))) : Prop :=
  (∀ (hc_570 : ((due).isNone) = false), (∀ (hb_571 : ((!(actual).isSome)) = false), ((actual).isSome = true)) ∧ (∀ (hc_573 : (((!(actual).isSome) || (!decide ((2 : Int) = (2 : Int))))) = false), ((actual).isSome = true) ∧ ((due).isSome = true) ∧ (ok_law_is_set (((actual).getD default).1) (((due).getD default).1)) ∧ (∀ (hb_577 : ((f_law_is_set (((actual).getD default).1) (((due).getD default).1))) = true), ((actual).isSome = true) ∧ ((due).isSome = true) ∧ (ok_law_is_set (((actual).getD default).2) (((due).getD default).2)))))
section
variable {K : PySem.W.Frag} {cFamily : Addr}
abbrev sp_law_right : Sp := spF (K := K) (ι := ((Option ((List Int) × (List Int))) × (Option ((List Int) × (List Int))))) (fun x => [.d (eO (eP (eT eI) (eT eI))) x.1, .d (eO (eP (eT eI) (eT eI))) x.2]) (fun x => ok_law_right x.1 x.2) (retD eB) (fun x => f_law_right x.1 x.2)
end
set_option maxHeartbeats 4000000 in
theorem at_law_right {P : Program} {w : World} {K : PySem.W.Frag} {mg : Str → Option Value} {base : Heap} {cFamily : Addr} (T : Txt K mg cFamily) : FnAt P w K mg base "_law_right" 2 ["actual", "due"] (sp_law_right (K := K)) := by
  obtain ⟨f, fd, F, mg_, bd_⟩ := T.d_law_right
  obtain ⟨⟨a_law_is_set, d_law_is_set, G_law_is_set, m_law_is_set, k_law_is_set, b_law_is_set⟩⟩ := at_law_is_set (P := P) (w := w) (base := base) T
  refine ⟨⟨f, fd, fn_okG (fun x => f_law_right_eq x.1 x.2) <| fn_okE (o := fun x : ((Option ((List Int) × (List Int))) × (Option ((List Int) × (List Int)))) => o_law_right x.1 x.2) (k := 1) F sc_law_right (fun x => rfl) (fun x i s h => noM_tail (by simp [Slot.isM]) h) (fun cdv A outer s H EX hr x hp => ?_), mg_, F.kp, bd_⟩⟩
  obtain ⟨actual, due⟩ := x
  have okh : ok_law_right actual due := hp
  exact ⟨_, _, rfl,
    (pss_cons (ps_if (pt_cmpR op_isN (pv 1) pe_non (nomark _)) (pss_cons (ps_ret (pe_cmpR op_isN (pv 0) pe_non (nomark _))) pss_nil) pss_nil) (pss_cons (ps_if (PW.pt (pw_or (pt_not (pt_val (pe_callB call_isi (by rfl) T.b_isinstance (by decide +kernel) (pa_cons (pv 0) (pa_cons (pe_bltn (v := .ty "tuple") (by rfl) T.b_tuple (by decide +kernel) rfl) pa_nil))))) (pw_or1 (pt_cmpR op_ne (pe_callB call_len_seq (by rfl) T.b_len (by decide +kernel) (pa_cons (pv 0) pa_nil)) pe_int (nomark _))))) (pss_cons (ps_ret pe_bl) pss_nil) pss_nil) (pss_cons (ps_ret (pe_and (pe_call G_law_is_set (hr.mono (by decide)) (by rfl) m_law_is_set k_law_is_set b_law_is_set .nil pass0 (pa_cons (pe_ix ix_tup (pv 0) pe_int (fun _ _ => rfl)) (pa_cons (pe_ix ix_tup (pv 1) pe_int (fun _ _ => rfl)) pa_nil))) (pe_one (pe_call G_law_is_set (hr.mono (by decide)) (by rfl) m_law_is_set k_law_is_set b_law_is_set .nil pass0 (pa_cons (pe_ix ix_tup (pv 0) pe_int (fun _ _ => rfl)) (pa_cons (pe_ix ix_tup (pv 1) pe_int (fun _ _ => rfl)) pa_nil)))))) pss_nil))),
    (xb_ifR (et_eq (et_test (ev_isN (ev_var (i := 1) rfl) rfl)) rfl) (fun hc_570 => (xb_retS (ev_eq (ev_isN (ev_var (i := 0) rfl) rfl) rfl) (.inl rfl) rfl)) (fun hc_570 => (xb_ifR (et_eq (et_or (et_not (et_B (ev_isiO (ev_var (i := 0) rfl) (by decide +kernel) (by decide +kernel)))) (fun hb_571 => (et_test (ev_neI (ev_lenP (ev_unw (ev_var (i := 0) rfl) (((okh hc_570).1 hb_571)))) ev_int)))) rfl) (fun hc_573 => (xb_retS (ev_eq ev_bl rfl) (.inl rfl) rfl)) (fun hc_573 => (xb_retS (ev_eq (ev_andV (ev_call (((actual).getD default).1, ((due).getD default).1) (ea_cons (ev_eq (ev_fst (ev_unw (ev_var (i := 0) rfl) (((okh hc_570).2 hc_573).1))) rfl) (ea_cons (ev_eq (ev_fst (ev_unw (ev_var (i := 1) rfl) (((okh hc_570).2 hc_573).2.1))) rfl) ea_nil)) (((okh hc_570).2 hc_573).2.2.1) rfl rfl) (fun hb_577 => (ev_call (((actual).getD default).2, ((due).getD default).2) (ea_cons (ev_eq (ev_snd (ev_unw (ev_var (i := 0) rfl) ((((okh hc_570).2 hc_573).2.2.2 hb_577).1))) rfl) (ea_cons (ev_eq (ev_snd (ev_unw (ev_var (i := 1) rfl) ((((okh hc_570).2 hc_573).2.2.2 hb_577).2.1))) rfl) ea_nil)) ((((okh hc_570).2 hc_573).2.2.2 hb_577).2.2) rfl rfl))) rfl) (.inl rfl) rfl)))))⟩
/-! ### _law_box -/
abbrev N_law_box : List Str := ["script", "cell"]
theorem sc_law_box : FnScope N_law_box ["script"] (defScope s_law_box) := ⟨rfl, rfl, rfl, by decide +kernel, rfl, by decide +kernel, by decide +kernel⟩
def o_law_box (script : (List Int)) : Out Empty Empty BoxD :=
  (.rt (⟨((script).map fun cell_581 => cell_581), 0, 0, 0⟩ : BoxD))
@[irreducible] def f_law_box (script : (List Int)) : BoxD := (o_law_box script).get
theorem f_law_box_eq (script : (List Int)) : f_law_box script = (o_law_box script).get := by delta f_law_box; rfl
section
variable {K : PySem.W.Frag} {cFamily : Addr}
abbrev sp_law_box : Sp := spF (K := K) (ι := (List Int)) (fun x => [.d (eL eI) x]) (fun _ => True) (retW mBox) (fun x => f_law_box x)
end
set_option maxHeartbeats 4000000 in
theorem at_law_box {P : Program} {w : World} {K : PySem.W.Frag} {mg : Str → Option Value} {base : Heap} {cFamily : Addr} (T : Txt K mg cFamily) : FnAt P w K mg base "_law_box" 1 ["script"] (sp_law_box (K := K)) := by
  obtain ⟨f, fd, F, mg_, bd_⟩ := T.d_law_box
  refine ⟨⟨f, fd, fn_okG (fun x => f_law_box_eq x) <| fn_okE (o := fun x : (List Int) => o_law_box x) (k := 0) F sc_law_box (fun x => rfl) (fun x i s h => noM_tail (by simp [Slot.isM]) h) (fun cdv A outer s H EX hr script hp => ?_), mg_, F.kp, bd_⟩⟩
  exact ⟨_, _, rfl,
    (pss_cons (ps_ret (pe_lst (pa_cons (pe_lc (own := [("cell", 1)]) (g := gName 1) (tt := tYes) rfl sc_law_box.nd (pi_list (pv 0)) (blkOk_by (N := N_law_box) (sc := defScope s_law_box) (by decide +kernel)) (fun _ _ _ _ _ => (pg_name (i := 1) sc_law_box.nd rfl (by first | exact Or.inl rfl | exact Or.inr rfl))) (fun _ _ _ _ _ => pts_nil) (fun _ _ _ _ _ => (pe_callTy call_int1 (by rfl) T.b_int (by decide +kernel) (pa_cons (pv 1) pa_nil)))) (pa_cons pe_int (pa_cons pe_int (pa_cons pe_int pa_nil)))))) pss_nil),
    (xb_retSW (ew_box (EvN.d (en_lcY (v := fun cell_581 => cell_581) (ei_list (ev_var (i := 0) rfl)) eg_name (by decide) (noM_cons rfl noM_nil) (fun cell_581 hx_582 => (ev_eq (ev_int1 (ev_var (i := 1) rfl)) rfl))))) (.inl rfl) rfl rfl)⟩
/-! ### _law_all -/
abbrev N_law_all : List Str := ["script", "box", "families", "dues", "k", "size", "inside"]
theorem sc_law_all : FnScope N_law_all ["script"] (defScope s_law_all) := ⟨rfl, rfl, rfl, by decide +kernel, rfl, by decide +kernel, by decide +kernel⟩
def o_law_all (script : (List Int)) : Out Empty Empty Bool :=
  (lt (f_law_box script) fun box_584 => (lt ([] : List Family) fun families_586 => (lt ([] : List (Option ((List Int) × (List Int)))) fun dues_588 => (lt (List.foldl (fun (t_590 : (BoxD × (List Family) × (List (Option ((List Int) × (List Int)))))) (k_591 : Int) => (lt ((1 : Int) + (f_law_draw t_590.1 (6 : Int)).1) fun size_596 => (lt ((f_law_draw t_590.1 (6 : Int)).2) fun bx_598 => (lt ((f_law_inside bx_598 size_596).1) fun inside_601 => (lt ((f_law_inside bx_598 size_596).2) fun bx_603 => (lt (t_590.2.1 ++ [(f_law_family bx_603 inside_601 size_596).1]) fun families_607 => (lt ((f_law_family bx_603 inside_601 size_596).2) fun bx_609 => (lt (t_590.2.2 ++ [(f_law_due inside_601 size_596)]) fun dues_613 => (bx_609, families_607, dues_613))))))))) (box_584, families_586, dues_588) (rng 0 (3 : Int))) fun s_615 => (((FL.run (fun (t_617 : Unit) (k_618 : Int) => ((bif (!(f_law_right (f_exchange_fault (at_ s_615.2.1 k_618)) (at_ s_615.2.2 k_618))) then (.rt false) else (.nx ())) : Out Unit Unit Bool)) () (rng 0 (3 : Int))).done : Out Unit Empty Bool).bind fun s_627 => (((FL.run (fun (t_629 : Unit) (k_630 : Int) => ((bif (!(f_law_right (f_exchange_fault (at_ s_615.2.1 ((2 : Int) - k_630))) (at_ s_615.2.2 ((2 : Int) - k_630)))) then (.rt false) else (.nx ())) : Out Unit Unit Bool)) () (rng 0 (3 : Int))).done : Out Unit Empty Bool).bind fun s_639 => (.rt true)))))))
@[irreducible] def f_law_all (script : (List Int)) : Bool := (o_law_all script).get
theorem f_law_all_eq (script : (List Int)) : f_law_all script = (o_law_all script).get := by delta f_law_all; rfl
def ok_law_all (script : (List Int)) : Prop :=
  (∀ box_584 (h_585 : box_584 = (f_law_box script)), (∀ families_586 (h_587 : families_586 = ([] : List Family)), (∀ dues_588 (h_589 : dues_588 = ([] : List (Option ((List Int) × (List Int))))), (∀ (i_592 : Nat) (k_591 : Int) (t_590 : (BoxD × (List Family) × (List (Option ((List Int) × (List Int)))))) (hi_593 : ((rng 0 (3 : Int)))[i_592]? = some k_591) (ht_594 : t_590 = (((rng 0 (3 : Int))).take i_592).foldl (fun (t_590 : (BoxD × (List Family) × (List (Option ((List Int) × (List Int)))))) (k_591 : Int) => (lt ((1 : Int) + (f_law_draw t_590.1 (6 : Int)).1) fun size_596 => (lt ((f_law_draw t_590.1 (6 : Int)).2) fun bx_598 => (lt ((f_law_inside bx_598 size_596).1) fun inside_601 => (lt ((f_law_inside bx_598 size_596).2) fun bx_603 => (lt (t_590.2.1 ++ [(f_law_family bx_603 inside_601 size_596).1]) fun families_607 => (lt ((f_law_family bx_603 inside_601 size_596).2) fun bx_609 => (lt (t_590.2.2 ++ [(f_law_due inside_601 size_596)]) fun dues_613 => (bx_609, families_607, dues_613))))))))) (box_584, families_586, dues_588)), (ok_law_draw t_590.1 (6 : Int)) ∧ (∀ size_596 (h_597 : size_596 = ((1 : Int) + (f_law_draw t_590.1 (6 : Int)).1)), (∀ bx_598 (h_599 : bx_598 = (f_law_draw t_590.1 (6 : Int)).2), (ok_law_inside bx_598 size_596) ∧ (∀ inside_601 (h_602 : inside_601 = (f_law_inside bx_598 size_596).1), (∀ bx_603 (h_604 : bx_603 = (f_law_inside bx_598 size_596).2), (ok_law_family bx_603 inside_601 size_596) ∧ ((t_590.2.1).length < 100000) ∧ (∀ families_607 (h_608 : families_607 = (t_590.2.1 ++ [(f_law_family bx_603 inside_601 size_596).1])), (∀ bx_609 (h_610 : bx_609 = (f_law_family bx_603 inside_601 size_596).2), (ok_law_due inside_601 size_596) ∧ ((t_590.2.2).length < 100000)))))))) ∧ (∀ s_615 (h_616 : s_615 = (List.foldl (fun (t_590 : (BoxD × (List Family) × (List (Option ((List Int) × (List Int)))))) (k_591 : Int) => (lt ((1 : Int) + (f_law_draw t_590.1 (6 : Int)).1) fun size_596 => (lt ((f_law_draw t_590.1 (6 : Int)).2) fun bx_598 => (lt ((f_law_inside bx_598 size_596).1) fun inside_601 => (lt ((f_law_inside bx_598 size_596).2) fun bx_603 => (lt (t_590.2.1 ++ [(f_law_family bx_603 inside_601 size_596).1]) fun families_607 => (lt ((f_law_family bx_603 inside_601 size_596).2) fun bx_609 => (lt (t_590.2.2 ++ [(f_law_due inside_601 size_596)]) fun dues_613 => (bx_609, families_607, dues_613))))))))) (box_584, families_586, dues_588) (rng 0 (3 : Int)))), (∀ (i_619 : Nat) (k_618 : Int) (t_617 : Unit) (hi_620 : ((rng 0 (3 : Int)))[i_619]? = some k_618) (ht_621 : FL.run (fun (t_617 : Unit) (k_618 : Int) => ((bif (!(f_law_right (f_exchange_fault (at_ s_615.2.1 k_618)) (at_ s_615.2.2 k_618))) then (.rt false) else (.nx ())) : Out Unit Unit Bool)) () (((rng 0 (3 : Int))).take i_619) = .nx t_617), (inIx (s_615.2.1).length k_618) ∧ (ok_exchange_fault (at_ s_615.2.1 k_618)) ∧ (inIx (s_615.2.2).length k_618) ∧ (ok_law_right (f_exchange_fault (at_ s_615.2.1 k_618)) (at_ s_615.2.2 k_618))) ∧ (∀ (s_627 : Unit) (hs_628 : (FL.run (fun (t_617 : Unit) (k_618 : Int) => ((bif (!(f_law_right (f_exchange_fault (at_ s_615.2.1 k_618)) (at_ s_615.2.2 k_618))) then (.rt false) else (.nx ())) : Out Unit Unit Bool)) () (rng 0 (3 : Int))).done = (.nx s_627 : Out Unit Empty Bool)), (∀ (i_631 : Nat) (k_630 : Int) (t_629 : Unit) (hi_632 : ((rng 0 (3 : Int)))[i_631]? = some k_630) (ht_633 : FL.run (fun (t_629 : Unit) (k_630 : Int) => ((bif (!(f_law_right (f_exchange_fault (at_ s_615.2.1 ((2 : Int) - k_630))) (at_ s_615.2.2 ((2 : Int) - k_630)))) then (.rt false) else (.nx ())) : Out Unit Unit Bool)) () (((rng 0 (3 : Int))).take i_631) = .nx t_629), (inIx (s_615.2.1).length ((2 : Int) - k_630)) ∧ (ok_exchange_fault (at_ s_615.2.1 ((2 : Int) - k_630))) ∧ (inIx (s_615.2.2).length ((2 : Int) - k_630)) ∧ (ok_law_right (f_exchange_fault (at_ s_615.2.1 ((2 : Int) - k_630))) (at_ s_615.2.2 ((2 : Int) - k_630)))))))))
section
variable {K : PySem.W.Frag} {cFamily : Addr}
abbrev sp_law_all : Sp := spF (K := K) (ι := (List Int)) (fun x => [.d (eL eI) x]) (fun x => ok_law_all x) (retD eB) (fun x => f_law_all x)
end
set_option maxHeartbeats 4000000 in
theorem at_law_all {P : Program} {w : World} {K : PySem.W.Frag} {mg : Str → Option Value} {base : Heap} {cFamily : Addr} (T : Txt K mg cFamily) : FnAt P w K mg base "_law_all" 7 ["script"] (sp_law_all (K := K)) := by
  obtain ⟨f, fd, F, mg_, bd_⟩ := T.d_law_all
  obtain ⟨⟨a_law_box, d_law_box, G_law_box, m_law_box, k_law_box, b_law_box⟩⟩ := at_law_box (P := P) (w := w) (base := base) T
  obtain ⟨⟨a_law_draw, d_law_draw, G_law_draw, m_law_draw, k_law_draw, b_law_draw⟩⟩ := at_law_draw (P := P) (w := w) (base := base) T
  obtain ⟨⟨a_law_due, d_law_due, G_law_due, m_law_due, k_law_due, b_law_due⟩⟩ := at_law_due (P := P) (w := w) (base := base) T
  obtain ⟨⟨a_law_family, d_law_family, G_law_family, m_law_family, k_law_family, b_law_family⟩⟩ := at_law_family (P := P) (w := w) (base := base) T
  obtain ⟨⟨a_law_inside, d_law_inside, G_law_inside, m_law_inside, k_law_inside, b_law_inside⟩⟩ := at_law_inside (P := P) (w := w) (base := base) T
  obtain ⟨⟨a_law_right, d_law_right, G_law_right, m_law_right, k_law_right, b_law_right⟩⟩ := at_law_right (P := P) (w := w) (base := base) T
  obtain ⟨⟨a_exchange_fault, d_exchange_fault, G_exchange_fault, m_exchange_fault, k_exchange_fault, b_exchange_fault, kb_exchange_fault⟩⟩ := at_exchange_fault (P := P) (w := w) (base := base) T
  refine ⟨⟨f, fd, fn_okG (fun x => f_law_all_eq x) <| fn_okE (o := fun x : (List Int) => o_law_all x) (k := 6) F sc_law_all (fun x => rfl) (fun x i s h => noM_tail (by simp [Slot.isM]) h) (fun cdv A outer s H EX hr script hp => ?_), mg_, F.kp, bd_⟩⟩
  have okh : ok_law_all script := hp
  exact ⟨_, _, rfl,
    (pss_cons (ps_set (i := 1) sc_law_all.nd rfl (by first | exact Or.inl rfl | exact Or.inr rfl) (pe_call G_law_box (hr.mono (by decide)) (by rfl) m_law_box k_law_box b_law_box .nil pass0 (pa_cons (pv 0) pa_nil))) (pss_cons (ps_set (i := 2) sc_law_all.nd rfl (by first | exact Or.inl rfl | exact Or.inr rfl) (pe_lst pa_nil)) (pss_cons (ps_set (i := 3) sc_law_all.nd rfl (by first | exact Or.inl rfl | exact Or.inr rfl) (pe_lst pa_nil)) (pss_cons (ps_for PassesOwn.never rfl (pi_range1 (by rfl) T.b_range (pa_cons pe_int pa_nil)) (pg_name (i := 4) sc_law_all.nd rfl (by first | exact Or.inl rfl | exact Or.inr rfl)) (pss_cons (ps_set (i := 5) sc_law_all.nd rfl (by first | exact Or.inl rfl | exact Or.inr rfl) (pe_op op_add pe_int (pe_call G_law_draw (hr.mono (by decide)) (by rfl) m_law_draw k_law_draw b_law_draw .nil pass0 (pa_cons (pv 1) (pa_cons pe_int pa_nil))))) (pss_cons (ps_set (i := 6) sc_law_all.nd rfl (by first | exact Or.inl rfl | exact Or.inr rfl) (pe_call G_law_inside (hr.mono (by decide)) (by rfl) m_law_inside k_law_inside b_law_inside .nil pass0 (pa_cons (pv 1) (pa_cons (pv 5) pa_nil)))) (pss_cons (ps_expr (pe_bm PySem.F.plainAttrs_list PySem.F.slot_list_append PySem.F.type_list_append mt_append (pv 2) (pa_cons (pe_call G_law_family (hr.mono (by decide)) (by rfl) m_law_family k_law_family b_law_family .nil pass0 (pa_cons (pv 1) (pa_cons (pv 6) (pa_cons (pv 5) pa_nil)))) pa_nil))) (pss_cons (ps_expr (pe_bm PySem.F.plainAttrs_list PySem.F.slot_list_append PySem.F.type_list_append mt_append (pv 3) (pa_cons (pe_call G_law_due (hr.mono (by decide)) (by rfl) m_law_due k_law_due b_law_due .nil pass0 (pa_cons (pv 6) (pa_cons (pv 5) pa_nil))) pa_nil))) pss_nil))))) (pss_cons (ps_for PassesOwn.never rfl (pi_range1 (by rfl) T.b_range (pa_cons pe_int pa_nil)) (pg_name (i := 4) sc_law_all.nd rfl (by first | exact Or.inl rfl | exact Or.inr rfl)) (pss_cons (ps_if (pt_not (pt_val (pe_call G_law_right (hr.mono (by decide)) (by rfl) m_law_right k_law_right b_law_right .nil pass0 (pa_cons (pe_call G_exchange_fault (hr.mono (by decide)) (by rfl) m_exchange_fault k_exchange_fault b_exchange_fault .nil pass0 (pa_cons (pe_ix ix_list (pv 2) (pv 4) (fun _ _ => rfl)) pa_nil)) (pa_cons (pe_ix ix_list (pv 3) (pv 4) (fun _ _ => rfl)) pa_nil))))) (pss_cons (ps_ret pe_bl) pss_nil) pss_nil) pss_nil)) (pss_cons (ps_for PassesOwn.never rfl (pi_range1 (by rfl) T.b_range (pa_cons pe_int pa_nil)) (pg_name (i := 4) sc_law_all.nd rfl (by first | exact Or.inl rfl | exact Or.inr rfl)) (pss_cons (ps_if (pt_not (pt_val (pe_call G_law_right (hr.mono (by decide)) (by rfl) m_law_right k_law_right b_law_right .nil pass0 (pa_cons (pe_callK0 G_exchange_fault (hr.mono (by decide)) (by rfl) m_exchange_fault k_exchange_fault kb_exchange_fault pass0 (pk_cons (pe_ix ix_list (pv 2) (pe_op op_sub pe_int (pv 4)) (fun _ _ => rfl)) pk_nil)) (pa_cons (pe_ix ix_list (pv 3) (pe_op op_sub pe_int (pv 4)) (fun _ _ => rfl)) pa_nil))))) (pss_cons (ps_ret pe_bl) pss_nil) pss_nil) pss_nil)) (pss_cons (ps_ret pe_bl) pss_nil))))))),
    (xb_new (ev_callW script (ea_cons (ev_eq (ev_var (i := 0) rfl) rfl) ea_nil) trivial rfl rfl) rfl (fun box_584 h_585 => (xb_own (en_eq (en_lst (eas_nil (e := (eFamily cFamily))) (by show 0 ≤ 100000; decide)) rfl) rfl (fun families_586 h_587 => (xb_own (en_eq (en_lst (eas_nil (e := (eO (eP (eT eI) (eT eI))))) (by show 0 ≤ 100000; decide)) rfl) rfl (fun dues_588 h_589 => (xb_fold (fun t_590 : (BoxD × (List Family) × (List (Option ((List Int) × (List Int))))) => [.d (eL eI) script, .m mBox t_590.1, .l (eFamily cFamily) t_590.2.1, .l (eO (eP (eT eI) (eT eI))) t_590.2.2, .un, .un, .un]) (box_584, families_586, dues_588) (h := (fun (t_590 : (BoxD × (List Family) × (List (Option ((List Int) × (List Int)))))) (k_591 : Int) => (lt ((1 : Int) + (f_law_draw t_590.1 (6 : Int)).1) fun size_596 => (lt ((f_law_draw t_590.1 (6 : Int)).2) fun bx_598 => (lt ((f_law_inside bx_598 size_596).1) fun inside_601 => (lt ((f_law_inside bx_598 size_596).2) fun bx_603 => (lt (t_590.2.1 ++ [(f_law_family bx_603 inside_601 size_596).1]) fun families_607 => (lt ((f_law_family bx_603 inside_601 size_596).2) fun bx_609 => (lt (t_590.2.2 ++ [(f_law_due inside_601 size_596)]) fun dues_613 => (bx_609, families_607, dues_613)))))))))) (ei_range1 ev_int (by decide)) (wk_S (wk_s (wk_s (wk_s (wk_s (wk_s (wk_s wk_n))))))) eg_name (fun _ => (noM_cons rfl noM_nil)) (fun i_592 k_591 t_590 hi_593 ht_594 => (xv_set (ev_eq (ev_I0 ev_int (ev_callM (j := 1) (t_590.1, (6 : Int)) rfl rfl (ea_cons (ev_eq ev_int rfl) ea_nil) rfl rfl rfl (((((okh box_584 h_585) families_586 h_587) dues_588 h_589).1 i_592 k_591 t_590 hi_593 ht_594).1) rfl rfl rfl)) rfl) rfl (fun size_596 h_597 => (xv_reb (fun bx_598 => [.d (eL eI) script, .m mBox bx_598, .l (eFamily cFamily) t_590.2.1, .l (eO (eP (eT eI) (eT eI))) t_590.2.2, .d eI k_591, .d eI size_596, .un]) ((f_law_draw t_590.1 (6 : Int)).2) (fun bx_598 h_599 => (xv_set (ev_eq (EvN.d (EvW.n (ev_callMW (j := 1) (bx_598, size_596) rfl rfl (ea_cons (ev_eq (ev_var (i := 5) rfl) rfl) ea_nil) rfl rfl rfl (((((((okh box_584 h_585) families_586 h_587) dues_588 h_589).1 i_592 k_591 t_590 hi_593 ht_594).2 size_596 h_597) bx_598 h_599).1) rfl rfl rfl))) rfl) rfl (fun inside_601 h_602 => (xv_reb (fun bx_603 => [.d (eL eI) script, .m mBox bx_603, .l (eFamily cFamily) t_590.2.1, .l (eO (eP (eT eI) (eT eI))) t_590.2.2, .d eI k_591, .d eI size_596, .d (eL eB) inside_601]) ((f_law_inside bx_598 size_596).2) (fun bx_603 h_604 => (xv_app rfl (ev_eq (ev_callM (j := 1) (bx_603, inside_601, size_596) rfl rfl (ea_cons (ev_eq (ev_var (i := 6) rfl) rfl) (ea_cons (ev_eq (ev_var (i := 5) rfl) rfl) ea_nil)) rfl rfl rfl (((((((((okh box_584 h_585) families_586 h_587) dues_588 h_589).1 i_592 k_591 t_590 hi_593 ht_594).2 size_596 h_597) bx_598 h_599).2 inside_601 h_602) bx_603 h_604).1) rfl rfl rfl) rfl) rfl (((((((((okh box_584 h_585) families_586 h_587) dues_588 h_589).1 i_592 k_591 t_590 hi_593 ht_594).2 size_596 h_597) bx_598 h_599).2 inside_601 h_602) bx_603 h_604).2.1) (fun families_607 h_608 => (xv_reb (fun bx_609 => [.d (eL eI) script, .m mBox bx_609, .l (eFamily cFamily) families_607, .l (eO (eP (eT eI) (eT eI))) t_590.2.2, .d eI k_591, .d eI size_596, .d (eL eB) inside_601]) ((f_law_family bx_603 inside_601 size_596).2) (fun bx_609 h_610 => (xv_app rfl (ev_eq (ev_call (inside_601, size_596) (ea_cons (ev_eq (ev_var (i := 6) rfl) rfl) (ea_cons (ev_eq (ev_var (i := 5) rfl) rfl) ea_nil)) (((((((((((okh box_584 h_585) families_586 h_587) dues_588 h_589).1 i_592 k_591 t_590 hi_593 ht_594).2 size_596 h_597) bx_598 h_599).2 inside_601 h_602) bx_603 h_604).2.2 families_607 h_608) bx_609 h_610).1) rfl rfl) rfl) rfl (((((((((((okh box_584 h_585) families_586 h_587) dues_588 h_589).1 i_592 k_591 t_590 hi_593 ht_594).2 size_596 h_597) bx_598 h_599).2 inside_601 h_602) bx_603 h_604).2.2 families_607 h_608) bx_609 h_610).2) (fun dues_613 h_614 => (xv_end (by exact (wk_S (wk_s (wk_s (wk_s (wk_u (wk_u (wk_u wk_n)))))))))))))))))))))))) (fun s_615 h_616 => (xb_loop (fun t_617 : Unit => [.d (eL eI) script, .m mBox s_615.1, .l (eFamily cFamily) s_615.2.1, .l (eO (eP (eT eI) (eT eI))) s_615.2.2, .un, .un, .un]) () (h := (fun (t_617 : Unit) (k_618 : Int) => ((bif (!(f_law_right (f_exchange_fault (at_ s_615.2.1 k_618)) (at_ s_615.2.2 k_618))) then (.rt false) else (.nx ())) : Out Unit Unit Bool))) (ei_range1 ev_int (by decide)) (wk_S (wk_s (wk_s (wk_s (wk_s (wk_s (wk_s wk_n))))))) eg_name (fun _ => (noM_cons rfl noM_nil)) (fun i_619 k_618 t_617 hi_620 ht_621 => (xb_ifR (et_eq (et_borrow (et_not (et_B (ev_call ((f_exchange_fault (at_ s_615.2.1 k_618)), (at_ s_615.2.2 k_618)) (ea_cons (ev_eq (ev_call (at_ s_615.2.1 k_618) (ea_cons (ev_eq (ev_ixL (ev_var (i := 2) rfl) (ev_var (i := 4) rfl) ((((((okh box_584 h_585) families_586 h_587) dues_588 h_589).2 s_615 h_616).1 i_619 k_618 t_617 hi_620 ht_621).1)) rfl) ea_nil) ((((((okh box_584 h_585) families_586 h_587) dues_588 h_589).2 s_615 h_616).1 i_619 k_618 t_617 hi_620 ht_621).2.1) rfl rfl) rfl) (ea_cons (ev_eq (ev_ixL (ev_var (i := 3) rfl) (ev_var (i := 4) rfl) ((((((okh box_584 h_585) families_586 h_587) dues_588 h_589).2 s_615 h_616).1 i_619 k_618 t_617 hi_620 ht_621).2.2.1)) rfl) ea_nil)) ((((((okh box_584 h_585) families_586 h_587) dues_588 h_589).2 s_615 h_616).1 i_619 k_618 t_617 hi_620 ht_621).2.2.2) rfl rfl)))) rfl) (fun hc_626 => (xb_retS (ev_eq ev_bl rfl) (.inl rfl) rfl)) (fun hc_626 => (xb_nil (by exact (wk_S (wk_s (wk_s (wk_s (wk_u (wk_s (wk_s wk_n)))))))))))) (fun s_627 hs_628 => (xb_loop (fun t_629 : Unit => [.d (eL eI) script, .m mBox s_615.1, .l (eFamily cFamily) s_615.2.1, .l (eO (eP (eT eI) (eT eI))) s_615.2.2, .un, .un, .un]) () (h := (fun (t_629 : Unit) (k_630 : Int) => ((bif (!(f_law_right (f_exchange_fault (at_ s_615.2.1 ((2 : Int) - k_630))) (at_ s_615.2.2 ((2 : Int) - k_630)))) then (.rt false) else (.nx ())) : Out Unit Unit Bool))) (ei_range1 ev_int (by decide)) (wk_S (wk_s (wk_s (wk_s (wk_s (wk_s (wk_s wk_n))))))) eg_name (fun _ => (noM_cons rfl noM_nil)) (fun i_631 k_630 t_629 hi_632 ht_633 => (xb_ifR (et_eq (et_borrow (et_not (et_B (ev_call ((f_exchange_fault (at_ s_615.2.1 ((2 : Int) - k_630))), (at_ s_615.2.2 ((2 : Int) - k_630))) (ea_cons (ev_eq (ev_callKw (at_ s_615.2.1 ((2 : Int) - k_630)) (ea_cons (ev_eq (ev_ixL (ev_var (i := 2) rfl) (ev_I0 ev_int (ev_var (i := 4) rfl)) (((((((okh box_584 h_585) families_586 h_587) dues_588 h_589).2 s_615 h_616).2 s_627 hs_628) i_631 k_630 t_629 hi_632 ht_633).1)) rfl) ea_nil) (((((((okh box_584 h_585) families_586 h_587) dues_588 h_589).2 s_615 h_616).2 s_627 hs_628) i_631 k_630 t_629 hi_632 ht_633).2.1) rfl rfl) rfl) (ea_cons (ev_eq (ev_ixL (ev_var (i := 3) rfl) (ev_I0 ev_int (ev_var (i := 4) rfl)) (((((((okh box_584 h_585) families_586 h_587) dues_588 h_589).2 s_615 h_616).2 s_627 hs_628) i_631 k_630 t_629 hi_632 ht_633).2.2.1)) rfl) ea_nil)) (((((((okh box_584 h_585) families_586 h_587) dues_588 h_589).2 s_615 h_616).2 s_627 hs_628) i_631 k_630 t_629 hi_632 ht_633).2.2.2) rfl rfl)))) rfl) (fun hc_638 => (xb_retS (ev_eq ev_bl rfl) (.inl rfl) rfl)) (fun hc_638 => (xb_nil (by exact (wk_S (wk_s (wk_s (wk_s (wk_u (wk_s (wk_s wk_n)))))))))))) (fun s_639 hs_640 => (xb_retS (ev_eq ev_bl rfl) (.inl rfl) rfl)))))))))))))⟩
/-! ### law -/
abbrev N_law : List Str := ["script"]
theorem sc_law : FnScope N_law ["script"] (defScope s_law) := ⟨rfl, rfl, rfl, by decide +kernel, rfl, by decide +kernel, by decide +kernel⟩
def o_law (script : (List Int)) : Out Empty Empty Bool :=
  (.rt (f_law_all script))
@[irreducible] def f_law (script : (List Int)) : Bool := (o_law script).get
theorem f_law_eq (script : (List Int)) : f_law script = (o_law script).get := by delta f_law; rfl
def ok_law (script : (List Int)) : Prop :=
  (ok_law_all script)
section
variable {K : PySem.W.Frag} {cFamily : Addr}
abbrev sp_law : Sp := spF (K := K) (ι := (List Int)) (fun x => [.d (eL eI) x]) (fun x => ok_law x) (retD eB) (fun x => f_law x)
end
set_option maxHeartbeats 4000000 in
theorem at_law {P : Program} {w : World} {K : PySem.W.Frag} {mg : Str → Option Value} {base : Heap} {cFamily : Addr} (T : Txt K mg cFamily) {f : Addr} {fd : FuncData} (F : Fun K "law" "law" s_law f fd) : FnOk P w K mg base CX0 8 f fd ["script"] (sp_law (K := K)) := by
  obtain ⟨⟨a_law_all, d_law_all, G_law_all, m_law_all, k_law_all, b_law_all⟩⟩ := at_law_all (P := P) (w := w) (base := base) T
  refine fn_okG (fun x => f_law_eq x) <| fn_okE (o := fun x : (List Int) => o_law x) (k := 7) F sc_law (fun x => rfl) (fun x i s h => noM_tail (by simp [Slot.isM]) h) (fun cdv A outer s H EX hr script hp => ?_)
  have okh : ok_law script := hp
  exact ⟨_, _, rfl,
    (pss_cons (ps_try_thru0 (pss_cons (ps_ret (pe_call G_law_all (hr.mono (by decide)) (by rfl) m_law_all k_law_all b_law_all .nil pass0 (pa_cons (pv 0) pa_nil))) pss_nil)) pss_nil),
    (xb_thru (xb_retS (ev_eq (ev_call script (ea_cons (ev_eq (ev_var (i := 0) rfl) rfl) ea_nil) okh rfl rfl) rfl) (.inl rfl) rfl))⟩
theorem all_mk {l : PySem.W.OpenLaw} {w : World} {K : PySem.W.Frag} {h : Heap} {mg : Str → Option Value} {fa cFamily f_is_thing f_is_set f_check_size f_checked_sets f_mask_of f_things_of f_all_sets f_is_within f_Family_init f_Family_addable f_exchange_fault f_law_draw f_law_things f_law_counts f_law_closed f_law_vectors f_law_quotas f_law_full f_law_inside f_law_ordered f_law_mask f_law_due f_law_family f_law_is_set f_law_right f_law_box f_law_all f_law : Addr} (X : K.In h) (G : h.Ns mainGlobals mg) (hfa : mg "law" = some (.ref fa))
    {od_is_thing an_is_thing : Option Addr} {sl_is_thing : Array (Option Value)} {oc_is_thing kV_is_thing dc_is_thing pm_is_thing cd_is_thing ct_is_thing : Value}
    {od_is_set an_is_set : Option Addr} {sl_is_set : Array (Option Value)} {oc_is_set kV_is_set dc_is_set pm_is_set cd_is_set ct_is_set : Value}
    {od_check_size an_check_size : Option Addr} {sl_check_size : Array (Option Value)} {oc_check_size kV_check_size dc_check_size pm_check_size cd_check_size ct_check_size : Value}
    {od_checked_sets an_checked_sets : Option Addr} {sl_checked_sets : Array (Option Value)} {oc_checked_sets kV_checked_sets dc_checked_sets pm_checked_sets cd_checked_sets ct_checked_sets : Value}
    {od_mask_of an_mask_of : Option Addr} {sl_mask_of : Array (Option Value)} {oc_mask_of kV_mask_of dc_mask_of pm_mask_of cd_mask_of ct_mask_of : Value}
    {od_things_of an_things_of : Option Addr} {sl_things_of : Array (Option Value)} {oc_things_of kV_things_of dc_things_of pm_things_of cd_things_of ct_things_of : Value}
    {od_all_sets an_all_sets : Option Addr} {sl_all_sets : Array (Option Value)} {oc_all_sets kV_all_sets dc_all_sets pm_all_sets cd_all_sets ct_all_sets : Value}
    {od_is_within an_is_within : Option Addr} {sl_is_within : Array (Option Value)} {oc_is_within kV_is_within dc_is_within pm_is_within cd_is_within ct_is_within : Value}
    {od_Family_init an_Family_init : Option Addr} {sl_Family_init : Array (Option Value)} {oc_Family_init kV_Family_init dc_Family_init pm_Family_init cd_Family_init ct_Family_init : Value}
    {od_Family_addable an_Family_addable : Option Addr} {sl_Family_addable : Array (Option Value)} {oc_Family_addable kV_Family_addable dc_Family_addable pm_Family_addable cd_Family_addable ct_Family_addable : Value}
    {od_exchange_fault an_exchange_fault : Option Addr} {sl_exchange_fault : Array (Option Value)} {oc_exchange_fault kV_exchange_fault dc_exchange_fault pm_exchange_fault cd_exchange_fault ct_exchange_fault : Value}
    {od_law_draw an_law_draw : Option Addr} {sl_law_draw : Array (Option Value)} {oc_law_draw kV_law_draw dc_law_draw pm_law_draw cd_law_draw ct_law_draw : Value}
    {od_law_things an_law_things : Option Addr} {sl_law_things : Array (Option Value)} {oc_law_things kV_law_things dc_law_things pm_law_things cd_law_things ct_law_things : Value}
    {od_law_counts an_law_counts : Option Addr} {sl_law_counts : Array (Option Value)} {oc_law_counts kV_law_counts dc_law_counts pm_law_counts cd_law_counts ct_law_counts : Value}
    {od_law_closed an_law_closed : Option Addr} {sl_law_closed : Array (Option Value)} {oc_law_closed kV_law_closed dc_law_closed pm_law_closed cd_law_closed ct_law_closed : Value}
    {od_law_vectors an_law_vectors : Option Addr} {sl_law_vectors : Array (Option Value)} {oc_law_vectors kV_law_vectors dc_law_vectors pm_law_vectors cd_law_vectors ct_law_vectors : Value}
    {od_law_quotas an_law_quotas : Option Addr} {sl_law_quotas : Array (Option Value)} {oc_law_quotas kV_law_quotas dc_law_quotas pm_law_quotas cd_law_quotas ct_law_quotas : Value}
    {od_law_full an_law_full : Option Addr} {sl_law_full : Array (Option Value)} {oc_law_full kV_law_full dc_law_full pm_law_full cd_law_full ct_law_full : Value}
    {od_law_inside an_law_inside : Option Addr} {sl_law_inside : Array (Option Value)} {oc_law_inside kV_law_inside dc_law_inside pm_law_inside cd_law_inside ct_law_inside : Value}
    {od_law_ordered an_law_ordered : Option Addr} {sl_law_ordered : Array (Option Value)} {oc_law_ordered kV_law_ordered dc_law_ordered pm_law_ordered cd_law_ordered ct_law_ordered : Value}
    {od_law_mask an_law_mask : Option Addr} {sl_law_mask : Array (Option Value)} {oc_law_mask kV_law_mask dc_law_mask pm_law_mask cd_law_mask ct_law_mask : Value}
    {od_law_due an_law_due : Option Addr} {sl_law_due : Array (Option Value)} {oc_law_due kV_law_due dc_law_due pm_law_due cd_law_due ct_law_due : Value}
    {od_law_family an_law_family : Option Addr} {sl_law_family : Array (Option Value)} {oc_law_family kV_law_family dc_law_family pm_law_family cd_law_family ct_law_family : Value}
    {od_law_is_set an_law_is_set : Option Addr} {sl_law_is_set : Array (Option Value)} {oc_law_is_set kV_law_is_set dc_law_is_set pm_law_is_set cd_law_is_set ct_law_is_set : Value}
    {od_law_right an_law_right : Option Addr} {sl_law_right : Array (Option Value)} {oc_law_right kV_law_right dc_law_right pm_law_right cd_law_right ct_law_right : Value}
    {od_law_box an_law_box : Option Addr} {sl_law_box : Array (Option Value)} {oc_law_box kV_law_box dc_law_box pm_law_box cd_law_box ct_law_box : Value}
    {od_law_all an_law_all : Option Addr} {sl_law_all : Array (Option Value)} {oc_law_all kV_law_all dc_law_all pm_law_all cd_law_all ct_law_all : Value}
    {od_law an_law : Option Addr} {sl_law : Array (Option Value)} {oc_law kV_law dc_law pm_law cd_law ct_law : Value}
    {t_MOST_THINGS : _}
    (aC_Family : PySem.W.nsIn K mainGlobals "Family" = some (some (.ref cFamily)))
    (a_is_thing : PySem.W.nsIn K mainGlobals "is_thing" = some (some (.ref f_is_thing)))
    (l_is_thing : K.lookup f_is_thing = some ⟨oc_is_thing, od_is_thing, .func (PySem.W.fnOf "is_thing" "is_thing" (defArgs s_is_thing) (defBody s_is_thing) (defScope s_is_thing) .none kV_is_thing dc_is_thing pm_is_thing an_is_thing cd_is_thing ct_is_thing), sl_is_thing⟩)
    (cc_is_thing : PySem.W.codeIn K cd_is_thing "is_thing" = true)
    (k_is_thing : PySem.W.keepIn K (.ref f_is_thing) = true)
    (a_is_set : PySem.W.nsIn K mainGlobals "is_set" = some (some (.ref f_is_set)))
    (l_is_set : K.lookup f_is_set = some ⟨oc_is_set, od_is_set, .func (PySem.W.fnOf "is_set" "is_set" (defArgs s_is_set) (defBody s_is_set) (defScope s_is_set) .none kV_is_set dc_is_set pm_is_set an_is_set cd_is_set ct_is_set), sl_is_set⟩)
    (cc_is_set : PySem.W.codeIn K cd_is_set "is_set" = true)
    (k_is_set : PySem.W.keepIn K (.ref f_is_set) = true)
    (a_check_size : PySem.W.nsIn K mainGlobals "check_size" = some (some (.ref f_check_size)))
    (l_check_size : K.lookup f_check_size = some ⟨oc_check_size, od_check_size, .func (PySem.W.fnOf "check_size" "check_size" (defArgs s_check_size) (defBody s_check_size) (defScope s_check_size) .none kV_check_size dc_check_size pm_check_size an_check_size cd_check_size ct_check_size), sl_check_size⟩)
    (cc_check_size : PySem.W.codeIn K cd_check_size "check_size" = true)
    (k_check_size : PySem.W.keepIn K (.ref f_check_size) = true)
    (a_checked_sets : PySem.W.nsIn K mainGlobals "checked_sets" = some (some (.ref f_checked_sets)))
    (l_checked_sets : K.lookup f_checked_sets = some ⟨oc_checked_sets, od_checked_sets, .func (PySem.W.fnOf "checked_sets" "checked_sets" (defArgs s_checked_sets) (defBody s_checked_sets) (defScope s_checked_sets) .none kV_checked_sets dc_checked_sets pm_checked_sets an_checked_sets cd_checked_sets ct_checked_sets), sl_checked_sets⟩)
    (cc_checked_sets : PySem.W.codeIn K cd_checked_sets "checked_sets" = true)
    (k_checked_sets : PySem.W.keepIn K (.ref f_checked_sets) = true)
    (a_mask_of : PySem.W.nsIn K mainGlobals "mask_of" = some (some (.ref f_mask_of)))
    (l_mask_of : K.lookup f_mask_of = some ⟨oc_mask_of, od_mask_of, .func (PySem.W.fnOf "mask_of" "mask_of" (defArgs s_mask_of) (defBody s_mask_of) (defScope s_mask_of) .none kV_mask_of dc_mask_of pm_mask_of an_mask_of cd_mask_of ct_mask_of), sl_mask_of⟩)
    (cc_mask_of : PySem.W.codeIn K cd_mask_of "mask_of" = true)
    (k_mask_of : PySem.W.keepIn K (.ref f_mask_of) = true)
    (a_things_of : PySem.W.nsIn K mainGlobals "things_of" = some (some (.ref f_things_of)))
    (l_things_of : K.lookup f_things_of = some ⟨oc_things_of, od_things_of, .func (PySem.W.fnOf "things_of" "things_of" (defArgs s_things_of) (defBody s_things_of) (defScope s_things_of) .none kV_things_of dc_things_of pm_things_of an_things_of cd_things_of ct_things_of), sl_things_of⟩)
    (cc_things_of : PySem.W.codeIn K cd_things_of "things_of" = true)
    (k_things_of : PySem.W.keepIn K (.ref f_things_of) = true)
    (a_all_sets : PySem.W.nsIn K mainGlobals "all_sets" = some (some (.ref f_all_sets)))
    (l_all_sets : K.lookup f_all_sets = some ⟨oc_all_sets, od_all_sets, .func (PySem.W.fnOf "all_sets" "all_sets" (defArgs s_all_sets) (defBody s_all_sets) (defScope s_all_sets) .none kV_all_sets dc_all_sets pm_all_sets an_all_sets cd_all_sets ct_all_sets), sl_all_sets⟩)
    (cc_all_sets : PySem.W.codeIn K cd_all_sets "all_sets" = true)
    (k_all_sets : PySem.W.keepIn K (.ref f_all_sets) = true)
    (a_is_within : PySem.W.nsIn K mainGlobals "_is_within" = some (some (.ref f_is_within)))
    (l_is_within : K.lookup f_is_within = some ⟨oc_is_within, od_is_within, .func (PySem.W.fnOf "_is_within" "_is_within" (defArgs s_is_within) (defBody s_is_within) (defScope s_is_within) .none kV_is_within dc_is_within pm_is_within an_is_within cd_is_within ct_is_within), sl_is_within⟩)
    (cc_is_within : PySem.W.codeIn K cd_is_within "_is_within" = true)
    (k_is_within : PySem.W.keepIn K (.ref f_is_within) = true)
    (a_Family_init : PySem.W.findIn K (.ref cFamily) "__init__" = some (some (.ref f_Family_init)))
    (i_Family_init : PySem.W.isFn K (.ref f_Family_init) = true)
    (l_Family_init : K.lookup f_Family_init = some ⟨oc_Family_init, od_Family_init, .func (PySem.W.fnOf "__init__" "Family.__init__" (defArgs s_Family_init) (defBody s_Family_init) (defScope s_Family_init) .none kV_Family_init dc_Family_init pm_Family_init an_Family_init cd_Family_init ct_Family_init), sl_Family_init⟩)
    (cc_Family_init : PySem.W.codeIn K cd_Family_init "Family.__init__" = true)
    (k_Family_init : PySem.W.keepIn K (.ref f_Family_init) = true)
    (a_Family_addable : PySem.W.findIn K (.ref cFamily) "addable" = some (some (.ref f_Family_addable)))
    (i_Family_addable : PySem.W.isFn K (.ref f_Family_addable) = true)
    (l_Family_addable : K.lookup f_Family_addable = some ⟨oc_Family_addable, od_Family_addable, .func (PySem.W.fnOf "addable" "Family.addable" (defArgs s_Family_addable) (defBody s_Family_addable) (defScope s_Family_addable) .none kV_Family_addable dc_Family_addable pm_Family_addable an_Family_addable cd_Family_addable ct_Family_addable), sl_Family_addable⟩)
    (cc_Family_addable : PySem.W.codeIn K cd_Family_addable "Family.addable" = true)
    (k_Family_addable : PySem.W.keepIn K (.ref f_Family_addable) = true)
    (a_exchange_fault : PySem.W.nsIn K mainGlobals "exchange_fault" = some (some (.ref f_exchange_fault)))
    (l_exchange_fault : K.lookup f_exchange_fault = some ⟨oc_exchange_fault, od_exchange_fault, .func (PySem.W.fnOf "exchange_fault" "exchange_fault" (defArgs s_exchange_fault) (defBody s_exchange_fault) (defScope s_exchange_fault) .none kV_exchange_fault dc_exchange_fault pm_exchange_fault an_exchange_fault cd_exchange_fault ct_exchange_fault), sl_exchange_fault⟩)
    (cc_exchange_fault : PySem.W.codeIn K cd_exchange_fault "exchange_fault" = true)
    (k_exchange_fault : PySem.W.keepIn K (.ref f_exchange_fault) = true)
    (a_law_draw : PySem.W.nsIn K mainGlobals "_law_draw" = some (some (.ref f_law_draw)))
    (l_law_draw : K.lookup f_law_draw = some ⟨oc_law_draw, od_law_draw, .func (PySem.W.fnOf "_law_draw" "_law_draw" (defArgs s_law_draw) (defBody s_law_draw) (defScope s_law_draw) .none kV_law_draw dc_law_draw pm_law_draw an_law_draw cd_law_draw ct_law_draw), sl_law_draw⟩)
    (cc_law_draw : PySem.W.codeIn K cd_law_draw "_law_draw" = true)
    (k_law_draw : PySem.W.keepIn K (.ref f_law_draw) = true)
    (a_law_things : PySem.W.nsIn K mainGlobals "_law_things" = some (some (.ref f_law_things)))
    (l_law_things : K.lookup f_law_things = some ⟨oc_law_things, od_law_things, .func (PySem.W.fnOf "_law_things" "_law_things" (defArgs s_law_things) (defBody s_law_things) (defScope s_law_things) .none kV_law_things dc_law_things pm_law_things an_law_things cd_law_things ct_law_things), sl_law_things⟩)
    (cc_law_things : PySem.W.codeIn K cd_law_things "_law_things" = true)
    (k_law_things : PySem.W.keepIn K (.ref f_law_things) = true)
    (a_law_counts : PySem.W.nsIn K mainGlobals "_law_counts" = some (some (.ref f_law_counts)))
    (l_law_counts : K.lookup f_law_counts = some ⟨oc_law_counts, od_law_counts, .func (PySem.W.fnOf "_law_counts" "_law_counts" (defArgs s_law_counts) (defBody s_law_counts) (defScope s_law_counts) .none kV_law_counts dc_law_counts pm_law_counts an_law_counts cd_law_counts ct_law_counts), sl_law_counts⟩)
    (cc_law_counts : PySem.W.codeIn K cd_law_counts "_law_counts" = true)
    (k_law_counts : PySem.W.keepIn K (.ref f_law_counts) = true)
    (a_law_closed : PySem.W.nsIn K mainGlobals "_law_closed" = some (some (.ref f_law_closed)))
    (l_law_closed : K.lookup f_law_closed = some ⟨oc_law_closed, od_law_closed, .func (PySem.W.fnOf "_law_closed" "_law_closed" (defArgs s_law_closed) (defBody s_law_closed) (defScope s_law_closed) .none kV_law_closed dc_law_closed pm_law_closed an_law_closed cd_law_closed ct_law_closed), sl_law_closed⟩)
    (cc_law_closed : PySem.W.codeIn K cd_law_closed "_law_closed" = true)
    (k_law_closed : PySem.W.keepIn K (.ref f_law_closed) = true)
    (a_law_vectors : PySem.W.nsIn K mainGlobals "_law_vectors" = some (some (.ref f_law_vectors)))
    (l_law_vectors : K.lookup f_law_vectors = some ⟨oc_law_vectors, od_law_vectors, .func (PySem.W.fnOf "_law_vectors" "_law_vectors" (defArgs s_law_vectors) (defBody s_law_vectors) (defScope s_law_vectors) .none kV_law_vectors dc_law_vectors pm_law_vectors an_law_vectors cd_law_vectors ct_law_vectors), sl_law_vectors⟩)
    (cc_law_vectors : PySem.W.codeIn K cd_law_vectors "_law_vectors" = true)
    (k_law_vectors : PySem.W.keepIn K (.ref f_law_vectors) = true)
    (a_law_quotas : PySem.W.nsIn K mainGlobals "_law_quotas" = some (some (.ref f_law_quotas)))
    (l_law_quotas : K.lookup f_law_quotas = some ⟨oc_law_quotas, od_law_quotas, .func (PySem.W.fnOf "_law_quotas" "_law_quotas" (defArgs s_law_quotas) (defBody s_law_quotas) (defScope s_law_quotas) .none kV_law_quotas dc_law_quotas pm_law_quotas an_law_quotas cd_law_quotas ct_law_quotas), sl_law_quotas⟩)
    (cc_law_quotas : PySem.W.codeIn K cd_law_quotas "_law_quotas" = true)
    (k_law_quotas : PySem.W.keepIn K (.ref f_law_quotas) = true)
    (a_law_full : PySem.W.nsIn K mainGlobals "_law_full" = some (some (.ref f_law_full)))
    (l_law_full : K.lookup f_law_full = some ⟨oc_law_full, od_law_full, .func (PySem.W.fnOf "_law_full" "_law_full" (defArgs s_law_full) (defBody s_law_full) (defScope s_law_full) .none kV_law_full dc_law_full pm_law_full an_law_full cd_law_full ct_law_full), sl_law_full⟩)
    (cc_law_full : PySem.W.codeIn K cd_law_full "_law_full" = true)
    (k_law_full : PySem.W.keepIn K (.ref f_law_full) = true)
    (a_law_inside : PySem.W.nsIn K mainGlobals "_law_inside" = some (some (.ref f_law_inside)))
    (l_law_inside : K.lookup f_law_inside = some ⟨oc_law_inside, od_law_inside, .func (PySem.W.fnOf "_law_inside" "_law_inside" (defArgs s_law_inside) (defBody s_law_inside) (defScope s_law_inside) .none kV_law_inside dc_law_inside pm_law_inside an_law_inside cd_law_inside ct_law_inside), sl_law_inside⟩)
    (cc_law_inside : PySem.W.codeIn K cd_law_inside "_law_inside" = true)
    (k_law_inside : PySem.W.keepIn K (.ref f_law_inside) = true)
    (a_law_ordered : PySem.W.nsIn K mainGlobals "_law_ordered" = some (some (.ref f_law_ordered)))
    (l_law_ordered : K.lookup f_law_ordered = some ⟨oc_law_ordered, od_law_ordered, .func (PySem.W.fnOf "_law_ordered" "_law_ordered" (defArgs s_law_ordered) (defBody s_law_ordered) (defScope s_law_ordered) .none kV_law_ordered dc_law_ordered pm_law_ordered an_law_ordered cd_law_ordered ct_law_ordered), sl_law_ordered⟩)
    (cc_law_ordered : PySem.W.codeIn K cd_law_ordered "_law_ordered" = true)
    (k_law_ordered : PySem.W.keepIn K (.ref f_law_ordered) = true)
    (a_law_mask : PySem.W.nsIn K mainGlobals "_law_mask" = some (some (.ref f_law_mask)))
    (l_law_mask : K.lookup f_law_mask = some ⟨oc_law_mask, od_law_mask, .func (PySem.W.fnOf "_law_mask" "_law_mask" (defArgs s_law_mask) (defBody s_law_mask) (defScope s_law_mask) .none kV_law_mask dc_law_mask pm_law_mask an_law_mask cd_law_mask ct_law_mask), sl_law_mask⟩)
    (cc_law_mask : PySem.W.codeIn K cd_law_mask "_law_mask" = true)
    (k_law_mask : PySem.W.keepIn K (.ref f_law_mask) = true)
    (a_law_due : PySem.W.nsIn K mainGlobals "_law_due" = some (some (.ref f_law_due)))
    (l_law_due : K.lookup f_law_due = some ⟨oc_law_due, od_law_due, .func (PySem.W.fnOf "_law_due" "_law_due" (defArgs s_law_due) (defBody s_law_due) (defScope s_law_due) .none kV_law_due dc_law_due pm_law_due an_law_due cd_law_due ct_law_due), sl_law_due⟩)
    (cc_law_due : PySem.W.codeIn K cd_law_due "_law_due" = true)
    (k_law_due : PySem.W.keepIn K (.ref f_law_due) = true)
    (a_law_family : PySem.W.nsIn K mainGlobals "_law_family" = some (some (.ref f_law_family)))
    (l_law_family : K.lookup f_law_family = some ⟨oc_law_family, od_law_family, .func (PySem.W.fnOf "_law_family" "_law_family" (defArgs s_law_family) (defBody s_law_family) (defScope s_law_family) .none kV_law_family dc_law_family pm_law_family an_law_family cd_law_family ct_law_family), sl_law_family⟩)
    (cc_law_family : PySem.W.codeIn K cd_law_family "_law_family" = true)
    (k_law_family : PySem.W.keepIn K (.ref f_law_family) = true)
    (a_law_is_set : PySem.W.nsIn K mainGlobals "_law_is_set" = some (some (.ref f_law_is_set)))
    (l_law_is_set : K.lookup f_law_is_set = some ⟨oc_law_is_set, od_law_is_set, .func (PySem.W.fnOf "_law_is_set" "_law_is_set" (defArgs s_law_is_set) (defBody s_law_is_set) (defScope s_law_is_set) .none kV_law_is_set dc_law_is_set pm_law_is_set an_law_is_set cd_law_is_set ct_law_is_set), sl_law_is_set⟩)
    (cc_law_is_set : PySem.W.codeIn K cd_law_is_set "_law_is_set" = true)
    (k_law_is_set : PySem.W.keepIn K (.ref f_law_is_set) = true)
    (a_law_right : PySem.W.nsIn K mainGlobals "_law_right" = some (some (.ref f_law_right)))
    (l_law_right : K.lookup f_law_right = some ⟨oc_law_right, od_law_right, .func (PySem.W.fnOf "_law_right" "_law_right" (defArgs s_law_right) (defBody s_law_right) (defScope s_law_right) .none kV_law_right dc_law_right pm_law_right an_law_right cd_law_right ct_law_right), sl_law_right⟩)
    (cc_law_right : PySem.W.codeIn K cd_law_right "_law_right" = true)
    (k_law_right : PySem.W.keepIn K (.ref f_law_right) = true)
    (a_law_box : PySem.W.nsIn K mainGlobals "_law_box" = some (some (.ref f_law_box)))
    (l_law_box : K.lookup f_law_box = some ⟨oc_law_box, od_law_box, .func (PySem.W.fnOf "_law_box" "_law_box" (defArgs s_law_box) (defBody s_law_box) (defScope s_law_box) .none kV_law_box dc_law_box pm_law_box an_law_box cd_law_box ct_law_box), sl_law_box⟩)
    (cc_law_box : PySem.W.codeIn K cd_law_box "_law_box" = true)
    (k_law_box : PySem.W.keepIn K (.ref f_law_box) = true)
    (a_law_all : PySem.W.nsIn K mainGlobals "_law_all" = some (some (.ref f_law_all)))
    (l_law_all : K.lookup f_law_all = some ⟨oc_law_all, od_law_all, .func (PySem.W.fnOf "_law_all" "_law_all" (defArgs s_law_all) (defBody s_law_all) (defScope s_law_all) .none kV_law_all dc_law_all pm_law_all an_law_all cd_law_all ct_law_all), sl_law_all⟩)
    (cc_law_all : PySem.W.codeIn K cd_law_all "_law_all" = true)
    (k_law_all : PySem.W.keepIn K (.ref f_law_all) = true)
    (a_law : PySem.W.nsIn K mainGlobals "law" = some (some (.ref f_law)))
    (l_law : K.lookup f_law = some ⟨oc_law, od_law, .func (PySem.W.fnOf "law" "law" (defArgs s_law) (defBody s_law) (defScope s_law) .none kV_law dc_law pm_law an_law cd_law ct_law), sl_law⟩)
    (cc_law : PySem.W.codeIn K cd_law "law" = true)
    (k_law : PySem.W.keepIn K (.ref f_law) = true)
    (pg_Family : PySem.W.plainGet K cFamily Str.empty = true)
    (hd_Family : PySem.W.hasDictIn K cFamily = true)
    (po_Family : PySem.W.plainOver K cFamily = true)
    (sa_Family : PySem.W.findIn K (.ref cFamily) "__setattr__" = some (some (.builtin "object.__setattr__")))
    (mk_Family : PySem.W.makesIn K cFamily = true)
    (kc_Family : PySem.W.keepIn K (.ref cFamily) = true)
    (na_Family_size : PySem.W.findIn K (.ref cFamily) "size" = some none)
    (na_Family_table : PySem.W.findIn K (.ref cFamily) "table" = some none)
    (na_Family_sets : PySem.W.findIn K (.ref cFamily) "sets" = some none)
    (z_abs : PySem.W.nsIn K mainGlobals "abs" = some none)
    (z_all : PySem.W.nsIn K mainGlobals "all" = some none)
    (z_any : PySem.W.nsIn K mainGlobals "any" = some none)
    (z_bool : PySem.W.nsIn K mainGlobals "bool" = some none)
    (z_enumerate : PySem.W.nsIn K mainGlobals "enumerate" = some none)
    (z_int : PySem.W.nsIn K mainGlobals "int" = some none)
    (z_isinstance : PySem.W.nsIn K mainGlobals "isinstance" = some none)
    (z_len : PySem.W.nsIn K mainGlobals "len" = some none)
    (z_list : PySem.W.nsIn K mainGlobals "list" = some none)
    (z_range : PySem.W.nsIn K mainGlobals "range" = some none)
    (z_sorted : PySem.W.nsIn K mainGlobals "sorted" = some none)
    (z_sum : PySem.W.nsIn K mainGlobals "sum" = some none)
    (z_tuple : PySem.W.nsIn K mainGlobals "tuple" = some none)
    (g_MOST_THINGS : PySem.W.nsIn K mainGlobals "MOST_THINGS" = some (some (.int 6 t_MOST_THINGS)))
    : ∃ fd : FuncData, (∀ (s : Shared) (v : Value), BindsTo s fd ⟨[v], []⟩ [("script", v)]) ∧ ∀ base : Heap, K.In base → base.Ns mainGlobals mg → FnOk l.prog w K mg base CX0 8 fa fd ["script"] (sp_law (K := K)) := by
  have e := hfa.symm.trans (PySem.W.mg_of X G a_law)
  cases e
  have F_is_thing := fun_mk (st := s_is_thing) l_is_thing cc_is_thing k_is_thing
  have b_is_thing := F_is_thing.binds (ps := ["size", "value"]) fun _ _ _ _ _ _ us hl => match us, hl with | [_, _], _ => rfl
  have F_is_set := fun_mk (st := s_is_set) l_is_set cc_is_set k_is_set
  have b_is_set := F_is_set.binds (ps := ["size", "value"]) fun _ _ _ _ _ _ us hl => match us, hl with | [_, _], _ => rfl
  have F_check_size := fun_mk (st := s_check_size) l_check_size cc_check_size k_check_size
  have b_check_size := F_check_size.binds (ps := ["size"]) fun _ _ _ _ _ _ us hl => match us, hl with | [_], _ => rfl
  have F_checked_sets := fun_mk (st := s_checked_sets) l_checked_sets cc_checked_sets k_checked_sets
  have b_checked_sets := F_checked_sets.binds (ps := ["size", "sets"]) fun _ _ _ _ _ _ us hl => match us, hl with | [_, _], _ => rfl
  have F_mask_of := fun_mk (st := s_mask_of) l_mask_of cc_mask_of k_mask_of
  have b_mask_of := F_mask_of.binds (ps := ["things"]) fun _ _ _ _ _ _ us hl => match us, hl with | [_], _ => rfl
  have F_things_of := fun_mk (st := s_things_of) l_things_of cc_things_of k_things_of
  have b_things_of := F_things_of.binds (ps := ["mask"]) fun _ _ _ _ _ _ us hl => match us, hl with | [_], _ => rfl
  have F_all_sets := fun_mk (st := s_all_sets) l_all_sets cc_all_sets k_all_sets
  have b_all_sets := F_all_sets.binds (ps := ["size"]) fun _ _ _ _ _ _ us hl => match us, hl with | [_], _ => rfl
  have F_is_within := fun_mk (st := s_is_within) l_is_within cc_is_within k_is_within
  have b_is_within := F_is_within.binds (ps := ["part", "mask"]) fun _ _ _ _ _ _ us hl => match us, hl with | [_, _], _ => rfl
  have F_Family_init := fun_mk (st := s_Family_init) l_Family_init cc_Family_init k_Family_init
  have b_Family_init := F_Family_init.binds (ps := ["self", "size", "sets"]) fun _ _ _ _ _ _ us hl => match us, hl with | [_, _, _], _ => rfl
  have F_Family_addable := fun_mk (st := s_Family_addable) l_Family_addable cc_Family_addable k_Family_addable
  have b_Family_addable := F_Family_addable.binds (ps := ["self", "taken"]) fun _ _ _ _ _ _ us hl => match us, hl with | [_, _], _ => rfl
  have F_exchange_fault := fun_mk (st := s_exchange_fault) l_exchange_fault cc_exchange_fault k_exchange_fault
  have b_exchange_fault := F_exchange_fault.binds (ps := ["family"]) fun _ _ _ _ _ _ us hl => match us, hl with | [_], _ => rfl
  have kb_exchange_fault := kbinds_all (K := K) (fd := PySem.W.fnOf "exchange_fault" "exchange_fault" (defArgs s_exchange_fault) (defBody s_exchange_fault) (defScope s_exchange_fault) .none kV_exchange_fault dc_exchange_fault pm_exchange_fault an_exchange_fault cd_exchange_fault ct_exchange_fault) (ps := ["family"]) fun us hl => match us, hl with | [_], _ => rfl
  have F_law_draw := fun_mk (st := s_law_draw) l_law_draw cc_law_draw k_law_draw
  have b_law_draw := F_law_draw.binds (ps := ["box", "limit"]) fun _ _ _ _ _ _ us hl => match us, hl with | [_, _], _ => rfl
  have F_law_things := fun_mk (st := s_law_things) l_law_things cc_law_things k_law_things
  have b_law_things := F_law_things.binds (ps := ["mask"]) fun _ _ _ _ _ _ us hl => match us, hl with | [_], _ => rfl
  have F_law_counts := fun_mk (st := s_law_counts) l_law_counts cc_law_counts k_law_counts
  have b_law_counts := F_law_counts.binds (ps := ["size"]) fun _ _ _ _ _ _ us hl => match us, hl with | [_], _ => rfl
  have F_law_closed := fun_mk (st := s_law_closed) l_law_closed cc_law_closed k_law_closed
  have b_law_closed := F_law_closed.binds (ps := ["size", "tops"]) fun _ _ _ _ _ _ us hl => match us, hl with | [_, _], _ => rfl
  have F_law_vectors := fun_mk (st := s_law_vectors) l_law_vectors cc_law_vectors k_law_vectors
  have b_law_vectors := F_law_vectors.binds (ps := ["box", "size", "counts"]) fun _ _ _ _ _ _ us hl => match us, hl with | [_, _, _], _ => rfl
  have F_law_quotas := fun_mk (st := s_law_quotas) l_law_quotas cc_law_quotas k_law_quotas
  have b_law_quotas := F_law_quotas.binds (ps := ["box", "size", "counts"]) fun _ _ _ _ _ _ us hl => match us, hl with | [_, _, _], _ => rfl
  have F_law_full := fun_mk (st := s_law_full) l_law_full cc_law_full k_law_full
  have b_law_full := F_law_full.binds (ps := ["inside", "size"]) fun _ _ _ _ _ _ us hl => match us, hl with | [_, _], _ => rfl
  have F_law_inside := fun_mk (st := s_law_inside) l_law_inside cc_law_inside k_law_inside
  have b_law_inside := F_law_inside.binds (ps := ["box", "size"]) fun _ _ _ _ _ _ us hl => match us, hl with | [_, _], _ => rfl
  have F_law_ordered := fun_mk (st := s_law_ordered) l_law_ordered cc_law_ordered k_law_ordered
  have b_law_ordered := F_law_ordered.binds (ps := ["inside"]) fun _ _ _ _ _ _ us hl => match us, hl with | [_], _ => rfl
  have F_law_mask := fun_mk (st := s_law_mask) l_law_mask cc_law_mask k_law_mask
  have b_law_mask := F_law_mask.binds (ps := ["things"]) fun _ _ _ _ _ _ us hl => match us, hl with | [_], _ => rfl
  have F_law_due := fun_mk (st := s_law_due) l_law_due cc_law_due k_law_due
  have b_law_due := F_law_due.binds (ps := ["inside", "size"]) fun _ _ _ _ _ _ us hl => match us, hl with | [_, _], _ => rfl
  have F_law_family := fun_mk (st := s_law_family) l_law_family cc_law_family k_law_family
  have b_law_family := F_law_family.binds (ps := ["box", "inside", "size"]) fun _ _ _ _ _ _ us hl => match us, hl with | [_, _, _], _ => rfl
  have F_law_is_set := fun_mk (st := s_law_is_set) l_law_is_set cc_law_is_set k_law_is_set
  have b_law_is_set := F_law_is_set.binds (ps := ["actual", "due"]) fun _ _ _ _ _ _ us hl => match us, hl with | [_, _], _ => rfl
  have F_law_right := fun_mk (st := s_law_right) l_law_right cc_law_right k_law_right
  have b_law_right := F_law_right.binds (ps := ["actual", "due"]) fun _ _ _ _ _ _ us hl => match us, hl with | [_, _], _ => rfl
  have F_law_box := fun_mk (st := s_law_box) l_law_box cc_law_box k_law_box
  have b_law_box := F_law_box.binds (ps := ["script"]) fun _ _ _ _ _ _ us hl => match us, hl with | [_], _ => rfl
  have F_law_all := fun_mk (st := s_law_all) l_law_all cc_law_all k_law_all
  have b_law_all := F_law_all.binds (ps := ["script"]) fun _ _ _ _ _ _ us hl => match us, hl with | [_], _ => rfl
  have F_law := fun_mk (st := s_law) l_law cc_law k_law
  have b_law := F_law.binds (ps := ["script"]) fun _ _ _ _ _ _ us hl => match us, hl with | [_], _ => rfl
  have T : Txt K mg cFamily := {
    d_is_thing := ⟨_, _, F_is_thing, PySem.W.mg_of X G a_is_thing, b_is_thing⟩
    d_is_set := ⟨_, _, F_is_set, PySem.W.mg_of X G a_is_set, b_is_set⟩
    d_check_size := ⟨_, _, F_check_size, PySem.W.mg_of X G a_check_size, b_check_size⟩
    d_checked_sets := ⟨_, _, F_checked_sets, PySem.W.mg_of X G a_checked_sets, b_checked_sets⟩
    d_mask_of := ⟨_, _, F_mask_of, PySem.W.mg_of X G a_mask_of, b_mask_of⟩
    d_things_of := ⟨_, _, F_things_of, PySem.W.mg_of X G a_things_of, b_things_of⟩
    d_all_sets := ⟨_, _, F_all_sets, PySem.W.mg_of X G a_all_sets, b_all_sets⟩
    d_is_within := ⟨_, _, F_is_within, PySem.W.mg_of X G a_is_within, b_is_within⟩
    d_Family_init := ⟨_, _, F_Family_init, ⟨mk_Family, a_Family_init, i_Family_init, kc_Family⟩, PySem.W.mg_of X G aC_Family, b_Family_init⟩
    d_Family_addable := ⟨_, _, F_Family_addable, ⟨a_Family_addable, i_Family_addable, k_Family_addable⟩, b_Family_addable⟩
    d_exchange_fault := ⟨_, _, F_exchange_fault, PySem.W.mg_of X G a_exchange_fault, b_exchange_fault, kb_exchange_fault⟩
    d_law_draw := ⟨_, _, F_law_draw, PySem.W.mg_of X G a_law_draw, b_law_draw⟩
    d_law_things := ⟨_, _, F_law_things, PySem.W.mg_of X G a_law_things, b_law_things⟩
    d_law_counts := ⟨_, _, F_law_counts, PySem.W.mg_of X G a_law_counts, b_law_counts⟩
    d_law_closed := ⟨_, _, F_law_closed, PySem.W.mg_of X G a_law_closed, b_law_closed⟩
    d_law_vectors := ⟨_, _, F_law_vectors, PySem.W.mg_of X G a_law_vectors, b_law_vectors⟩
    d_law_quotas := ⟨_, _, F_law_quotas, PySem.W.mg_of X G a_law_quotas, b_law_quotas⟩
    d_law_full := ⟨_, _, F_law_full, PySem.W.mg_of X G a_law_full, b_law_full⟩
    d_law_inside := ⟨_, _, F_law_inside, PySem.W.mg_of X G a_law_inside, b_law_inside⟩
    d_law_ordered := ⟨_, _, F_law_ordered, PySem.W.mg_of X G a_law_ordered, b_law_ordered⟩
    d_law_mask := ⟨_, _, F_law_mask, PySem.W.mg_of X G a_law_mask, b_law_mask⟩
    d_law_due := ⟨_, _, F_law_due, PySem.W.mg_of X G a_law_due, b_law_due⟩
    d_law_family := ⟨_, _, F_law_family, PySem.W.mg_of X G a_law_family, b_law_family⟩
    d_law_is_set := ⟨_, _, F_law_is_set, PySem.W.mg_of X G a_law_is_set, b_law_is_set⟩
    d_law_right := ⟨_, _, F_law_right, PySem.W.mg_of X G a_law_right, b_law_right⟩
    d_law_box := ⟨_, _, F_law_box, PySem.W.mg_of X G a_law_box, b_law_box⟩
    d_law_all := ⟨_, _, F_law_all, PySem.W.mg_of X G a_law_all, b_law_all⟩
    cl_Family := ⟨pg_Family, hd_Family, po_Family, sa_Family⟩
    na_Family_size := na_Family_size
    na_Family_table := na_Family_table
    na_Family_sets := na_Family_sets
    b_abs := PySem.W.mg_none_of X G z_abs
    b_all := PySem.W.mg_none_of X G z_all
    b_any := PySem.W.mg_none_of X G z_any
    b_bool := PySem.W.mg_none_of X G z_bool
    b_enumerate := PySem.W.mg_none_of X G z_enumerate
    b_int := PySem.W.mg_none_of X G z_int
    b_isinstance := PySem.W.mg_none_of X G z_isinstance
    b_len := PySem.W.mg_none_of X G z_len
    b_list := PySem.W.mg_none_of X G z_list
    b_range := PySem.W.mg_none_of X G z_range
    b_sorted := PySem.W.mg_none_of X G z_sorted
    b_sum := PySem.W.mg_none_of X G z_sum
    b_tuple := PySem.W.mg_none_of X G z_tuple
    g_MOST_THINGS := ⟨_, PySem.W.mg_of X G g_MOST_THINGS⟩ }
  exact ⟨PySem.W.fnOf "law" "law" (defArgs s_law) (defBody s_law) (defScope s_law) .none kV_law dc_law pm_law an_law cd_law ct_law, fun s v => .of_eq rfl, fun base _ _ => at_law T F_law⟩
end G

/-! M1: plain facts about folds, runs, places. -/
namespace FL
theorem fold_inv {τ α : Type} {f : τ → α → τ} (P : τ → Prop) : ∀ {as : List α} {t : τ}, P t → (∀ t a, a ∈ as → P t → P (f t a)) → P (as.foldl f t)
  | [], _, h, _ => h
  | a :: as, t, h, hs => fold_inv P (as := as) (t := f t a) (hs t a (by simp) h) fun t b hb => hs t b (by simp [hb])
theorem fold_pre {τ α : Type} {f : τ → α → τ} (P : τ → Prop) {as : List α} {t : τ} (i : Nat) (h : P t) (hs : ∀ t a, a ∈ as → P t → P (f t a)) : P ((as.take i).foldl f t) :=
  fold_inv P h fun t a ha => hs t a (List.mem_of_mem_take ha)
theorem fold_idx {τ α : Type} {f : τ → α → τ} (P : Nat → τ → Prop) : ∀ {as : List α} {t : τ} (i : Nat), i ≤ as.length → P 0 t → (∀ i a t, as[i]? = some a → P i t → P (i + 1) (f t a)) → P i ((as.take i).foldl f t)
  | _, _, 0, _, h, _ => by simpa using h
  | [], _, i + 1, hl, _, _ => by simp at hl
  | a :: as, t, i + 1, hl, h, hs => by
    rw [List.take_succ_cons, List.foldl_cons]
    exact fold_idx (fun i => P (i + 1)) (as := as) (t := f t a) i (by simpa using hl) (hs 0 a t rfl h) fun i b t e => hs (i + 1) b t (by simpa using e)
theorem fold_idx_all {τ α : Type} {f : τ → α → τ} (P : Nat → τ → Prop) {as : List α} {t : τ} (h : P 0 t) (hs : ∀ i a t, as[i]? = some a → P i t → P (i + 1) (f t a)) : P as.length (as.foldl f t) := by
  have := fold_idx P (as := as) (t := t) as.length (Nat.le_refl _) h hs
  rwa [List.take_length] at this
theorem idx_lt {α : Type} {as : List α} {i : Nat} {a : α} (h : as[i]? = some a) : i < as.length := (List.getElem?_eq_some_iff.mp h).1
theorem fold_idx' {τ α : Type} {f : τ → α → τ} (P : Nat → τ → Prop) {as : List α} {t : τ} {i : Nat} {a : α} (hi : as[i]? = some a) (h : P 0 t) (hs : ∀ i a t, as[i]? = some a → P i t → P (i + 1) (f t a)) : P i ((as.take i).foldl f t) :=
  fold_idx P i (Nat.le_of_lt (idx_lt hi)) h hs
theorem run_nort {τ α γ : Type} {f : τ → α → Out τ τ γ} (hf : ∀ t a, (∃ s, f t a = .nx s) ∨ (∃ s, f t a = .ct s) ∨ ∃ s, f t a = .bk s) : ∀ {as : List α} {t : τ}, ∃ s, ((run f t as).done : Out τ Empty γ) = .nx s
  | [], t => ⟨t, rfl⟩
  | a :: as, t => by
    unfold run
    rcases hf t a with ⟨s, h⟩ | ⟨s, h⟩ | ⟨s, h⟩ <;> rw [h]
    · exact run_nort hf
    · exact run_nort hf
    · exact ⟨s, rfl⟩
/-- an invariant of a run that is never left by a return -/
theorem run_inv {τ α γ : Type} {f : τ → α → Out τ τ γ} (P : τ → Prop) (hf : ∀ t a, P t → (∃ s, f t a = .nx s ∧ P s) ∨ (∃ s, f t a = .ct s ∧ P s) ∨ ∃ s, f t a = .bk s ∧ P s) : ∀ {as : List α} {t : τ}, P t → ∃ s, ((run f t as).done : Out τ Empty γ) = .nx s ∧ P s
  | [], t, h => ⟨t, rfl, h⟩
  | a :: as, t, h => by
    unfold run
    rcases hf t a h with ⟨s, e, p⟩ | ⟨s, e, p⟩ | ⟨s, e, p⟩ <;> rw [e]
    · exact run_inv P hf p
    · exact run_inv P hf p
    · exact ⟨s, rfl, p⟩
theorem run_inv_nx {τ α γ : Type} {f : τ → α → Out τ τ γ} (P : τ → Prop) (hf : ∀ t a, P t → (∃ s, f t a = .nx s ∧ P s) ∨ (∃ s, f t a = .ct s ∧ P s) ∨ ∃ s, f t a = .bk s ∧ P s) {as : List α} {t s : τ} (h : P t) (e : run f t as = .nx s) : P s := by
  obtain ⟨s', e', p⟩ := run_inv (γ := γ) P hf (as := as) h
  rw [e] at e'
  cases e'; exact p
/-- a run over () that gives back the first find -/
theorem run_find {α γ : Type} {f : Unit → α → Out Unit Unit γ} {g : α → Option γ} (hf : ∀ a, f () a = (match g a with | some r => .rt r | none => .nx ())) : ∀ {as : List α}, run f () as = (match as.findSome? g with | some r => .rt r | none => .nx ())
  | [] => rfl
  | a :: as => by
    unfold run
    rw [hf a, List.findSome?_cons]
    cases g a with
    | some r => rfl
    | none => exact run_find hf
theorem lcGo_inv {τ α β : Type} {s : τ → α → τ} {p : τ → α → Bool} {v : τ → α → β} (P : τ → Prop) (Q : β → Prop) : ∀ {as : List α} {t : τ}, P t → (∀ t a, a ∈ as → P t → P (s t a) ∧ Q (v t a)) → P (lcGo s p v t as).1 ∧ ∀ x ∈ (lcGo s p v t as).2, Q x
  | [], t, h, _ => ⟨h, fun x hx => by cases hx⟩
  | a :: as, t, h, hs => by
    unfold lcGo
    cases p t a with
    | false =>
      exact lcGo_inv P Q h fun t b hb => hs t b (by simp [hb])
    | true =>
      obtain ⟨h1, h2⟩ := hs t a (by simp) h
      obtain ⟨k1, k2⟩ := lcGo_inv (p := p) P Q (as := as) (t := s t a) h1 fun t b hb => hs t b (by simp [hb])
      exact ⟨k1, fun x hx => by rcases List.mem_cons.mp hx with e | e; exact e ▸ h2; exact k2 x e⟩
theorem lcGo_len1 {τ α β : Type} {s : τ → α → τ} {v : τ → α → β} : ∀ {as : List α} {t : τ}, (lcGo s (fun _ _ => true) v t as).2.length = as.length
  | [], t => rfl
  | a :: as, t => by
    unfold lcGo
    show ((lcGo s (fun _ _ => true) v (s t a) as).2).length + 1 = _
    rw [lcGo_len1]; rfl
theorem lcGo_pre {τ α β : Type} {s : τ → α → τ} {p : τ → α → Bool} {v : τ → α → β} (P : τ → Prop) {as : List α} {t : τ} (i : Nat) (h : P t) (hs : ∀ t a, a ∈ as → P t → P (s t a)) : P (lcGo s p v t (as.take i)).1 :=
  (lcGo_inv (v := v) P (fun _ => True) h fun t a ha hp => ⟨hs t a (List.mem_of_mem_take ha) hp, trivial⟩).1
theorem rng_at {lo hi x : Int} {i : Nat} (h : (rng lo hi)[i]? = some x) : x = lo + (i : Int) ∧ (i : Int) < hi - lo := by
  have l := idx_lt h
  rw [rng_len] at l
  rw [rng_get l] at h
  cases h
  exact ⟨rfl, by omega⟩
theorem at_nat {α : Type} [Inhabited α] {as : List α} {i : Int} (h : 0 ≤ i) : at_ as i = as.getD i.toNat default := by
  unfold at_ ixI; rw [if_pos h]
theorem at_app {α : Type} [Inhabited α] {as bs : List α} {i : Int} (h : 0 ≤ i) (hl : i < as.length) : at_ (as ++ bs) i = at_ as i := by
  rw [at_nat h, at_nat h, List.getD_eq_getElem?_getD, List.getD_eq_getElem?_getD, List.getElem?_append_left (by omega)]
theorem at_snoc {α : Type} [Inhabited α] {as : List α} {a : α} {i : Int} (h : i = as.length) : at_ (as ++ [a]) i = a := by
  subst h
  rw [at_nat (by omega), List.getD_eq_getElem?_getD]; simp
theorem at_map_rng {α : Type} [Inhabited α] {f : Int → α} {n i : Int} (h : 0 ≤ i) (hn : i < n) : at_ ((rng 0 n).map f) i = f i := by
  rw [at_nat h, List.getD_eq_getElem?_getD, List.getElem?_map, rng_get (by omega)]
  have e : (0 : Int) + (i.toNat : Int) = i := by omega
  rw [e]; rfl
theorem at_set {α : Type} [Inhabited α] {as : List α} {a : α} {i j : Int} (hi : 0 ≤ i) (hl : i < as.length) (hj : 0 ≤ j) : at_ (as.set (ixI as.length i) a) j = if j = i then a else at_ as j := by
  rw [at_nat hj, at_nat hj, List.getD_eq_getElem?_getD, List.getD_eq_getElem?_getD]
  have e : ixI as.length i = i.toNat := by unfold ixI; rw [if_pos hi]
  rw [e, List.getElem?_set]
  by_cases h : j = i
  · subst h; rw [if_pos rfl, if_pos rfl, if_pos (by omega)]; rfl
  · rw [if_neg (by omega), if_neg h]
theorem inIx_of {n : Nat} {i : Int} (h : 0 ≤ i) (hl : i < n) : inIx n i := ⟨by omega, hl⟩
theorem at_mem {α : Type} [Inhabited α] {as : List α} {i : Int} (h : 0 ≤ i) (hl : i < as.length) : at_ as i ∈ as := by
  rw [at_nat h, List.getD_eq_getElem?_getD]
  have : i.toNat < as.length := by omega
  rw [List.getElem?_eq_getElem this]
  exact List.getElem_mem this
theorem at_gete {α : Type} [Inhabited α] {as : List α} {i : Int} {a : α} (h : 0 ≤ i) (e : as[i.toNat]? = some a) : at_ as i = a := by
  rw [at_nat h, List.getD_eq_getElem?_getD, e]; rfl
theorem list_at {α : Type} [Inhabited α] {as bs : List α} (hl : as.length = bs.length) (h : ∀ i : Int, 0 ≤ i → i < as.length → at_ as i = at_ bs i) : as = bs := by
  apply List.ext_getElem? ; intro i
  by_cases c : i < as.length
  · have := h (i : Int) (by omega) (by omega)
    rw [at_nat (by omega), at_nat (by omega), List.getD_eq_getElem?_getD, List.getD_eq_getElem?_getD] at this
    simp only [Int.toNat_natCast] at this
    rw [List.getElem?_eq_getElem c, List.getElem?_eq_getElem (hl ▸ c)] at this ⊢
    exact congrArg some this
  · rw [List.getElem?_eq_none (by omega), List.getElem?_eq_none (by omega)]
theorem fin64 {P : Int → Prop} (h : ∀ m : Fin 64, P (m.val : Int)) {m : Int} (h0 : 0 ≤ m) (h1 : m < 64) : P m := by
  have := h ⟨m.toNat, by omega⟩
  simpa [Int.toNat_of_nonneg h0] using this
theorem fin6 {P : Int → Prop} (h : ∀ m : Fin 6, P (m.val : Int)) {m : Int} (h0 : 0 ≤ m) (h1 : m < 6) : P m := by
  have := h ⟨m.toNat, by omega⟩
  simpa [Int.toNat_of_nonneg h0] using this
theorem fin64_6 {P : Int → Int → Prop} (h : ∀ (m : Fin 64) (k : Fin 6), P (m.val : Int) (k.val : Int)) {m k : Int} (h0 : 0 ≤ m) (h1 : m < 64) (k0 : 0 ≤ k) (k1 : k < 6) : P m k :=
  fin6 (P := fun k => P m k) (fun k => fin64 (P := fun m => P m k.val) (fun m => h m k) h0 h1) k0 k1
theorem fin64_64 {P : Int → Int → Prop} (h : ∀ (m k : Fin 64), P (m.val : Int) (k.val : Int)) {m k : Int} (h0 : 0 ≤ m) (h1 : m < 64) (k0 : 0 ≤ k) (k1 : k < 64) : P m k :=
  fin64 (P := fun k => P m k) (fun k => fin64 (P := fun m => P m k.val) (fun m => h m k) h0 h1) k0 k1
end FL

namespace G
open PySem L2 FL
/-! draws -/
structure BoxOk (b : BoxD) : Prop where
  len : b.cells.length ≤ 63
  c0 : 0 ≤ b.c
theorem draw_go (b : BoxD) (n : Int) (h : BoxOk b) (hn : 0 < n) : 0 ≤ (f_law_draw b n).1 ∧ (f_law_draw b n).1 < n ∧ BoxOk (f_law_draw b n).2 := by
  rw [f_law_draw_eq]
  unfold o_law_draw
  simp only [lt]
  generalize hr : FL.Out.done _ = r
  have : ∃ s : BoxD, r = .nx s ∧ BoxOk s := by
    rw [← hr]
    refine run_inv BoxOk (fun t a ht => ?_) ⟨h.len, h.c0⟩
    generalize (decide (t.b = 0) && decide (t.c < (b.cells.length : Int))) = c
    cases c with
    | false => exact .inr (.inr ⟨t, rfl, ht⟩)
    | true =>
      refine .inl ⟨_, rfl, ?_⟩
      generalize decide ((10 : Int) ^ Int.toNat 18 ≤ _) = d
      cases d with
      | false => exact ⟨ht.len, by have := ht.c0; show 0 ≤ t.c + 1; omega⟩
      | true => exact ⟨ht.len, by have := ht.c0; show 0 ≤ t.c + 1; omega⟩
  obtain ⟨s, rfl, hs⟩ := this
  simp only [Out.bind]
  generalize decide (0 < s.b) = c
  cases c with
  | true => exact ⟨Int.fmod_nonneg_of_pos _ hn, Int.fmod_lt_of_pos _ hn, ⟨hs.len, hs.c0⟩⟩
  | false => exact ⟨Int.fmod_nonneg_of_pos _ hn, Int.fmod_lt_of_pos _ hn, ⟨hs.len, hs.c0⟩⟩
theorem draw_ok (b : BoxD) (n : Int) (h : BoxOk b) (hn : 0 < n) (hb : n < 1000000) : ok_law_draw b n := by
  unfold ok_law_draw
  intro cells hc bx hx
  subst hc; subst hx
  have hl := h.len
  refine ⟨by omega, fun i k t hi ht hc => ?_, fun s hs => ⟨fun _ => ⟨by omega, fun _ _ => ⟨by omega, by omega⟩⟩, fun _ cell hcell => ⟨fun hc => ?_, fun z hz m hm => ?_⟩⟩⟩
  · have ht' : BoxOk t := by
      refine run_inv_nx BoxOk (fun t a ht => ?_) (t := { b with a := b.a + 1 }) ⟨h.len, h.c0⟩ ht
      simp only [lt]
      generalize (decide (t.b = 0) && decide (t.c < (b.cells.length : Int))) = c
      cases c with
      | false => exact .inr (.inr ⟨t, rfl, ht⟩)
      | true =>
        refine .inl ⟨_, rfl, ?_⟩
        generalize decide ((10 : Int) ^ Int.toNat 18 ≤ _) = d
        cases d with
        | false => exact ⟨ht.len, by have := ht.c0; show 0 ≤ t.c + 1; omega⟩
        | true => exact ⟨ht.len, by have := ht.c0; show 0 ≤ t.c + 1; omega⟩
    have h1 : t.c < (b.cells.length : Int) := by
      rw [Bool.and_eq_true] at hc
      exact of_decide_eq_true hc.2
    exact ⟨inIx_of ht'.c0 h1, fun _ => inIx_of ht'.c0 h1⟩
  · have hp : (0 : Int) < (b.cells.length : Int) := of_decide_eq_true hc
    exact ⟨by omega, inIx_of (Int.fmod_nonneg_of_pos _ hp) (Int.fmod_lt_of_pos _ hp)⟩
  · have m1 : 0 ≤ m ∧ m < 2147483647 := by subst hm; exact ⟨Int.fmod_nonneg_of_pos _ (by decide), Int.fmod_lt_of_pos _ (by decide)⟩
    refine ⟨.inl ⟨by omega, by omega⟩, fun m' hm' => ?_⟩
    have m2 : 0 ≤ m' ∧ m' < 1000003 := by subst hm'; exact ⟨Int.fmod_nonneg_of_pos _ (by decide), Int.fmod_lt_of_pos _ (by decide)⟩
    exact ⟨.inl ⟨by omega, by omega⟩, fun m'' _ => by omega⟩
end G

namespace G
open PySem L2 FL
/-! bits of masks below 64 -/
abbrev pw (k : Int) : Int := (1 : Int) * 2 ^ k.toNat
def bit (m k : Int) : Bool := decide (Int.fmod (Int.fdiv m (pw k)) 2 = 1)
def things (m : Int) : List Int := (rng 0 6).filter (bit m)
def pop (m : Int) : Int := ((things m).length : Int)
theorem bit_1 {m k : Int} (h0 : 0 ≤ m) (h1 : m < 64) (k0 : 0 ≤ k) (k1 : k < 6) : decide (Int.fmod (m / 2 ^ k.toNat) 2 = 1) = bit m k :=
  fin64_6 (P := fun m k => decide (Int.fmod (m / 2 ^ k.toNat) 2 = 1) = bit m k) (by decide +kernel) h0 h1 k0 k1
theorem bit_2 {m k : Int} (h0 : 0 ≤ m) (h1 : m < 64) (k0 : 0 ≤ k) (k1 : k < 6) : decide (PySem.Builtin.bitAnd (m / 2 ^ k.toNat) 1 = 1) = bit m k :=
  fin64_6 (P := fun m k => decide (PySem.Builtin.bitAnd (m / 2 ^ k.toNat) 1 = 1) = bit m k) (by decide +kernel) h0 h1 k0 k1
theorem bit_3 {m k : Int} (h0 : 0 ≤ m) (h1 : m < 64) (k0 : 0 ≤ k) (k1 : k < 6) : decide (PySem.Builtin.bitAnd (m / 2 ^ k.toNat) 1 = 0) = !bit m k :=
  fin64_6 (P := fun m k => decide (PySem.Builtin.bitAnd (m / 2 ^ k.toNat) 1 = 0) = !bit m k) (by decide +kernel) h0 h1 k0 k1
theorem bit_4 {m k : Int} (h0 : 0 ≤ m) (h1 : m < 64) (k0 : 0 ≤ k) (k1 : k < 6) : decide (Int.fmod (Int.fdiv m (pw k)) 2 = 0) = !bit m k :=
  fin64_6 (P := fun m k => decide (Int.fmod (Int.fdiv m (pw k)) 2 = 0) = !bit m k) (by decide +kernel) h0 h1 k0 k1
theorem bit_or {m k : Int} (h0 : 0 ≤ m) (h1 : m < 64) (k0 : 0 ≤ k) (k1 : k < 6) (h : bit m k = false) : PySem.Builtin.bitOr m (pw k) = m + pw k :=
  fin64_6 (P := fun m k => bit m k = false → PySem.Builtin.bitOr m (pw k) = m + pw k) (by decide +kernel) h0 h1 k0 k1 h
theorem bit_add {m k : Int} (h0 : 0 ≤ m) (h1 : m < 64) (k0 : 0 ≤ k) (k1 : k < 6) (h : bit m k = false) : m + pw k < 64 ∧ bit (m + pw k) k = true :=
  fin64_6 (P := fun m k => bit m k = false → m + pw k < 64 ∧ bit (m + pw k) k = true) (by decide +kernel) h0 h1 k0 k1 h
theorem bit_sub {m k : Int} (h0 : 0 ≤ m) (h1 : m < 64) (k0 : 0 ≤ k) (k1 : k < 6) (h : bit m k = true) : 0 ≤ m - pw k ∧ bit (m - pw k) k = false :=
  fin64_6 (P := fun m k => bit m k = true → 0 ≤ m - pw k ∧ bit (m - pw k) k = false) (by decide +kernel) h0 h1 k0 k1 h
theorem pw_pos {k : Int} (k0 : 0 ≤ k) (k1 : k ≤ 6) : 1 ≤ pw k ∧ pw k ≤ 64 :=
  fin64 (P := fun k => k ≤ 6 → 1 ≤ pw k ∧ pw k ≤ 64) (by decide +kernel) k0 (by omega) k1
/-- sizes -/
def SZ (s : Int) : Prop := 1 ≤ s ∧ s ≤ 6
theorem fin3 {P : Int → Int → Int → Prop} (h : ∀ (s : Fin 7) (m : Fin 64) (k : Fin 6), P s.val m.val k.val) {s m k : Int} (hs : SZ s) (h0 : 0 ≤ m) (h1 : m < 64) (k0 : 0 ≤ k) (k1 : k < 6) : P s m k := by
  have := h ⟨s.toNat, by have := hs.1; have := hs.2; omega⟩ ⟨m.toNat, by omega⟩ ⟨k.toNat, by omega⟩
  simpa [Int.toNat_of_nonneg h0, Int.toNat_of_nonneg k0, Int.toNat_of_nonneg (show (0:Int) ≤ s by have := hs.1; omega)] using this
theorem fin2s {P : Int → Int → Prop} (h : ∀ (s : Fin 7) (m : Fin 64), P s.val m.val) {s m : Int} (hs : SZ s) (h0 : 0 ≤ m) (h1 : m < 64) : P s m :=
  fin3 (P := fun s m _ => P s m) (fun s m _ => h s m) hs h0 h1 (k := 0) (by decide) (by decide)
theorem pw_sz {s : Int} (hs : SZ s) : 2 ≤ pw s ∧ pw s ≤ 64 :=
  fin2s (P := fun s _ => 1 ≤ s → 2 ≤ pw s ∧ pw s ≤ 64) (by decide +kernel) hs (m := 0) (by decide) (by decide) hs.1
theorem bit_lt {s m k : Int} (hs : SZ s) (h0 : 0 ≤ m) (h1 : m < pw s) (k0 : 0 ≤ k) (k1 : k < 6) (h : bit m k = true) : k < s :=
  fin3 (P := fun s m k => m < pw s → bit m k = true → k < s) (by decide +kernel) hs h0 (by have := (pw_sz hs).2; omega) k0 k1 h1 h
theorem add_lt {s m k : Int} (hs : SZ s) (h0 : 0 ≤ m) (h1 : m < pw s) (k0 : 0 ≤ k) (k1 : k < s) (h : bit m k = false) : m + pw k < pw s :=
  fin3 (P := fun s m k => m < pw s → k < s → bit m k = false → m + pw k < pw s) (by decide +kernel) hs h0 (by have := (pw_sz hs).2; omega) k0 (by have := hs.2; omega) h1 k1 h
theorem mem_things {m k : Int} : k ∈ things m ↔ (0 ≤ k ∧ k < 6) ∧ bit m k = true := by
  unfold things
  rw [List.mem_filter, mem_rng]
theorem things_eq {m : Int} : f_things_of m = things m := by
  rw [f_things_of_eq]; unfold o_things_of
  show List.map (fun x => x) _ = _
  rw [List.map_id'']
  · rfl
  · intro _; rfl
theorem lthings_eq {m : Int} (h0 : 0 ≤ m) (h1 : m < 64) : f_law_things m = things m := by
  rw [f_law_things_eq]; unfold o_law_things
  show List.map (fun x => x) _ = _
  rw [List.map_id'']
  · unfold things
    apply List.filter_congr
    intro k hk
    rw [mem_rng] at hk
    exact bit_1 h0 h1 hk.1 hk.2
  · intro _; rfl
theorem lmask_eq {l : List Int} : f_law_mask l = f_mask_of l := by rw [f_law_mask_eq, f_mask_of_eq]; rfl
theorem mask_things {m : Int} (h0 : 0 ≤ m) (h1 : m < 64) : f_mask_of (things m) = m :=
  fin64 (P := fun m => f_mask_of (things m) = m) (by decide +kernel) h0 h1
/-- part of -/
def W (a b : Int) : Prop := ∀ k : Int, 0 ≤ k → k < 6 → bit a k = true → bit b k = true
theorem W.trans {a b c : Int} (h : W a b) (h' : W b c) : W a c := fun k k0 k1 e => h' k k0 k1 (h k k0 k1 e)
def Wf (a b : Int) : Prop := ∀ k : Fin 6, bit a k.val = true → bit b k.val = true
instance (a b : Int) : Decidable (Wf a b) := inferInstanceAs (Decidable (∀ k : Fin 6, bit a k.val = true → bit b k.val = true))
theorem W_f {a b : Int} : W a b ↔ Wf a b := ⟨fun h k => h k.val (by omega) (by omega), fun h k k0 k1 => by
  have := h ⟨k.toNat, by omega⟩
  simpa [Int.toNat_of_nonneg k0] using this⟩
theorem and_W {m t : Int} (h0 : 0 ≤ m) (h1 : m < 64) (t0 : 0 ≤ t) (t1 : t < 64) : decide (PySem.Builtin.bitAnd m t = m) = true ↔ W m t := by
  rw [W_f]
  exact fin64_64 (P := fun m t => decide (PySem.Builtin.bitAnd m t = m) = true ↔ Wf m t) (by decide +kernel) h0 h1 t0 t1
theorem within_W {m o : Int} : f_is_within m o = true ↔ W m o := by
  rw [f_is_within_eq]; unfold o_is_within
  show (List.map _ _).all id = true ↔ _
  rw [things_eq, List.all_map, List.all_eq_true]
  constructor
  · intro h k k0 k1 e
    exact h k (mem_things.mpr ⟨⟨k0, k1⟩, e⟩)
  · intro h k hk
    obtain ⟨⟨k0, k1⟩, e⟩ := mem_things.mp hk
    exact h k k0 k1 e
theorem and_rng {m t : Int} (h0 : 0 ≤ m) (h1 : m < 64) (t0 : 0 ≤ t) (t1 : t < 64) : (0 ≤ PySem.Builtin.bitAnd m t ∧ PySem.Builtin.bitAnd m t ≤ m) ∧ 0 ≤ PySem.Builtin.bitOr m t ∧ PySem.Builtin.bitOr m t < 64 :=
  fin64_64 (P := fun m t => (0 ≤ PySem.Builtin.bitAnd m t ∧ PySem.Builtin.bitAnd m t ≤ m) ∧ 0 ≤ PySem.Builtin.bitOr m t ∧ PySem.Builtin.bitOr m t < 64) (by decide +kernel) h0 h1 t0 t1
theorem bit_and {m t k : Int} (h0 : 0 ≤ m) (h1 : m < 64) (t0 : 0 ≤ t) (t1 : t < 64) (k0 : 0 ≤ k) (k1 : k < 6) : bit (PySem.Builtin.bitAnd m t) k = (bit m k && bit t k) := by
  have := fin64_64 (P := fun m t => ∀ k : Fin 6, bit (PySem.Builtin.bitAnd m t) k.val = (bit m k.val && bit t k.val)) (by decide +kernel) h0 h1 t0 t1 ⟨k.toNat, by omega⟩
  simpa [Int.toNat_of_nonneg k0] using this
theorem bit_or1 {m t k : Int} (h0 : 0 ≤ m) (h1 : m < 64) (t0 : 0 ≤ t) (t1 : t < 6) (k0 : 0 ≤ k) (k1 : k < 6) : bit (PySem.Builtin.bitOr m (pw t)) k = (bit m k || decide (k = t)) := by
  have := fin64_6 (P := fun m t => ∀ k : Fin 6, bit (PySem.Builtin.bitOr m (pw t)) k.val = (bit m k.val || decide ((k.val : Int) = t))) (by decide +kernel) h0 h1 t0 t1 ⟨k.toNat, by omega⟩
  simpa [Int.toNat_of_nonneg k0] using this
theorem and_zero {m t : Int} (h0 : 0 ≤ m) (h1 : m < 64) (t0 : 0 ≤ t) (t1 : t < 64) : decide (PySem.Builtin.bitAnd m t = 0) = true ↔ ∀ k : Int, 0 ≤ k → k < 6 → bit m k = true → bit t k = false := by
  have := fin64_64 (P := fun m t => decide (PySem.Builtin.bitAnd m t = 0) = true ↔ ∀ k : Fin 6, bit m k.val = true → bit t k.val = false) (by decide +kernel) h0 h1 t0 t1
  rw [this]
  exact ⟨fun h k k0 k1 => by have := h ⟨k.toNat, by omega⟩; simpa [Int.toNat_of_nonneg k0] using this, fun h k => h k.val (by omega) (by omega)⟩
theorem pop_mono {a b : Int} (h : W a b) : pop a ≤ pop b := by
  unfold pop things
  have : ((rng 0 6).filter (bit a)).length ≤ ((rng 0 6).filter (bit b)).length := by
    rw [← List.countP_eq_length_filter, ← List.countP_eq_length_filter]
    exact List.countP_mono_left fun k hk e => h k (mem_rng.mp hk).1 (mem_rng.mp hk).2 e
  omega
theorem pop_zero : pop 0 = 0 := by decide +kernel
theorem pop_half {m : Int} (h0 : 0 ≤ m) (h1 : m < 64) : pop (m / 2 ^ ((1 : Int)).toNat) + Int.fmod m 2 = pop m ∧ 0 ≤ m / 2 ^ ((1 : Int)).toNat ∧ (1 ≤ m → m / 2 ^ ((1 : Int)).toNat < m) :=
  fin64 (P := fun m => pop (m / 2 ^ ((1 : Int)).toNat) + Int.fmod m 2 = pop m ∧ 0 ≤ m / 2 ^ ((1 : Int)).toNat ∧ (1 ≤ m → m / 2 ^ ((1 : Int)).toNat < m)) (by decide +kernel) h0 h1
theorem W_zero {m : Int} : W 0 m := fun k k0 k1 h => by
  have : bit 0 k = false := fin6 (P := fun k => bit 0 k = false) (by decide +kernel) k0 k1
  rw [this] at h; cases h
/-- clearing, thing by thing, what m has not -/
def clr (m : Int) (c k : Int) : Int := if bit c k = true ∧ bit m k = false then c - pw k else c
theorem clr_all {m o : Int} (h0 : 0 ≤ m) (h1 : m < 64) (o0 : 0 ≤ o) (o1 : o < 64) (h : W m o) : (rng 0 6).foldl (clr m) o = m :=
  fin64_64 (P := fun m o => Wf m o → (rng 0 6).foldl (clr m) o = m) (by decide +kernel) h0 h1 o0 o1 (W_f.mp h)
theorem cpow {k : Int} (k0 : 0 ≤ k) (k1 : k ≤ 6) : CPow (1 : Int) k := ⟨k0, by omega, by decide⟩
theorem cdivn {m k : Int} (k0 : 0 ≤ k) (k1 : k ≤ 6) : CDivN m (pw k) := by have := pw_pos k0 k1; exact ⟨by omega, by omega⟩
end G

namespace G
open PySem L2 FL
structure Good (s : Int) (t : List Bool) : Prop where
  len : (t.length : Int) = pw s
  zero : at_ t 0 = true
  down : ∀ o m : Int, 0 ≤ o → o < pw s → 0 ≤ m → m < pw s → W m o → at_ t o = true → at_ t m = true
def Stp (n : Int) (t : List Bool) : Prop := ∀ o k : Int, 0 ≤ o → o < n → 0 ≤ k → k < 6 → bit o k = true → at_ t o = true → at_ t (o - pw k) = true
theorem good_of {s : Int} {t : List Bool} (hs : SZ s) (len : (t.length : Int) = pw s) (zero : at_ t 0 = true) (st : Stp (pw s) t) : Good s t := by
  refine ⟨len, zero, fun o m o0 o1 m0 m1 w h => ?_⟩
  have n := (pw_sz hs).2
  have key : 0 ≤ (rng 0 6).foldl (clr m) o ∧ (rng 0 6).foldl (clr m) o < pw s ∧ at_ t ((rng 0 6).foldl (clr m) o) = true := by
    refine fold_inv (fun c : Int => 0 ≤ c ∧ c < pw s ∧ at_ t c = true) ⟨o0, o1, h⟩ fun c k hk hc => ?_
    obtain ⟨k0, k1⟩ := mem_rng.mp hk
    obtain ⟨c0, c1, c2⟩ := hc
    unfold clr
    by_cases e : bit c k = true ∧ bit m k = false
    · rw [if_pos e]
      have p := pw_pos k0 (by omega)
      have q := bit_sub c0 (by omega) k0 k1 e.1
      exact ⟨q.1, by omega, st c k c0 c1 k0 k1 e.1 c2⟩
    · rw [if_neg e]; exact ⟨c0, c1, c2⟩
  rw [clr_all m0 (by omega) o0 (by omega) w] at key
  exact key.2.2
theorem bd {s : Int} (hs : SZ s) : -100000 ≤ s ∧ s ≤ 100000 := by have := hs.1; have := hs.2; omega
theorem bdN {s : Int} (hs : SZ s) : -100000 ≤ pw s ∧ pw s ≤ 100000 := by have := pw_sz hs; omega
theorem bd1N {s : Int} (hs : SZ s) : -100000 ≤ (1 : Int) ∧ (1 : Int) ≤ 100000 ∧ -100000 ≤ pw s ∧ pw s ≤ 100000 ∧ pw s - 1 ≤ 100000 := by have := pw_sz hs; omega
theorem cps {s : Int} (hs : SZ s) : CPow (1 : Int) s := cpow (by have := hs.1; omega) hs.2
/-! counts -/
def CInv (i : Nat) (t : List Int) : Prop := t.length = i + 1 ∧ ∀ m : Int, 0 ≤ m → m < (i : Int) + 1 → at_ t m = pop m
theorem counts_step {s : Int} (hs : SZ s) (i : Nat) (a : Int) (t : List Int) (ha : (rng 1 (pw s))[i]? = some a) (h : CInv i t) : CInv (i + 1) (t ++ [at_ t (a / 2 ^ ((1 : Int)).toNat) + Int.fmod a 2]) := by
  obtain ⟨e, l⟩ := rng_at ha
  have n := (pw_sz hs).2
  obtain ⟨h1, h2⟩ := h
  refine ⟨by simp [h1], fun m m0 m1 => ?_⟩
  have p := pop_half (m := a) (by omega) (by omega)
  by_cases c : m < (i : Int) + 1
  · rw [at_app m0 (by omega)]; exact h2 m m0 c
  · rw [at_snoc (by rw [h1]; omega), h2 _ p.2.1 (by have := p.2.2 (by omega); omega), p.1]
    congr 1; omega
theorem CInv0 : CInv 0 [0] := ⟨rfl, fun m m0 m1 => by
  have : m = 0 := by omega
  subst this; rw [pop_zero]; rfl⟩
theorem counts_ok {s : Int} (hs : SZ s) : ok_law_counts s := by
  intro out hout
  subst hout
  refine ⟨cps hs, bd1N hs, fun i a t hi ht => ?_⟩
  have k : CInv i t := by
    rw [show t = _ from ht]
    exact fold_idx' CInv hi CInv0 (counts_step hs)
  have e := (rng_at hi).1
  have l : (i : Int) < pw s - 1 := (rng_at hi).2
  have n := (pw_sz hs).2
  have p := pop_half (m := a) (by omega) (by omega)
  have k1 := k.1
  have p2 := p.2.2 (by omega)
  exact ⟨inIx_of p.2.1 (by omega), by omega⟩
theorem counts_go {s : Int} (hs : SZ s) : ((f_law_counts s).length : Int) = pw s ∧ ∀ m : Int, 0 ≤ m → m < pw s → at_ (f_law_counts s) m = pop m := by
  rw [f_law_counts_eq]
  have n := pw_sz hs
  have k := fold_idx_all CInv (as := rng 1 (pw s)) CInv0 (counts_step hs)
  rw [rng_len] at k
  obtain ⟨k1, k2⟩ := k
  refine ⟨?_, fun m m0 m1 => k2 m m0 (by omega)⟩
  have k3 : (((o_law_counts s).get.length : Nat) : Int) = ((pw s - 1).toNat + 1 : Nat) := congrArg _ k1
  rw [k3]; omega
/-! closed -/
def LInv (s : Int) (t : List Bool) : Prop := (t.length : Int) = pw s
theorem closed_in {s top : Int} (hs : SZ s) (t0 : 0 ≤ top) (t1 : top < pw s) : ∀ (i : Nat) (a : Int) (t : List Bool), (rng 0 (pw s))[i]? = some a → LInv s t → LInv s (bif decide (PySem.Builtin.bitAnd a top = a) then t.set (ixI t.length a) true else t) := fun i a t _ h => by
  cases decide (PySem.Builtin.bitAnd a top = a) with
  | true => show (((t.set _ _).length : Nat) : Int) = _; rw [List.length_set]; exact h
  | false => exact h
theorem set_b {t : List Bool} {a m : Int} {b c : Bool} (a0 : 0 ≤ a) (a1 : a < t.length) (m0 : 0 ≤ m) : at_ (bif c then t.set (ixI t.length a) true else t) m = (at_ t m || (c && decide (m = a))) := by
  cases c with
  | true =>
    show at_ (t.set _ _) m = _
    rw [at_set a0 a1 m0]
    by_cases e : m = a
    · simp [e]
    · simp [e]
  | false => simp
/-- one top's turn: all its parts are in, what was in is in, nothing else -/
theorem closed_turn {s top : Int} (hs : SZ s) (t0 : 0 ≤ top) (t1 : top < pw s) {t : List Bool} (h : Good s t) : Good s ((rng 0 (pw s)).foldl (fun t a => bif decide (PySem.Builtin.bitAnd a top = a) then t.set (ixI t.length a) true else t) t) := by
  have n := pw_sz hs
  have k := fold_idx_all (as := rng 0 (pw s)) (t := t) (f := fun t a => bif decide (PySem.Builtin.bitAnd a top = a) then t.set (ixI t.length a) true else t)
    (fun i u => (u.length : Int) = pw s ∧ ∀ m : Int, 0 ≤ m → m < pw s → at_ u m = (at_ t m || (decide (PySem.Builtin.bitAnd m top = m) && decide (m < (i : Int)))))
    ⟨h.len, fun m m0 m1 => by rw [show decide (m < ((0 : Nat) : Int)) = false from decide_eq_false (by omega), Bool.and_false, Bool.or_false]⟩ fun i a u ha hu => by
      obtain ⟨e, l⟩ := rng_at ha
      obtain ⟨u1, u2⟩ := hu
      refine ⟨closed_in hs t0 t1 i a u ha u1, fun m m0 m1 => ?_⟩
      show at_ (bif decide _ then u.set (ixI u.length a) true else u) m = _
      rw [set_b (b := true) (by omega) (by omega) m0, u2 m m0 m1]
      by_cases c : m = a
      · subst c
        simp [show ¬ m < (i : Int) by omega, show m < ((i : Int) + 1) by omega]
      · by_cases c2 : m < (i : Int)
        · simp [c, c2, show m < ((i : Int) + 1) by omega]
        · simp [c, c2, show ¬ m < ((i : Int) + 1) by omega]
  rw [rng_len] at k
  obtain ⟨k1, k2⟩ := k
  have k3 : ∀ m : Int, 0 ≤ m → m < pw s → (at_ _ m = true ↔ (at_ t m = true ∨ W m top)) := fun m m0 m1 => by
    rw [show at_ _ m = _ from k2 m m0 m1]
    rw [Bool.or_eq_true, Bool.and_eq_true, and_W m0 (by omega) t0 (by omega)]
    exact or_congr_right ⟨fun h => h.1, fun h => ⟨h, decide_eq_true (by omega)⟩⟩
  refine ⟨k1, (k3 0 (by omega) (by omega)).mpr (.inl h.zero), fun o m o0 o1 m0 m1 w e => (k3 m m0 m1).mpr ?_⟩
  rcases (k3 o o0 o1).mp e with e | e
  · exact .inl (h.down o m o0 o1 m0 m1 w e)
  · exact .inr (w.trans e)
theorem W_z {m o : Int} (h0 : 0 ≤ m) (h1 : m < 64) (h : W m 0) : m = 0 :=
  fin64 (P := fun m => Wf m 0 → m = 0) (by decide +kernel) h0 h1 (W_f.mp h)
theorem closed_start {s : Int} (hs : SZ s) : Good s ((rng 0 (pw s)).map fun m => decide (m = 0)) := by
  have n := pw_sz hs
  refine ⟨by rw [List.length_map, rng_len]; omega, ?_, fun o m o0 o1 m0 m1 w e => ?_⟩
  · rw [at_map_rng (by omega) (by omega)]; rfl
  · rw [at_map_rng o0 o1] at e
    have : o = 0 := of_decide_eq_true e
    subst this
    rw [at_map_rng m0 m1]
    exact decide_eq_true (W_z (o := 0) m0 (by omega) w)
theorem closed_go {s : Int} (hs : SZ s) {tops : List Int} (ht : ∀ x ∈ tops, 0 ≤ x ∧ x < pw s) : Good s (f_law_closed s tops) := by
  rw [f_law_closed_eq]
  exact fold_inv (Good s) (closed_start hs) fun t a ha h => closed_turn hs (ht a ha).1 (ht a ha).2 h
theorem closed_ok {s : Int} (hs : SZ s) {tops : List Int} (ht : ∀ x ∈ tops, 0 ≤ x ∧ x < pw s) : ok_law_closed s tops := by
  refine ⟨cps hs, bdN hs, fun out hout => ?_⟩
  subst hout
  intro i top t hi he
  refine ⟨cps hs, bdN hs, fun j a u hj hu hc => ?_⟩
  have hm := List.mem_of_getElem? hi
  have g : Good s t := by
    rw [show t = _ from he]
    exact fold_pre (Good s) i (closed_start hs) fun t a ha h => closed_turn hs (ht a ha).1 (ht a ha).2 h
  have l : LInv s u := by
    rw [show u = _ from hu]
    exact fold_idx' (fun _ => LInv s) hj g.len (closed_in hs (ht top hm).1 (ht top hm).2)
  have e := (rng_at hj).1
  have b : (j : Int) < pw s - 0 := (rng_at hj).2
  have l' : (u.length : Int) = pw s := l
  exact inIx_of (by omega) (by omega)
end G

namespace G
open PySem L2 FL
theorem get_lt {α γ : Type} {P : γ → Prop} {a : α} {f : α → Out Empty Empty γ} (h : ∀ x, x = a → P (f x).get) : P ((lt a f).get) := h a rfl
def GB (s : Int) (r : List Bool × BoxD) : Prop := Good s r.1 ∧ BoxOk r.2
structure CSpec (s : Int) (c : List Int) : Prop where
  len : (c.length : Int) = pw s
  at' : ∀ m : Int, 0 ≤ m → m < pw s → at_ c m = pop m
theorem quota_good {s a b lo hi : Int} {c : List Int} (hs : SZ s) (hc : CSpec s c) (a0 : 0 ≤ a) (a1 : a < 64) (b0 : 0 ≤ b) (b1 : b < 64) (l0 : 0 ≤ lo) (h0 : 0 ≤ hi) :
    Good s ((rng 0 (pw s)).map fun m => decide (at_ c (PySem.Builtin.bitAnd m a) ≤ lo) && decide (at_ c (PySem.Builtin.bitAnd m b) ≤ hi)) := by
  have n := pw_sz hs
  have q : ∀ x y : Int, 0 ≤ x → x < pw s → 0 ≤ y → y < 64 → at_ c (PySem.Builtin.bitAnd x y) = pop (PySem.Builtin.bitAnd x y) := fun x y x0 x1 y0 y1 => by
    have r := (and_rng x0 (by omega) y0 y1).1
    exact hc.at' _ r.1 (by omega)
  have z : ∀ y : Int, 0 ≤ y → y < 64 → PySem.Builtin.bitAnd 0 y = 0 := fun y y0 y1 => by
    have r := (and_rng (m := 0) (by omega) (by omega) y0 y1).1
    omega
  have mono : ∀ o m y : Int, 0 ≤ o → o < pw s → 0 ≤ m → m < pw s → 0 ≤ y → y < 64 → W m o → pop (PySem.Builtin.bitAnd m y) ≤ pop (PySem.Builtin.bitAnd o y) := fun o m y o0 o1 m0 m1 y0 y1 w =>
    pop_mono fun k k0 k1 e => by
      rw [bit_and m0 (by omega) y0 y1 k0 k1, Bool.and_eq_true] at e
      rw [bit_and o0 (by omega) y0 y1 k0 k1, Bool.and_eq_true]
      exact ⟨w k k0 k1 e.1, e.2⟩
  refine ⟨by rw [List.length_map, rng_len]; omega, ?_, fun o m o0 o1 m0 m1 w e => ?_⟩
  · rw [at_map_rng (by omega) (by omega), q 0 a (by omega) (by omega) a0 a1, q 0 b (by omega) (by omega) b0 b1, z a a0 a1, z b b0 b1, pop_zero]
    simp [l0, h0]
  · rw [at_map_rng o0 o1, q o a o0 o1 a0 a1, q o b o0 o1 b0 b1, Bool.and_eq_true] at e
    rw [at_map_rng m0 m1, q m a m0 m1 a0 a1, q m b m0 m1 b0 b1, Bool.and_eq_true]
    have e1 := of_decide_eq_true e.1
    have e2 := of_decide_eq_true e.2
    have x1 := mono o m a o0 o1 m0 m1 a0 a1 w
    have x2 := mono o m b o0 o1 m0 m1 b0 b1 w
    exact ⟨decide_eq_true (by omega), decide_eq_true (by omega)⟩
theorem second_rng {s a b : Int} {t : Bool} (hs : SZ s) (a0 : 0 ≤ a) (a1 : a < pw s) (b0 : 0 ≤ b) (b1 : b < pw s) : 0 ≤ (bif t then PySem.Builtin.bitAnd b (pw s - 1 - a) else PySem.Builtin.bitOr b a) ∧ (bif t then PySem.Builtin.bitAnd b (pw s - 1 - a) else PySem.Builtin.bitOr b a) < 64 := by
  have n := pw_sz hs
  cases t with
  | true =>
    have r := (and_rng b0 (by omega) (t := pw s - 1 - a) (by omega) (by omega)).1
    exact ⟨r.1, by show PySem.Builtin.bitAnd b (pw s - 1 - a) < 64; omega⟩
  | false => exact (and_rng b0 (by omega) a0 (by omega)).2
theorem quotas_go {s : Int} {b : BoxD} {c : List Int} (hs : SZ s) (hc : CSpec s c) (hb : BoxOk b) : GB s (f_law_quotas b s c) := by
  have n := pw_sz hs
  rw [f_law_quotas_eq]
  refine get_lt fun a ha => get_lt fun b1 hb1 => get_lt fun d hd => get_lt fun b2 hb2 => get_lt fun z hz => get_lt fun b3 hb3 => get_lt fun lo hlo => get_lt fun b4 hb4 => get_lt fun hi hhi => get_lt fun b5 hb5 => ?_
  have d1 := draw_go b (pw s) hb (by omega)
  rw [← ha, ← hb1] at d1
  have d2 := draw_go b1 (pw s) d1.2.2 (by omega)
  rw [← hd, ← hb2] at d2
  have d3 := draw_go b2 2 d2.2.2 (by omega)
  rw [← hb3] at d3
  have d4 := draw_go b3 3 d3.2.2 (by omega)
  rw [← hlo, ← hb4] at d4
  have d5 := draw_go b4 4 d4.2.2 (by omega)
  rw [← hhi, ← hb5] at d5
  have zz : 0 ≤ z ∧ z < 64 := by
    rw [hz]
    exact second_rng hs d1.1 d1.2.1 d2.1 d2.2.1
  exact ⟨quota_good hs hc d1.1 (by omega) zz.1 zz.2 d4.1 d5.1, d5.2.2⟩
theorem quotas_ok {s : Int} {b : BoxD} {c : List Int} (hs : SZ s) (hc : CSpec s c) (hb : BoxOk b) : ok_law_quotas b s c := by
  have n := pw_sz hs
  have d1 := draw_go b (pw s) hb (by omega)
  refine ⟨cps hs, draw_ok b (pw s) hb (by omega) (by omega), fun a ha b1 hb1 => ?_⟩
  rw [← ha, ← hb1] at d1
  have d2 := draw_go b1 (pw s) d1.2.2 (by omega)
  refine ⟨cps hs, draw_ok b1 (pw s) d1.2.2 (by omega) (by omega), fun d hd b2 hb2 => ?_⟩
  rw [← hd, ← hb2] at d2
  have d3 := draw_go b2 2 d2.2.2 (by omega)
  refine ⟨draw_ok b2 _ d2.2.2 (by omega) (by omega), fun _ => cps hs, fun z hz b3 hb3 => ?_⟩
  rw [← hb3] at d3
  have d4 := draw_go b3 3 d3.2.2 (by omega)
  refine ⟨draw_ok b3 _ d3.2.2 (by omega) (by omega), fun lo hlo b4 hb4 => ?_⟩
  rw [← hlo, ← hb4] at d4
  refine ⟨draw_ok b4 _ d4.2.2 (by omega) (by omega), fun hi hhi b5 hb5 => ⟨cps hs, bdN hs, fun m hm => ?_⟩⟩
  have zz : 0 ≤ z ∧ z < 64 := by
    rw [hz]
    exact second_rng hs d1.1 d1.2.1 d2.1 d2.2.1
  obtain ⟨m0, m1⟩ := mem_rng.mp hm
  have m2 : m < pw s := m1
  have r1 := (and_rng m0 (by omega) (t := a) d1.1 (by omega)).1
  have r2 := (and_rng m0 (by omega) zz.1 zz.2).1
  have l := hc.len
  exact ⟨inIx_of r1.1 (by omega), fun _ => inIx_of r2.1 (by omega)⟩
/-! vectors -/
abbrev vIn (z : List Int) (t : List Bool) (m : Int) (q : Int × Bool) (k : Int) : Int × Bool :=
  lt (bif decide (PySem.Builtin.bitAnd (m / 2 ^ k.toNat) 1 = 1) then (lt (PySem.Builtin.bitXor q.1 (at_ z k)) fun x => lt (q.2 && at_ t (m - pw k)) fun y => (x, y)) else (q.1, q.2)) fun z => (z.1, z.2)
abbrev vOut (c z : List Int) (s most : Int) (t : List Bool) (m : Int) : List Bool :=
  lt (0 : Int) fun x => lt (decide (at_ c m ≤ most)) fun y => lt ((rng 0 s).foldl (vIn z t m) (x, y)) fun r => lt (t ++ [r.2 && !decide (r.1 = 0)]) fun o => o
def VInv (i : Nat) (t : List Bool) : Prop := t.length = i + 1 ∧ at_ t 0 = true ∧ Stp ((i : Int) + 1) t
theorem vec_in {s m : Int} {z : List Int} {t : List Bool} {q : Int × Bool} (hs : SZ s) (m0 : 0 ≤ m) (m1 : m < 64) : ((rng 0 s).foldl (vIn z t m) q).2 = true → ∀ k : Int, 0 ≤ k → k < s → bit m k = true → at_ t (m - pw k) = true := by
  have k := fold_idx_all (as := rng 0 s) (t := q) (f := vIn z t m) (fun i r => r.2 = true → ∀ k : Int, 0 ≤ k → k < (i : Int) → bit m k = true → at_ t (m - pw k) = true) (fun _ k k0 k1 => by omega) fun i a r ha hr => by
    obtain ⟨e, l⟩ := rng_at ha
    have s6 := hs.2
    show (Prod.snd (bif decide (PySem.Builtin.bitAnd (m / 2 ^ a.toNat) 1 = 1) then (PySem.Builtin.bitXor r.1 (at_ z a), r.2 && at_ t (m - pw a)) else (r.1, r.2))) = true → _
    rw [bit_2 m0 m1 (by omega) (by omega)]
    intro h k k0 k1 hk
    cases c : bit m a with
    | true =>
      rw [c] at h
      have h : (r.2 && at_ t (m - pw a)) = true := h
      rw [Bool.and_eq_true] at h
      by_cases ka : k = a
      · subst ka; exact h.2
      · exact hr h.1 k k0 (by omega) hk
    | false =>
      rw [c] at h
      by_cases ka : k = a
      · subst ka; rw [c] at hk; cases hk
      · exact hr h k k0 (by omega) hk
  rw [rng_len] at k
  intro h k0 k1 k2
  exact k h k0 k1 (by have := hs.1; omega)
theorem vec_step {s most : Int} {c z : List Int} (hs : SZ s) (i : Nat) (m : Int) (t : List Bool) (hm : (rng 1 (pw s))[i]? = some m) (h : VInv i t) : VInv (i + 1) (vOut c z s most t m) := by
  have n := pw_sz hs
  have e := (rng_at hm).1
  have l : (i : Int) < pw s - 1 := (rng_at hm).2
  obtain ⟨h1, h2, h3⟩ := h
  show VInv (i + 1) (t ++ [((rng 0 s).foldl (vIn z t m) (0, decide (at_ c m ≤ most))).2 && !decide (((rng 0 s).foldl (vIn z t m) (0, decide (at_ c m ≤ most))).1 = 0)])
  refine ⟨by simp [h1], by rw [at_app (by omega) (by omega)]; exact h2, fun o k o0 o1 k0 k1 b hb => ?_⟩
  by_cases om : o = m
  · subst om
    rw [at_snoc (by omega), Bool.and_eq_true] at hb
    have ks := bit_lt hs o0 (by omega) k0 k1 b
    have p := pw_pos k0 (by omega)
    have q := bit_sub o0 (by omega) k0 k1 b
    rw [at_app q.1 (by omega)]
    exact vec_in hs o0 (by omega) hb.1 k k0 ks b
  · have p := pw_pos k0 (by omega)
    have q := bit_sub o0 (by omega) k0 k1 b
    rw [at_app o0 (by omega)] at hb
    rw [at_app q.1 (by omega)]
    exact h3 o k o0 (by omega) k0 k1 b hb
theorem VInv0 : VInv 0 [true] := ⟨rfl, rfl, fun o k o0 o1 k0 k1 b _ => by
  have : o = 0 := by omega
  subst this
  exact absurd (W_zero (m := 0) k k0 k1 b) (by rw [show bit 0 k = false from fin6 (P := fun k => bit 0 k = false) (by decide +kernel) k0 k1]; simp)⟩
theorem vec_good {s most : Int} {c z : List Int} (hs : SZ s) : Good s ((rng 1 (pw s)).foldl (vOut c z s most) [true]) := by
  have n := pw_sz hs
  have k := fold_idx_all VInv (as := rng 1 (pw s)) (f := vOut c z s most) VInv0 (vec_step hs)
  rw [rng_len] at k
  obtain ⟨k1, k2, k3⟩ := k
  exact good_of hs (by rw [k1]; omega) k2 fun o k o0 o1 => k3 o k o0 (by omega)
theorem vectors_go {s : Int} {b : BoxD} {c : List Int} (hs : SZ s) (hc : CSpec s c) (hb : BoxOk b) : GB s (f_law_vectors b s c) := by
  have n := pw_sz hs
  have s1 := hs.1
  rw [f_law_vectors_eq]
  refine get_lt fun w hw => get_lt fun b1 hb1 => get_lt fun v hv => get_lt fun b2 hb2 => get_lt fun z hz => get_lt fun b3 hb3 => get_lt fun most hm => get_lt fun b4 hb4 => ?_
  have d1 := draw_go b 2 hb (by omega)
  rw [← hb1] at d1
  have d2 : BoxOk b2 := by
    rw [hb2]
    exact (lcGo_inv BoxOk (fun _ => True) d1.2.2 fun t a _ ht => ⟨(draw_go t w ht (by omega)).2.2, trivial⟩).1
  have d3 := draw_go b2 3 d2 (by omega)
  rw [← hb3] at d3
  have d4 := draw_go b3 s d3.2.2 (by omega)
  rw [← hb4] at d4
  exact ⟨vec_good hs, d4.2.2⟩
theorem vectors_ok {s : Int} {b : BoxD} {c : List Int} (hs : SZ s) (hc : CSpec s c) (hb : BoxOk b) : ok_law_vectors b s c := by
  have n := pw_sz hs
  have s1 := hs.1
  have s6 := hs.2
  have d1 := draw_go b 2 hb (by omega)
  refine ⟨draw_ok b 2 hb (by omega) (by omega), fun w hw b1 hb1 => ?_⟩
  rw [← hb1] at d1
  have w0 : 2 ≤ w ∧ w ≤ 16 := by omega
  refine ⟨bd hs, fun i k t hi ht => ?_, fun v hv b2 hb2 => ?_⟩
  · have : BoxOk t := by
      rw [ht]
      exact lcGo_pre BoxOk i d1.2.2 fun t a _ ht => (draw_go t w ht (by omega)).2.2
    exact draw_ok t w this (by omega) (by omega)
  have d2 : BoxOk b2 := by
    rw [hb2]
    exact (lcGo_inv BoxOk (fun _ => True) d1.2.2 fun t a _ ht => ⟨(draw_go t w ht (by omega)).2.2, trivial⟩).1
  have d3 := draw_go b2 3 d2 (by omega)
  refine ⟨draw_ok b2 3 d2 (by omega) (by omega), fun _ => ⟨bd hs, fun k hk => cpow (mem_rng.mp hk).1 (by have := (mem_rng.mp hk).2; omega)⟩, fun z hz b3 hb3 => ?_⟩
  have zl : (z.length : Int) = s := by
    rw [hz]
    generalize decide (_ = (0 : Int)) = t
    cases t with
    | true => show ((List.map _ _).length : Int) = s; rw [List.length_map, rng_len]; omega
    | false => show ((v.length : Nat) : Int) = s; rw [hv, lcGo_len1, rng_len]; omega
  rw [← hb3] at d3
  have d4 := draw_go b3 s d3.2.2 (by omega)
  refine ⟨draw_ok b3 s d3.2.2 (by omega) (by omega), fun most hm b4 hb4 out hout => ⟨cps hs, bd1N hs, fun i m t hi ht x hx => ?_⟩⟩
  subst hout
  have V : VInv i t := by
    rw [show t = _ from ht]
    exact fold_idx' VInv hi VInv0 (vec_step hs)
  have e := (rng_at hi).1
  have l : (i : Int) < pw s - 1 := (rng_at hi).2
  have cl := hc.len
  have v1 := V.1
  refine ⟨inIx_of (by omega) (by omega), fun y hy => ⟨bd hs, fun j k q hj hq => ?_, fun r hr => by omega⟩⟩
  have ek := (rng_at hj).1
  have lk := (rng_at hj).2
  refine ⟨by omega, fun hc2 => ⟨inIx_of (by omega) (by omega), fun x' hx' hb' => ⟨cpow (by omega) (by omega), ?_⟩⟩⟩
  rw [bit_2 (by omega) (by omega) (by omega) (by omega)] at hc2
  have p := pw_pos (k := k) (by omega) (by omega)
  have q := bit_sub (m := m) (by omega) (by omega) (by omega) (by omega) hc2
  exact inIx_of q.1 (by show m - pw k < _; omega)
end G

namespace G
open PySem L2 FL
theorem fold_filter {α : Type} {F : List α → α → List α} {p : α → Bool} (h : ∀ t m, F t m = bif p m then t ++ [m] else t) : ∀ {as : List α} {t : List α}, as.foldl F t = t ++ as.filter p
  | [], t => by simp
  | a :: as, t => by
    rw [List.foldl_cons, fold_filter h, h, List.filter_cons]
    cases p a <;> simp
theorem rng_app {a b c : Int} (h1 : a ≤ b) (h2 : b ≤ c) : rng a c = rng a b ++ rng b c := by
  apply List.ext_getElem? ; intro i
  by_cases l : i < (b - a).toNat
  · rw [List.getElem?_append_left (by rw [rng_len]; exact l), rng_get l, rng_get (by omega)]
  · rw [List.getElem?_append_right (by rw [rng_len]; omega), rng_len]
    by_cases l2 : i < (c - a).toNat
    · rw [rng_get l2, rng_get (by omega)]
      congr 1; omega
    · rw [List.getElem?_eq_none (by rw [rng_len]; omega), List.getElem?_eq_none (by rw [rng_len]; omega)]
theorem rng_one {a : Int} : rng a (a + 1) = [a] := by
  have : (a + 1 - a).toNat = 1 := by omega
  unfold rng; rw [this]; simp [List.range_succ]
def mor (T : List Bool) (s m : Int) : List Int := ((rng 0 s).filter fun k => decide (PySem.Builtin.bitAnd (m / 2 ^ k.toNat) 1 = 0) && at_ T (PySem.Builtin.bitOr m (pw k))).map fun k => k
def isMax (T : List Bool) (s m : Int) : Bool := at_ T m && decide (((mor T s m).length : Int) = 0)
theorem full_eq {T : List Bool} {s : Int} : f_law_full T s = (rng 0 (T.length : Int)).filter (isMax T s) := by
  rw [f_law_full_eq]
  show List.foldl _ [] _ = _
  rw [fold_filter (p := isMax T s)]
  · rfl
  · intro t m
    show (bif at_ T m then (bif decide (((mor T s m).length : Int) = 0) then t ++ [m] else t) else t) = _
    unfold isMax
    cases at_ T m <;> cases decide (((mor T s m).length : Int) = 0) <;> rfl
def MaxP (T : List Bool) (s m : Int) : Prop := at_ T m = true ∧ ∀ k : Int, 0 ≤ k → k < s → bit m k = false → at_ T (m + pw k) = false
theorem isMax_iff {T : List Bool} {s m : Int} (hs : SZ s) (m0 : 0 ≤ m) (m1 : m < pw s) : isMax T s m = true ↔ MaxP T s m := by
  have n := pw_sz hs
  have s6 := hs.2
  unfold isMax MaxP
  rw [Bool.and_eq_true, decide_eq_true_iff]
  refine and_congr_right fun _ => ?_
  have z : ((mor T s m).length : Int) = 0 ↔ mor T s m = [] := by
    rw [← List.length_eq_zero_iff]; omega
  rw [z]
  unfold mor
  rw [List.map_eq_nil_iff, List.filter_eq_nil_iff]
  constructor
  · intro h k k0 k1 b
    have := h k (mem_rng.mpr ⟨k0, k1⟩)
    rw [bit_3 m0 (by omega) k0 (by omega), b, bit_or m0 (by omega) k0 (by omega) b] at this
    simpa using this
  · intro h k hk
    obtain ⟨k0, k1⟩ := mem_rng.mp hk
    rw [bit_3 m0 (by omega) k0 (by omega)]
    cases b : bit m k with
    | true => simp
    | false => rw [bit_or m0 (by omega) k0 (by omega) b, h k k0 k1 b]; simp
theorem max_ex {T : List Bool} {s : Int} (hs : SZ s) : ∀ (d : Nat) (m : Int), 0 ≤ m → m < pw s → at_ T m = true → (pw s - m).toNat ≤ d → ∃ x : Int, 0 ≤ x ∧ x < pw s ∧ MaxP T s x
  | 0, m, m0, m1, h, hd => by omega
  | d + 1, m, m0, m1, h, hd => by
    by_cases c : MaxP T s m
    · exact ⟨m, m0, m1, c⟩
    · have : ∃ k : Int, 0 ≤ k ∧ k < s ∧ bit m k = false ∧ at_ T (m + pw k) = true := by
        refine Classical.byContradiction fun z => c ⟨h, fun k k0 k1 b => ?_⟩
        cases e : at_ T (m + pw k) with
        | false => rfl
        | true => exact absurd ⟨k, k0, k1, b, e⟩ z
      obtain ⟨k, k0, k1, b, e⟩ := this
      have p := pw_pos k0 (by have := hs.2; omega)
      have l := add_lt hs m0 m1 k0 k1 b
      exact max_ex hs d (m + pw k) (by omega) l e (by omega)
theorem bit_ex {m : Int} (m0 : 0 ≤ m) (m1 : m < 64) (h : m ≠ 0) : ∃ k : Int, (0 ≤ k ∧ k < 6) ∧ bit m k = true ∧ W (pw k) m := by
  have := fin64 (P := fun m => m ≠ 0 → ∃ k : Fin 6, bit m k.val = true ∧ Wf (pw k.val) m) (by decide +kernel) m0 m1 h
  obtain ⟨k, h1, h2⟩ := this
  exact ⟨k.val, ⟨by omega, by omega⟩, h1, W_f.mpr h2⟩
theorem mem_full {T : List Bool} {s m : Int} (hs : SZ s) (g : Good s T) : m ∈ f_law_full T s ↔ (0 ≤ m ∧ m < pw s) ∧ MaxP T s m := by
  rw [full_eq, List.mem_filter, mem_rng, g.len]
  exact and_congr_right fun h => isMax_iff hs h.1 h.2
theorem full_ne {T : List Bool} {s : Int} (hs : SZ s) (g : Good s T) : 0 < (f_law_full T s).length := by
  have n := pw_sz hs
  obtain ⟨x, x0, x1, x2⟩ := max_ex hs _ 0 (by omega) (by omega) g.zero (Nat.le_refl _)
  exact List.length_pos_of_mem ((mem_full hs g).mpr ⟨⟨x0, x1⟩, x2⟩)
theorem full_len {T : List Bool} {s : Int} (hs : SZ s) (g : Good s T) : (f_law_full T s).length ≤ 64 := by
  have n := pw_sz hs
  rw [full_eq]
  have a := List.length_filter_le (isMax T s) (rng 0 (T.length : Int))
  have b := g.len
  rw [rng_len] at a
  omega
theorem full_zero {T : List Bool} {s : Int} (hs : SZ s) (g : Good s T) (h : (0 : Int) ∈ f_law_full T s) : f_law_full T s = [0] := by
  have n := pw_sz hs
  have M := ((mem_full hs g).mp h).2
  rw [full_eq, g.len, rng_app (b := 0 + 1) (by omega) (by omega), rng_one, List.filter_append]
  have h0 : isMax T s 0 = true := (isMax_iff hs (by omega) (by omega)).mpr M
  rw [List.filter_cons, h0]
  have : List.filter (isMax T s) (rng (0 + 1) (pw s)) = [] := by
    rw [List.filter_eq_nil_iff]
    intro m hm e
    obtain ⟨m0, m1⟩ := mem_rng.mp hm
    have e1 := ((isMax_iff hs (by omega) m1).mp e).1
    obtain ⟨k, ⟨k0, k1⟩, b, w⟩ := bit_ex (m := m) (by omega) (by omega) (by omega)
    have ks := bit_lt hs (by omega) m1 k0 k1 b
    have p := pw_pos k0 (by omega)
    have z : bit 0 k = false := fin6 (P := fun k => bit 0 k = false) (by decide +kernel) k0 k1
    have l := add_lt hs (m := 0) (by omega) (by omega) k0 ks z
    have x := M.2 k k0 ks z
    have y := g.down m (pw k) (by omega) m1 (by omega) (by omega) w e1
    rw [show (0 : Int) + pw k = pw k by omega] at x
    rw [x] at y; cases y
  rw [this]; rfl
theorem full_ok {T : List Bool} {s : Int} (hs : SZ s) (g : Good s T) : ok_law_full T s := by
  have n := pw_sz hs
  have s6 := hs.2
  have gl := g.len
  intro out hout
  subst hout
  refine ⟨by omega, fun i m t hi ht => ?_⟩
  have e := (rng_at hi).1
  have l := (rng_at hi).2
  refine ⟨inIx_of (by omega) (by omega), fun _ => ⟨bd hs, fun k hk => ?_, fun more hm hc => ?_⟩⟩
  · obtain ⟨k0, k1⟩ := mem_rng.mp hk
    refine ⟨k0, fun hb => ⟨cpow k0 (by omega), ?_⟩⟩
    rw [bit_3 (by omega) (by omega) k0 (by omega)] at hb
    have b : bit m k = false := by cases h : bit m k; rfl; rw [h] at hb; cases hb
    have a := add_lt hs (m := m) (by omega) (by omega) k0 k1 b
    have p := pw_pos k0 (by omega)
    show inIx T.length (PySem.Builtin.bitOr m (pw k))
    rw [bit_or (by omega) (by omega) k0 (by omega) b]
    exact inIx_of (by omega) (by omega)
  · have : t.length ≤ i := by
      rw [show t = _ from ht]
      refine fold_idx' (fun i (t : List Int) => t.length ≤ i) hi (Nat.le_refl 0) fun i a u _ hu => ?_
      show List.length (bif at_ T a then (bif decide (((mor T s a).length : Int) = 0) then u ++ [a] else u) else u) ≤ _
      cases at_ T a <;> cases decide (((mor T s a).length : Int) = 0) <;> simp <;> omega
    omega
/-- one full set left out -/
theorem less_good {T : List Bool} {s f : Int} (hs : SZ s) (g : Good s T) (hf : f ∈ f_law_full T s) (hn : f_law_full T s ≠ [0]) : Good s (T.set (ixI T.length f) false) := by
  have n := pw_sz hs
  have gl := g.len
  obtain ⟨⟨f0, f1⟩, M⟩ := (mem_full hs g).mp hf
  have fz : f ≠ 0 := fun z => hn (full_zero hs g (z ▸ hf))
  refine good_of hs (by rw [List.length_set]; exact gl) ?_ fun o k o0 o1 k0 k1 b h => ?_
  · rw [at_set f0 (by omega) (by omega), if_neg (by omega)]; exact g.zero
  · have p := pw_pos k0 (by omega)
    have q := bit_sub o0 (by omega) k0 k1 b
    have ks := bit_lt hs o0 o1 k0 k1 b
    rw [at_set f0 (by omega) o0] at h
    rw [at_set f0 (by omega) q.1]
    by_cases c : o = f
    · rw [if_pos c] at h; cases h
    · rw [if_neg c] at h
      by_cases c2 : o - pw k = f
      · have x := M.2 k k0 ks (c2 ▸ q.2)
        rw [← c2, show o - pw k + pw k = o by omega, h] at x
        cases x
      · rw [if_neg c2]
        refine g.down o (o - pw k) o0 o1 q.1 (by omega) ?_ h
        exact W_f.mpr (fin64_6 (P := fun o k => bit o k = true → Wf (o - pw k) o) (by decide +kernel) o0 (by omega) k0 k1 b)
theorem more_good {T : List Bool} {s top : Int} (hs : SZ s) (g : Good s T) (t0 : 0 ≤ top) (t1 : top < pw s) : Good s ((rng 0 (pw s)).map fun m => at_ T m || decide (PySem.Builtin.bitAnd m top = m)) := by
  have n := pw_sz hs
  refine ⟨by rw [List.length_map, rng_len]; omega, ?_, fun o m o0 o1 m0 m1 w e => ?_⟩
  · rw [at_map_rng (by omega) (by omega), g.zero]; rfl
  · rw [at_map_rng o0 o1, Bool.or_eq_true, and_W o0 (by omega) t0 (by omega)] at e
    rw [at_map_rng m0 m1, Bool.or_eq_true, and_W m0 (by omega) t0 (by omega)]
    rcases e with e | e
    · exact .inl (g.down o m o0 o1 m0 m1 w e)
    · exact .inr (w.trans e)
theorem ccs {s : Int} (hs : SZ s) : CSpec s (f_law_counts s) := ⟨(counts_go hs).1, (counts_go hs).2⟩
abbrev sh2 (s shape : Int) (o : List Bool) (b : BoxD) : List Bool × BoxD :=
  bif decide (shape = 2) then lt (f_law_full o s) fun full => (lt (bif (!decide (full = [(0 : Int)])) then (lt (List.set o (ixI o.length (at_ full (f_law_draw b ((full).length : Int)).1)) false) fun out => (out, (f_law_draw b ((full).length : Int)).2)) else (o, b)) fun z => (z.1, z.2)) else (o, b)
theorem sh2_go {s shape : Int} {o : List Bool} {b : BoxD} (hs : SZ s) (g : GB s (o, b)) : GB s (sh2 s shape o b) := by
  have n := pw_sz hs
  unfold sh2
  cases decide (shape = 2) with
  | false => exact g
  | true =>
    show GB s (Prod.fst (bif !decide (f_law_full o s = [0]) then _ else _), Prod.snd (bif !decide (f_law_full o s = [0]) then _ else _))
    by_cases c : f_law_full o s = [0]
    · rw [decide_eq_true c]; exact g
    · rw [decide_eq_false c]
      have go : Good s o := g.1
      have l := full_ne hs go
      have d := draw_go b ((f_law_full o s).length : Int) g.2 (by omega)
      exact ⟨less_good hs go (at_mem d.1 d.2.1) c, d.2.2⟩
theorem tops_go {s : Int} {b : BoxD} {n : Int} (hs : SZ s) (hb : BoxOk b) : BoxOk (lcGo (fun b_420 k_418 => (f_law_draw b_420 (pw s)).2) (fun _ _ => true) (fun b_420 k_418 => (f_law_draw b_420 (pw s)).1) b (rng 0 n)).1 ∧
    ∀ x ∈ (lcGo (fun b_420 k_418 => (f_law_draw b_420 (pw s)).2) (fun _ _ => true) (fun b_420 k_418 => (f_law_draw b_420 (pw s)).1) b (rng 0 n)).2, 0 ≤ x ∧ x < pw s :=
  lcGo_inv BoxOk (fun x => 0 ≤ x ∧ x < pw s) hb fun t a _ ht => by
    have n := pw_sz hs
    have d := draw_go t (pw s) ht (by omega)
    exact ⟨d.2.2, d.1, d.2.1⟩
theorem inside_go {s : Int} {b : BoxD} (hs : SZ s) (hb : BoxOk b) : GB s (f_law_inside b s) := by
  have n := pw_sz hs
  rw [f_law_inside_eq]
  refine get_lt fun c hc => get_lt fun shape hsh => get_lt fun b1 hb1 => ?_
  have d1 := draw_go b 6 hb (by omega)
  rw [← hb1] at d1
  have cs : CSpec s c := hc ▸ ccs hs
  by_cases c0 : shape = 0
  · rw [decide_eq_true c0]
    have d2 := draw_go b1 5 d1.2.2 (by omega)
    have t := tops_go (n := (f_law_draw b1 5).1) hs d2.2.2
    exact ⟨closed_go hs t.2, t.1⟩
  · rw [decide_eq_false c0]
    by_cases c1 : shape = 1
    · rw [decide_eq_true c1]
      exact quotas_go hs cs d1.2.2
    · rw [decide_eq_false c1, cond_false, cond_false]
      have v := vectors_go hs cs d1.2.2
      refine get_lt fun o ho => get_lt fun b2 hb2 => ?_
      have gv : GB s (o, b2) := by rw [ho, hb2]; exact v
      have g2 := sh2_go (shape := shape) hs gv
      refine get_lt fun z hz => ?_
      rw [← show z = sh2 s shape o b2 from hz] at g2
      by_cases c3 : shape = 3
      · rw [decide_eq_true c3]
        have d := draw_go z.2 (pw s) g2.2 (by omega)
        exact ⟨more_good hs g2.1 d.1 d.2.1, d.2.2⟩
      · rw [decide_eq_false c3]
        exact g2
theorem inside_ok {s : Int} {b : BoxD} (hs : SZ s) (hb : BoxOk b) : ok_law_inside b s := by
  have n := pw_sz hs
  refine ⟨counts_ok hs, fun c hc => ⟨draw_ok b 6 hb (by omega) (by omega), fun shape hsh b1 hb1 => ?_⟩⟩
  have d1 := draw_go b 6 hb (by omega)
  rw [← hb1] at d1
  have cs : CSpec s c := hc ▸ ccs hs
  have d2 := draw_go b1 5 d1.2.2 (by omega)
  refine ⟨fun _ => ⟨draw_ok b1 5 d1.2.2 (by omega) (by omega), by omega, fun i k t hi ht => ⟨cps hs, ?_⟩, ?_⟩, fun _ => ⟨fun _ => quotas_ok hs cs d1.2.2, fun _ => ⟨vectors_ok hs cs d1.2.2, fun o ho b2 hb2 => ?_⟩⟩⟩
  · have : BoxOk t := by
      rw [ht]
      exact lcGo_pre BoxOk i d2.2.2 fun t a _ ht => (draw_go t (pw s) ht (by omega)).2.2
    exact draw_ok t (pw s) this (by omega) (by omega)
  · exact closed_ok hs (tops_go (n := (f_law_draw b1 5).1) hs d2.2.2).2
  · have v := vectors_go hs cs d1.2.2
    have gv : GB s (o, b2) := by rw [ho, hb2]; exact v
    have g2 := sh2_go (shape := shape) hs gv
    refine ⟨fun _ => ⟨full_ok hs (show Good s o from gv.1), fun full hf hne => ?_⟩, fun z hz _ => ?_⟩
    · subst hf
      have go : Good s o := gv.1
      have l := full_ne hs go
      have l2 := full_len hs go
      have d := draw_go b2 ((f_law_full o s).length : Int) gv.2 (by omega)
      refine ⟨draw_ok b2 _ gv.2 (by omega) (by omega), inIx_of d.1 d.2.1, ?_⟩
      have m := ((mem_full hs go).mp (at_mem d.1 d.2.1)).1
      have gl : (o.length : Int) = pw s := gv.1.len
      exact inIx_of m.1 (by omega)
    · rw [← show z = sh2 s shape o b2 from hz] at g2
      refine ⟨cps hs, draw_ok z.2 (pw s) g2.2 (by omega) (by omega), fun top htop b3 hb3 => ⟨cps hs, bdN hs, fun m hm => ?_⟩⟩
      obtain ⟨m0, m1⟩ := mem_rng.mp hm
      have m2 : m < pw s := m1
      have gl := g2.1.len
      exact inIx_of m0 (by omega)
end G

namespace G
open PySem L2 FL
def key (m : Int) : Int × List Int := (((things m).length : Int), things m)
theorem map_same {α : Type} {l : List α} : l.map (fun x => x) = l := by simp
theorem ordered_eq {s : Int} {T : List Bool} (hs : SZ s) (g : Good s T) : f_law_ordered T = (srtP (((rng 0 (pw s)).filter fun m => at_ T m).map key)).map fun q => q.2 := by
  have n := pw_sz hs
  rw [f_law_ordered_eq]
  show List.map _ (srtP (List.map _ (List.filter _ (rng 0 (T.length : Int))))) = _
  rw [g.len]
  congr 2
  apply List.map_congr_left
  intro m hm
  obtain ⟨m0, m1⟩ := mem_rng.mp (List.mem_filter.mp hm).1
  show (((f_law_things m).length : Int), f_law_things m) = key m
  rw [lthings_eq m0 (by omega)]; rfl
theorem all_eq {s : Int} : f_all_sets s = (srtP ((rng 0 (pw s)).map key)).map fun q => q.2 := by
  rw [f_all_sets_eq]
  show List.map _ (srtP (List.map _ (List.map _ (rng 0 (pw s))))) = _
  rw [List.map_map]
  congr 2
  apply List.map_congr_left
  intro m _
  show (((f_things_of m).length : Int), f_things_of m) = key m
  rw [things_eq]; rfl
theorem srt_filter {p : Int × List Int → Bool} {L : List (Int × List Int)} : (srtP L).filter p = srtP (L.filter p) :=
  sorted_uniq (List.Pairwise.filter p (srtP_sorted L)) (srtP_sorted _) (((srtP_perm L).filter p).trans (srtP_perm _).symm)
theorem sets_eq {s : Int} {T : List Bool} (hs : SZ s) (g : Good s T) : (f_all_sets s).filter (fun t => at_ T (f_mask_of t)) = f_law_ordered T := by
  have n := pw_sz hs
  rw [ordered_eq hs g, all_eq, List.filter_map, srt_filter, List.filter_map]
  congr 3
  apply List.filter_congr
  intro m hm
  obtain ⟨m0, m1⟩ := mem_rng.mp hm
  show at_ T (f_mask_of (things m)) = at_ T m
  rw [mask_things m0 (by omega)]
theorem mem_ordered {s : Int} {T : List Bool} (hs : SZ s) (g : Good s T) {x : List Int} : x ∈ f_law_ordered T ↔ ∃ m : Int, (0 ≤ m ∧ m < pw s) ∧ at_ T m = true ∧ x = things m := by
  rw [ordered_eq hs g, List.mem_map]
  constructor
  · rintro ⟨q, hq, rfl⟩
    obtain ⟨m, hm, rfl⟩ := List.mem_map.mp ((srtP_perm _).mem_iff.mp hq)
    obtain ⟨h1, h2⟩ := List.mem_filter.mp hm
    exact ⟨m, mem_rng.mp h1, h2, rfl⟩
  · rintro ⟨m, h1, h2, rfl⟩
    exact ⟨key m, (srtP_perm _).mem_iff.mpr (List.mem_map.mpr ⟨m, List.mem_filter.mpr ⟨mem_rng.mpr h1, h2⟩, rfl⟩), rfl⟩
theorem mem_all {s : Int} {x : List Int} : x ∈ f_all_sets s ↔ ∃ m : Int, (0 ≤ m ∧ m < pw s) ∧ x = things m := by
  rw [all_eq, List.mem_map]
  constructor
  · rintro ⟨q, hq, rfl⟩
    obtain ⟨m, hm, rfl⟩ := List.mem_map.mp ((srtP_perm _).mem_iff.mp hq)
    exact ⟨m, mem_rng.mp hm, rfl⟩
  · rintro ⟨m, h1, rfl⟩
    exact ⟨key m, (srtP_perm _).mem_iff.mpr (List.mem_map.mpr ⟨m, mem_rng.mpr h1, rfl⟩), rfl⟩
theorem ordered_len {s : Int} {T : List Bool} (hs : SZ s) (g : Good s T) : (f_law_ordered T).length ≤ 64 := by
  have n := pw_sz hs
  rw [ordered_eq hs g, List.length_map, (srtP_perm _).length_eq, List.length_map]
  have a := List.length_filter_le (fun m => at_ T m) (rng 0 (pw s))
  rw [rng_len] at a
  omega
theorem ordered_up {s : Int} {T : List Bool} (hs : SZ s) (g : Good s T) : (f_law_ordered T).Pairwise fun a b => a.length ≤ b.length := by
  rw [ordered_eq hs g, List.pairwise_map]
  have h := srtP_sorted (((rng 0 (pw s)).filter fun m => at_ T m).map key)
  have k : ∀ q ∈ srtP (((rng 0 (pw s)).filter fun m => at_ T m).map key), q.1 = (q.2.length : Int) := fun q hq => by
    obtain ⟨m, _, rfl⟩ := List.mem_map.mp ((srtP_perm _).mem_iff.mp hq)
    rfl
  refine List.Pairwise.imp_of_mem (R := fun a b => lexP b a = false) (fun {a b} ha hb hab => ?_) h
  have e1 := k a ha
  have e2 := k b hb
  have : ¬ (b.1 < a.1) := fun z => by
    rw [lexP_iff.mpr (.inl z)] at hab; cases hab
  omega
theorem things_len {m : Int} : (things m).length ≤ 6 := by
  unfold things
  have a := List.length_filter_le (bit m) (rng 0 6)
  rw [rng_len] at a
  exact a
theorem ok_mask {x : List Int} {m : Int} (h : x = things m) : ok_mask_of x := fun k hk => by
  subst h
  obtain ⟨⟨k0, k1⟩, _⟩ := mem_things.mp hk
  exact cpow k0 (by omega)
theorem ok_lmask {x : List Int} {m : Int} (h : x = things m) : ok_law_mask x := fun k hk => ok_mask h k hk
theorem ok_things {m : Int} : ok_things_of m := fun k hk => by
  obtain ⟨k0, k1⟩ := mem_rng.mp hk
  exact ⟨cpow k0 (by omega), cdivn k0 (by omega)⟩
theorem ok_lthings {m : Int} : ok_law_things m := fun k hk => (mem_rng.mp hk).1
theorem ok_within {a b : Int} : ok_is_within a b := ⟨ok_things, fun k hk => by
  rw [things_eq] at hk
  obtain ⟨⟨k0, k1⟩, _⟩ := mem_things.mp hk
  exact ⟨cpow k0 (by omega), cdivn k0 (by omega)⟩⟩
theorem ok_all {s : Int} (hs : SZ s) : ok_all_sets s := ⟨cps hs, bdN hs, fun m _ => ok_things⟩
theorem ok_ordered {s : Int} {T : List Bool} (hs : SZ s) (g : Good s T) : ok_law_ordered T := by
  have n := pw_sz hs
  have l := g.len
  refine ⟨by omega, fun m hm => ?_⟩
  obtain ⟨m0, m1⟩ := mem_rng.mp hm
  exact ⟨inIx_of m0 m1, fun _ => ⟨ok_lthings, ok_lthings⟩⟩
theorem set_is {s m : Int} (hs : SZ s) (m0 : 0 ≤ m) (m1 : m < pw s) : f_is_set s (things m) = true :=
  fin2s (P := fun s m => m < pw s → f_is_set s (things m) = true) (by decide +kernel) hs m0 (by have := pw_sz hs; omega) m1
theorem ok_isset {s m : Int} : ok_is_set s (things m) := fun _ => by
  have l := things_len (m := m)
  refine ⟨by omega, fun k hk => ?_⟩
  obtain ⟨k0, k1⟩ := mem_rng.mp hk
  exact ⟨inIx_of (by omega) (by omega), inIx_of (by omega) (by omega)⟩
theorem checked_eq {s : Int} {sets : List (List Int)} : f_checked_sets s sets = sets := by
  rw [f_checked_sets_eq]
  exact map_same
theorem mem_enum {α : Type} {as : List α} {q : Int × α} (h : q ∈ enum as) : q.2 ∈ as := by
  unfold enum at h
  obtain ⟨p, hp, rfl⟩ := List.mem_map.mp h
  exact (List.of_mem_zip hp).2
theorem checked_ok {s : Int} {sets : List (List Int)} (hs : SZ s) (h : ∀ x ∈ sets, ∃ m : Int, (0 ≤ m ∧ m < pw s) ∧ x = things m) : ok_checked_sets s sets := fun i q t hi ht => by
  obtain ⟨m, ⟨m0, m1⟩, e⟩ := h _ (mem_enum (List.mem_of_getElem? hi))
  rw [e]
  exact ⟨ok_isset, fun c => by rw [set_is hs m0 m1] at c; cases c⟩
theorem size_ok {s : Int} (hs : SZ s) : ok_check_size s := fun h => by
  have : ((!(f_is_thing ((6 : Int) + (1 : Int)) s)) || (decide (s = (0 : Int)))) = false := fin2s (P := fun s _ => 1 ≤ s → ((!(f_is_thing ((6 : Int) + (1 : Int)) s)) || (decide (s = (0 : Int)))) = false) (by decide +kernel) hs (m := 0) (by decide) (by decide) hs.1
  rw [this] at h; cases h
abbrev tset (t : List Bool) (x : List Int) : List Bool := lt (t.set (ixI t.length (f_mask_of x)) true) fun y => y
theorem tbl {s : Int} (hs : SZ s) : ∀ {sets : List (List Int)} {t : List Bool}, (t.length : Int) = pw s → (∀ x ∈ sets, ∃ m : Int, (0 ≤ m ∧ m < pw s) ∧ x = things m) →
    ((sets.foldl tset t).length : Int) = pw s ∧ ∀ j : Int, 0 ≤ j → j < pw s → at_ (sets.foldl tset t) j = (at_ t j || sets.any fun x => decide (f_mask_of x = j))
  | [], t, hl, _ => ⟨hl, fun j _ _ => by simp⟩
  | x :: sets, t, hl, h => by
    obtain ⟨m, ⟨m0, m1⟩, e⟩ := h x (by simp)
    have n := pw_sz hs
    have mx : f_mask_of x = m := by rw [e, mask_things m0 (by omega)]
    obtain ⟨k1, k2⟩ := tbl hs (sets := sets) (t := tset t x) (by show ((List.length (List.set _ _ _) : Nat) : Int) = _; rw [List.length_set]; exact hl) fun y hy => h y (by simp [hy])
    refine ⟨k1, fun j j0 j1 => ?_⟩
    rw [List.foldl_cons, k2 j j0 j1, List.any_cons]
    have : at_ (tset t x) j = (at_ t j || decide (f_mask_of x = j)) := by
      show at_ (t.set (ixI t.length (f_mask_of x)) true) j = _
      rw [mx, at_set m0 (by omega) j0]
      by_cases c : j = m
      · simp [c]
      · simp [c, show ¬ m = j from fun z => c z.symm]
    rw [this, Bool.or_assoc]
theorem at_rep {n : Nat} {j : Int} (h : 0 ≤ j) : at_ (List.replicate n false) j = false := by
  rw [at_nat h, List.getD_eq_getElem?_getD, List.getElem?_replicate]
  split <;> rfl
theorem rep_eq {n : Nat} : (List.replicate n [false]).flatten = List.replicate n false := by simp
section
variable {s : Int} {T : List Bool} {sets : List (List Int)}
theorem told_mem (hs : SZ s) (g : Good s T) (hp : sets.Perm (f_law_ordered T)) {x : List Int} : x ∈ sets ↔ ∃ m : Int, (0 ≤ m ∧ m < pw s) ∧ at_ T m = true ∧ x = things m := hp.mem_iff.trans (mem_ordered hs g)
theorem told_in (hs : SZ s) (g : Good s T) (hp : sets.Perm (f_law_ordered T)) : ∀ x ∈ sets, ∃ m : Int, (0 ≤ m ∧ m < pw s) ∧ x = things m := fun x hx =>
  let ⟨m, a, _, b⟩ := (told_mem hs g hp).mp hx
  ⟨m, a, b⟩
abbrev t0 (s : Int) : List Bool := (List.replicate ((pw s)).toNat [false]).flatten
theorem t0_len (hs : SZ s) : ((t0 s).length : Int) = pw s := by
  have n := pw_sz hs
  show ((List.length (List.flatten _) : Nat) : Int) = _
  rw [rep_eq, List.length_replicate]; omega
theorem table_eq (hs : SZ s) (g : Good s T) (hp : sets.Perm (f_law_ordered T)) : sets.foldl tset (t0 s) = T := by
  have n := pw_sz hs
  have gl := g.len
  obtain ⟨k1, k2⟩ := tbl hs (t0_len hs) (told_in hs g hp)
  refine list_at (by omega) fun j j0 j1 => ?_
  rw [k2 j j0 (by omega), show t0 s = _ from rep_eq, at_rep j0, Bool.false_or]
  rw [Bool.eq_iff_iff, List.any_eq_true]
  constructor
  · rintro ⟨x, hx, e⟩
    obtain ⟨m, ⟨m0, m1⟩, h, rfl⟩ := (told_mem hs g hp).mp hx
    have e := of_decide_eq_true e
    rw [mask_things m0 (by omega)] at e
    exact e ▸ h
  · intro h
    exact ⟨things j, (told_mem hs g hp).mpr ⟨j, ⟨j0, by omega⟩, h, rfl⟩, decide_eq_true (mask_things j0 (by omega))⟩
theorem fam_eq (hs : SZ s) (g : Good s T) (hp : sets.Perm (f_law_ordered T)) : f_Family_init s sets = ⟨s, T, f_law_ordered T⟩ := by
  rw [f_Family_init_eq]
  show Family.mk s ((f_checked_sets s sets).foldl tset (t0 s)) (List.map (fun x => x) ((f_all_sets s).filter fun x => at_ ((f_checked_sets s sets).foldl tset (t0 s)) (f_mask_of x))) = _
  rw [checked_eq, table_eq hs g hp, map_same, sets_eq hs g]
theorem fam_ok (hs : SZ s) (g : Good s T) (hp : sets.Perm (f_law_ordered T)) : ok_Family_init s sets := by
  have n := pw_sz hs
  have gl := g.len
  have hin := told_in hs g hp
  refine ⟨size_ok hs, checked_ok hs hin, fun told ht => ?_⟩
  rw [checked_eq] at ht
  subst ht
  refine ⟨cps hs, ⟨by show 0 ≤ pw s; omega, by show ((1 : Nat) : Int) * pw s ≤ 100000; omega, (bdN hs).2⟩, fun table htb => ?_⟩
  subst htb
  have mk : ∀ {x : List Int} {m : Int}, (0 ≤ m ∧ m < pw s) → x = things m → f_mask_of x = m := fun {x m} h e => by
    rw [e, mask_things h.1 (by omega)]
  refine ⟨fun i x t hi htt => ?_, fun u hu => ?_⟩
  · obtain ⟨m, hm, e⟩ := hin x (List.mem_of_getElem? hi)
    have l : (t.length : Int) = pw s := by
      rw [show t = _ from htt]
      exact (tbl hs (t0_len hs) fun y hy => hin y (List.mem_of_mem_take hy)).1
    rw [mk hm e]
    exact ⟨ok_mask e, inIx_of hm.1 (by omega)⟩
  · have hu' : u = T := by rw [show u = _ from hu]; exact table_eq hs g hp
    subst hu'
    refine ⟨ok_all hs, fun i x w hi hw => ?_, fun _ _ _ _ _ _ => ⟨ok_all hs, fun x hx => ?_⟩⟩
    · obtain ⟨m, hm, e⟩ := mem_all.mp (List.mem_of_getElem? hi)
      refine ⟨ok_mask e, fun ma hma => ?_⟩
      rw [mk hm e] at hma
      subst hma
      refine ⟨inIx_of hm.1 (by omega), fun _ _ y hy => ?_, fun hc => ?_⟩
      · obtain ⟨o, ho, e⟩ := hin y hy
        exact ⟨ok_mask e, ok_within⟩
      · rw [Bool.and_eq_true, Bool.or_eq_true, List.any_map, List.any_eq_true] at hc
        obtain ⟨h1, h2⟩ := hc
        have h3 : at_ u ma = true := by
          rcases h2 with h2 | ⟨y, hy, hw⟩
          · rw [of_decide_eq_true h2]; exact g.zero
          · obtain ⟨o, ho, h, e⟩ := (told_mem hs g hp).mp hy
            have hw : f_is_within ma (f_mask_of y) = true := hw
            rw [mk ho e] at hw
            exact g.down o ma ho.1 ho.2 hm.1 hm.2 (within_W.mp hw) h
        rw [h3] at h1; cases h1
    · obtain ⟨m, hm, e⟩ := mem_all.mp hx
      rw [mk hm e]
      exact ⟨ok_mask e, inIx_of hm.1 (by omega)⟩
end
end G

namespace G
open PySem L2 FL
/-! the family of a table, in any order of its sets -/
abbrev famF (t : List (List Int) × BoxD) (x : List Int) : List (List Int) × BoxD :=
  lt (List.take ((f_law_draw t.2 (((t.1).length : Int) + (1 : Int))).1).toNat t.1 ++ [(at_ [x, x] (f_law_draw ((f_law_draw t.2 (((t.1).length : Int) + (1 : Int))).2) (2 : Int)).1)] ++ List.drop ((f_law_draw t.2 (((t.1).length : Int) + (1 : Int))).1).toNat t.1) fun y => (y, (f_law_draw ((f_law_draw t.2 (((t.1).length : Int) + (1 : Int))).2) (2 : Int)).2)
def FInv (L : List (List Int)) (i : Nat) (t : List (List Int) × BoxD) : Prop := t.1.Perm (L.take i) ∧ BoxOk t.2
theorem at_two {α : Type} [Inhabited α] {x : α} {i : Int} (h0 : 0 ≤ i) (h1 : i < 2) : at_ [x, x] i = x := by
  have : i = 0 ∨ i = 1 := by omega
  rcases this with rfl | rfl <;> rfl
theorem fam_step {L : List (List Int)} (i : Nat) (x : List Int) (t : List (List Int) × BoxD) (hx : L[i]? = some x) (h : FInv L i t) : FInv L (i + 1) (famF t x) := by
  obtain ⟨h1, h2⟩ := h
  have d1 := draw_go t.2 ((t.1.length : Int) + 1) h2 (by omega)
  have d2 := draw_go (f_law_draw t.2 ((t.1.length : Int) + 1)).2 2 d1.2.2 (by omega)
  refine ⟨?_, d2.2.2⟩
  show (List.take _ t.1 ++ [at_ [x, x] _] ++ List.drop _ t.1).Perm _
  rw [at_two d2.1 d2.2.1, List.take_add_one, hx]
  refine List.Perm.trans ?_ (h1.append_right [x])
  generalize (f_law_draw t.2 ((t.1.length : Int) + 1)).1.toNat = j
  have e : t.1 ++ [x] = List.take j t.1 ++ (List.drop j t.1 ++ [x]) := by rw [← List.append_assoc, List.take_append_drop]
  rw [e, List.append_assoc]
  exact List.Perm.append_left _ List.perm_append_comm
section
variable {s : Int} {T : List Bool} {b : BoxD}
theorem family_go (hs : SZ s) (g : Good s T) (hb : BoxOk b) : (f_law_family b T s).1 = ⟨s, T, f_law_ordered T⟩ ∧ BoxOk (f_law_family b T s).2 := by
  rw [f_law_family_eq]
  have k := fold_idx_all (FInv (f_law_ordered T)) (as := f_law_ordered T) (t := ([], b)) (f := famF) ⟨by simp, hb⟩ fam_step
  rw [FInv, List.take_length] at k
  exact ⟨fam_eq hs g k.1, k.2⟩
theorem family_ok (hs : SZ s) (g : Good s T) (hb : BoxOk b) : ok_law_family b T s := by
  have ol := ordered_len hs g
  intro u hu
  subst hu
  refine ⟨ok_ordered hs g, fun i x t hi ht => ?_, fun t ht => ?_⟩
  · have k : FInv (f_law_ordered T) i t := by
      rw [show t = _ from ht]
      exact fold_idx' (FInv (f_law_ordered T)) hi ⟨by simp, hb⟩ fam_step
    obtain ⟨h1, h2⟩ := k
    have l : t.1.length ≤ 64 := by
      rw [h1.length_eq, List.length_take]; omega
    have d1 := draw_go t.2 ((t.1.length : Int) + 1) h2 (by omega)
    have d2 := draw_go (f_law_draw t.2 ((t.1.length : Int) + 1)).2 2 d1.2.2 (by omega)
    exact ⟨draw_ok _ _ h2 (by omega) (by omega), draw_ok _ _ d1.2.2 (by omega) (by omega), inIx_of d2.1 d2.2.1, by omega, d1.1, by omega⟩
  · have k := fold_idx_all (FInv (f_law_ordered T)) (as := f_law_ordered T) (t := ([], b)) (f := famF) ⟨by simp, hb⟩ fam_step
    rw [FInv, List.take_length] at k
    rw [show t = _ from ht]
    exact fam_ok hs g k.1
/-! exchange -/
theorem fs_congr {α β : Type} {f h : α → Option β} : ∀ {l : List α}, (∀ a ∈ l, f a = h a) → l.findSome? f = l.findSome? h
  | [], _ => rfl
  | a :: l, e => by
    rw [List.findSome?_cons, List.findSome?_cons, e a (by simp), fs_congr fun x hx => e x (by simp [hx])]
theorem run_findB {α γ lam μ : Type} {f : Unit → α → Out Unit Unit γ} {h : α → Option γ} {k : Out μ lam γ} (hf : ∀ a, f () a = (match h a with | some r => .rt r | none => .nx ())) {as : List α} :
    ((FL.run f () as).done : Out Unit lam γ).bind (fun _ => k) = (match as.findSome? h with | some r => .rt r | none => k) := by
  rw [run_find hf]
  cases as.findSome? h <;> rfl
abbrev ad (T : List Bool) (m k : Int) : Bool := !bit m k && at_ T (m + pw k)
theorem addable_eq (hs : SZ s) {O : List (List Int)} {m : Int} (m0 : 0 ≤ m) (m1 : m < pw s) : f_Family_addable ⟨s, T, O⟩ (things m) = (rng 0 s).filter (ad T m) := by
  have n := pw_sz hs
  have s6 := hs.2
  rw [f_Family_addable_eq]
  show List.foldl _ [] _ = _
  rw [fold_filter (p := fun k => decide ((Int.fmod (Int.fdiv (f_mask_of (things m)) (pw k)) 2) = 0) && at_ T (f_mask_of (things m) + pw k))]
  · rw [List.nil_append, mask_things m0 (by omega)]
    apply List.filter_congr
    intro k hk
    obtain ⟨k0, k1⟩ := mem_rng.mp hk
    have k1' : k < s := k1
    rw [bit_4 m0 (by omega) k0 (by omega)]
  · intro t k
    rfl
theorem addable_ok (hs : SZ s) (g : Good s T) {O : List (List Int)} {m : Int} (m0 : 0 ≤ m) (m1 : m < pw s) : ok_Family_addable ⟨s, T, O⟩ (things m) := by
  have n := pw_sz hs
  have s6 := hs.2
  have gl := g.len
  refine ⟨ok_mask rfl, fun ma hma u hu => ⟨bd hs, fun i k t hi ht => ?_⟩⟩
  rw [mask_things m0 (by omega)] at hma
  subst hma; subst hu
  have e := (rng_at hi).1
  have l : (i : Int) < s - 0 := (rng_at hi).2
  refine ⟨cpow (by omega) (by omega), cdivn (by omega) (by omega), fun hb => ⟨cpow (by omega) (by omega), ?_⟩, fun _ => ?_⟩
  · rw [bit_4 m0 (by omega) (by omega) (by omega)] at hb
    have b : bit ma k = false := by cases h : bit ma k; rfl; rw [h] at hb; cases hb
    have a := add_lt hs m0 m1 (by omega) (by omega) b
    have p := pw_pos (k := k) (by omega) (by omega)
    exact inIx_of (by show 0 ≤ ma + pw k; omega) (by show ma + pw k < (T.length : Int); omega)
  · have : t.length ≤ i := by
      rw [show t = _ from ht]
      refine fold_idx' (fun i (t : List Int) => t.length ≤ i) hi (Nat.le_refl 0) fun i a u _ hu => ?_
      show List.length (bif (decide ((Int.fmod (Int.fdiv ma (pw a)) 2) = 0) && at_ T (ma + pw a)) then u ++ [a] else u) ≤ _
      cases (decide ((Int.fmod (Int.fdiv ma (pw a)) 2) = 0) && at_ T (ma + pw a)) <;> simp <;> omega
    omega
abbrev exP (F : Family) (a b : List Int) : Bool := decide ((a.length : Int) < (b.length : Int)) && (!((b.map fun k => decide (k ∈ f_Family_addable F a)).any id))
abbrev PR := List Int × List Int
theorem fault_eq {F : Family} : f_exchange_fault F = (F.sets.findSome? fun a => F.sets.findSome? fun b => if exP F a b then some (some (a, b)) else none).getD none := by
  rw [f_exchange_fault_eq]
  unfold o_exchange_fault
  rw [run_findB (h := fun a => F.sets.findSome? fun b => if exP F a b then some (some (a, b)) else none)]
  · cases List.findSome? _ F.sets <;> rfl
  · intro a
    show (Out.bind (Out.done _) fun _ => Out.nx ()) = _
    rw [run_findB (h := fun b => if exP F a b then some (some (a, b)) else none)]
    intro b
    show (bif exP F a b then _ else _) = _
    cases exP F a b <;> rfl
abbrev frF (T : List Bool) (m : Int) (t k : Int) : Int :=
  lt (bif (decide (PySem.Builtin.bitAnd (m / 2 ^ k.toNat) 1 = 0) && at_ T (PySem.Builtin.bitOr m (pw k))) then lt (PySem.Builtin.bitOr t (pw k)) fun y => y else t) fun z => z
def free (s : Int) (T : List Bool) (m : Int) : Int := (rng 0 s).foldl (frF T m) 0
theorem free_go (hs : SZ s) {m : Int} (m0 : 0 ≤ m) (m1 : m < pw s) : (0 ≤ free s T m ∧ free s T m < 64) ∧ ∀ k : Int, 0 ≤ k → k < 6 → bit (free s T m) k = (decide (k < s) && ad T m k) := by
  have n := pw_sz hs
  have s1 := hs.1
  have s6 := hs.2
  have h := fold_idx_all (as := rng 0 s) (t := (0 : Int)) (f := frF T m) (fun i t => (0 ≤ t ∧ t < 64) ∧ ∀ k : Int, 0 ≤ k → k < 6 → bit t k = (decide (k < (i : Int)) && ad T m k))
    ⟨by omega, fun k k0 k1 => by
      rw [show bit 0 k = false from fin6 (P := fun k => bit 0 k = false) (by decide +kernel) k0 k1, decide_eq_false (by omega), Bool.false_and]⟩ fun i a t ha ht => by
      have e := (rng_at ha).1
      have l := (rng_at ha).2
      obtain ⟨⟨t1, t2⟩, t3⟩ := ht
      show (0 ≤ (bif _ then PySem.Builtin.bitOr t (pw a) else t) ∧ (bif _ then PySem.Builtin.bitOr t (pw a) else t) < 64) ∧ ∀ k : Int, 0 ≤ k → k < 6 → bit (bif (decide (PySem.Builtin.bitAnd (m / 2 ^ a.toNat) 1 = 0) && at_ T (PySem.Builtin.bitOr m (pw a))) then PySem.Builtin.bitOr t (pw a) else t) k = _
      have q : (decide (PySem.Builtin.bitAnd (m / 2 ^ a.toNat) 1 = 0) && at_ T (PySem.Builtin.bitOr m (pw a))) = ad T m a := by
        rw [bit_3 m0 (by omega) (by omega) (by omega)]
        cases b : bit m a with
        | true => show _ = (!bit m a && _); rw [b]; rfl
        | false => rw [bit_or m0 (by omega) (by omega) (by omega) b]; show _ = (!bit m a && _); rw [b]
      rw [q]
      cases c : ad T m a with
      | true =>
        have p := pw_pos (k := a) (by omega) (by omega)
        have r := fin64_6 (P := fun t a => 0 ≤ PySem.Builtin.bitOr t (pw a) ∧ PySem.Builtin.bitOr t (pw a) < 64) (by decide +kernel) t1 t2 (k := a) (by omega) (by omega)
        refine ⟨r, fun k k0 k1 => ?_⟩
        show bit (PySem.Builtin.bitOr t (pw a)) k = _
        rw [bit_or1 t1 t2 (by omega) (by omega) k0 k1, t3 k k0 k1]
        by_cases ka : k = a
        · subst ka; rw [c, decide_eq_true (show k < ((i + 1 : Nat) : Int) by omega), decide_eq_true rfl]; simp
        · rw [decide_eq_false ka, Bool.or_false]
          congr 1
          rw [decide_eq_decide]; omega
      | false =>
        refine ⟨⟨t1, t2⟩, fun k k0 k1 => ?_⟩
        show bit t k = _
        rw [t3 k k0 k1]
        by_cases ka : k = a
        · subst ka; rw [c]; simp
        · congr 1
          rw [decide_eq_decide]; omega
  rw [rng_len] at h
  have : ((s - 0).toNat : Int) = s := by omega
  rw [this] at h
  exact h
end
end G

namespace G
open PySem L2 FL
theorem map_at_rng {α : Type} [Inhabited α] {O : List α} : (rng 0 (O.length : Int)).map (at_ O) = O := by
  refine list_at (by rw [List.length_map, rng_len]; omega) fun i i0 i1 => ?_
  rw [List.length_map, rng_len] at i1
  rw [at_map_rng i0 (by omega)]
theorem at_map {α β : Type} [Inhabited α] [Inhabited β] {f : α → β} {l : List α} {i : Int} (h : 0 ≤ i) (hl : i < l.length) : at_ (l.map f) i = f (at_ l i) := by
  have hi : i.toNat < l.length := by omega
  rw [at_nat h, at_nat h, List.getD_eq_getElem?_getD, List.getD_eq_getElem?_getD, List.getElem?_map, List.getElem?_eq_getElem hi]; rfl
theorem pair_le {O : List (List Int)} (h : O.Pairwise fun a b => a.length ≤ b.length) {i j : Int} (i0 : 0 ≤ i) (ij : i ≤ j) (jl : j < O.length) : (at_ O i).length ≤ (at_ O j).length := by
  by_cases c : i = j
  · rw [c]; exact Nat.le_refl _
  · have a : i.toNat < O.length := by omega
    have b : j.toNat < O.length := by omega
    rw [at_nat i0, at_nat (by omega), List.getD_eq_getElem?_getD, List.getD_eq_getElem?_getD, List.getElem?_eq_getElem a, List.getElem?_eq_getElem b]
    exact List.pairwise_iff_getElem.mp h i.toNat j.toNat a b (by omega)
abbrev dueQ (O : List (List Int)) (M : List Int) (fr : Int) (k j : Int) : Bool := decide ((((at_ O k)).length : Int) < (((at_ O j)).length : Int)) && decide ((PySem.Builtin.bitAnd (at_ M j) fr) = (0 : Int))
section
variable {s : Int} {T : List Bool}
theorem due_eq : f_law_due T s = ((rng 0 ((f_law_ordered T).length : Int)).findSome? fun k => (rng (k + 1) ((f_law_ordered T).length : Int)).findSome? fun j =>
    if dueQ (f_law_ordered T) ((f_law_ordered T).map fun x => f_law_mask x) (free s T (at_ ((f_law_ordered T).map fun x => f_law_mask x) k)) k j then some (some (at_ (f_law_ordered T) k, at_ (f_law_ordered T) j)) else none).getD none := by
  rw [f_law_due_eq]
  refine get_lt (P := fun r => r = _) fun O hO => get_lt (P := fun r => r = _) fun M hM => ?_
  rw [← hO, ← hM]
  rw [run_findB (h := fun k => (rng (k + 1) (O.length : Int)).findSome? fun j => if dueQ O M (free s T (at_ M k)) k j then some (some (at_ O k, at_ O j)) else none)]
  · cases List.findSome? _ (rng 0 (O.length : Int)) <;> rfl
  · intro k
    show (Out.bind (Out.done _) fun _ => Out.nx ()) = _
    rw [run_findB (h := fun j => if dueQ O M (free s T (at_ M k)) k j then some (some (at_ O k, at_ O j)) else none)]
    intro j
    show (bif dueQ O M (free s T (at_ M k)) k j then _ else _) = _
    cases dueQ O M (free s T (at_ M k)) k j <;> rfl
theorem ord_at (hs : SZ s) (g : Good s T) {k : Int} (k0 : 0 ≤ k) (k1 : k < (f_law_ordered T).length) : ∃ m : Int, (0 ≤ m ∧ m < pw s) ∧ at_ T m = true ∧ at_ (f_law_ordered T) k = things m ∧ at_ ((f_law_ordered T).map fun x => f_law_mask x) k = m := by
  have n := pw_sz hs
  obtain ⟨m, hm, h, e⟩ := (mem_ordered hs g).mp (at_mem k0 k1)
  refine ⟨m, hm, h, e, ?_⟩
  rw [at_map k0 k1, e, lmask_eq, mask_things hm.1 (by omega)]
theorem same (hs : SZ s) (g : Good s T) : f_exchange_fault ⟨s, T, f_law_ordered T⟩ = f_law_due T s := by
  have n := pw_sz hs
  have s6 := hs.2
  have ol := ordered_len hs g
  rw [fault_eq, due_eq]
  congr 1
  generalize hF : (Family.mk s T (f_law_ordered T)) = F
  have hO : F.sets = f_law_ordered T := by rw [← hF]
  rw [hO]
  have e1 : ∀ h : List Int → Option (Option PR), (f_law_ordered T).findSome? h = (rng 0 ((f_law_ordered T).length : Int)).findSome? fun k => h (at_ (f_law_ordered T) k) := fun h => by
    conv => lhs; rw [← map_at_rng (O := f_law_ordered T)]
    rw [List.findSome?_map]; rfl
  rw [e1]
  refine fs_congr fun k hk => ?_
  obtain ⟨k0, k1⟩ := mem_rng.mp hk
  rw [e1, rng_app (b := k + 1) (by omega) (by omega), List.findSome?_append]
  have z : List.findSome? (fun j => if exP F (at_ (f_law_ordered T) k) (at_ (f_law_ordered T) j) then some (some (at_ (f_law_ordered T) k, at_ (f_law_ordered T) j)) else none) (rng 0 (k + 1)) = none := by
    rw [List.findSome?_eq_none_iff]
    intro j hj
    obtain ⟨j0, j1⟩ := mem_rng.mp hj
    have l := pair_le (ordered_up hs g) j0 (show j ≤ k by omega) k1
    have : exP F (at_ (f_law_ordered T) k) (at_ (f_law_ordered T) j) = false := by
      unfold exP
      rw [decide_eq_false (by omega), Bool.false_and]
    rw [this]; rfl
  rw [z, Option.none_or]
  refine fs_congr fun j hj => ?_
  obtain ⟨j0, j1⟩ := mem_rng.mp hj
  obtain ⟨m, hm, hT, em, eM⟩ := ord_at hs g k0 k1
  obtain ⟨m2, hm2, hT2, em2, eM2⟩ := ord_at hs g (k := j) (by omega) j1
  have q : exP F (at_ (f_law_ordered T) k) (at_ (f_law_ordered T) j) = dueQ (f_law_ordered T) ((f_law_ordered T).map fun x => f_law_mask x) (free s T (at_ ((f_law_ordered T).map fun x => f_law_mask x) k)) k j := by
    unfold exP dueQ
    congr 1
    rw [eM, eM2, em, em2, ← hF, addable_eq hs hm.1 hm.2]
    obtain ⟨f1, f2⟩ := free_go (T := T) hs hm.1 hm.2
    rw [Bool.eq_iff_iff, and_zero hm2.1 (by omega) f1.1 f1.2, Bool.not_eq_true', List.any_map, List.any_eq_false]
    constructor
    · intro h t t0 t1 b
      have h := h t (mem_things.mpr ⟨⟨t0, t1⟩, b⟩)
      have h : ¬ t ∈ (rng 0 s).filter (ad T m) := fun z => h (decide_eq_true z)
      rw [f2 t t0 t1]
      cases c : decide (t < s) && ad T m t with
      | false => rfl
      | true =>
        rw [Bool.and_eq_true] at c
        exact absurd (List.mem_filter.mpr ⟨mem_rng.mpr ⟨t0, of_decide_eq_true c.1⟩, c.2⟩) h
    · intro h t ht e
      obtain ⟨⟨t0, t1⟩, b⟩ := mem_things.mp ht
      have e : decide (t ∈ (rng 0 s).filter (ad T m)) = true := e
      obtain ⟨x1, x2⟩ := List.mem_filter.mp (of_decide_eq_true e)
      have := h t t0 t1 b
      rw [f2 t t0 t1, x2, decide_eq_true (mem_rng.mp x1).2] at this
      cases this
  rw [q]
/-- what due tells are sets -/
theorem due_mem (hs : SZ s) (g : Good s T) {p : PR} (h : f_law_due T s = some p) : p.1.length ≤ 6 ∧ p.2.length ≤ 6 := by
  rw [due_eq] at h
  generalize hr : List.findSome? _ (rng 0 ((f_law_ordered T).length : Int)) = r at h
  cases r with
  | none => cases h
  | some r =>
    obtain ⟨k, hk, e⟩ := List.exists_of_findSome?_eq_some hr
    obtain ⟨j, hj, e⟩ := List.exists_of_findSome?_eq_some e
    obtain ⟨k0, k1⟩ := mem_rng.mp hk
    obtain ⟨j0, j1⟩ := mem_rng.mp hj
    obtain ⟨m, hm, hT, em, eM⟩ := ord_at hs g k0 k1
    obtain ⟨m2, hm2, hT2, em2, eM2⟩ := ord_at hs g (k := j) (by omega) j1
    split at e
    · cases e
      cases h
      exact ⟨by show (at_ (f_law_ordered T) k).length ≤ 6; rw [em]; exact things_len, by show (at_ (f_law_ordered T) j).length ≤ 6; rw [em2]; exact things_len⟩
    · cases e
theorem due_ok (hs : SZ s) (g : Good s T) : ok_law_due T s := by
  have n := pw_sz hs
  have s6 := hs.2
  have ol := ordered_len hs g
  have gl := g.len
  refine ⟨ok_ordered hs g, fun O hO => ⟨fun x hx => ?_, fun M hM => ⟨by subst hO; omega, fun i k u hi _ fr hfr => ⟨bd hs, fun i2 t w hi2 _ => ?_, fun s2 hs2 => ⟨?_, fun i3 j v hi3 _ => ?_⟩⟩⟩⟩⟩
  · subst hO
    obtain ⟨m, _, _, e⟩ := (mem_ordered hs g).mp hx
    exact ok_lmask e
  · subst hO
    have e := (rng_at hi).1
    have l := (rng_at hi).2
    have e2 := (rng_at hi2).1
    have l2 : (i2 : Int) < s - 0 := (rng_at hi2).2
    obtain ⟨m, hm, hT, em, eM⟩ := ord_at hs g (k := k) (by omega) (by omega)
    rw [← hM] at eM
    have Ml : M.length = (f_law_ordered T).length := by rw [hM, List.length_map]
    refine ⟨inIx_of (by omega) (by omega), by omega, fun hb => ⟨inIx_of (by omega) (by omega), cpow (by omega) (by omega), ?_⟩, fun _ => cpow (by omega) (by omega)⟩
    rw [eM] at hb ⊢
    rw [bit_3 hm.1 (by omega) (by omega) (by omega)] at hb
    have b : bit m t = false := by cases h : bit m t; rfl; rw [h] at hb; cases hb
    have a := add_lt hs hm.1 hm.2 (k := t) (by omega) (by omega) b
    have p := pw_pos (k := t) (by omega) (by omega)
    show inIx T.length (PySem.Builtin.bitOr m (pw t))
    rw [bit_or hm.1 (by omega) (by omega) (by omega) b]
    exact inIx_of (by omega) (by omega)
  · subst hO
    have e := (rng_at hi).1
    have l := (rng_at hi).2
    omega
  · subst hO
    have e := (rng_at hi).1
    have l := (rng_at hi).2
    have e3 := (rng_at hi3).1
    have l3 := (rng_at hi3).2
    have Ml : M.length = (f_law_ordered T).length := by rw [hM, List.length_map]
    exact ⟨inIx_of (by omega) (by omega), inIx_of (by omega) (by omega), fun _ => inIx_of (by omega) (by omega), fun _ => ⟨inIx_of (by omega) (by omega), inIx_of (by omega) (by omega)⟩⟩
theorem fault_ok (hs : SZ s) (g : Good s T) : ok_exchange_fault ⟨s, T, f_law_ordered T⟩ := fun i x u hi _ => by
  obtain ⟨m, hm, _, e⟩ := (mem_ordered hs g).mp (List.mem_of_getElem? (show (f_law_ordered T)[i]? = some x from hi))
  subst e
  exact addable_ok hs g hm.1 hm.2
end
theorem isset_eq {x : List Int} : f_law_is_set x x = true := by
  rw [f_law_is_set_eq]
  show Out.get (bif ((!true) || (!decide ((x.length : Int) = (x.length : Int)))) then _ else _) = true
  rw [decide_eq_true rfl]
  show Out.get (Out.bind (Out.done _) _) = true
  rw [run_findB (h := fun _ : Int => (none : Option Bool))]
  · have : List.findSome? (fun _ : Int => (none : Option Bool)) (rng 0 (x.length : Int)) = none := by
      rw [List.findSome?_eq_none_iff]; intro _ _; rfl
    rw [this]; rfl
  · intro k
    show (bif ((!true) || (false || (!decide ((at_ x k) = (at_ x k))))) then _ else _) = _
    rw [decide_eq_true rfl]; rfl
theorem isset_ok {x : List Int} (h : x.length ≤ 6) : ok_law_is_set x x := fun _ => ⟨by omega, fun i k u hi _ => by
  have e := (rng_at hi).1
  have l := (rng_at hi).2
  exact ⟨inIx_of (by omega) (by omega), fun _ => ⟨inIx_of (by omega) (by omega), fun _ => ⟨inIx_of (by omega) (by omega), inIx_of (by omega) (by omega)⟩⟩⟩⟩
theorem right_eq {d : Option PR} : f_law_right d d = true := by
  rw [f_law_right_eq]
  cases d with
  | none => rfl
  | some p =>
    show (f_law_is_set p.1 p.1 && f_law_is_set p.2 p.2) = true
    rw [isset_eq, isset_eq]; rfl
theorem right_ok {d : Option PR} (h : ∀ p, d = some p → p.1.length ≤ 6 ∧ p.2.length ≤ 6) : ok_law_right d d := by
  cases d with
  | none => exact fun c => by cases c
  | some p =>
    obtain ⟨a, b⟩ := h p rfl
    exact fun _ => ⟨fun _ => rfl, fun _ => ⟨rfl, rfl, isset_ok a, fun _ => ⟨rfl, rfl, isset_ok b⟩⟩⟩
abbrev AS := BoxD × List Family × List (Option PR)
abbrev allF (t : AS) (k : Int) : AS :=
  (lt ((1 : Int) + (f_law_draw t.1 (6 : Int)).1) fun size => (lt ((f_law_draw t.1 (6 : Int)).2) fun b1 => (lt ((f_law_inside b1 size).1) fun inside => (lt ((f_law_inside b1 size).2) fun b2 => (lt (t.2.1 ++ [(f_law_family b2 inside size).1]) fun fams => (lt ((f_law_family b2 inside size).2) fun b3 => (lt (t.2.2 ++ [(f_law_due inside size)]) fun dues => (b3, fams, dues))))))))
def AInv (i : Nat) (t : AS) : Prop := BoxOk t.1 ∧ t.2.1.length = i ∧ t.2.2.length = i ∧ ∀ j : Int, 0 ≤ j → j < (i : Int) → ∃ (s : Int) (T : List Bool), SZ s ∧ Good s T ∧ at_ t.2.1 j = ⟨s, T, f_law_ordered T⟩ ∧ at_ t.2.2 j = f_law_due T s
theorem all_step (i : Nat) (k : Int) (t : AS) (_ : (rng 0 3)[i]? = some k) (h : AInv i t) : AInv (i + 1) (allF t k) := by
  obtain ⟨h1, h2, h3, h4⟩ := h
  have d1 := draw_go t.1 6 h1 (by omega)
  have hs : SZ (1 + (f_law_draw t.1 6).1) := ⟨by omega, by omega⟩
  have gi := inside_go hs d1.2.2
  have fg := family_go hs gi.1 gi.2
  refine ⟨fg.2, ?_, ?_, fun j j0 j1 => ?_⟩
  · show (t.2.1 ++ [_]).length = _
    rw [List.length_append, h2]; rfl
  · show (t.2.2 ++ [_]).length = _
    rw [List.length_append, h3]; rfl
  · by_cases c : j < (i : Int)
    · obtain ⟨s, T, a1, a2, a3, a4⟩ := h4 j j0 c
      refine ⟨s, T, a1, a2, ?_, ?_⟩
      · show at_ (t.2.1 ++ [_]) j = _
        rw [at_app j0 (by omega)]; exact a3
      · show at_ (t.2.2 ++ [_]) j = _
        rw [at_app j0 (by omega)]; exact a4
    · refine ⟨_, _, hs, gi.1, ?_, ?_⟩
      · show at_ (t.2.1 ++ [_]) j = _
        rw [at_snoc (by omega)]; exact fg.1
      · show at_ (t.2.2 ++ [_]) j = _
        rw [at_snoc (by omega)]
theorem box_ok {ns : List Int} (h : ns.length ≤ 63) : BoxOk (f_law_box ns) := by
  rw [f_law_box_eq]
  refine ⟨?_, Int.le_refl _⟩
  show (List.map _ ns).length ≤ 63
  rw [List.length_map]; exact h
theorem AInv0 {ns : List Int} (h : ns.length ≤ 63) : AInv 0 (f_law_box ns, [], []) := ⟨box_ok h, rfl, rfl, fun j j0 j1 => by omega⟩
theorem all_inv {ns : List Int} (h : ns.length ≤ 63) : AInv 3 ((rng 0 3).foldl allF (f_law_box ns, [], [])) := fold_idx_all (as := rng 0 3) (f := allF) AInv (AInv0 h) all_step
theorem loop_none {f : Unit → Int → Out Unit Unit Bool} {L : List Int} (h : ∀ k ∈ L, f () k = .nx ()) : ∀ {u : Unit}, (FL.run f u L) = .nx () := by
  induction L with
  | nil => intro u; rfl
  | cons a L ih =>
    intro u
    unfold FL.run
    rw [h a (by simp)]
    exact ih fun k hk => h k (by simp [hk])
theorem all_true {ns : List Int} (h : ns.length ≤ 63) : f_law_all ns = true := by
  rw [f_law_all_eq]
  refine get_lt (P := fun r => r = true) fun b hb => get_lt (P := fun r => r = true) fun fams hfa => get_lt (P := fun r => r = true) fun dues hdu => get_lt (P := fun r => r = true) fun t ht => ?_
  subst hfa; subst hdu; subst hb
  have A : AInv 3 t := by rw [show t = _ from ht]; exact all_inv h
  obtain ⟨_, _, _, A⟩ := A
  rw [loop_none, loop_none]
  · rfl
  · intro k hk
    obtain ⟨k0, k1⟩ := mem_rng.mp hk
    obtain ⟨s, T, hs, g, e1, e2⟩ := A (2 - k) (by omega) (by omega)
    rw [e1, e2, same hs g, right_eq]; rfl
  · intro k hk
    obtain ⟨k0, k1⟩ := mem_rng.mp hk
    obtain ⟨s, T, hs, g, e1, e2⟩ := A k (by omega) (by omega)
    rw [e1, e2, same hs g, right_eq]; rfl
theorem all_ok {ns : List Int} (h : ns.length ≤ 63) : ok_law_all ns := by
  intro b hb fams hfa dues hdu
  subst hfa; subst hdu; subst hb
  refine ⟨fun i k t hi ht => ?_, fun t ht => ?_⟩
  · have A : AInv i t := by rw [show t = _ from ht]; exact fold_idx' (f := allF) AInv hi (AInv0 h) all_step
    obtain ⟨h1, h2, h3, h4⟩ := A
    have l := (rng_at hi).2
    have d1 := draw_go t.1 6 h1 (by omega)
    refine ⟨draw_ok t.1 6 h1 (by omega) (by omega), fun s hs b1 hb1 => ?_⟩
    have hs' : SZ s := ⟨by omega, by omega⟩
    rw [← hb1] at d1
    have gi := inside_go hs' d1.2.2
    refine ⟨inside_ok hs' d1.2.2, fun T hT b2 hb2 => ?_⟩
    have g : Good s T := by rw [hT]; exact gi.1
    have hb2' : BoxOk b2 := by rw [hb2]; exact gi.2
    exact ⟨family_ok hs' g hb2', by omega, fun _ _ _ _ => ⟨due_ok hs' g, by omega⟩⟩
  · have A : AInv 3 t := by rw [show t = _ from ht]; exact all_inv h
    obtain ⟨_, A1, A2, A⟩ := A
    refine ⟨fun i k u hi _ => ?_, fun u _ i k w hi _ => ?_⟩
    · have e := (rng_at hi).1
      have l := (rng_at hi).2
      obtain ⟨s, T, hs, g, e1, e2⟩ := A k (by omega) (by omega)
      rw [e1, e2, same hs g]
      exact ⟨inIx_of (by omega) (by omega), fault_ok hs g, inIx_of (by omega) (by omega), right_ok fun p hp => due_mem hs g hp⟩
    · have e := (rng_at hi).1
      have l := (rng_at hi).2
      obtain ⟨s, T, hs, g, e1, e2⟩ := A (2 - k) (by omega) (by omega)
      rw [e1, e2, same hs g]
      exact ⟨inIx_of (by omega) (by omega), fault_ok hs g, inIx_of (by omega) (by omega), right_ok fun p hp => due_mem hs g hp⟩
theorem main_ok (ns : List Int) (h : ns.length ≤ 63) : ok_law ns ∧ f_law ns = true := by
  refine ⟨all_ok h, ?_⟩
  rw [f_law_eq]
  exact all_true h
end G

namespace G
open PySem L2 FL
theorem walk {l : PySem.W.OpenLaw} {q : Program} {loose : List Str} {XP : (Str → Option Value) → Heap → Prop} {YP : World → Heap → Prop} {d : DefRec} {K : Params → PySem.W.Frag} (hm : ∀ ns : List Int, ns.length ≤ 63 → ok_law ns ∧ f_law ns = true) (hn : l.most = some 63) (hdf : d.params.defaults = [])
    (hY : ∀ (w : World) (h : Heap), YP w h → (K w.params).In h)
    (F : ∀ (w : World) (mg : Str → Option Value) (fa : Addr) (h : Heap), (K w.params).In h → h.Ns mainGlobals mg → mg d.name = some (.ref fa) →
      ∃ fd : FuncData, (∀ (s : Shared) (u : Value), BindsTo s fd ⟨[u], []⟩ [("script", u)]) ∧ ∀ base : Heap, (K w.params).In base → base.Ns mainGlobals mg → FnOk l.prog w (K w.params) mg base CX0 8 fa fd ["script"] (sp_law (K := K w.params))) :
    PySem.W.WalkO q loose XP YP l.row.toRowW d [] (fun f vs => PySem.call f vs) :=
  L2.walk_of (n := 63) (k := 8) (x := "script") (CX := fun _ => CX0) (sp := fun w => sp_law (K := K w.params)) hn (by decide) hdf ⟨rfl, by decide, by decide⟩ hY F
    (fun w H a ns hl _ hS => law_sp (hm ns hl).1 (hm ns hl).2 hl hS) fun _ _ _ _ _ z => z
end G

open PySem PySem.W PyProof.Rows in
set_option maxRecDepth 100000 in
set_option maxHeartbeats 0 in
theorem PySem.Challenge.cw_greatestnext_k20_exchange_fault_holds : PySem.Challenge.rw_greatestnext_k20_exchange_fault.Holds := by
  w_on; o_law; k_head; (case hw => w_witness2)
  k_fill
  refine G.walk (l := PySem.Challenge.rw_greatestnext_k20_exchange_fault) G.main_ok rfl rfl (fun w h Y => PySem.W.kIn_of Y) ?F
  case F =>
    intro w mg fa h KX Gn hmg
    refine' G.all_mk KX Gn hmg ?aC_Family ?a_is_thing ?l_is_thing ?cc_is_thing ?k_is_thing ?a_is_set ?l_is_set ?cc_is_set ?k_is_set ?a_check_size ?l_check_size ?cc_check_size ?k_check_size ?a_checked_sets ?l_checked_sets ?cc_checked_sets ?k_checked_sets ?a_mask_of ?l_mask_of ?cc_mask_of ?k_mask_of ?a_things_of ?l_things_of ?cc_things_of ?k_things_of ?a_all_sets ?l_all_sets ?cc_all_sets ?k_all_sets ?a_is_within ?l_is_within ?cc_is_within ?k_is_within ?a_Family_init ?i_Family_init ?l_Family_init ?cc_Family_init ?k_Family_init ?a_Family_addable ?i_Family_addable ?l_Family_addable ?cc_Family_addable ?k_Family_addable ?a_exchange_fault ?l_exchange_fault ?cc_exchange_fault ?k_exchange_fault ?a_law_draw ?l_law_draw ?cc_law_draw ?k_law_draw ?a_law_things ?l_law_things ?cc_law_things ?k_law_things ?a_law_counts ?l_law_counts ?cc_law_counts ?k_law_counts ?a_law_closed ?l_law_closed ?cc_law_closed ?k_law_closed ?a_law_vectors ?l_law_vectors ?cc_law_vectors ?k_law_vectors ?a_law_quotas ?l_law_quotas ?cc_law_quotas ?k_law_quotas ?a_law_full ?l_law_full ?cc_law_full ?k_law_full ?a_law_inside ?l_law_inside ?cc_law_inside ?k_law_inside ?a_law_ordered ?l_law_ordered ?cc_law_ordered ?k_law_ordered ?a_law_mask ?l_law_mask ?cc_law_mask ?k_law_mask ?a_law_due ?l_law_due ?cc_law_due ?k_law_due ?a_law_family ?l_law_family ?cc_law_family ?k_law_family ?a_law_is_set ?l_law_is_set ?cc_law_is_set ?k_law_is_set ?a_law_right ?l_law_right ?cc_law_right ?k_law_right ?a_law_box ?l_law_box ?cc_law_box ?k_law_box ?a_law_all ?l_law_all ?cc_law_all ?k_law_all ?a_law ?l_law ?cc_law ?k_law ?pg_Family ?hd_Family ?po_Family ?sa_Family ?mk_Family ?kc_Family ?na_Family_size ?na_Family_table ?na_Family_sets ?z_abs ?z_all ?z_any ?z_bool ?z_enumerate ?z_int ?z_isinstance ?z_len ?z_list ?z_range ?z_sorted ?z_sum ?z_tuple ?g_MOST_THINGS
    (case aC_Family => k_is)
    (case a_is_thing => k_is)
    (case l_is_thing => k_is)
    (case cc_is_thing => k_is)
    (case k_is_thing => k_is)
    (case a_is_set => k_is)
    (case l_is_set => k_is)
    (case cc_is_set => k_is)
    (case k_is_set => k_is)
    (case a_check_size => k_is)
    (case l_check_size => k_is)
    (case cc_check_size => k_is)
    (case k_check_size => k_is)
    (case a_checked_sets => k_is)
    (case l_checked_sets => k_is)
    (case cc_checked_sets => k_is)
    (case k_checked_sets => k_is)
    (case a_mask_of => k_is)
    (case l_mask_of => k_is)
    (case cc_mask_of => k_is)
    (case k_mask_of => k_is)
    (case a_things_of => k_is)
    (case l_things_of => k_is)
    (case cc_things_of => k_is)
    (case k_things_of => k_is)
    (case a_all_sets => k_is)
    (case l_all_sets => k_is)
    (case cc_all_sets => k_is)
    (case k_all_sets => k_is)
    (case a_is_within => k_is)
    (case l_is_within => k_is)
    (case cc_is_within => k_is)
    (case k_is_within => k_is)
    (case a_Family_init => k_is)
    (case i_Family_init => k_is)
    (case l_Family_init => k_is)
    (case cc_Family_init => k_is)
    (case k_Family_init => k_is)
    (case a_Family_addable => k_is)
    (case i_Family_addable => k_is)
    (case l_Family_addable => k_is)
    (case cc_Family_addable => k_is)
    (case k_Family_addable => k_is)
    (case a_exchange_fault => k_is)
    (case l_exchange_fault => k_is)
    (case cc_exchange_fault => k_is)
    (case k_exchange_fault => k_is)
    (case a_law_draw => k_is)
    (case l_law_draw => k_is)
    (case cc_law_draw => k_is)
    (case k_law_draw => k_is)
    (case a_law_things => k_is)
    (case l_law_things => k_is)
    (case cc_law_things => k_is)
    (case k_law_things => k_is)
    (case a_law_counts => k_is)
    (case l_law_counts => k_is)
    (case cc_law_counts => k_is)
    (case k_law_counts => k_is)
    (case a_law_closed => k_is)
    (case l_law_closed => k_is)
    (case cc_law_closed => k_is)
    (case k_law_closed => k_is)
    (case a_law_vectors => k_is)
    (case l_law_vectors => k_is)
    (case cc_law_vectors => k_is)
    (case k_law_vectors => k_is)
    (case a_law_quotas => k_is)
    (case l_law_quotas => k_is)
    (case cc_law_quotas => k_is)
    (case k_law_quotas => k_is)
    (case a_law_full => k_is)
    (case l_law_full => k_is)
    (case cc_law_full => k_is)
    (case k_law_full => k_is)
    (case a_law_inside => k_is)
    (case l_law_inside => k_is)
    (case cc_law_inside => k_is)
    (case k_law_inside => k_is)
    (case a_law_ordered => k_is)
    (case l_law_ordered => k_is)
    (case cc_law_ordered => k_is)
    (case k_law_ordered => k_is)
    (case a_law_mask => k_is)
    (case l_law_mask => k_is)
    (case cc_law_mask => k_is)
    (case k_law_mask => k_is)
    (case a_law_due => k_is)
    (case l_law_due => k_is)
    (case cc_law_due => k_is)
    (case k_law_due => k_is)
    (case a_law_family => k_is)
    (case l_law_family => k_is)
    (case cc_law_family => k_is)
    (case k_law_family => k_is)
    (case a_law_is_set => k_is)
    (case l_law_is_set => k_is)
    (case cc_law_is_set => k_is)
    (case k_law_is_set => k_is)
    (case a_law_right => k_is)
    (case l_law_right => k_is)
    (case cc_law_right => k_is)
    (case k_law_right => k_is)
    (case a_law_box => k_is)
    (case l_law_box => k_is)
    (case cc_law_box => k_is)
    (case k_law_box => k_is)
    (case a_law_all => k_is)
    (case l_law_all => k_is)
    (case cc_law_all => k_is)
    (case k_law_all => k_is)
    (case a_law => k_is)
    (case l_law => k_is)
    (case cc_law => k_is)
    (case k_law => k_is)
    (case pg_Family => k_is)
    (case hd_Family => k_is)
    (case po_Family => k_is)
    (case sa_Family => k_is)
    (case mk_Family => k_is)
    (case kc_Family => k_is)
    (case na_Family_size => k_is)
    (case na_Family_table => k_is)
    (case na_Family_sets => k_is)
    (case z_abs => k_is)
    (case z_all => k_is)
    (case z_any => k_is)
    (case z_bool => k_is)
    (case z_enumerate => k_is)
    (case z_int => k_is)
    (case z_isinstance => k_is)
    (case z_len => k_is)
    (case z_list => k_is)
    (case z_range => k_is)
    (case z_sorted => k_is)
    (case z_sum => k_is)
    (case z_tuple => k_is)
    (case g_MOST_THINGS => k_is)
