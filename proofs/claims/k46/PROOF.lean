import PyProof.Rows.All
import Wide.All
import OpenK.AllK
import Wide.FinOn
import HandS.ForMost
import HandS.Wide
import HandS.Evl
import HandS.IsInst
import HandS.Defaults
import HandS.More
import HandS.Deep
import HandS.SetFor
import PySem.Challenge.RW_projectdays_k46_whole_small_companies_by
set_option Elab.async false
set_option linter.all false
set_option maxRecDepth 100000
set_option maxHeartbeats 4000000

namespace Tp
open PySem PySem.Spec PyProof.Rows L2
open Evl (Ex)

/-! ### two heaps: the whole one, and the part that stays as it is -/
structure Ok (H F H' F' : Hp) : Prop where
  h : Ex H H'
  f : Ex F F'
  i : Ex F' H'
  r : ∀ a o, F' a = some o → F a = some o ∨ H a = none
theorem none_of {H H' : Hp} (e : Ex H H') {a : Addr} (h : H' a = none) : H a = none := by
  cases q : H a with
  | none => rfl
  | some o => rw [e a o q] at h; cases h
theorem Ok.refl {H F : Hp} (e : Ex F H) : Ok H F H F := ⟨Ex.refl H, Ex.refl F, e, fun _ _ h => .inl h⟩
theorem Ok.trans {H F H' F' H'' F'' : Hp} (a : Ok H F H' F') (b : Ok H' F' H'' F'') : Ok H F H'' F'' :=
  ⟨a.h.trans b.h, a.f.trans b.f, b.i, fun x o h => (b.r x o h).elim (fun z => a.r x o z) fun z => .inr (none_of a.h z)⟩
theorem ex_new2 {F H : Hp} {p : Addr} {o : HO} (e : Ex F H) : Ex (upd F p o) (upd H p o) := fun a u h => by
  by_cases q : a = p
  · subst q; rw [upd_same] at h ⊢; exact h
  · rw [upd_ne q] at h ⊢; exact e a u h
theorem Ok.new {H F H' F' : Hp} {p : Addr} {x : HO} (o : Ok H F H' F') (hp : H' p = none) : Ok H F (upd H' p x) (upd F' p x) :=
  ⟨o.h.trans (Ex.new hp), o.f.trans (Ex.new (none_of o.i hp)), ex_new2 o.i, fun a u h => by
    by_cases q : a = p
    · subst q; exact .inr (none_of o.h hp)
    · rw [upd_ne q] at h; exact o.r a u h⟩
theorem Ok.mut {H F H' F' : Hp} {p : Addr} {x : HO} (o : Ok H F H' F') (hp : H' p = none) : Ok H F (upd H' p x) F' :=
  ⟨o.h.trans (Ex.new hp), o.f, o.i.trans (Ex.new hp), o.r⟩
theorem Ok.set {H F H' F' : Hp} {l : Addr} {x : HO} (o : Ok H F H' F') (hl : F' l = none) (h0 : H l = none) : Ok H F (upd H' l x) F' :=
  ⟨o.h.mut h0, o.f, o.i.mut hl, o.r⟩
theorem Ok.frz {H F H' F' : Hp} {l : Addr} {x : HO} (o : Ok H F H' F') (hl : H' l = some x) (hF : F' l = none) (h0 : H l = none) : Ok H F H' (upd F' l x) :=
  ⟨o.h, o.f.trans (Ex.new hF), fun a u h => by
    by_cases q : a = l
    · subst q; rw [upd_same] at h; rw [hl]; exact h
    · rw [upd_ne q] at h; exact o.i a u h, fun a u h => by
    by_cases q : a = l
    · subst q; exact .inr h0
    · rw [upd_ne q] at h; exact o.r a u h⟩
theorem Ok.base {H F H' F' : Hp} (o : Ok H F H' F') : Ex F H' := o.f.trans o.i

/-! ### what a value tells -/
inductive A2 {α β : Type} (R : α → β → Prop) : List α → List β → Prop where
  | nil : A2 R [] []
  | cons {x y xs ys} (h : R x y) (t : A2 R xs ys) : A2 R (x :: xs) (y :: ys)
section
variable {α β : Type} {R R' : α → β → Prop}
theorem A2.length {xs : List α} {ys : List β} (h : A2 R xs ys) : xs.length = ys.length := by
  induction h with
  | nil => rfl
  | cons _ _ ih => simp [ih]
theorem A2.imp (f : ∀ x y, R x y → R' x y) {xs : List α} {ys : List β} (h : A2 R xs ys) : A2 R' xs ys := by
  induction h with
  | nil => exact .nil
  | cons a _ ih => exact .cons (f _ _ a) ih
theorem A2.get {xs : List α} {ys : List β} (h : A2 R xs ys) {i : Nat} {y : β} (e : ys[i]? = some y) : ∃ x, xs[i]? = some x ∧ R x y := by
  induction h generalizing i with
  | nil => simp at e
  | cons a _ ih =>
    cases i with
    | zero => simp at e; subst e; exact ⟨_, rfl, a⟩
    | succ i => simpa using ih (by simpa using e)
theorem A2.getl {xs : List α} {ys : List β} (h : A2 R xs ys) {i : Nat} {x : α} (e : xs[i]? = some x) : ∃ y, ys[i]? = some y ∧ R x y := by
  induction h generalizing i with
  | nil => simp at e
  | cons a _ ih =>
    cases i with
    | zero => simp at e; subst e; exact ⟨_, rfl, a⟩
    | succ i => simpa using ih (by simpa using e)
theorem A2.app {xs xs' : List α} {ys ys' : List β} (h : A2 R xs ys) (h' : A2 R xs' ys') : A2 R (xs ++ xs') (ys ++ ys') := by
  induction h with
  | nil => exact h'
  | cons a _ ih => exact .cons a ih
theorem A2.snoc {xs : List α} {ys : List β} {x : α} {y : β} (h : A2 R xs ys) (h' : R x y) : A2 R (xs ++ [x]) (ys ++ [y]) := h.app (.cons h' .nil)
theorem A2.set {xs : List α} {ys : List β} {x : α} {y : β} (h : A2 R xs ys) (h' : R x y) (i : Nat) : A2 R (xs.set i x) (ys.set i y) := by
  induction h generalizing i with
  | nil => exact .nil
  | cons a t ih =>
    cases i with
    | zero => exact .cons h' t
    | succ i => exact .cons a (ih i)
theorem A2.drop {xs : List α} {ys : List β} (h : A2 R xs ys) (i : Nat) : A2 R (xs.drop i) (ys.drop i) := by
  induction h generalizing i with
  | nil => simp; exact .nil
  | cons a t ih =>
    cases i with
    | zero => exact .cons a t
    | succ i => simpa using ih i
theorem A2.take {xs : List α} {ys : List β} (h : A2 R xs ys) (i : Nat) : A2 R (xs.take i) (ys.take i) := by
  induction h generalizing i with
  | nil => simp; exact .nil
  | cons a t ih =>
    cases i with
    | zero => exact .nil
    | succ i => exact .cons a (ih i)
theorem A2.rev {xs : List α} {ys : List β} (h : A2 R xs ys) : A2 R xs.reverse ys.reverse := by
  induction h with
  | nil => exact .nil
  | cons a _ ih => simp only [List.reverse_cons]; exact ih.snoc a
theorem A2.eq_map {f : β → α} {xs : List α} {ys : List β} (h : A2 (fun x y => x = f y) xs ys) : xs = ys.map f := by
  induction h with
  | nil => rfl
  | cons a _ ih => rw [List.map_cons, a, ih]
theorem A2.of_map (f : β → α) : ∀ ys : List β, (∀ y ∈ ys, R (f y) y) → A2 R (ys.map f) ys
  | [], _ => .nil
  | y :: ys, h => .cons (h y (by simp)) (A2.of_map f ys fun z hz => h z (by simp [hz]))
theorem A2.rep {x : α} {y : β} (h : R x y) : ∀ n : Nat, A2 R (List.replicate n x) (List.replicate n y)
  | 0 => .nil
  | n + 1 => .cons h (A2.rep h n)
end

structure Rp (α : Type) where
  r : Hp → V → α → Prop
  mono : ∀ {F F' : Hp} {v : V} {a : α}, Ex F F' → r F v a → r F' v a
def rV : Rp V := ⟨fun _ v a => v = a, fun _ h => h⟩
def rInt : Rp Int := ⟨fun _ v a => v = .int a, fun _ h => h⟩
def rBl : Rp Bool := ⟨fun _ v a => v = .bl a, fun _ h => h⟩
def rStr : Rp Str := ⟨fun _ v a => v = .str a, fun _ h => h⟩
def rNon : Rp Unit := ⟨fun _ v _ => v = .non, fun _ h => h⟩
def rT2 (K : PySem.W.Frag) {α β : Type} (A : Rp α) (B : Rp β) : Rp (α × β) :=
  ⟨fun F v c => ∃ p x y, v = .ref p ∧ SqT K F p [x, y] ∧ A.r F x c.1 ∧ B.r F y c.2, fun e ⟨p, x, y, h, s, a, b⟩ => ⟨p, x, y, h, Evl.ex_t e s, A.mono e a, B.mono e b⟩⟩
def rT3 (K : PySem.W.Frag) {α β γ : Type} (A : Rp α) (B : Rp β) (C : Rp γ) : Rp (α × β × γ) :=
  ⟨fun F v c => ∃ p x y z, v = .ref p ∧ SqT K F p [x, y, z] ∧ A.r F x c.1 ∧ B.r F y c.2.1 ∧ C.r F z c.2.2, fun e ⟨p, x, y, z, h, s, a, b, c⟩ => ⟨p, x, y, z, h, Evl.ex_t e s, A.mono e a, B.mono e b, C.mono e c⟩⟩
def rLst (K : PySem.W.Frag) {α : Type} (A : Rp α) : Rp (List α) :=
  ⟨fun F v as => ∃ p xs, v = .ref p ∧ SqL K F p xs ∧ A2 (A.r F) xs as, fun e ⟨p, xs, h, s, a⟩ => ⟨p, xs, h, Evl.ex_l e s, a.imp fun _ _ z => A.mono e z⟩⟩
def rTup (K : PySem.W.Frag) {α : Type} (A : Rp α) : Rp (List α) :=
  ⟨fun F v as => ∃ p xs, v = .ref p ∧ SqT K F p xs ∧ A2 (A.r F) xs as, fun e ⟨p, xs, h, s, a⟩ => ⟨p, xs, h, Evl.ex_t e s, a.imp fun _ _ z => A.mono e z⟩⟩
def rOpt {α : Type} (A : Rp α) : Rp (Option α) :=
  ⟨fun F v o => match o with | none => v = .non | some a => A.r F v a, fun {_ _ _ o} e h => by cases o with | none => exact h | some a => exact A.mono e h⟩
abbrev rRat (K : PySem.W.Frag) : Rp (Int × Int) := rT2 K rInt rInt

/-! ### what a call gives -/
abbrev Ret := Hp → Hp → VK → Prop
def retI {α : Type} (A : Rp α) (a : α) : Ret := fun H F Q => ∀ v H' F', Ok H F H' F' → A.r F' v a → Q v H'
def retN {α : Type} (A : Rp α) (as : List α) : Ret := fun H F Q => ∀ p xs H' F', Ok H F H' F' → H p = none → F' p = none → H' p = some (.lst xs) → A2 (A.r F') xs as → Q (.ref p) H'
theorem retI.up {α : Type} {A : Rp α} {a : α} {H F H' F' : Hp} {Q : VK} (q : retI A a H F Q) (o : Ok H F H' F') : retI A a H' F' Q := fun v H2 F2 o2 r => q v H2 F2 (o.trans o2) r
theorem retN.up {α : Type} {A : Rp α} {as : List α} {H F H' F' : Hp} {Q : VK} (q : retN A as H F Q) (o : Ok H F H' F') : retN A as H' F' Q := fun p xs H2 F2 o2 hp hF hl a => q p xs H2 F2 (o.trans o2) (none_of o.h hp) hF hl a

/-! ### slots -/
structure Bs where
  H0 : Hp
  F0 : Hp
  F1 : Hp
def Bs.ok (B : Bs) (H F : Hp) : Prop := Ok B.H0 B.F0 H F ∧ Ex B.F1 F
/-- things that are still written: what they are, where they lie -/
structure Ow (α : Type) where
  r : Hp → Hp → V → α → List Addr → Prop
  has : ∀ {H F : Hp} {v : V} {a : α} {S : List Addr}, r H F v a S → ∀ y ∈ S, H y ≠ none
  mono : ∀ {H F H' F' : Hp} {v : V} {a : α} {S : List Addr}, (∀ y ∈ S, H' y = H y) → Ex F F' → r H F v a S → r H' F' v a S
inductive SA : Type 1 where
  | un : SA
  | im {α : Type} (A : Rp α) (a : α) : SA
  | mu {α : Type} (A : Rp α) (as : List α) : SA
  | ow {α : Type} (O : Ow α) (a : α) : SA
def SA.isMu : SA → Bool
  | .mu _ _ => true
  | _ => false
/-- slot s holds v, S are the places that it alone owns -/
def SA.q (H0 H F : Hp) : SA → Option V → List Addr → Prop
  | .un, _, S => S = []
  | .im A a, v, S => S = [] ∧ ∃ x, v = some x ∧ A.r F x a
  | .mu A as, v, S => ∃ l xs, S = [l] ∧ v = some (.ref l) ∧ H0 l = none ∧ H l = some (.lst xs) ∧ F l = none ∧ A2 (A.r F) xs as
  | .ow O a, v, S => ∃ x, v = some x ∧ O.r H F x a S ∧ ∀ y ∈ S, H0 y = none ∧ F y = none
/-- what is said of a slot by itself -/
def SA.p (H0 H F : Hp) : SA → Option V → Prop
  | .un, _ => True
  | .im A a, v => ∃ x, v = some x ∧ A.r F x a
  | .mu A as, v => ∃ l xs, v = some (.ref l) ∧ H0 l = none ∧ H l = some (.lst xs) ∧ F l = none ∧ A2 (A.r F) xs as
  | .ow O a, v => ∃ x S, v = some x ∧ O.r H F x a S ∧ ∀ y ∈ S, H0 y = none ∧ F y = none
theorem SA.q.p {H0 H F : Hp} {s : SA} {v : Option V} {S : List Addr} (h : s.q H0 H F v S) : s.p H0 H F v := by
  cases s with
  | un => trivial
  | im A a => exact h.2
  | mu A as => obtain ⟨l, xs, _, r⟩ := h; exact ⟨l, xs, r⟩
  | ow O a => obtain ⟨x, r⟩ := h; exact ⟨x, S, r⟩
theorem SA.q.has {H0 H F : Hp} {s : SA} {v : Option V} {S : List Addr} (h : s.q H0 H F v S) : ∀ y ∈ S, H0 y = none ∧ H y ≠ none ∧ F y = none := by
  cases s with
  | un => subst h; exact fun y hy => nomatch hy
  | im A a => rw [h.1]; exact fun y hy => nomatch hy
  | mu A as =>
    obtain ⟨l, xs, rfl, _, h0, hl, hF, _⟩ := h
    intro y hy
    rw [List.mem_singleton] at hy
    subst hy
    exact ⟨h0, (by rw [hl]; intro z; cases z), hF⟩
  | ow O a =>
    obtain ⟨x, _, r, z⟩ := h
    exact fun y hy => ⟨(z y hy).1, O.has r y hy, (z y hy).2⟩
theorem SA.q.mono {H0 H F H' F' : Hp} {s : SA} {v : Option V} {S : List Addr} (h : s.q H0 H F v S) (k : ∀ y ∈ S, H' y = H y ∧ F' y = none) (e : Ex F F') : s.q H0 H' F' v S := by
  cases s with
  | un => exact h
  | im A a => obtain ⟨z, x, hx, r⟩ := h; exact ⟨z, x, hx, A.mono e r⟩
  | mu A as =>
    obtain ⟨l, xs, rfl, hv, h0, hl, hF, a⟩ := h
    obtain ⟨k1, k2⟩ := k l (List.mem_singleton.mpr rfl)
    exact ⟨l, xs, rfl, hv, h0, k1.trans hl, k2, a.imp fun _ _ z => A.mono e z⟩
  | ow O a =>
    obtain ⟨x, hx, r, z⟩ := h
    exact ⟨x, hx, O.mono (fun y hy => (k y hy).1) e r, fun y hy => ⟨(z y hy).1, (k y hy).2⟩⟩
/-- with the places of each slot -/
structure GoodF (H0 H F : Hp) (σ : L2.St) (Γ : List SA) (fp : Nat → List Addr) : Prop where
  len : σ.length = Γ.length
  q : ∀ (i : Nat) s, Γ[i]? = some s → ∃ v, σ[i]? = some v ∧ s.q H0 H F v (fp i)
  ap : ∀ i j y, i < Γ.length → j < Γ.length → y ∈ fp i → y ∈ fp j → i = j
def Good (H0 H F : Hp) (σ : L2.St) (Γ : List SA) : Prop := ∃ fp, GoodF H0 H F σ Γ fp
section
variable {H0 H F H' F' : Hp} {σ : L2.St} {Γ : List SA} {fp : Nat → List Addr}
theorem Good.len (g : Good H0 H F σ Γ) : σ.length = Γ.length := g.choose_spec.len
theorem Good.gt (g : Good H0 H F σ Γ) (i : Nat) (s : SA) (e : Γ[i]? = some s) : ∃ v, σ[i]? = some v ∧ s.p H0 H F v := by
  obtain ⟨fp, g⟩ := g
  obtain ⟨v, hv, q⟩ := g.q i s e
  exact ⟨v, hv, q.p⟩
theorem lt_of_at {α : Type _} {xs : List α} {i : Nat} {x : α} (h : xs[i]? = some x) : i < xs.length := (List.getElem?_eq_some_iff.mp h).1
theorem Good.ap (g : Good H0 H F σ Γ) (i j : Nat) (s t : SA) (v : Option V) (ei : Γ[i]? = some s) (ej : Γ[j]? = some t) (mi : s.isMu = true) (mj : t.isMu = true) (vi : σ[i]? = some v) (vj : σ[j]? = some v) : i = j := by
  obtain ⟨fp, g⟩ := g
  obtain ⟨v1, h1, q1⟩ := g.q i s ei
  obtain ⟨v2, h2, q2⟩ := g.q j t ej
  cases Option.some.inj (h1.symm.trans vi)
  cases Option.some.inj (h2.symm.trans vj)
  cases s with
  | un => cases mi
  | im => cases mi
  | ow => cases mi
  | mu A as =>
    cases t with
    | un => cases mj
    | im => cases mj
    | ow => cases mj
    | mu B bs =>
      obtain ⟨l, xs, e1, rfl, _⟩ := q1
      obtain ⟨l2, xs2, e2, e, _⟩ := q2
      cases e
      exact g.ap i j l (lt_of_at ei) (lt_of_at ej) (by rw [e1]; exact List.mem_singleton.mpr rfl) (by rw [e2]; exact List.mem_singleton.mpr rfl)
theorem GoodF.has (g : GoodF H0 H F σ Γ fp) {i : Nat} (hi : i < Γ.length) : ∀ y ∈ fp i, H0 y = none ∧ H y ≠ none ∧ F y = none := by
  obtain ⟨v, _, q⟩ := g.q i _ (List.getElem?_eq_getElem hi)
  exact q.has
theorem Ok.stay (o : Ok H F H' F') {y : Addr} (h : H y ≠ none) (f : F y = none) : H' y = H y ∧ F' y = none := by
  cases e : H y with
  | none => exact absurd e h
  | some u =>
    refine ⟨o.h y u e, ?_⟩
    cases z : F' y with
    | none => rfl
    | some w =>
      rcases o.r y w z with k | k
      · rw [f] at k; cases k
      · rw [e] at k; cases k
theorem GoodF.mono (o : Ok H F H' F') (g : GoodF H0 H F σ Γ fp) : GoodF H0 H' F' σ Γ fp :=
  ⟨g.len, fun i s e => by
    obtain ⟨v, hv, q⟩ := g.q i s e
    exact ⟨v, hv, q.mono (fun y hy => o.stay (q.has y hy).2.1 (q.has y hy).2.2) o.f⟩, g.ap⟩
theorem Good.mono (o : Ok H F H' F') (g : Good H0 H F σ Γ) : Good H0 H' F' σ Γ := by
  obtain ⟨fp, g⟩ := g
  exact ⟨fp, g.mono o⟩
/-- slot i is put anew, the places of the others are as they were -/
theorem GoodF.put {i : Nat} {s : SA} {v : Option V} {S : List Addr} (g : GoodF H0 H F σ Γ fp) (ef : Ex F F') (k : ∀ j, j < Γ.length → j ≠ i → ∀ y ∈ fp j, H' y = H y ∧ F' y = none) (hq : s.q H0 H' F' v S) (hd : ∀ j, j < Γ.length → j ≠ i → ∀ y ∈ fp j, y ∉ S) :
    GoodF H0 H' F' (σ.set i v) (Γ.set i s) (fun j => if j = i then S else fp j) := by
  refine ⟨by rw [List.length_set, List.length_set, g.len], fun j t e => ?_, fun a b y ha hb ya yb => ?_⟩
  · by_cases z : i = j
    · subst z
      have hi : i < Γ.length := by have := lt_of_at e; rwa [List.length_set] at this
      rw [List.getElem?_set_self hi] at e
      cases e
      exact ⟨v, by rw [List.getElem?_set_self (by rw [g.len]; exact hi)], by rw [if_pos rfl]; exact hq⟩
    · rw [List.getElem?_set_ne z] at e ⊢
      obtain ⟨w, hw, q⟩ := g.q j t e
      exact ⟨w, hw, by rw [if_neg (Ne.symm z)]; exact q.mono (k j (lt_of_at e) (Ne.symm z)) ef⟩
  · rw [List.length_set] at ha hb
    by_cases z : a = i
    · by_cases z2 : b = i
      · rw [z, z2]
      · rw [if_pos z] at ya
        rw [if_neg z2] at yb
        exact absurd ya (hd b hb z2 y yb)
    · rw [if_neg z] at ya
      by_cases z2 : b = i
      · rw [if_pos z2] at yb
        exact absurd yb (hd a ha z y ya)
      · rw [if_neg z2] at yb
        exact g.ap a b y ha hb ya yb
theorem set_self {α : Type _} {xs : List α} {i : Nat} {x : α} (h : xs[i]? = some x) : xs.set i x = xs := by
  refine List.ext_getElem? fun j => ?_
  by_cases q : i = j
  · subst q
    rw [h, List.getElem?_set_self (lt_of_at h)]
  · rw [List.getElem?_set_ne q]
theorem Good.setI {α : Type} {A : Rp α} {a : α} {x : V} (g : Good H0 H F σ Γ) (h : A.r F x a) (i : Nat) : Good H0 H F (σ.set i (some x)) (Γ.set i (.im A a)) := by
  obtain ⟨fp, g⟩ := g
  exact ⟨_, g.put (s := .im A a) (S := []) (Ex.refl F) (fun j hj _ y hy => ⟨rfl, (g.has hj y hy).2.2⟩) ⟨rfl, x, rfl, h⟩ fun _ _ _ _ _ z => nomatch z⟩
theorem Good.setU (g : Good H0 H F σ Γ) (v : Option V) (i : Nat) : Good H0 H F (σ.set i v) (Γ.set i .un) := by
  obtain ⟨fp, g⟩ := g
  exact ⟨_, g.put (s := .un) (S := []) (Ex.refl F) (fun j hj _ y hy => ⟨rfl, (g.has hj y hy).2.2⟩) rfl fun _ _ _ _ _ z => nomatch z⟩
/-- slot i forgotten, the value stays -/
theorem Good.fgt (g : Good H0 H F σ Γ) (i : Nat) : Good H0 H F σ (Γ.set i .un) := by
  by_cases hi : i < Γ.length
  · have h := g.setU (σ[i]'(by rw [g.len]; exact hi)) i
    rwa [set_self (List.getElem?_eq_getElem (by rw [g.len]; exact hi))] at h
  · rw [List.set_eq_of_length_le (by omega)]; exact g
/-- slot i holds something new, all of whose places are new since H, where the slots were as they are -/
theorem Good.setN {i : Nat} {s : SA} {v : Option V} {S : List Addr} (g : Good H0 H F σ Γ) (o : Ok H F H' F') (hn : ∀ y ∈ S, H y = none) (hq : s.q H0 H' F' v S) : Good H0 H' F' (σ.set i v) (Γ.set i s) := by
  obtain ⟨fp, g⟩ := g
  exact ⟨_, g.put o.f (fun j hj _ y hy => o.stay (g.has hj y hy).2.1 (g.has hj y hy).2.2) hq fun j hj _ y hy z => (g.has hj y hy).2.1 (hn y z)⟩
theorem Good.var {α : Type} {A : Rp α} {a : α} {i : Nat} (g : Good H0 H F σ Γ) (e : Γ[i]? = some (.im A a)) : ∃ x, σ[i]? = some (some x) ∧ A.r F x a := by
  obtain ⟨v, hv, x, rfl, r⟩ := g.gt i _ e
  exact ⟨x, hv, r⟩
theorem Good.mut {α : Type} {A : Rp α} {as : List α} {i : Nat} (g : Good H0 H F σ Γ) (e : Γ[i]? = some (.mu A as)) :
    ∃ l xs, σ[i]? = some (some (.ref l)) ∧ H0 l = none ∧ H l = some (.lst xs) ∧ F l = none ∧ A2 (A.r F) xs as := by
  obtain ⟨v, hv, l, xs, rfl, r⟩ := g.gt i _ e
  exact ⟨l, xs, hv, r⟩
/-- the list at slot i is written -/
theorem Good.wr {α β : Type} {A : Rp α} {as : List α} {i : Nat} {l : Addr} {C : Rp β} {ys : List V} {bs : List β} (g : Good H0 H F σ Γ) (e : Γ[i]? = some (.mu A as)) (hv : σ[i]? = some (some (.ref l)))
    (h0 : H0 l = none) (hF : F l = none) (a : A2 (C.r F) ys bs) : Good H0 (upd H l (.lst ys)) F σ (Γ.set i (.mu C bs)) := by
  obtain ⟨fp, g⟩ := g
  obtain ⟨v, hv', l', xs, hS, rfl, _⟩ := g.q i _ e
  cases Option.some.inj (hv.symm.trans hv')
  have hi := lt_of_at e
  have ne : ∀ j, j < Γ.length → j ≠ i → ∀ y ∈ fp j, y ≠ l := fun j hj z y hy w => z (g.ap j i y hj hi hy (by rw [hS, w]; exact List.mem_singleton.mpr rfl))
  have h := g.put (i := i) (s := .mu C bs) (v := some (.ref l)) (S := [l]) (H' := upd H l (.lst ys)) (Ex.refl F) (fun j hj z y hy => ⟨upd_ne (ne j hj z y hy), (g.has hj y hy).2.2⟩) ⟨l, ys, rfl, rfl, h0, upd_same, hF, a⟩ fun j hj z y hy w => ne j hj z y hy (List.mem_singleton.mp w)
  rw [set_self hv] at h
  exact ⟨_, h⟩
/-- the list at slot i is written no more -/
theorem Good.frz {α : Type} {A : Rp α} {as : List α} {i : Nat} {l : Addr} {xs : List V} (K : PySem.W.Frag) (g : Good H0 H F σ Γ) (e : Γ[i]? = some (.mu A as)) (hv : σ[i]? = some (some (.ref l)))
    (hF : F l = none) (a : A2 (A.r F) xs as) : Good H0 H (upd F l (.lst xs)) σ (Γ.set i (.im (rLst K A) as)) := by
  obtain ⟨fp, g⟩ := g
  obtain ⟨v, hv', l', _, hS, rfl, _⟩ := g.q i _ e
  cases Option.some.inj (hv.symm.trans hv')
  have hi := lt_of_at e
  have ef : Ex F (upd F l (.lst xs)) := Ex.new hF
  have ne : ∀ j, j < Γ.length → j ≠ i → ∀ y ∈ fp j, y ≠ l := fun j hj z y hy w => z (g.ap j i y hj hi hy (by rw [hS, w]; exact List.mem_singleton.mpr rfl))
  have h := g.put (i := i) (s := .im (rLst K A) as) (v := some (.ref l)) (S := []) (H' := H) ef (fun j hj z y hy => ⟨rfl, by rw [upd_ne (ne j hj z y hy)]; exact (g.has hj y hy).2.2⟩) ⟨rfl, _, rfl, l, xs, rfl, Evl.sq_of upd_same, a.imp fun _ _ z => A.mono ef z⟩ fun _ _ _ _ _ z => nomatch z
  rw [set_self hv] at h
  exact ⟨_, h⟩
end

/-! ### what an expression evaluates to -/
def EvR (te : TE) (Γ : List SA) (ret : Ret) : Prop := ∀ H0 H F σ, Ex F H → Good H0 H F σ Γ → ∀ Q : VK, ret H F Q → te σ H Q
abbrev Ev (te : TE) (Γ : List SA) {α : Type} (A : Rp α) (a : α) : Prop := EvR te Γ (retI A a)
abbrev EvN (te : TE) (Γ : List SA) {α : Type} (A : Rp α) (as : List α) : Prop := EvR te Γ (retN A as)
def Eb (tt : TT) (Γ : List SA) (b : Bool) : Prop := ∀ H0 H F σ, Ex F H → Good H0 H F σ Γ → ∀ Q : Bool → Hp → Prop, (∀ H' F', Ok H F H' F' → Q b H') → tt σ H Q
section
variable {Γ : List SA} {α β γ : Type} {A : Rp α} {B : Rp β} {C : Rp γ} {a : α} {b : β} {c : γ} {ta tb te tc : TE} {K : PySem.W.Frag} {i j n m : Int} {r : R2}
theorem ev_is {a' : α} (h : Ev te Γ A a) (e : a = a') : Ev te Γ A a' := e ▸ h
theorem e_var {i : Nat} (h : Γ[i]? = some (.im A a)) : Ev (tVar i) Γ A a := fun H0 H F σ e g Q q => by
  obtain ⟨x, hx, r⟩ := g.var h
  exact ⟨x, hx, q x H F (.refl e) r⟩
theorem e_int : Ev (tC (.int i)) Γ rInt i := fun _ H F _ e _ Q q => q _ H F (.refl e) rfl
theorem e_bl {k : Bool} : Ev (tC (.bl k)) Γ rBl k := fun _ H F _ e _ Q q => q _ H F (.refl e) rfl
theorem e_str {z : Str} : Ev (tC (.str z)) Γ rStr z := fun _ H F _ e _ Q q => q _ H F (.refl e) rfl
theorem e_non : Ev (tC .non) Γ rNon () := fun _ H F _ e _ Q q => q _ H F (.refl e) rfl
theorem e_nonO : Ev (tC .non) Γ (rOpt A) none := fun _ H F _ e _ Q q => q _ H F (.refl e) rfl
theorem e_some (h : Ev te Γ A a) : Ev te Γ (rOpt A) (some a) := fun H0 H F σ e g Q q => h H0 H F σ e g Q fun v H' F' o r => q v H' F' o r
theorem e_seq (ha : Ev ta Γ A a) (hb : Ev tb Γ B b) {k : V → V → Hp → Prop} {H0 H F : Hp} {σ : L2.St} (e : Ex F H) (g : Good H0 H F σ Γ) (hr : ∀ v w H' F', Ok H F H' F' → A.r F' v a → B.r F' w b → k v w H') :
    ta σ H fun x H1 => tb σ H1 fun y H2 => k x y H2 :=
  ha H0 H F σ e g _ fun x H1 F1 o1 r1 => hb H0 H1 F1 σ o1.i (g.mono o1) _ fun y H2 F2 o2 r2 => hr x y H2 F2 (o1.trans o2) (A.mono o2.f r1) r2
theorem e_bin (ha : Ev ta Γ A a) (hb : Ev tb Γ B b) (hr : ∀ F H v w, Ex F H → A.r F v a → B.r F w b → ∀ Q : VK, retI C c H F Q → r v w H Q) : Ev (tOp r ta tb) Γ C c := fun H0 H F σ e g Q q =>
  e_seq ha hb (k := fun x y H2 => r x y H2 Q) e g fun v w H' F' o r1 r2 => hr F' H' v w o.i r1 r2 Q (q.up o)
theorem e_I0 {g : Int → Int → V} {f : Int → Int → Int} (ha : Ev ta Γ rInt i) (hb : Ev tb Γ rInt j) (hg : ∀ x y, g x y = .int (f x y)) : Ev (tOp (rI0 g) ta tb) Γ rInt (f i j) :=
  e_bin ha hb fun F H v w e r1 r2 Q q => ⟨i, j, r1, r2, by rw [hg]; exact q _ H F (.refl e) rfl⟩
theorem e_B0 {g : Int → Int → V} {f : Int → Int → Bool} (ha : Ev ta Γ rInt i) (hb : Ev tb Γ rInt j) (hg : ∀ x y, g x y = .bl (f x y)) : Ev (tOp (rI0 g) ta tb) Γ rBl (f i j) :=
  e_bin ha hb fun F H v w e r1 r2 Q q => ⟨i, j, r1, r2, by rw [hg]; exact q _ H F (.refl e) rfl⟩
theorem e_I {D : Int → Int → Prop} {g : Int → Int → V} {f : Int → Int → Int} (ha : Ev ta Γ rInt i) (hb : Ev tb Γ rInt j) (hd : D i j) (hg : ∀ x y, g x y = .int (f x y)) : Ev (tOp (rI D g) ta tb) Γ rInt (f i j) :=
  e_bin ha hb fun F H v w e r1 r2 Q q => ⟨i, j, r1, r2, hd, by rw [hg]; exact q _ H F (.refl e) rfl⟩
theorem e_un {r : V → Hp → VK → Prop} (ha : Ev ta Γ A a) (hr : ∀ F H v, Ex F H → A.r F v a → ∀ Q : VK, retI C c H F Q → r v H Q) : Ev (tUn r ta) Γ C c := fun H0 H F σ e g Q q =>
  ha H0 H F σ e g _ fun v H' F' o r1 => hr F' H' v o.i r1 Q (q.up o)
theorem e_U {g : Int → V} {f : Int → Int} (ha : Ev ta Γ rInt i) (hg : ∀ x, g x = .int (f x)) : Ev (tUn (rU g) ta) Γ rInt (f i) :=
  e_un ha fun F H v e r1 Q q => ⟨i, r1, by rw [hg]; exact q _ H F (.refl e) rfl⟩
theorem e_eqI (ha : Ev ta Γ rInt i) (hb : Ev tb Γ rInt j) : Ev (tOp rEq ta tb) Γ rBl (decide (i = j)) :=
  e_bin ha hb fun F H v w e r1 r2 Q q => by
    cases r1; cases r2
    refine ⟨rfl, ?_⟩
    rw [show decide (V.int i = V.int j) = decide (i = j) by by_cases z : i = j <;> simp [z]]
    exact q _ H F (.refl e) rfl
theorem e_neI (ha : Ev ta Γ rInt i) (hb : Ev tb Γ rInt j) : Ev (tOp rNe ta tb) Γ rBl (!decide (i = j)) :=
  e_bin ha hb fun F H v w e r1 r2 Q q => by
    cases r1; cases r2
    refine ⟨rfl, ?_⟩
    rw [show decide (V.int i = V.int j) = decide (i = j) by by_cases z : i = j <;> simp [z]]
    exact q _ H F (.refl e) rfl
theorem e_eqS {x y : Str} (ha : Ev ta Γ rStr x) (hb : Ev tb Γ rStr y) : Ev (tOp rEq ta tb) Γ rBl (decide (x = y)) :=
  e_bin ha hb fun F H v w e r1 r2 Q q => by
    cases r1; cases r2
    refine ⟨rfl, ?_⟩
    rw [show decide (V.str x = V.str y) = decide (x = y) by by_cases z : x = y <;> simp [z]]
    exact q _ H F (.refl e) rfl
theorem e_neS {x y : Str} (ha : Ev ta Γ rStr x) (hb : Ev tb Γ rStr y) : Ev (tOp rNe ta tb) Γ rBl (!decide (x = y)) :=
  e_bin ha hb fun F H v w e r1 r2 Q q => by
    cases r1; cases r2
    refine ⟨rfl, ?_⟩
    rw [show decide (V.str x = V.str y) = decide (x = y) by by_cases z : x = y <;> simp [z]]
    exact q _ H F (.refl e) rfl
/-- an item of a tuple by its place -/
theorem e_fst {c : α × β} (ha : Ev ta Γ (rT2 K A B) c) : Ev (tOp (rIxT K) ta (tC (.int 0))) Γ A c.1 :=
  e_bin (b := (0 : Int)) (B := rInt) ha e_int fun F H v w e r1 r2 Q q => by
    obtain ⟨p, x, y, rfl, s, h1, h2⟩ := r1
    cases r2
    exact ⟨p, _, 0, x, rfl, rfl, Evl.ex_t e s, rfl, q _ H F (.refl e) h1⟩
theorem e_snd {c : α × β} (ha : Ev ta Γ (rT2 K A B) c) : Ev (tOp (rIxT K) ta (tC (.int 1))) Γ B c.2 :=
  e_bin (b := (1 : Int)) (B := rInt) ha e_int fun F H v w e r1 r2 Q q => by
    obtain ⟨p, x, y, rfl, s, h1, h2⟩ := r1
    cases r2
    exact ⟨p, _, 1, y, rfl, rfl, Evl.ex_t e s, rfl, q _ H F (.refl e) h2⟩
/-- an item of a list, of a tuple of alike -/
theorem e_ixL {as : List α} {x : α} (ha : Ev ta Γ (rLst K A) as) (hb : Ev tb Γ rInt i) (hx : atI as i = some x) : Ev (tOp (rIxL K) ta tb) Γ A x :=
  e_bin ha hb fun F H v w e r1 r2 Q q => by
    obtain ⟨p, xs, rfl, s, h1⟩ := r1
    cases r2
    unfold atI at hx
    cases en : ixN as.length i with
    | none => rw [en] at hx; cases hx
    | some j =>
      rw [en] at hx
      obtain ⟨y, hy, ry⟩ := h1.get hx
      exact ⟨p, xs, i, y, rfl, rfl, Evl.ex_l e s, by unfold atI; rw [h1.length, en]; exact hy, q _ H F (.refl e) ry⟩
theorem e_ixT {as : List α} {x : α} (ha : Ev ta Γ (rTup K A) as) (hb : Ev tb Γ rInt i) (hx : atI as i = some x) : Ev (tOp (rIxT K) ta tb) Γ A x :=
  e_bin ha hb fun F H v w e r1 r2 Q q => by
    obtain ⟨p, xs, rfl, s, h1⟩ := r1
    cases r2
    unfold atI at hx
    cases en : ixN as.length i with
    | none => rw [en] at hx; cases hx
    | some j =>
      rw [en] at hx
      obtain ⟨y, hy, ry⟩ := h1.get hx
      exact ⟨p, xs, i, y, rfl, rfl, Evl.ex_t e s, by unfold atI; rw [h1.length, en]; exact hy, q _ H F (.refl e) ry⟩
theorem at_nat {as : List α} {x : α} (h0 : 0 ≤ i) (h : as[i.toNat]? = some x) : atI as i = some x := by
  have q := atI_nat h
  rwa [Int.toNat_of_nonneg h0] at q
/-- tests -/
theorem eb_test {k : Bool} (h : Ev te Γ rBl k) : Eb (tTest te) Γ k := fun H0 H F σ e g Q q => h H0 H F σ e g _ fun v H' F' o r => ⟨k, r, q H' F' o⟩
theorem eb_B {k : Bool} (h : Ev te Γ rBl k) : Eb (tB te) Γ k := fun H0 H F σ e g Q q => h H0 H F σ e g _ fun v H' F' o r => ⟨k, r, q H' F' o⟩
theorem eb_is {k k' : Bool} {t : TT} (h : Eb t Γ k) (e : k = k') : Eb t Γ k' := e ▸ h
theorem eb_not {k : Bool} {t : TT} (h : Eb t Γ k) : Eb (tNot t) Γ (!k) := fun H0 H F σ e g Q q => h H0 H F σ e g _ fun H' F' o => q H' F' o
theorem eb_and {k l : Bool} {t u : TT} (h : Eb t Γ k) (h' : k = true → Eb u Γ l) : Eb (tAnd t u) Γ (k && l) := fun H0 H F σ e g Q q => h H0 H F σ e g _ fun H' F' o => by
  cases k with
  | true => exact h' rfl H0 H' F' σ o.i (g.mono o) Q fun H2 F2 o2 => q H2 F2 (o.trans o2)
  | false => exact q H' F' o
theorem eb_or {k l : Bool} {t u : TT} (h : Eb t Γ k) (h' : k = false → Eb u Γ l) : Eb (tOr t u) Γ (k || l) := fun H0 H F σ e g Q q => h H0 H F σ e g _ fun H' F' o => by
  cases k with
  | true => exact q H' F' o
  | false => exact h' rfl H0 H' F' σ o.i (g.mono o) Q fun H2 F2 o2 => q H2 F2 (o.trans o2)
theorem e_andV {k l : Bool} (h : Ev ta Γ rBl k) (h' : k = true → Ev tb Γ rBl l) : Ev (tAndV ta tb) Γ rBl (k && l) := fun H0 H F σ e g Q q => h H0 H F σ e g _ fun v H' F' o r => ⟨k, r, by
  cases k with
  | true => exact h' rfl H0 H' F' σ o.i (g.mono o) Q (q.up o)
  | false => exact q _ H' F' o rfl⟩
theorem e_orV {k l : Bool} (h : Ev ta Γ rBl k) (h' : k = false → Ev tb Γ rBl l) : Ev (tOrV ta tb) Γ rBl (k || l) := fun H0 H F σ e g Q q => h H0 H F σ e g _ fun v H' F' o r => ⟨k, r, by
  cases k with
  | true => exact q _ H' F' o rfl
  | false => exact h' rfl H0 H' F' σ o.i (g.mono o) Q (q.up o)⟩
theorem e_notV {k : Bool} (h : Ev ta Γ rBl k) : Ev (tNotV ta) Γ rBl (!k) := fun H0 H F σ e g Q q => h H0 H F σ e g _ fun v H' F' o r => ⟨k, r, q _ H' F' o rfl⟩
theorem e_if {k : Bool} {t : TT} (h : Eb t Γ k) (h1 : k = true → Ev ta Γ A a) (h2 : k = false → Ev tb Γ A a) : Ev (tIf t ta tb) Γ A a := fun H0 H F σ e g Q q => h H0 H F σ e g _ fun H' F' o => by
  cases k with
  | true => exact h1 rfl H0 H' F' σ o.i (g.mono o) Q (q.up o)
  | false => exact h2 rfl H0 H' F' σ o.i (g.mono o) Q (q.up o)
/-- a tuple of two, of three -/
theorem e_t2 (ha : Ev ta Γ A a) (hb : Ev tb Γ B b) : Ev (tTup (tCons ta (tCons tb tNil))) Γ (rT2 K A B) (a, b) := fun H0 H F σ e g Q q =>
  e_seq ha hb (k := fun x y H2 => [x, y].length ≤ sizeLine ∧ ∀ p, H2 p = none → Q (.ref p) (upd H2 p (.tup [x, y]))) e g fun v w H' F' o r1 r2 => ⟨by show 2 ≤ sizeLine; decide, fun p hp =>
    q _ _ _ (o.new hp) ⟨p, v, w, rfl, Evl.st_of upd_same, A.mono (Ex.new (none_of o.i hp)) r1, B.mono (Ex.new (none_of o.i hp)) r2⟩⟩
theorem e_t3 (ha : Ev ta Γ A a) (hb : Ev tb Γ B b) (hc : Ev tc Γ C c) : Ev (tTup (tCons ta (tCons tb (tCons tc tNil)))) Γ (rT3 K A B C) (a, b, c) := fun H0 H F σ e g Q q =>
  ha H0 H F σ e g _ fun x H1 F1 o1 r1 => e_seq hb hc (k := fun y z H2 => [x, y, z].length ≤ sizeLine ∧ ∀ p, H2 p = none → Q (.ref p) (upd H2 p (.tup [x, y, z]))) o1.i (g.mono o1) fun v w H' F' o r2 r3 => ⟨by show 3 ≤ sizeLine; decide, fun p hp =>
    q _ _ _ ((o1.trans o).new hp) ⟨p, x, v, w, rfl, Evl.st_of upd_same, A.mono (o.f.trans (Ex.new (none_of o.i hp))) r1, B.mono (Ex.new (none_of o.i hp)) r2, C.mono (Ex.new (none_of o.i hp)) r3⟩⟩
/-- a display of a list -/
def EvA (ta : TA) (Γ : List SA) (A : Rp α) (as : List α) : Prop := ∀ H0 H F σ, Ex F H → Good H0 H F σ Γ → ∀ Q : List V → Hp → Prop, (∀ vs H' F', Ok H F H' F' → A2 (A.r F') vs as → Q vs H') → ta σ H Q
theorem ea_nil : EvA tNil Γ A [] := fun H0 H F σ e g Q q => q [] H F (.refl e) .nil
theorem ea_cons {tr : TA} {as : List α} (h : Ev ta Γ A a) (hr : EvA tr Γ A as) : EvA (tCons ta tr) Γ A (a :: as) := fun H0 H F σ e g Q q =>
  h H0 H F σ e g _ fun x H1 F1 o1 r1 => hr H0 H1 F1 σ o1.i (g.mono o1) _ fun xs H2 F2 o2 r2 => q _ H2 F2 (o1.trans o2) (.cons (A.mono o2.f r1) r2)
theorem en_lst {t : TA} {as : List α} (h : EvA t Γ A as) (hn : as.length ≤ 100000) : EvN (tLst t) Γ A as := fun H0 H F σ e g Q q =>
  h H0 H F σ e g _ fun vs H' F' o r => ⟨by rw [r.length]; exact Nat.le_trans hn (by decide), fun p hp => q p vs _ F' (o.mut hp) (none_of o.h hp) (none_of o.i hp) upd_same r⟩
theorem e_tup {t : TA} {as : List α} (h : EvA t Γ A as) (hn : as.length ≤ 100000) : Ev (tTup t) Γ (rTup K A) as := fun H0 H F σ e g Q q =>
  h H0 H F σ e g _ fun vs H' F' o r => ⟨by rw [r.length]; exact Nat.le_trans hn (by decide), fun p hp => q _ _ _ (o.new hp) ⟨p, vs, rfl, Evl.st_of upd_same, r.imp fun _ _ z => A.mono (Ex.new (none_of o.i hp)) z⟩⟩
/-- a new list, as it stands from now on -/
theorem e_frz {as : List α} (h : EvN te Γ A as) : Ev te Γ (rLst K A) as := fun H0 H F σ e g Q q =>
  h H0 H F σ e g _ fun p xs H' F' o hp hF hl a => q _ H' _ (o.frz hl hF hp) ⟨p, xs, rfl, Evl.sq_of upd_same, a.imp fun _ _ z => A.mono (Ex.new hF) z⟩
/-- with slot i kept still meanwhile: values without objects -/
theorem e_tmp {i : Nat} {as : List α} (K : PySem.W.Frag) (h : Γ[i]? = some (.mu A as)) (hC : ∀ F F' v, C.r F v c → C.r F' v c) (he : Ev te (Γ.set i (.im (rLst K A) as)) C c) : Ev te Γ C c := fun H0 H F σ e g Q q => by
  obtain ⟨l, xs, hv, h0, hl, hF, a⟩ := g.mut h
  have g' := g.frz K h hv hF a
  refine he H0 H _ σ (fun b u hb => ?_) g' Q fun v H' F' o r => ?_
  · by_cases z : b = l
    · subst z; rw [upd_same] at hb; rw [hl]; exact hb
    · rw [upd_ne z] at hb; exact e b u hb
  · exact q v H' F ⟨o.h, Ex.refl F, e.trans o.h, fun _ _ z => .inl z⟩ (hC _ _ _ r)
/-- an item of the list at slot i, which is still written -/
theorem e_ixM {k : Nat} {as : List α} {x : α} (h : Γ[k]? = some (.mu A as)) (hb : Ev tb Γ rInt i) (hx : atI as i = some x) : Ev (tOp (rIxL K) (tVar k) tb) Γ A x := fun H0 H F σ e g Q q => by
  obtain ⟨l, xs, hv, h0, hl, hF, a⟩ := g.mut h
  refine ⟨_, hv, hb H0 H F σ e g _ fun w H' F' o r => ?_⟩
  cases r
  unfold atI at hx
  cases en : ixN as.length i with
  | none => rw [en] at hx; cases hx
  | some j =>
    rw [en] at hx
    obtain ⟨y, hy, ry⟩ := a.get hx
    exact ⟨l, xs, i, y, rfl, rfl, Evl.sq_of (o.h l _ hl), by unfold atI; rw [a.length, en]; exact hy, q _ H' F' o (A.mono o.f ry)⟩
theorem e_lenL {as : List α} (h : Ev ta Γ (rLst K A) as) : Ev (tCB (Evl.rLenS K) (tCons ta tNil)) Γ rInt (as.length : Int) := fun H0 H F σ e g Q q =>
  h H0 H F σ e g _ fun v H' F' o r => by
    obtain ⟨p, xs, rfl, s, h1⟩ := r
    refine ⟨p, xs, rfl, .inl (Evl.ex_l o.i s), ?_⟩
    rw [h1.length]
    exact q _ H' F' o rfl
theorem e_lenT {as : List α} (h : Ev ta Γ (rTup K A) as) : Ev (tCB (Evl.rLenS K) (tCons ta tNil)) Γ rInt (as.length : Int) := fun H0 H F σ e g Q q =>
  h H0 H F σ e g _ fun v H' F' o r => by
    obtain ⟨p, xs, rfl, s, h1⟩ := r
    refine ⟨p, xs, rfl, .inr (Evl.ex_t o.i s), ?_⟩
    rw [h1.length]
    exact q _ H' F' o rfl
theorem e_lenM {k : Nat} {as : List α} (h : Γ[k]? = some (.mu A as)) : Ev (tCB (Evl.rLenS K) (tCons (tVar k) tNil)) Γ rInt (as.length : Int) := fun H0 H F σ e g Q q => by
  obtain ⟨l, xs, hv, h0, hl, hF, a⟩ := g.mut h
  refine ⟨_, hv, l, xs, rfl, .inl (Evl.sq_of hl), ?_⟩
  rw [a.length]
  exact q _ H F (.refl e) rfl
end
end Tp

namespace Tp
open PySem PySem.Spec PyProof.Rows L2
open Evl (Ex)
/-! ### statements: from the slots Γ, D is reached -/
def S (B : Bs) (t : TS) (Γ : List SA) (D : Ends) : Prop := ∀ H F σ, B.ok H F → Good B.H0 H F σ Γ → t D σ H
theorem Bs.ok.up {B : Bs} {H F H' F' : Hp} (b : B.ok H F) (o : Ok H F H' F') : B.ok H' F' := ⟨b.1.trans o, b.2.trans o.f⟩
theorem S.run {B : Bs} {t : TS} {Γ : List SA} {D : Ends} {H F : Hp} {σ : L2.St} (s : S B t Γ D) (b : B.ok H F) (g : Good B.H0 H F σ Γ) : t D σ H := s H F σ b g
/-- what a block is to reach -/
def To {β : Type} (B : Bs) (P : β → Prop) (I : β → List SA) : L2.St → Hp → Prop := fun σ H => ∃ x F, P x ∧ B.ok H F ∧ Good B.H0 H F σ (I x)
abbrev To1 (B : Bs) (Γ : List SA) : L2.St → Hp → Prop := To (β := Unit) B (fun _ => True) (fun _ => Γ)
/-- Γ says at least what Γ' says -/
def Sub (Γ Γ' : List SA) : Prop := ∀ H0 H F σ, Good H0 H F σ Γ → Good H0 H F σ Γ'
theorem Sub.refl (Γ : List SA) : Sub Γ Γ := fun _ _ _ _ g => g
theorem Sub.of_eq {Γ Γ' : List SA} (e : Γ = Γ') : Sub Γ Γ' := e ▸ Sub.refl Γ
theorem Sub.trans {Γ Γ' Γ'' : List SA} (a : Sub Γ Γ') (b : Sub Γ' Γ'') : Sub Γ Γ'' := fun _ _ _ _ g => b _ _ _ _ (a _ _ _ _ g)
theorem Sub.fgt (Γ : List SA) (i : Nat) : Sub Γ (Γ.set i .un) := fun _ _ _ _ g => g.fgt i
/-- slot by slot: alike, or forgotten -/
inductive Le : SA → SA → Prop where
  | eq (s : SA) : Le s s
  | un (s : SA) : Le s .un
inductive Les : List SA → List SA → Prop where
  | nil : Les [] []
  | cons {s t Γ Δ} (h : Le s t) (r : Les Γ Δ) : Les (s :: Γ) (t :: Δ)
theorem Les.length {Γ Δ : List SA} (h : Les Γ Δ) : Γ.length = Δ.length := by
  induction h with
  | nil => rfl
  | cons _ _ ih => simp [ih]
theorem Les.at {Γ Δ : List SA} (h : Les Γ Δ) : ∀ (i : Nat) t, Δ[i]? = some t → ∃ s, Γ[i]? = some s ∧ Le s t := by
  induction h with
  | nil => intro i t e; simp at e
  | cons a _ ih =>
    intro i t e
    cases i with
    | zero => simp at e; subst e; exact ⟨_, rfl, a⟩
    | succ i => simpa using ih i t (by simpa using e)
open Classical in
theorem Sub.of {Γ Δ : List SA} (h : Les Γ Δ) : Sub Γ Δ := fun H0 H F σ ⟨fp, g⟩ => by
  refine ⟨fun i => if Δ[i]? = some .un then [] else fp i, g.len.trans h.length, fun i t e => ?_, fun i j y hi hj yi yj => ?_⟩
  · obtain ⟨s, es, l⟩ := h.at i t e
    obtain ⟨v, hv, p⟩ := g.q i s es
    cases l with
    | eq =>
      by_cases z : t = .un
      · subst z
        exact ⟨v, hv, by rw [if_pos e]; rfl⟩
      · exact ⟨v, hv, by rw [if_neg (by rw [e]; exact fun w => z (Option.some.inj w))]; exact p⟩
    | un => exact ⟨v, hv, by rw [if_pos e]; rfl⟩
  · rw [← h.length] at hi hj
    by_cases zi : Δ[i]? = some .un
    · rw [if_pos zi] at yi; cases yi
    · by_cases zj : Δ[j]? = some .un
      · rw [if_pos zj] at yj; cases yj
      · rw [if_neg zi] at yi
        rw [if_neg zj] at yj
        exact g.ap i j y hi hj yi yj
section
variable {B : Bs} {Γ Γ' : List SA} {D : Ends} {t u tz tu tw : TS} {α β γ : Type} {A : Rp α} {a : α} {te ta tb : TE} {tt : TT} {K : PySem.W.Frag}
theorem S.sub (s : S B t Γ' D) (h : Sub Γ Γ') : S B t Γ D := fun H F σ b g => s H F σ b (h _ _ _ _ g)
theorem S.one (s : S B (tSeq t tNext) Γ D) : S B t Γ D := s
theorem S.assoc (s : S B (tSeq t (tSeq u tz)) Γ D) : S B (tSeq (tSeq t u) tz) Γ D := s
theorem S.next (s : S B tz Γ D) : S B (tSeq tNext tz) Γ D := s
theorem S.asg {i : Nat} (h : Ev te Γ A a) (k : S B tz (Γ.set i (.im A a)) D) : S B (tSeq (tAsg te (gName i)) tz) Γ D := fun H F σ b g =>
  h B.H0 H F σ b.1.i g _ fun v H' F' o r => k H' F' _ (b.up o) ((g.mono o).setI r i)
theorem S.asgN {i : Nat} {as : List α} (h : EvN te Γ A as) (k : S B tz (Γ.set i (.mu A as)) D) : S B (tSeq (tAsg te (gName i)) tz) Γ D := fun H F σ b g =>
  h B.H0 H F σ b.1.i g _ fun p xs H' F' o hp hF hl r => k H' F' _ (b.up o) (g.setN (s := .mu A as) (S := [p]) o (fun y hy => by rw [List.mem_singleton.mp hy]; exact hp) ⟨p, xs, rfl, rfl, none_of b.1.h hp, hl, hF, r⟩)
theorem S.ret (h : Ev te Γ A a) (q : retI A a B.H0 B.F0 D.rt) : S B (tRet te) Γ D := fun H F σ b g => h B.H0 H F σ b.1.i g _ (q.up b.1)
theorem S.retL {as : List α} (h : EvN te Γ A as) (q : retN A as B.H0 B.F0 D.rt) : S B (tRet te) Γ D := fun H F σ b g => h B.H0 H F σ b.1.i g _ (q.up b.1)
theorem S.retR {ret : Ret} (h : EvR te Γ ret) (q : ∀ H F, B.ok H F → ret H F D.rt) : S B (tRet te) Γ D := fun H F σ b g => h B.H0 H F σ b.1.i g _ (q H F b)
theorem S.retM {i : Nat} {as : List α} (h : Γ[i]? = some (.mu A as)) (q : retN A as B.H0 B.F0 D.rt) : S B (tRet (tVar i)) Γ D := fun H F σ b g => by
  obtain ⟨l, xs, hv, h0, hl, hF, r⟩ := g.mut h
  exact ⟨_, hv, q l xs H F b.1 h0 hF hl r⟩
theorem S.drop (h : Ev te Γ A a) (k : S B tz Γ D) : S B (tSeq (tDrop te) tz) Γ D := fun H F σ b g =>
  h B.H0 H F σ b.1.i g _ fun v H' F' o r => k H' F' _ (b.up o) (g.mono o)
theorem S.ifs {k : Bool} (h : Eb tt Γ k) (h1 : k = true → S B (tSeq tu tz) Γ D) (h2 : k = false → S B (tSeq tw tz) Γ D) : S B (tSeq (tIfS tt tu tw) tz) Γ D := fun H F σ b g =>
  h B.H0 H F σ b.1.i g _ fun H' F' o => by
    cases k with
    | true => exact h1 rfl H' F' σ (b.up o) (g.mono o)
    | false => exact h2 rfl H' F' σ (b.up o) (g.mono o)
/-- if c: x = e -/
theorem S.ifAsg {k : Bool} {i : Nat} {a' : α} (h : Eb tt Γ k) (hi : Γ[i]? = some (.im A a')) (h1 : k = true → Ev te Γ A a) (z : S B tz (Γ.set i (.im A (if k = true then a else a'))) D) : S B (tSeq (tIfS tt (tAsg te (gName i)) tNext) tz) Γ D := by
  refine S.ifs h (fun e => ?_) fun e => ?_
  · subst e
    refine S.asg (h1 rfl) ?_
    simpa using z
  · subst e
    refine S.next ?_
    have e2 : Γ.set i (.im A (if false = true then a else a')) = Γ := by
      rw [if_neg Bool.false_ne_true]
      refine List.ext_getElem? fun j => ?_
      by_cases q : i = j
      · subst q
        rw [hi, List.getElem?_set_self (List.getElem?_eq_some_iff.mp hi).1]
      · rw [List.getElem?_set_ne q]
    rw [e2] at z
    exact z
/-- the rest once, behind a statement of several ways -/
theorem S.cut (P : β → Prop) (I : β → List SA) (h : S B t Γ { D with nx := To B P I }) (k : ∀ x, P x → S B tz (I x) D) : S B (Evl.tCut t tz) Γ D := fun H F σ b g =>
  ⟨To B P I, h H F σ b g, fun σ' H' ⟨x, F', p, b', g'⟩ => k x p H' F' σ' b' g'⟩
theorem S.to {P : β → Prop} {I : β → List SA} (x : β) (p : P x) (s : Sub Γ (I x)) (e : D.nx = To B P I) : S B tNext Γ D := fun H F σ b g => by
  show D.nx σ H
  rw [e]
  exact ⟨x, F, p, b, s _ _ _ _ g⟩
theorem S.cont {P : β → Prop} {I : β → List SA} (x : β) (p : P x) (s : Sub Γ (I x)) (e : D.ct = To B P I) : S B tCont Γ D := fun H F σ b g => by
  show D.ct σ H
  rw [e]
  exact ⟨x, F, p, b, s _ _ _ _ g⟩
/-- xs.append(e) -/
theorem S.app {i : Nat} {as : List α} (h : Γ[i]? = some (.mu A as)) (he : Ev te Γ A a) (hn : as.length < 100000) (k : S B tz (Γ.set i (.mu A (as ++ [a]))) D) : S B (tSeq (tDrop (tBM K "list" rAppend (tVar i) (tCons te tNil))) tz) Γ D := fun H F σ b g => by
  obtain ⟨l, xs, hv, h0, hl, hF, r⟩ := g.mut h
  refine ⟨_, hv, .inl ⟨rfl, xs, Evl.sq_of hl⟩, he B.H0 H F σ b.1.i g _ fun v H' F' o rv => ?_⟩
  obtain ⟨l2, xs2, hv2, _, hl2, hF2, r2⟩ := (g.mono o).mut h
  cases Option.some.inj (hv.symm.trans hv2)
  refine ⟨l, xs2, v, rfl, rfl, hl2, Evl.sz_lt (by rw [r2.length]; exact hn), ?_⟩
  refine k _ F' σ ⟨(b.up o).1.set hF2 h0, (b.up o).2⟩ ((g.mono o).wr h hv h0 hF2 (r2.snoc rv))
/-- xs.extend(e), e a new list -/
theorem S.ext {i : Nat} {as bs : List α} (h : Γ[i]? = some (.mu A as)) (he : EvN te Γ A bs) (hn : as.length + bs.length ≤ 100000) (k : S B tz (Γ.set i (.mu A (as ++ bs))) D) : S B (tSeq (tDrop (tBM K "list" rExtend (tVar i) (tCons te tNil))) tz) Γ D := fun H F σ b g => by
  obtain ⟨l, xs, hv, h0, hl, hF, r⟩ := g.mut h
  refine ⟨_, hv, .inl ⟨rfl, xs, Evl.sq_of hl⟩, he B.H0 H F σ b.1.i g _ fun p zs H' F' o hp hFp hlp rv => ?_⟩
  obtain ⟨l2, xs2, hv2, _, hl2, hF2, r2⟩ := (g.mono o).mut h
  cases Option.some.inj (hv.symm.trans hv2)
  refine ⟨l, p, xs2, zs, rfl, rfl, hl2, hlp, by rw [r2.length, rv.length]; exact Nat.le_trans hn (by decide), ?_⟩
  exact k _ F' σ ⟨(b.up o).1.set hF2 h0, (b.up o).2⟩ ((g.mono o).wr h hv h0 hF2 (r2.app rv))
/-- xs[i] = e -/
theorem S.setL {i : Nat} {n : Int} {j : Nat} {as : List α} (h : Γ[i]? = some (.mu A as)) (he : Ev te Γ A a) (hi : Ev tb Γ rInt n) (hj : ixN as.length n = some j) (k : S B tz (Γ.set i (.mu A (as.set j a))) D) : S B (tSeq (tAsg te (gSub (tVar i) tb rSetL)) tz) Γ D := fun H F σ b g =>
  he B.H0 H F σ b.1.i g _ fun v H1 F1 o1 rv => by
    obtain ⟨l, xs, hv, h0, hl, hF, r⟩ := (g.mono o1).mut h
    refine ⟨_, hv, hi B.H0 H1 F1 σ o1.i (g.mono o1) _ fun w H2 F2 o2 rw2 => ?_⟩
    cases rw2
    obtain ⟨l2, xs2, hv2, _, hl2, hF2, r2⟩ := (g.mono (o1.trans o2)).mut h
    cases Option.some.inj (hv.symm.trans hv2)
    refine ⟨l, xs2, n, j, rfl, rfl, hl2, by rw [r2.length]; exact hj, ?_⟩
    exact k _ F2 σ ⟨((b.up o1).up o2).1.set hF2 h0, ((b.up o1).up o2).2⟩ ((g.mono (o1.trans o2)).wr h hv h0 hF2 (r2.set (A.mono o2.f rv) j))
/-- x += e -/
theorem S.aug {i : Nat} {f : Int → Int → Int} {x y : Int} (h : Γ[i]? = some (.im rInt x)) (he : Ev te Γ rInt y) (k : S B tz (Γ.set i (.im rInt (f x y))) D) : S B (tSeq (tAug i te (ipI f)) tz) Γ D := fun H F σ b g => by
  obtain ⟨v, hv, r⟩ := g.var h
  cases r
  refine ⟨_, hv, he B.H0 H F σ b.1.i g _ fun w H' F' o rw2 => ?_⟩
  cases rw2
  exact ⟨x, y, rfl, rfl, k H' F' _ (b.up o) ((g.mono o).setI rfl i)⟩
/-- a, b = x, y -/
theorem S.par {i j : Nat} {A2 : Rp β} {b2 : β} (ha : Ev ta Γ A a) (hb : Ev tb Γ A2 b2) (k : S B tz ((Γ.set i (.im A a)).set j (.im A2 b2)) D) : S B (tSeq (tPar i j (tCons ta (tCons tb tNil))) tz) Γ D := fun H F σ b g =>
  e_seq ha hb (k := fun x y H2 => ∃ v w, [x, y] = [v, w] ∧ tz D ((σ.set i (some v)).set j (some w)) H2) b.1.i g fun v w H' F' o r1 r2 => ⟨v, w, rfl, k H' F' _ (b.up o) (((g.mono o).setI r1 i).setI r2 j)⟩
/-- slot i is written no more -/
theorem S.frz {i : Nat} {as : List α} (K : PySem.W.Frag) (h : Γ[i]? = some (.mu A as)) (k : S B t (Γ.set i (.im (rLst K A) as)) D) : S B t Γ D := fun H F σ b g => by
  obtain ⟨l, xs, hv, h0, hl, hF, r⟩ := g.mut h
  exact k H _ σ ⟨b.1.frz hl hF h0, b.2.trans (Ex.new hF)⟩ (g.frz K h hv hF r)
/-- while -/
theorem S.while (P : β → Prop) (I : β → List SA) (m : β → Nat) (b : β → Bool) (x0 : β) (p0 : P x0) (h0 : Sub Γ (I x0)) (hb : ∀ x, P x → Eb tt (I x) (b x))
    (hs : ∀ x, P x → b x = true → S B tu (I x) { D with nx := To B (fun y => P y ∧ m y < m x) I, ct := To B (fun y => P y ∧ m y < m x) I, bk := tz D }) (hd : ∀ x, P x → b x = false → S B tz (I x) D) : S B (tSeq (tWhile tt tu) tz) Γ D := fun H F σ bb g =>
  ⟨fun n σ' H' => ∃ x F', n = m x ∧ P x ∧ B.ok H' F' ∧ Good B.H0 H' F' σ' (I x), ⟨m x0, x0, F, rfl, p0, bb, h0 _ _ _ _ g⟩, fun n σ' H' ⟨x, F', e, p, b', g'⟩ =>
    hb x p B.H0 H' F' σ' b'.1.i g' _ fun H2 F2 o2 => by
      cases q : b x with
      | true => exact ⟨_, fun σ3 H3 ⟨y, F3, ⟨py, ly⟩, b3, g3⟩ => ⟨m y, by omega, y, F3, rfl, py, b3, g3⟩, hs x p q H2 F2 σ' (b'.up o2) (g'.mono o2)⟩
      | false => exact hd x p q H2 F2 σ' (b'.up o2) (g'.mono o2)⟩

/-! ### what is walked -/
structure Wk (J : It) (F1 : Hp) (A : Rp α) (as : List α) : Prop where
  go : ∀ F H i, Ex F1 F → Ex F H → i < as.length → J.go i H
  yld : ∀ F H (i : Nat) a v H', Ex F1 F → Ex F H → as[i]? = some a → J.yld i H v H' → ∃ F', Ok H F H' F' ∧ A.r F' v a
  stop : ∀ F H, Ex F1 F → Ex F H → J.stop as.length H
def Iw (wi : TI) (Γ : List SA) (A : Rp α) (as : List α) : Prop := ∀ H0 H F σ, Ex F H → Good H0 H F σ Γ → ∀ R : It → Hp → Prop, (∀ J H1 F1, Ok H F H1 F1 → Wk J F1 A as → R J H1) → wi σ H R
theorem iw_list {as : List α} (h : Ev te Γ (rLst K A) as) : Iw (iList K te) Γ A as := fun H0 H F σ e g R k =>
  h H0 H F σ e g _ fun v H1 F1 o r => by
    obtain ⟨p, xs, rfl, s, a⟩ := r
    refine ⟨p, rfl, ⟨xs, Evl.ex_l o.i s⟩, k _ H1 F1 o ⟨fun F' H' i e1 e2 hi => ?_, fun F' H' i x v H2 e1 e2 hx y => ?_, fun F' H' e1 e2 => ⟨xs, Evl.ex_l (e1.trans e2) s, by rw [a.length]; exact Nat.le_refl _⟩⟩⟩
    · obtain ⟨x, hx⟩ : ∃ x, as[i]? = some x := ⟨_, List.getElem?_eq_getElem hi⟩
      obtain ⟨v, hv, _⟩ := a.get hx
      exact ⟨xs, v, Evl.ex_l (e1.trans e2) s, hv⟩
    · obtain ⟨rfl, f⟩ := y
      obtain ⟨v', hv, rv⟩ := a.get hx
      cases Option.some.inj ((f _ (Evl.ex_l (e1.trans e2) s)).symm.trans hv)
      exact ⟨F', .refl e2, A.mono e1 rv⟩
theorem iw_tup {as : List α} (h : Ev te Γ (rTup K A) as) : Iw (iTup K te) Γ A as := fun H0 H F σ e g R k =>
  h H0 H F σ e g _ fun v H1 F1 o r => by
    obtain ⟨p, xs, rfl, s, a⟩ := r
    refine ⟨p, rfl, ⟨xs, Evl.ex_t o.i s⟩, k _ H1 F1 o ⟨fun F' H' i e1 e2 hi => ?_, fun F' H' i x v H2 e1 e2 hx y => ?_, fun F' H' e1 e2 => ⟨xs, Evl.ex_t (e1.trans e2) s, by rw [a.length]; exact Nat.le_refl _⟩⟩⟩
    · obtain ⟨x, hx⟩ : ∃ x, as[i]? = some x := ⟨_, List.getElem?_eq_getElem hi⟩
      obtain ⟨v, hv, _⟩ := a.get hx
      exact ⟨xs, v, Evl.ex_t (e1.trans e2) s, hv⟩
    · obtain ⟨rfl, f⟩ := y
      obtain ⟨v', hv, rv⟩ := a.get hx
      cases Option.some.inj ((f _ (Evl.ex_t (e1.trans e2) s)).symm.trans hv)
      exact ⟨F', .refl e2, A.mono e1 rv⟩
/-- lo, lo + 1, .. below hi -/
def rng (lo hi : Int) : List Int := (List.range (hi - lo).toNat).map fun i : Nat => lo + (i : Int)
theorem rng_len (lo hi : Int) : (rng lo hi).length = (hi - lo).toNat := by unfold rng; rw [List.length_map, List.length_range]
theorem rng_get {lo hi : Int} {i : Nat} {x : Int} (h : (rng lo hi)[i]? = some x) : x = lo + (i : Int) ∧ lo + (i : Int) < hi := by
  unfold rng at h
  rw [List.getElem?_map] at h
  cases q : (List.range (hi - lo).toNat)[i]? with
  | none => rw [q] at h; cases h
  | some j =>
    rw [q] at h
    obtain ⟨hi', e⟩ := List.getElem?_eq_some_iff.mp q
    rw [List.getElem_range] at e
    rw [List.length_range] at hi'
    subst e
    cases Option.some.inj h
    exact ⟨rfl, by omega⟩
theorem wk_rng {lo hi : Int} {F1 : Hp} : Wk (Itr lo (hi - lo).toNat) F1 rInt (rng lo hi) :=
  ⟨fun F H i _ _ hi' => by rw [rng_len] at hi'; exact hi', fun F H i a v H' _ e2 ha y => by
    obtain ⟨rfl, rfl⟩ := y
    exact ⟨F, .refl e2, by rw [(rng_get ha).1]; rfl⟩, fun F H _ _ => by show _ ≤ _; rw [rng_len]; exact Nat.le_refl _⟩
theorem iw_r1 {n : Int} (h : Ev te Γ rInt n) (hn : -4611686018427387904 ≤ n ∧ n < 4611686018427387904) : Iw (iRng1 (tCons te tNil)) Γ rInt (rng 0 n) := fun H0 H F σ e g R k =>
  h H0 H F σ e g _ fun v H1 F1 o r => by
    cases r
    refine ⟨n, rfl, hn.1, hn.2, k _ H1 F1 o ?_⟩
    have q := wk_rng (lo := 0) (hi := n) (F1 := F1)
    rwa [show (n - 0).toNat = n.toNat by rw [Int.sub_zero]] at q
theorem iw_r2 {m n : Int} (h : Ev ta Γ rInt m) (h' : Ev tb Γ rInt n) (hm : -4611686018427387904 ≤ m ∧ m < 4611686018427387904) (hn : -4611686018427387904 ≤ n ∧ n < 4611686018427387904) : Iw (iRng2 (tCons ta (tCons tb tNil))) Γ rInt (rng m n) := fun H0 H F σ e g R k =>
  h H0 H F σ e g _ fun v H1 F1 o1 r1 => h' H0 H1 F1 σ o1.i (g.mono o1) _ fun w H2 F2 o2 r2 => by
    cases r1; cases r2
    exact ⟨m, n, rfl, ⟨hm.1, hm.2, hn.1, hn.2⟩, k _ H2 F2 (o1.trans o2) wk_rng⟩
/-- what a target does -/
def Tg (g : TG) (Γ : List SA) (A : Rp α) (a : α) (Γ' : List SA) : Prop := ∀ H0 H F σ v, Ex F H → Good H0 H F σ Γ → A.r F v a → ∀ Q : L2.St → Hp → Prop, (∀ σ', Good H0 H F σ' Γ' → Q σ' H) → g v σ H Q
theorem tg_name (i : Nat) : Tg (gName i) Γ A a (Γ.set i (.im A a)) := fun H0 H F σ v e g r Q q => q _ (g.setI r i)
theorem tg_2 {A2 : Rp β} {c : α × β} {g1 g2 : TG} {Γ1 Γ2 : List SA} (h1 : Tg g1 Γ A c.1 Γ1) (h2 : Tg g2 Γ1 A2 c.2 Γ2) : Tg (gTup K 2 (gCons g1 (gCons g2 gNil))) Γ (rT2 K A A2) c Γ2 := fun H0 H F σ v e g r Q q => by
  obtain ⟨p, x, y, rfl, s, r1, r2⟩ := r
  exact ⟨p, _, rfl, Evl.ex_t e s, rfl, x, _, rfl, h1 H0 H F σ x e g r1 _ fun σ1 g1' => ⟨y, _, rfl, h2 H0 H F σ1 y e g1' r2 _ fun σ2 g2' => ⟨rfl, q σ2 g2'⟩⟩⟩
theorem tg_3 {A2 : Rp β} {A3 : Rp γ} {c : α × β × γ} {g1 g2 g3 : TG} {Γ1 Γ2 Γ3 : List SA} (h1 : Tg g1 Γ A c.1 Γ1) (h2 : Tg g2 Γ1 A2 c.2.1 Γ2) (h3 : Tg g3 Γ2 A3 c.2.2 Γ3) : Tg (gTup K 3 (gCons g1 (gCons g2 (gCons g3 gNil)))) Γ (rT3 K A A2 A3) c Γ3 := fun H0 H F σ v e g r Q q => by
  obtain ⟨p, x, y, z, rfl, s, r1, r2, r3⟩ := r
  exact ⟨p, _, rfl, Evl.ex_t e s, rfl, x, _, rfl, h1 H0 H F σ x e g r1 _ fun σ1 g1' => ⟨y, _, rfl, h2 H0 H F σ1 y e g1' r2 _ fun σ2 g2' => ⟨z, _, rfl, h3 H0 H F σ2 z e g2' r3 _ fun σ3 g3' => ⟨rfl, q σ3 g3'⟩⟩⟩⟩
/-- a, b = e -/
theorem S.asgT {g : TG} {Γ1 : List SA} (h : Ev te Γ A a) (hg : Tg g Γ A a Γ1) (k : S B tz Γ1 D) : S B (tSeq (tAsg te g) tz) Γ D := fun H F σ b g' =>
  h B.H0 H F σ b.1.i g' _ fun v H' F' o r => hg B.H0 H' F' σ v o.i (g'.mono o) r _ fun σ' g2 => k H' F' σ' (b.up o) g2
/-- for: from I i to I (i + 1) -/
theorem S.for {wi : TI} {g : TG} {as : List α} (hw : Iw wi Γ A as) (P : Nat → β → Prop) (I : Nat → β → List SA) (G : Nat → β → α → List SA) (x0 : β) (p0 : P 0 x0) (h0 : Sub Γ (I 0 x0)) (hg : ∀ i x a, P i x → as[i]? = some a → Tg g (I i x) A a (G i x a))
    (hs : ∀ F1 i x a, Ex B.F1 F1 → P i x → as[i]? = some a → S { B with F1 := F1 } tu (G i x a) { D with nx := To { B with F1 := F1 } (P (i + 1)) (I (i + 1)), ct := To { B with F1 := F1 } (P (i + 1)) (I (i + 1)), bk := tz D })
    (hd : ∀ x, P as.length x → S B tz (I as.length x) D) : S B (tSeq (tFor wi g tu) tz) Γ D := fun H F σ b gd =>
  hw B.H0 H F σ b.1.i gd _ fun J H1 F1 o1 wk => by
    refine ⟨fun i m σ' H' => i + m = as.length ∧ To { B with F1 := F1 } (P i) (I i) σ' H', ⟨as.length, by omega, x0, F1, p0, ⟨(b.up o1).1, Ex.refl F1⟩, h0 _ _ _ _ (gd.mono o1)⟩, fun i m σ' H' ⟨em, x, F', p, b', g'⟩ => ?_⟩
    by_cases hi : i < as.length
    · refine .inr ⟨wk.go F' H' i b'.2 b'.1.i hi, _, fun σ2 H2 n2 => ⟨m - 1, by omega, by omega, n2⟩, fun v H2 y => ?_⟩
      have ha : as[i]? = some as[i] := List.getElem?_eq_getElem hi
      obtain ⟨F2, o2, r2⟩ := wk.yld F' H' i _ v H2 b'.2 b'.1.i ha y
      refine hg i x _ p ha B.H0 H2 F2 σ' v o2.i (g'.mono o2) r2 _ fun σ3 g3 => ?_
      exact hs F1 i x _ (b.2.trans o1.f) p ha H2 F2 σ3 (b'.up o2) g3
    · have ei : i = as.length := by omega
      subst ei
      exact .inl ⟨wk.stop F' H' b'.2 b'.1.i, hd x p H' F' σ' ⟨b'.1, b.2.trans (o1.f.trans b'.2)⟩ g'⟩
/-- for, the state a function of the turn -/
theorem S.forI {wi : TI} {g : TG} {as : List α} (hw : Iw wi Γ A as) (I : Nat → List SA) (G : Nat → α → List SA) (h0 : Sub Γ (I 0)) (hg : ∀ i a, as[i]? = some a → Tg g (I i) A a (G i a))
    (hs : ∀ F1 i a, Ex B.F1 F1 → as[i]? = some a → S { B with F1 := F1 } tu (G i a) { D with nx := To1 { B with F1 := F1 } (I (i + 1)), ct := To1 { B with F1 := F1 } (I (i + 1)), bk := tz D })
    (hd : S B tz (I as.length) D) : S B (tSeq (tFor wi g tu) tz) Γ D :=
  S.for hw (fun _ (_ : Unit) => True) (fun i _ => I i) (fun i _ a => G i a) () trivial h0 (fun i _ a _ ha => hg i a ha) (fun F1 i _ a e _ ha => hs F1 i a e ha) (fun _ _ => hd)
theorem S.brk {F1 : Hp} (e : Ex B.F1 F1) (k : S B tz Γ D) {nx ct : L2.St → Hp → Prop} {rt : VK} : S { B with F1 := F1 } tBreak Γ ⟨nx, rt, tz D, ct⟩ := fun H F σ b g => k H F σ ⟨b.1, e.trans b.2⟩ g

/-! ### comprehensions -/
def wipeG (Γ : List SA) : List Nat → List SA
  | [] => Γ
  | v :: vs => (wipeG Γ vs).set v .un
theorem Good.wipe {H0 H F : Hp} {σ : L2.St} (g : Good H0 H F σ Γ) : ∀ vs : List Nat, Good H0 H F (wipe σ vs) (wipeG Γ vs)
  | [] => g
  | v :: vs => (Good.wipe g vs).setU none v
theorem wipe_get {σ : L2.St} {vs : List Nat} {j : Nat} : (wipe σ vs)[j]? = if j ∈ vs then (if j < σ.length then some none else none) else σ[j]? := by
  induction vs with
  | nil => simp [wipe]
  | cons v vs ih =>
    unfold wipe
    by_cases q : v = j
    · subst q
      by_cases h : v < σ.length
      · rw [List.getElem?_set_self (by rw [wipe_length]; exact h)]; simp [h]
      · rw [List.getElem?_eq_none (by rw [List.length_set, wipe_length]; omega)]; simp [h]
    · rw [List.getElem?_set_ne q, ih]
      have z : j ≠ v := fun z => q z.symm
      simp [z]
theorem wipe_set {σ : L2.St} {vs : List Nat} {j : Nat} {x : Option V} (h : j ∈ vs) : wipe (σ.set j x) vs = wipe σ vs := by
  refine List.ext_getElem? fun k => ?_
  rw [wipe_get, wipe_get, List.length_set]
  split
  · rfl
  · have z : j ≠ k := fun z => by subst z; contradiction
    rw [List.getElem?_set_ne z]
theorem wipe_wipe {σ : L2.St} {vs : List Nat} : wipe (wipe σ vs) vs = wipe σ vs := by
  refine List.ext_getElem? fun k => ?_
  rw [wipe_get, wipe_get, wipe_length]
  split
  · rfl
  · rfl
/-- a target of a comprehension: it stores into the block's own names alone -/
def TgC (vs : List Nat) (g : TG) (Γ : List SA) (A : Rp α) (a : α) (Γ' : List SA) : Prop := ∀ H0 H F σ v, Ex F H → Good H0 H F σ Γ → A.r F v a → ∀ Q : L2.St → Hp → Prop, (∀ σ', Good H0 H F σ' Γ' → wipe σ' vs = wipe σ vs → Q σ' H) → g v σ H Q
theorem tgc_name {vs : List Nat} {i : Nat} (h : i ∈ vs) : TgC vs (gName i) Γ A a (Γ.set i (.im A a)) := fun H0 H F σ v e g r Q q => q _ (g.setI r i) (wipe_set h)
theorem tgc_2 {vs : List Nat} {A2 : Rp β} {c : α × β} {g1 g2 : TG} {Γ1 Γ2 : List SA} (h1 : TgC vs g1 Γ A c.1 Γ1) (h2 : TgC vs g2 Γ1 A2 c.2 Γ2) : TgC vs (gTup K 2 (gCons g1 (gCons g2 gNil))) Γ (rT2 K A A2) c Γ2 := fun H0 H F σ v e g r Q q => by
  obtain ⟨p, x, y, rfl, s, r1, r2⟩ := r
  exact ⟨p, _, rfl, Evl.ex_t e s, rfl, x, _, rfl, h1 H0 H F σ x e g r1 _ fun σ1 g1' w1 => ⟨y, _, rfl, h2 H0 H F σ1 y e g1' r2 _ fun σ2 g2' w2 => ⟨rfl, q σ2 g2' (w2.trans w1)⟩⟩⟩
theorem tgc_3 {vs : List Nat} {A2 : Rp β} {A3 : Rp γ} {c : α × β × γ} {g1 g2 g3 : TG} {Γ1 Γ2 Γ3 : List SA} (h1 : TgC vs g1 Γ A c.1 Γ1) (h2 : TgC vs g2 Γ1 A2 c.2.1 Γ2) (h3 : TgC vs g3 Γ2 A3 c.2.2 Γ3) : TgC vs (gTup K 3 (gCons g1 (gCons g2 (gCons g3 gNil)))) Γ (rT3 K A A2 A3) c Γ3 := fun H0 H F σ v e g r Q q => by
  obtain ⟨p, x, y, z, rfl, s, r1, r2, r3⟩ := r
  exact ⟨p, _, rfl, Evl.ex_t e s, rfl, x, _, rfl, h1 H0 H F σ x e g r1 _ fun σ1 g1' w1 => ⟨y, _, rfl, h2 H0 H F σ1 y e g1' r2 _ fun σ2 g2' w2 => ⟨z, _, rfl, h3 H0 H F σ2 z e g2' r3 _ fun σ3 g3' w3 => ⟨rfl, q σ3 g3' (w3.trans (w2.trans w1))⟩⟩⟩⟩
theorem en_lc {wi : TI} {g : TG} {as : List α} {vs : List Nat} {C : Rp γ} {G : α → List SA} (f : α → γ) (p : α → Bool) (hw : Iw wi Γ A as) (hn : as.length ≤ 100000) (hg : ∀ a ∈ as, TgC vs g (wipeG Γ vs) A a (G a)) (ht : ∀ a ∈ as, Eb tt (G a) (p a))
    (he : ∀ a ∈ as, p a = true → Ev te (G a) C (f a)) : EvN (tLc wi g tt te vs) Γ C ((as.filter p).map f) := fun H0 H F σ e gd Q q =>
  hw H0 H F σ e gd _ fun J H1 F1 o1 wk L hL => by
    have gw := (gd.mono o1).wipe vs
    refine ⟨fun i m H' => i + m = as.length ∧ ∃ F' xs, Ok H1 F1 H' F' ∧ F' L = none ∧ H' L = some (.lst xs) ∧ A2 (C.r F') xs (((as.take i).filter p).map f), ⟨as.length, by omega, F1, [], (Ok.refl o1.i).mut hL, none_of o1.i hL, upd_same, .nil⟩, fun i m H' ⟨em, F', xs, o', hF', hH', a'⟩ => ?_⟩
    by_cases hi : i < as.length
    · have ha : as[i]? = some as[i] := List.getElem?_eq_getElem hi
      have hm : as[i] ∈ as := List.getElem_mem hi
      have et : as.take (i + 1) = as.take i ++ [as[i]] := by rw [List.take_add_one, ha]; rfl
      refine .inr ⟨wk.go F' H' i o'.f o'.i hi, fun H'' => ∃ F' xs, Ok H1 F1 H'' F' ∧ F' L = none ∧ H'' L = some (.lst xs) ∧ A2 (C.r F') xs (((as.take (i + 1)).filter p).map f), fun H'' n2 => ⟨m - 1, by omega, by omega, n2⟩, fun v H2 y => ?_⟩
      obtain ⟨F2, o2, r2⟩ := wk.yld F' H' i _ v H2 o'.f o'.i ha y
      refine hg _ hm H0 H2 F2 (wipe σ vs) v o2.i (gw.mono (o'.trans o2)) r2 _ fun σ3 g3 w3 => ⟨w3.trans wipe_wipe, ?_⟩
      refine ht _ hm H0 H2 F2 σ3 o2.i g3 _ fun H3 F3 o3 => ?_
      have o123 := (o'.trans o2).trans o3
      have keep : ∀ {H5 F5}, Ok H' F' H5 F5 → H5 L = some (.lst xs) ∧ F5 L = none := fun {H5 F5} o => ⟨o.h L _ hH', by
        cases q : F5 L with
        | none => rfl
        | some u =>
          rcases o.r L u q with z | z
          · rw [hF'] at z; cases z
          · rw [hH'] at z; cases z⟩
      cases hp : p as[i] with
      | true =>
        refine he _ hm hp H0 H3 F3 σ3 o3.i (g3.mono o3) _ fun z H4 F4 o4 r4 => ?_
        obtain ⟨k1, k2⟩ := keep ((o2.trans o3).trans o4)
        refine ⟨xs, k1, Evl.sz_lt (by rw [a'.length, List.length_map]; exact Nat.lt_of_le_of_lt (List.length_filter_le _ _) (by rw [List.length_take]; omega)), F4, _, (o123.trans o4).set k2 hL, k2, upd_same, ?_⟩
        rw [et, List.filter_append, List.map_append]
        have e1 : [as[i]].filter p = [as[i]] := by rw [List.filter_cons, hp]; rfl
        rw [e1]
        exact (a'.imp fun _ _ z => C.mono ((o2.trans o3).trans o4).f z).snoc r4
      | false =>
        obtain ⟨k1, k2⟩ := keep (o2.trans o3)
        refine ⟨F3, xs, o123, k2, k1, ?_⟩
        rw [et, List.filter_append, List.map_append]
        have e1 : [as[i]].filter p = [] := by rw [List.filter_cons, hp]; rfl
        rw [e1, List.map_nil, List.append_nil]
        exact a'.imp fun _ _ z => C.mono (o2.trans o3).f z
    · have ei : i = as.length := by omega
      subst ei
      rw [List.take_length] at a'
      exact .inl ⟨wk.stop F' H' o'.f o'.i, q L xs H' F' (o1.trans o') (none_of o1.h hL) hF' hH' a'⟩
theorem eb_yes : Eb tYes Γ true := fun H0 H F σ e g Q q => q H F (.refl e)
theorem filter_true (as : List α) : (as.filter fun _ => true) = as := List.filter_eq_self.mpr fun _ _ => rfl
theorem en_map {wi : TI} {g : TG} {as : List α} {vs : List Nat} {C : Rp γ} {G : α → List SA} (f : α → γ) (hw : Iw wi Γ A as) (hn : as.length ≤ 100000) (hg : ∀ a ∈ as, TgC vs g (wipeG Γ vs) A a (G a)) (he : ∀ a ∈ as, Ev te (G a) C (f a)) : EvN (tLc wi g tYes te vs) Γ C (as.map f) := by
  have h := en_lc (p := fun _ => true) f hw hn hg (fun _ _ => eb_yes) fun a m _ => he a m
  rwa [filter_true] at h
theorem en_is {as as' : List α} (h : EvN te Γ A as) (e : as = as') : EvN te Γ A as' := e ▸ h

/-! ### calls -/
end
end Tp

namespace Tp
open PySem PySem.Spec PyProof.Rows L2
open Evl (Ex)
/-! ### calls -/
def Up (r : Ret) : Prop := ∀ {H F H' F' : Hp} {Q : VK}, r H F Q → Ok H F H' F' → r H' F' Q
theorem retI_up {α : Type} (A : Rp α) (a : α) : Up (retI A a) := fun q o => q.up o
theorem retN_up {α : Type} (A : Rp α) (as : List α) : Up (retN A as) := fun q o => q.up o
theorem good_rep (H0 H F : Hp) (n : Nat) : Good H0 H F (List.replicate n none) (List.replicate n .un) :=
  ⟨fun _ => [], by simp, (fun i s e => by
    rw [List.getElem?_replicate] at e
    split at e
    · cases e
      exact ⟨none, by rw [List.getElem?_replicate, if_pos (by assumption)], rfl⟩
    · cases e), fun _ _ _ _ _ h => nomatch h⟩
theorem Good.cons {H0 H F : Hp} {σ : L2.St} {Γ : List SA} {α : Type} {A : Rp α} {a : α} {v : V} (h : A.r F v a) (g : Good H0 H F σ Γ) : Good H0 H F (some v :: σ) (.im A a :: Γ) := by
  obtain ⟨fp, g⟩ := g
  refine ⟨fun i => match i with | 0 => [] | i + 1 => fp i, by simp [g.len], fun i s e => ?_, fun i j y hi hj yi yj => ?_⟩
  · cases i with
    | zero => simp at e; subst e; exact ⟨_, rfl, rfl, v, rfl, h⟩
    | succ i => simpa using g.q i s (by simpa using e)
  · cases i with
    | zero => cases yi
    | succ i =>
      cases j with
      | zero => cases yj
      | succ j => rw [g.ap i j y (by simpa using hi) (by simpa using hj) yi yj]

def Sp0  (pre : Prop) (ret : Ret) : Sp := fun vs H Q _ => ∃ (F : Hp), Ex F H ∧ vs = [] ∧ pre  ∧ ret  H F Q
theorem Sp0.len  {pre : Prop} {ret : Ret} {vs H Q E} (h : Sp0  pre ret vs H Q E) : vs.length = 0 := by
  obtain ⟨_, _, rfl, _⟩ := h
  rfl
theorem e_call0 {Γ : List SA} {E : XK}   {pre : Prop} {ret : Ret}   (hp : pre ) (hu : Up (ret )) : EvR (tCall (Sp0  pre ret) [] E tNil) Γ (ret ) := fun H0 H F σ e g Q q =>
  ⟨F, e, rfl, hp, hu q (Ok.refl e)⟩
theorem body0 {N : List Str} {t : TS} {D : Ends} {H F : Hp}    (e : Ex F H)  (s : S ⟨H, F, F⟩ t (List.replicate (N.length - 0) .un) D) : t D (start N []) H :=
  s.run ⟨Ok.refl e, Ex.refl F⟩ (good_rep H H F (N.length - 0))
def Sp1 {α : Type} (A0 : Rp α) (pre : α → Prop) (ret : α → Ret) : Sp := fun vs H Q _ => ∃ (F : Hp) (v0 : V) (a0 : α), Ex F H ∧ vs = [v0] ∧ A0.r F v0 a0 ∧ pre a0 ∧ ret a0 H F Q
theorem Sp1.len {α : Type} {A0 : Rp α} {pre : α → Prop} {ret : α → Ret} {vs H Q E} (h : Sp1 A0 pre ret vs H Q E) : vs.length = 1 := by
  obtain ⟨_, _, _, _, rfl, _⟩ := h
  rfl
theorem e_call1 {Γ : List SA} {E : XK} {α : Type} {A0 : Rp α} {t0 : TE} {pre : α → Prop} {ret : α → Ret} {a0 : α} (h0 : Ev t0 Γ A0 a0) (hp : pre a0) (hu : Up (ret a0)) : EvR (tCall (Sp1 A0 pre ret) [] E (tCons t0 tNil)) Γ (ret a0) := fun H0 H F σ e g Q q =>
  h0 H0 H F σ e (g) _ fun w0 H1 F1 o1 r0 =>
  ⟨F1, w0, _, o1.i, rfl, r0, hp, hu q o1⟩
theorem body1 {N : List Str} {t : TS} {D : Ends} {H F : Hp} {α : Type} {A0 : Rp α} {v0 : V} {a0 : α} (e : Ex F H) (h0 : A0.r F v0 a0) (s : S ⟨H, F, F⟩ t (.im A0 a0 :: List.replicate (N.length - 1) .un) D) : t D (start N [v0]) H :=
  s.run ⟨Ok.refl e, Ex.refl F⟩ (Good.cons h0 (good_rep H H F (N.length - 1)))
def Sp2 {α β : Type} (A0 : Rp α) (A1 : Rp β) (pre : α → β → Prop) (ret : α → β → Ret) : Sp := fun vs H Q _ => ∃ (F : Hp) (v0 v1 : V) (a0 : α) (a1 : β), Ex F H ∧ vs = [v0, v1] ∧ A0.r F v0 a0 ∧ A1.r F v1 a1 ∧ pre a0 a1 ∧ ret a0 a1 H F Q
theorem Sp2.len {α β : Type} {A0 : Rp α} {A1 : Rp β} {pre : α → β → Prop} {ret : α → β → Ret} {vs H Q E} (h : Sp2 A0 A1 pre ret vs H Q E) : vs.length = 2 := by
  obtain ⟨_, _, _, _, _, _, rfl, _⟩ := h
  rfl
theorem e_call2 {Γ : List SA} {E : XK} {α β : Type} {A0 : Rp α} {A1 : Rp β} {t0 t1 : TE} {pre : α → β → Prop} {ret : α → β → Ret} {a0 : α} {a1 : β} (h0 : Ev t0 Γ A0 a0) (h1 : Ev t1 Γ A1 a1) (hp : pre a0 a1) (hu : Up (ret a0 a1)) : EvR (tCall (Sp2 A0 A1 pre ret) [] E (tCons t0 (tCons t1 tNil))) Γ (ret a0 a1) := fun H0 H F σ e g Q q =>
  h0 H0 H F σ e (g) _ fun w0 H1 F1 o1 r0 =>
  h1 H0 H1 F1 σ o1.i (g.mono o1) _ fun w1 H2 F2 o2 r1 =>
  ⟨F2, w0, w1, _, _, o2.i, rfl, (A0.mono o2.f r0), r1, hp, hu q (o1.trans o2)⟩
theorem body2 {N : List Str} {t : TS} {D : Ends} {H F : Hp} {α β : Type} {A0 : Rp α} {A1 : Rp β} {v0 v1 : V} {a0 : α} {a1 : β} (e : Ex F H) (h0 : A0.r F v0 a0) (h1 : A1.r F v1 a1) (s : S ⟨H, F, F⟩ t (.im A0 a0 :: .im A1 a1 :: List.replicate (N.length - 2) .un) D) : t D (start N [v0, v1]) H :=
  s.run ⟨Ok.refl e, Ex.refl F⟩ (Good.cons h0 (Good.cons h1 (good_rep H H F (N.length - 2))))
def Sp3 {α β γ : Type} (A0 : Rp α) (A1 : Rp β) (A2 : Rp γ) (pre : α → β → γ → Prop) (ret : α → β → γ → Ret) : Sp := fun vs H Q _ => ∃ (F : Hp) (v0 v1 v2 : V) (a0 : α) (a1 : β) (a2 : γ), Ex F H ∧ vs = [v0, v1, v2] ∧ A0.r F v0 a0 ∧ A1.r F v1 a1 ∧ A2.r F v2 a2 ∧ pre a0 a1 a2 ∧ ret a0 a1 a2 H F Q
theorem Sp3.len {α β γ : Type} {A0 : Rp α} {A1 : Rp β} {A2 : Rp γ} {pre : α → β → γ → Prop} {ret : α → β → γ → Ret} {vs H Q E} (h : Sp3 A0 A1 A2 pre ret vs H Q E) : vs.length = 3 := by
  obtain ⟨_, _, _, _, _, _, _, _, rfl, _⟩ := h
  rfl
theorem e_call3 {Γ : List SA} {E : XK} {α β γ : Type} {A0 : Rp α} {A1 : Rp β} {A2 : Rp γ} {t0 t1 t2 : TE} {pre : α → β → γ → Prop} {ret : α → β → γ → Ret} {a0 : α} {a1 : β} {a2 : γ} (h0 : Ev t0 Γ A0 a0) (h1 : Ev t1 Γ A1 a1) (h2 : Ev t2 Γ A2 a2) (hp : pre a0 a1 a2) (hu : Up (ret a0 a1 a2)) : EvR (tCall (Sp3 A0 A1 A2 pre ret) [] E (tCons t0 (tCons t1 (tCons t2 tNil)))) Γ (ret a0 a1 a2) := fun H0 H F σ e g Q q =>
  h0 H0 H F σ e (g) _ fun w0 H1 F1 o1 r0 =>
  h1 H0 H1 F1 σ o1.i (g.mono o1) _ fun w1 H2 F2 o2 r1 =>
  h2 H0 H2 F2 σ o2.i (g.mono (o1.trans o2)) _ fun w2 H3 F3 o3 r2 =>
  ⟨F3, w0, w1, w2, _, _, _, o3.i, rfl, (A0.mono (o2.f.trans o3.f) r0), (A1.mono o3.f r1), r2, hp, hu q ((o1.trans o2).trans o3)⟩
theorem body3 {N : List Str} {t : TS} {D : Ends} {H F : Hp} {α β γ : Type} {A0 : Rp α} {A1 : Rp β} {A2 : Rp γ} {v0 v1 v2 : V} {a0 : α} {a1 : β} {a2 : γ} (e : Ex F H) (h0 : A0.r F v0 a0) (h1 : A1.r F v1 a1) (h2 : A2.r F v2 a2) (s : S ⟨H, F, F⟩ t (.im A0 a0 :: .im A1 a1 :: .im A2 a2 :: List.replicate (N.length - 3) .un) D) : t D (start N [v0, v1, v2]) H :=
  s.run ⟨Ok.refl e, Ex.refl F⟩ (Good.cons h0 (Good.cons h1 (Good.cons h2 (good_rep H H F (N.length - 3)))))
def Sp4 {α β γ δ : Type} (A0 : Rp α) (A1 : Rp β) (A2 : Rp γ) (A3 : Rp δ) (pre : α → β → γ → δ → Prop) (ret : α → β → γ → δ → Ret) : Sp := fun vs H Q _ => ∃ (F : Hp) (v0 v1 v2 v3 : V) (a0 : α) (a1 : β) (a2 : γ) (a3 : δ), Ex F H ∧ vs = [v0, v1, v2, v3] ∧ A0.r F v0 a0 ∧ A1.r F v1 a1 ∧ A2.r F v2 a2 ∧ A3.r F v3 a3 ∧ pre a0 a1 a2 a3 ∧ ret a0 a1 a2 a3 H F Q
theorem Sp4.len {α β γ δ : Type} {A0 : Rp α} {A1 : Rp β} {A2 : Rp γ} {A3 : Rp δ} {pre : α → β → γ → δ → Prop} {ret : α → β → γ → δ → Ret} {vs H Q E} (h : Sp4 A0 A1 A2 A3 pre ret vs H Q E) : vs.length = 4 := by
  obtain ⟨_, _, _, _, _, _, _, _, _, _, rfl, _⟩ := h
  rfl
theorem e_call4 {Γ : List SA} {E : XK} {α β γ δ : Type} {A0 : Rp α} {A1 : Rp β} {A2 : Rp γ} {A3 : Rp δ} {t0 t1 t2 t3 : TE} {pre : α → β → γ → δ → Prop} {ret : α → β → γ → δ → Ret} {a0 : α} {a1 : β} {a2 : γ} {a3 : δ} (h0 : Ev t0 Γ A0 a0) (h1 : Ev t1 Γ A1 a1) (h2 : Ev t2 Γ A2 a2) (h3 : Ev t3 Γ A3 a3) (hp : pre a0 a1 a2 a3) (hu : Up (ret a0 a1 a2 a3)) : EvR (tCall (Sp4 A0 A1 A2 A3 pre ret) [] E (tCons t0 (tCons t1 (tCons t2 (tCons t3 tNil))))) Γ (ret a0 a1 a2 a3) := fun H0 H F σ e g Q q =>
  h0 H0 H F σ e (g) _ fun w0 H1 F1 o1 r0 =>
  h1 H0 H1 F1 σ o1.i (g.mono o1) _ fun w1 H2 F2 o2 r1 =>
  h2 H0 H2 F2 σ o2.i (g.mono (o1.trans o2)) _ fun w2 H3 F3 o3 r2 =>
  h3 H0 H3 F3 σ o3.i (g.mono ((o1.trans o2).trans o3)) _ fun w3 H4 F4 o4 r3 =>
  ⟨F4, w0, w1, w2, w3, _, _, _, _, o4.i, rfl, (A0.mono ((o2.f.trans o3.f).trans o4.f) r0), (A1.mono (o3.f.trans o4.f) r1), (A2.mono o4.f r2), r3, hp, hu q (((o1.trans o2).trans o3).trans o4)⟩
theorem body4 {N : List Str} {t : TS} {D : Ends} {H F : Hp} {α β γ δ : Type} {A0 : Rp α} {A1 : Rp β} {A2 : Rp γ} {A3 : Rp δ} {v0 v1 v2 v3 : V} {a0 : α} {a1 : β} {a2 : γ} {a3 : δ} (e : Ex F H) (h0 : A0.r F v0 a0) (h1 : A1.r F v1 a1) (h2 : A2.r F v2 a2) (h3 : A3.r F v3 a3) (s : S ⟨H, F, F⟩ t (.im A0 a0 :: .im A1 a1 :: .im A2 a2 :: .im A3 a3 :: List.replicate (N.length - 4) .un) D) : t D (start N [v0, v1, v2, v3]) H :=
  s.run ⟨Ok.refl e, Ex.refl F⟩ (Good.cons h0 (Good.cons h1 (Good.cons h2 (Good.cons h3 (good_rep H H F (N.length - 4))))))
def Sp5 {α β γ δ ε : Type} (A0 : Rp α) (A1 : Rp β) (A2 : Rp γ) (A3 : Rp δ) (A4 : Rp ε) (pre : α → β → γ → δ → ε → Prop) (ret : α → β → γ → δ → ε → Ret) : Sp := fun vs H Q _ => ∃ (F : Hp) (v0 v1 v2 v3 v4 : V) (a0 : α) (a1 : β) (a2 : γ) (a3 : δ) (a4 : ε), Ex F H ∧ vs = [v0, v1, v2, v3, v4] ∧ A0.r F v0 a0 ∧ A1.r F v1 a1 ∧ A2.r F v2 a2 ∧ A3.r F v3 a3 ∧ A4.r F v4 a4 ∧ pre a0 a1 a2 a3 a4 ∧ ret a0 a1 a2 a3 a4 H F Q
theorem Sp5.len {α β γ δ ε : Type} {A0 : Rp α} {A1 : Rp β} {A2 : Rp γ} {A3 : Rp δ} {A4 : Rp ε} {pre : α → β → γ → δ → ε → Prop} {ret : α → β → γ → δ → ε → Ret} {vs H Q E} (h : Sp5 A0 A1 A2 A3 A4 pre ret vs H Q E) : vs.length = 5 := by
  obtain ⟨_, _, _, _, _, _, _, _, _, _, _, _, rfl, _⟩ := h
  rfl
theorem e_call5 {Γ : List SA} {E : XK} {α β γ δ ε : Type} {A0 : Rp α} {A1 : Rp β} {A2 : Rp γ} {A3 : Rp δ} {A4 : Rp ε} {t0 t1 t2 t3 t4 : TE} {pre : α → β → γ → δ → ε → Prop} {ret : α → β → γ → δ → ε → Ret} {a0 : α} {a1 : β} {a2 : γ} {a3 : δ} {a4 : ε} (h0 : Ev t0 Γ A0 a0) (h1 : Ev t1 Γ A1 a1) (h2 : Ev t2 Γ A2 a2) (h3 : Ev t3 Γ A3 a3) (h4 : Ev t4 Γ A4 a4) (hp : pre a0 a1 a2 a3 a4) (hu : Up (ret a0 a1 a2 a3 a4)) : EvR (tCall (Sp5 A0 A1 A2 A3 A4 pre ret) [] E (tCons t0 (tCons t1 (tCons t2 (tCons t3 (tCons t4 tNil)))))) Γ (ret a0 a1 a2 a3 a4) := fun H0 H F σ e g Q q =>
  h0 H0 H F σ e (g) _ fun w0 H1 F1 o1 r0 =>
  h1 H0 H1 F1 σ o1.i (g.mono o1) _ fun w1 H2 F2 o2 r1 =>
  h2 H0 H2 F2 σ o2.i (g.mono (o1.trans o2)) _ fun w2 H3 F3 o3 r2 =>
  h3 H0 H3 F3 σ o3.i (g.mono ((o1.trans o2).trans o3)) _ fun w3 H4 F4 o4 r3 =>
  h4 H0 H4 F4 σ o4.i (g.mono (((o1.trans o2).trans o3).trans o4)) _ fun w4 H5 F5 o5 r4 =>
  ⟨F5, w0, w1, w2, w3, w4, _, _, _, _, _, o5.i, rfl, (A0.mono (((o2.f.trans o3.f).trans o4.f).trans o5.f) r0), (A1.mono ((o3.f.trans o4.f).trans o5.f) r1), (A2.mono (o4.f.trans o5.f) r2), (A3.mono o5.f r3), r4, hp, hu q ((((o1.trans o2).trans o3).trans o4).trans o5)⟩
theorem body5 {N : List Str} {t : TS} {D : Ends} {H F : Hp} {α β γ δ ε : Type} {A0 : Rp α} {A1 : Rp β} {A2 : Rp γ} {A3 : Rp δ} {A4 : Rp ε} {v0 v1 v2 v3 v4 : V} {a0 : α} {a1 : β} {a2 : γ} {a3 : δ} {a4 : ε} (e : Ex F H) (h0 : A0.r F v0 a0) (h1 : A1.r F v1 a1) (h2 : A2.r F v2 a2) (h3 : A3.r F v3 a3) (h4 : A4.r F v4 a4) (s : S ⟨H, F, F⟩ t (.im A0 a0 :: .im A1 a1 :: .im A2 a2 :: .im A3 a3 :: .im A4 a4 :: List.replicate (N.length - 5) .un) D) : t D (start N [v0, v1, v2, v3, v4]) H :=
  s.run ⟨Ok.refl e, Ex.refl F⟩ (Good.cons h0 (Good.cons h1 (Good.cons h2 (Good.cons h3 (Good.cons h4 (good_rep H H F (N.length - 5)))))))
def Sp6 {α β γ δ ε ζ : Type} (A0 : Rp α) (A1 : Rp β) (A2 : Rp γ) (A3 : Rp δ) (A4 : Rp ε) (A5 : Rp ζ) (pre : α → β → γ → δ → ε → ζ → Prop) (ret : α → β → γ → δ → ε → ζ → Ret) : Sp := fun vs H Q _ => ∃ (F : Hp) (v0 v1 v2 v3 v4 v5 : V) (a0 : α) (a1 : β) (a2 : γ) (a3 : δ) (a4 : ε) (a5 : ζ), Ex F H ∧ vs = [v0, v1, v2, v3, v4, v5] ∧ A0.r F v0 a0 ∧ A1.r F v1 a1 ∧ A2.r F v2 a2 ∧ A3.r F v3 a3 ∧ A4.r F v4 a4 ∧ A5.r F v5 a5 ∧ pre a0 a1 a2 a3 a4 a5 ∧ ret a0 a1 a2 a3 a4 a5 H F Q
theorem Sp6.len {α β γ δ ε ζ : Type} {A0 : Rp α} {A1 : Rp β} {A2 : Rp γ} {A3 : Rp δ} {A4 : Rp ε} {A5 : Rp ζ} {pre : α → β → γ → δ → ε → ζ → Prop} {ret : α → β → γ → δ → ε → ζ → Ret} {vs H Q E} (h : Sp6 A0 A1 A2 A3 A4 A5 pre ret vs H Q E) : vs.length = 6 := by
  obtain ⟨_, _, _, _, _, _, _, _, _, _, _, _, _, _, rfl, _⟩ := h
  rfl
theorem e_call6 {Γ : List SA} {E : XK} {α β γ δ ε ζ : Type} {A0 : Rp α} {A1 : Rp β} {A2 : Rp γ} {A3 : Rp δ} {A4 : Rp ε} {A5 : Rp ζ} {t0 t1 t2 t3 t4 t5 : TE} {pre : α → β → γ → δ → ε → ζ → Prop} {ret : α → β → γ → δ → ε → ζ → Ret} {a0 : α} {a1 : β} {a2 : γ} {a3 : δ} {a4 : ε} {a5 : ζ} (h0 : Ev t0 Γ A0 a0) (h1 : Ev t1 Γ A1 a1) (h2 : Ev t2 Γ A2 a2) (h3 : Ev t3 Γ A3 a3) (h4 : Ev t4 Γ A4 a4) (h5 : Ev t5 Γ A5 a5) (hp : pre a0 a1 a2 a3 a4 a5) (hu : Up (ret a0 a1 a2 a3 a4 a5)) : EvR (tCall (Sp6 A0 A1 A2 A3 A4 A5 pre ret) [] E (tCons t0 (tCons t1 (tCons t2 (tCons t3 (tCons t4 (tCons t5 tNil))))))) Γ (ret a0 a1 a2 a3 a4 a5) := fun H0 H F σ e g Q q =>
  h0 H0 H F σ e (g) _ fun w0 H1 F1 o1 r0 =>
  h1 H0 H1 F1 σ o1.i (g.mono o1) _ fun w1 H2 F2 o2 r1 =>
  h2 H0 H2 F2 σ o2.i (g.mono (o1.trans o2)) _ fun w2 H3 F3 o3 r2 =>
  h3 H0 H3 F3 σ o3.i (g.mono ((o1.trans o2).trans o3)) _ fun w3 H4 F4 o4 r3 =>
  h4 H0 H4 F4 σ o4.i (g.mono (((o1.trans o2).trans o3).trans o4)) _ fun w4 H5 F5 o5 r4 =>
  h5 H0 H5 F5 σ o5.i (g.mono ((((o1.trans o2).trans o3).trans o4).trans o5)) _ fun w5 H6 F6 o6 r5 =>
  ⟨F6, w0, w1, w2, w3, w4, w5, _, _, _, _, _, _, o6.i, rfl, (A0.mono ((((o2.f.trans o3.f).trans o4.f).trans o5.f).trans o6.f) r0), (A1.mono (((o3.f.trans o4.f).trans o5.f).trans o6.f) r1), (A2.mono ((o4.f.trans o5.f).trans o6.f) r2), (A3.mono (o5.f.trans o6.f) r3), (A4.mono o6.f r4), r5, hp, hu q (((((o1.trans o2).trans o3).trans o4).trans o5).trans o6)⟩
theorem body6 {N : List Str} {t : TS} {D : Ends} {H F : Hp} {α β γ δ ε ζ : Type} {A0 : Rp α} {A1 : Rp β} {A2 : Rp γ} {A3 : Rp δ} {A4 : Rp ε} {A5 : Rp ζ} {v0 v1 v2 v3 v4 v5 : V} {a0 : α} {a1 : β} {a2 : γ} {a3 : δ} {a4 : ε} {a5 : ζ} (e : Ex F H) (h0 : A0.r F v0 a0) (h1 : A1.r F v1 a1) (h2 : A2.r F v2 a2) (h3 : A3.r F v3 a3) (h4 : A4.r F v4 a4) (h5 : A5.r F v5 a5) (s : S ⟨H, F, F⟩ t (.im A0 a0 :: .im A1 a1 :: .im A2 a2 :: .im A3 a3 :: .im A4 a4 :: .im A5 a5 :: List.replicate (N.length - 6) .un) D) : t D (start N [v0, v1, v2, v3, v4, v5]) H :=
  s.run ⟨Ok.refl e, Ex.refl F⟩ (Good.cons h0 (Good.cons h1 (Good.cons h2 (Good.cons h3 (Good.cons h4 (Good.cons h5 (good_rep H H F (N.length - 6))))))))
def Sp7 {α β γ δ ε ζ η : Type} (A0 : Rp α) (A1 : Rp β) (A2 : Rp γ) (A3 : Rp δ) (A4 : Rp ε) (A5 : Rp ζ) (A6 : Rp η) (pre : α → β → γ → δ → ε → ζ → η → Prop) (ret : α → β → γ → δ → ε → ζ → η → Ret) : Sp := fun vs H Q _ => ∃ (F : Hp) (v0 v1 v2 v3 v4 v5 v6 : V) (a0 : α) (a1 : β) (a2 : γ) (a3 : δ) (a4 : ε) (a5 : ζ) (a6 : η), Ex F H ∧ vs = [v0, v1, v2, v3, v4, v5, v6] ∧ A0.r F v0 a0 ∧ A1.r F v1 a1 ∧ A2.r F v2 a2 ∧ A3.r F v3 a3 ∧ A4.r F v4 a4 ∧ A5.r F v5 a5 ∧ A6.r F v6 a6 ∧ pre a0 a1 a2 a3 a4 a5 a6 ∧ ret a0 a1 a2 a3 a4 a5 a6 H F Q
theorem Sp7.len {α β γ δ ε ζ η : Type} {A0 : Rp α} {A1 : Rp β} {A2 : Rp γ} {A3 : Rp δ} {A4 : Rp ε} {A5 : Rp ζ} {A6 : Rp η} {pre : α → β → γ → δ → ε → ζ → η → Prop} {ret : α → β → γ → δ → ε → ζ → η → Ret} {vs H Q E} (h : Sp7 A0 A1 A2 A3 A4 A5 A6 pre ret vs H Q E) : vs.length = 7 := by
  obtain ⟨_, _, _, _, _, _, _, _, _, _, _, _, _, _, _, _, rfl, _⟩ := h
  rfl
theorem e_call7 {Γ : List SA} {E : XK} {α β γ δ ε ζ η : Type} {A0 : Rp α} {A1 : Rp β} {A2 : Rp γ} {A3 : Rp δ} {A4 : Rp ε} {A5 : Rp ζ} {A6 : Rp η} {t0 t1 t2 t3 t4 t5 t6 : TE} {pre : α → β → γ → δ → ε → ζ → η → Prop} {ret : α → β → γ → δ → ε → ζ → η → Ret} {a0 : α} {a1 : β} {a2 : γ} {a3 : δ} {a4 : ε} {a5 : ζ} {a6 : η} (h0 : Ev t0 Γ A0 a0) (h1 : Ev t1 Γ A1 a1) (h2 : Ev t2 Γ A2 a2) (h3 : Ev t3 Γ A3 a3) (h4 : Ev t4 Γ A4 a4) (h5 : Ev t5 Γ A5 a5) (h6 : Ev t6 Γ A6 a6) (hp : pre a0 a1 a2 a3 a4 a5 a6) (hu : Up (ret a0 a1 a2 a3 a4 a5 a6)) : EvR (tCall (Sp7 A0 A1 A2 A3 A4 A5 A6 pre ret) [] E (tCons t0 (tCons t1 (tCons t2 (tCons t3 (tCons t4 (tCons t5 (tCons t6 tNil)))))))) Γ (ret a0 a1 a2 a3 a4 a5 a6) := fun H0 H F σ e g Q q =>
  h0 H0 H F σ e (g) _ fun w0 H1 F1 o1 r0 =>
  h1 H0 H1 F1 σ o1.i (g.mono o1) _ fun w1 H2 F2 o2 r1 =>
  h2 H0 H2 F2 σ o2.i (g.mono (o1.trans o2)) _ fun w2 H3 F3 o3 r2 =>
  h3 H0 H3 F3 σ o3.i (g.mono ((o1.trans o2).trans o3)) _ fun w3 H4 F4 o4 r3 =>
  h4 H0 H4 F4 σ o4.i (g.mono (((o1.trans o2).trans o3).trans o4)) _ fun w4 H5 F5 o5 r4 =>
  h5 H0 H5 F5 σ o5.i (g.mono ((((o1.trans o2).trans o3).trans o4).trans o5)) _ fun w5 H6 F6 o6 r5 =>
  h6 H0 H6 F6 σ o6.i (g.mono (((((o1.trans o2).trans o3).trans o4).trans o5).trans o6)) _ fun w6 H7 F7 o7 r6 =>
  ⟨F7, w0, w1, w2, w3, w4, w5, w6, _, _, _, _, _, _, _, o7.i, rfl, (A0.mono (((((o2.f.trans o3.f).trans o4.f).trans o5.f).trans o6.f).trans o7.f) r0), (A1.mono ((((o3.f.trans o4.f).trans o5.f).trans o6.f).trans o7.f) r1), (A2.mono (((o4.f.trans o5.f).trans o6.f).trans o7.f) r2), (A3.mono ((o5.f.trans o6.f).trans o7.f) r3), (A4.mono (o6.f.trans o7.f) r4), (A5.mono o7.f r5), r6, hp, hu q ((((((o1.trans o2).trans o3).trans o4).trans o5).trans o6).trans o7)⟩
theorem body7 {N : List Str} {t : TS} {D : Ends} {H F : Hp} {α β γ δ ε ζ η : Type} {A0 : Rp α} {A1 : Rp β} {A2 : Rp γ} {A3 : Rp δ} {A4 : Rp ε} {A5 : Rp ζ} {A6 : Rp η} {v0 v1 v2 v3 v4 v5 v6 : V} {a0 : α} {a1 : β} {a2 : γ} {a3 : δ} {a4 : ε} {a5 : ζ} {a6 : η} (e : Ex F H) (h0 : A0.r F v0 a0) (h1 : A1.r F v1 a1) (h2 : A2.r F v2 a2) (h3 : A3.r F v3 a3) (h4 : A4.r F v4 a4) (h5 : A5.r F v5 a5) (h6 : A6.r F v6 a6) (s : S ⟨H, F, F⟩ t (.im A0 a0 :: .im A1 a1 :: .im A2 a2 :: .im A3 a3 :: .im A4 a4 :: .im A5 a5 :: .im A6 a6 :: List.replicate (N.length - 7) .un) D) : t D (start N [v0, v1, v2, v3, v4, v5, v6]) H :=
  s.run ⟨Ok.refl e, Ex.refl F⟩ (Good.cons h0 (Good.cons h1 (Good.cons h2 (Good.cons h3 (Good.cons h4 (Good.cons h5 (Good.cons h6 (good_rep H H F (N.length - 7)))))))))

def EvO (t : TO) (Γ : List SA) (o : Option Int) : Prop := ∀ H0 H F σ, Ex F H → Good H0 H F σ Γ → ∀ Q : Option Int → Hp → Prop, (∀ H' F', Ok H F H' F' → Q o H') → t σ H Q
theorem eo_none {Γ : List SA} : EvO tNoPart Γ none := fun _ H F _ e _ Q q => q H F (.refl e)
theorem eo_some {Γ : List SA} {te : TE} {i : Int} (h : Ev te Γ rInt i) : EvO (tPart te) Γ (some i) := fun H0 H F σ e g Q q => h H0 H F σ e g _ fun v H' F' o r => ⟨i, r, q H' F' o⟩
/-- as[lo:hi] -/
def cutA {α : Type} (as : List α) (lo hi : Option Int) : List α := (as.drop (HT.sIx as.length 0 lo)).take (HT.sIx as.length as.length hi - HT.sIx as.length 0 lo)
section
variable {Γ : List SA} {α β γ : Type} {A : Rp α} {B : Rp β} {C : Rp γ} {a : α} {b : β} {c : γ} {ta tb te tc : TE} {K : PySem.W.Frag} {i j n m : Int} {r : R2}
/-- a built-in by its name, one and two arguments -/
theorem e_cb1 {r : List V → Hp → VK → Prop} {ret : Ret} (h : Ev ta Γ A a) (hu : Up ret) (hr : ∀ H F v, Ex F H → A.r F v a → ∀ Q : VK, ret H F Q → r [v] H Q) : EvR (tCB r (tCons ta tNil)) Γ ret := fun H0 H F σ e g Q q =>
  h H0 H F σ e g _ fun v H' F' o rv => hr H' F' v o.i rv Q (hu q o)
theorem e_cb2 {r : List V → Hp → VK → Prop} {ret : Ret} (h : Ev ta Γ A a) (h' : Ev tb Γ B b) (hu : Up ret) (hr : ∀ H F v w, Ex F H → A.r F v a → B.r F w b → ∀ Q : VK, ret H F Q → r [v, w] H Q) : EvR (tCB r (tCons ta (tCons tb tNil))) Γ ret := fun H0 H F σ e g Q q =>
  h H0 H F σ e g _ fun v H1 F1 o1 rv => h' H0 H1 F1 σ o1.i (g.mono o1) _ fun w H2 F2 o2 rw2 => hr H2 F2 v w o2.i (A.mono o2.f rv) rw2 Q (hu q (o1.trans o2))
theorem e_int1 (h : Ev ta Γ rInt i) : Ev (tCB (fun xs H Q => (∃ i, xs = [.int i] ∧ Q (.int i) H) ∨ ∃ k, xs = [.bl k] ∧ Q (.int (if k then 1 else 0)) H) (tCons ta tNil)) Γ rInt i :=
  e_cb1 h retI.up fun H F v e r Q q => .inl ⟨i, by rw [show v = .int i from r], q _ H F (.refl e) rfl⟩
theorem e_intB {k : Bool} (h : Ev ta Γ rBl k) : Ev (tCB (fun xs H Q => (∃ i, xs = [.int i] ∧ Q (.int i) H) ∨ ∃ k, xs = [.bl k] ∧ Q (.int (if k then 1 else 0)) H) (tCons ta tNil)) Γ rInt (if k then 1 else 0) :=
  e_cb1 h retI.up fun H F v e r Q q => .inr ⟨k, by rw [show v = .bl k from r], q _ H F (.refl e) rfl⟩
theorem e_abs (h : Ev ta Γ rInt i) : Ev (tCB (fun xs H Q => ∃ i, xs = [.int i] ∧ Q (.int (if i < 0 then -i else i)) H) (tCons ta tNil)) Γ rInt (if i < 0 then -i else i) :=
  e_cb1 h retI.up fun H F v e r Q q => ⟨i, by rw [show v = .int i from r], q _ H F (.refl e) rfl⟩
theorem e_max2 (h : Ev ta Γ rInt i) (h' : Ev tb Γ rInt j) : Ev (tCB (fun xs H Q => ∃ i j, xs = [.int i, .int j] ∧ Q (.int (if j > i then j else i)) H) (tCons ta (tCons tb tNil))) Γ rInt (if j > i then j else i) :=
  e_cb2 h h' retI.up fun H F v w e r r' Q q => ⟨i, j, by rw [show v = .int i from r, show w = .int j from r'], q _ H F (.refl e) rfl⟩
theorem e_min2 (h : Ev ta Γ rInt i) (h' : Ev tb Γ rInt j) : Ev (tCB (fun xs H Q => ∃ i j, xs = [.int i, .int j] ∧ Q (.int (if j < i then j else i)) H) (tCons ta (tCons tb tNil))) Γ rInt (if j < i then j else i) :=
  e_cb2 h h' retI.up fun H F v w e r r' Q q => ⟨i, j, by rw [show v = .int i from r, show w = .int j from r'], q _ H F (.refl e) rfl⟩
/-- a def's or a type's name as a value -/
def rTy : Rp String := ⟨fun _ v a => v = .ty a, fun _ h => h⟩
def rCls : Rp Addr := ⟨fun _ v a => v = .ref a, fun _ h => h⟩
theorem e_ty {z : String} : Ev (tC (.ty z)) Γ rTy z := fun _ H F _ e _ Q q => q _ H F (.refl e) rfl
theorem e_ref {z : Addr} : Ev (tC (.ref z)) Γ rCls z := fun _ H F _ e _ Q q => q _ H F (.refl e) rfl
/-- what type a value's letter says -/
class HasTy (K : PySem.W.Frag) {α : Type} (A : Rp α) (a : α) (t : outParam String) : Prop where
  ty : ∀ {F H v}, Ex F H → A.r F v a → TyX K H v (.type t)
instance : HasTy K rInt i "int" := ⟨fun _ r => by cases r; exact .base (.int i)⟩
instance {k : Bool} : HasTy K rBl k "bool" := ⟨fun _ r => by cases r; exact .base (.bl k)⟩
instance {z : Str} : HasTy K rStr z "str" := ⟨fun _ r => by cases r; exact .base (.str z)⟩
instance {u : Unit} : HasTy K rNon u "NoneType" := ⟨fun _ r => by cases r; exact .base .non⟩
theorem ty_T {F H : Hp} {p : Addr} {xs : List V} (e : Ex F H) (s : SqT K F p xs) : TyX K H (.ref p) (.type "tuple") := by
  rcases s with (s | ⟨o, s⟩) | ⟨o, _, _, l, c, _⟩
  · exact .base (.tup (e _ _ s))
  · exact .fTuple (e _ _ s)
  · exact .kTuple l c
theorem ty_L {F H : Hp} {p : Addr} {xs : List V} (e : Ex F H) (s : SqL K F p xs) : TyX K H (.ref p) (.type "list") := by
  rcases s with (s | ⟨o, s⟩) | ⟨o, _, _, l, c, _⟩
  · exact .base (.lst (e _ _ s))
  · exact .base (.frz (e _ _ s))
  · exact .kList l c
instance {c : α × β} : HasTy K (rT2 K A B) c "tuple" := ⟨fun e r => by obtain ⟨p, x, y, rfl, s, _⟩ := r; exact ty_T e s⟩
instance {c : α × β × γ} : HasTy K (rT3 K A B C) c "tuple" := ⟨fun e r => by obtain ⟨p, x, y, z, rfl, s, _⟩ := r; exact ty_T e s⟩
instance {as : List α} : HasTy K (rTup K A) as "tuple" := ⟨fun e r => by obtain ⟨p, xs, rfl, s, _⟩ := r; exact ty_T e s⟩
instance {as : List α} : HasTy K (rLst K A) as "list" := ⟨fun e r => by obtain ⟨p, xs, rfl, s, _⟩ := r; exact ty_L e s⟩
theorem e_isi {t z : String} {k : Bool} [HasTy K A a t] (h : Ev ta Γ A a) (hk : kitB t z = some k) : Ev (tCB (rIsi K) (tCons ta (tCons (tC (.ty z)) tNil))) Γ rBl k :=
  e_cb2 h e_ty retI.up fun H F v w e r r' Q q => by
    cases r'
    exact ⟨v, _, _, _, k, rfl, .ty z, HasTy.ty e r, kit_ty hk, q _ H F (.refl e) rfl⟩
/-- slices -/
theorem e_slL {lo hi : Option Int} {as : List α} {tl th : TO} (h : Ev ta Γ (rLst K A) as) (hl : EvO tl Γ lo) (hh : EvO th Γ hi) : EvN (tSl (rSlL K) ta tl th) Γ A (cutA as lo hi) := fun H0 H F σ e g Q q =>
  h H0 H F σ e g _ fun v H1 F1 o1 r1 => hl H0 H1 F1 σ o1.i (g.mono o1) _ fun H2 F2 o2 => hh H0 H2 F2 σ o2.i (g.mono (o1.trans o2)) _ fun H3 F3 o3 => by
    obtain ⟨p, xs, rfl, s, a⟩ := r1
    have o := (o1.trans o2).trans o3
    refine ⟨p, xs, rfl, Evl.ex_l ((o2.f.trans o3.f).trans o3.i) s, fun L hL => q L _ _ F3 (o.mut hL) (none_of o.h hL) (none_of o.i hL) upd_same ?_⟩
    have a3 := a.imp fun _ _ z => A.mono (o2.f.trans o3.f) z
    unfold cutV cutA
    rw [a.length]
    exact (a3.drop _).take _
end
end Tp

namespace Tp
open PySem PySem.Spec PyProof.Rows L2
open Evl (Ex)
/-! ### one name a construct: its rule (p_, q_ a test's), its value (e_) -/
/-- // by any number but 0 below 2 ^ 9000; ** of any size that fits -/
def DivX (_ j : Int) : Prop := j ≠ 0 ∧ j.natAbs.log2 < 9000
def PowX (i j : Int) : Prop := 0 ≤ j ∧ (Builtin.Int.intBits i : Int) * j ≤ 134217728
instance (i j : Int) : Decidable (PowX i j) := inferInstanceAs (Decidable (_ ∧ _))
theorem cdivK {i j : Int} (h : 0 < j ∧ j < 1073741824) : CDiv i j := h
section
variable {X : Cx}
theorem op_divX : OpR X (binaryOp .FloorDiv) (rI DivX fun i j => .int (i.fdiv j)) := opI fun _ _ _ _ _ _ _ d q => floordiv_int d.1 q (Or.inl (PyProof.noPylong_of_log2 d.2))
theorem op_powX : OpR X (binaryOp .Pow) (rI PowX fun i j => .int (i ^ j.toNat)) := opI fun _ _ _ _ _ _ _ d q => pow_int d.1 (by have e := d.2; exact e) q
end
def xAdd (ta tb : TE) : TE := tOp (rI0 fun i j => .int (i + j)) ta tb
def xSub (ta tb : TE) : TE := tOp (rI0 fun i j => .int (i - j)) ta tb
def xMul (ta tb : TE) : TE := tOp (rI CMulW fun i j => .int (i * j)) ta tb
def xDiv (ta tb : TE) : TE := tOp (rI CDiv fun i j => .int (i / j)) ta tb
def xDivX (ta tb : TE) : TE := tOp (rI DivX fun i j => .int (i.fdiv j)) ta tb
def xMod (ta tb : TE) : TE := tOp (rI (fun _ j => 0 < j) fun i j => .int (i % j)) ta tb
def xModN (ta tb : TE) : TE := tOp (rI (fun _ j => j ≠ 0) fun i j => .int (i.fmod j)) ta tb
def xPow (ta tb : TE) : TE := tOp (rI PowX fun i j => .int (i ^ j.toNat)) ta tb
def xNeg (ta : TE) : TE := tUn (rU fun i => .int (-i)) ta
def xLt (ta tb : TE) : TE := tOp (rI0 fun i j => .bl (decide (i < j))) ta tb
def xLe (ta tb : TE) : TE := tOp (rI0 fun i j => .bl (decide (i ≤ j))) ta tb
def xGt (ta tb : TE) : TE := tOp (rI0 fun i j => .bl (decide (j < i))) ta tb
def xGe (ta tb : TE) : TE := tOp (rI0 fun i j => .bl (decide (j ≤ i))) ta tb
def xEqI (ta tb : TE) : TE := tOp rEq ta tb
def xNeI (ta tb : TE) : TE := tOp rNe ta tb
def xEqS (ta tb : TE) : TE := tOp rEq ta tb
def xNeS (ta tb : TE) : TE := tOp rNe ta tb
def cCmp (t : TE) : TT := tTest t
def xFst (K : PySem.W.Frag) (ta : TE) : TE := tOp (rIxT K) ta (tC (.int 0))
def xSnd (K : PySem.W.Frag) (ta : TE) : TE := tOp (rIxT K) ta (tC (.int 1))
def xIxL (K : PySem.W.Frag) (ta tb : TE) : TE := tOp (rIxL K) ta tb
def xIxM (K : PySem.W.Frag) (k : Nat) (tb : TE) : TE := tOp (rIxL K) (tVar k) tb
def xIxU (K : PySem.W.Frag) (ta tb : TE) : TE := tOp (rIxT K) ta tb
def xT2 (_K : PySem.W.Frag) (ta tb : TE) : TE := tTup (tCons ta (tCons tb tNil))
def xT3 (_K : PySem.W.Frag) (ta tb tc : TE) : TE := tTup (tCons ta (tCons tb (tCons tc tNil)))
def xTup (_K : PySem.W.Frag) (t : TA) : TE := tTup t
def xInt (ta : TE) : TE := tCB (fun xs H Q => (∃ i, xs = [.int i] ∧ Q (.int i) H) ∨ ∃ k, xs = [.bl k] ∧ Q (.int (if k then 1 else 0)) H) (tCons ta tNil)
def xIntB (ta : TE) : TE := xInt ta
def xAbs (ta : TE) : TE := tCB (fun xs H Q => ∃ i, xs = [.int i] ∧ Q (.int (if i < 0 then -i else i)) H) (tCons ta tNil)
def xMax (ta tb : TE) : TE := tCB (fun xs H Q => ∃ i j, xs = [.int i, .int j] ∧ Q (.int (if j > i then j else i)) H) (tCons ta (tCons tb tNil))
def xMin (ta tb : TE) : TE := tCB (fun xs H Q => ∃ i j, xs = [.int i, .int j] ∧ Q (.int (if j < i then j else i)) H) (tCons ta (tCons tb tNil))
def xLen (K : PySem.W.Frag) (ta : TE) : TE := tCB (Evl.rLenS K) (tCons ta tNil)
def xLenU (K : PySem.W.Frag) (ta : TE) : TE := tCB (Evl.rLenS K) (tCons ta tNil)
def xLen2 (K : PySem.W.Frag) (ta : TE) : TE := tCB (Evl.rLenS K) (tCons ta tNil)
def xLen3 (K : PySem.W.Frag) (ta : TE) : TE := tCB (Evl.rLenS K) (tCons ta tNil)
def xLenM (K : PySem.W.Frag) (k : Nat) : TE := tCB (Evl.rLenS K) (tCons (tVar k) tNil)
def xIsi (K : PySem.W.Frag) (ta : TE) (z : String) : TE := tCB (rIsi K) (tCons ta (tCons (tC (.ty z)) tNil))
section
variable {X : Cx} {a b c : Expr} {ta tb tc : TE} {pos p1 p2 : Pos}
theorem p_add (ha : PE X a ta) (hb : PE X b tb) : PE X (.BinOp a .Add b pos) (xAdd ta tb) := pe_op op_add ha hb
theorem p_sub (ha : PE X a ta) (hb : PE X b tb) : PE X (.BinOp a .Sub b pos) (xSub ta tb) := pe_op op_sub ha hb
theorem p_mul (ha : PE X a ta) (hb : PE X b tb) : PE X (.BinOp a .Mult b pos) (xMul ta tb) := pe_op op_mulW ha hb
theorem p_div (ha : PE X a ta) (hb : PE X b tb) : PE X (.BinOp a .FloorDiv b pos) (xDiv ta tb) := pe_op op_fdiv ha hb
theorem p_divX (ha : PE X a ta) (hb : PE X b tb) : PE X (.BinOp a .FloorDiv b pos) (xDivX ta tb) := pe_op op_divX ha hb
theorem p_mod (ha : PE X a ta) (hb : PE X b tb) : PE X (.BinOp a .Mod b pos) (xMod ta tb) := pe_op op_mod ha hb
theorem p_modN (ha : PE X a ta) (hb : PE X b tb) : PE X (.BinOp a .Mod b pos) (xModN ta tb) := pe_op op_modN ha hb
theorem p_pow (ha : PE X a ta) (hb : PE X b tb) : PE X (.BinOp a .Pow b pos) (xPow ta tb) := pe_op op_powX ha hb
theorem p_neg (ha : PE X a ta) : PE X (.UnaryOp .USub a pos) (xNeg ta) := pe_un un_neg ha
theorem p_lt (ha : PE X a ta) (hb : PE X b tb) : PE X (.Compare a [.Lt] [b] pos) (xLt ta tb) := pe_cmpR op_lt ha hb (nomark _)
theorem p_le (ha : PE X a ta) (hb : PE X b tb) : PE X (.Compare a [.LtE] [b] pos) (xLe ta tb) := pe_cmpR op_le ha hb (nomark _)
theorem p_gt (ha : PE X a ta) (hb : PE X b tb) : PE X (.Compare a [.Gt] [b] pos) (xGt ta tb) := pe_cmpR op_gt ha hb (nomark _)
theorem p_ge (ha : PE X a ta) (hb : PE X b tb) : PE X (.Compare a [.GtE] [b] pos) (xGe ta tb) := pe_cmpR op_ge ha hb (nomark _)
theorem p_eqI (ha : PE X a ta) (hb : PE X b tb) : PE X (.Compare a [.Eq] [b] pos) (xEqI ta tb) := pe_cmpR op_eq ha hb (nomark _)
theorem p_neI (ha : PE X a ta) (hb : PE X b tb) : PE X (.Compare a [.NotEq] [b] pos) (xNeI ta tb) := pe_cmpR op_ne ha hb (nomark _)
theorem p_eqS (ha : PE X a ta) (hb : PE X b tb) : PE X (.Compare a [.Eq] [b] pos) (xEqS ta tb) := pe_cmpR op_eq ha hb (nomark _)
theorem p_neS (ha : PE X a ta) (hb : PE X b tb) : PE X (.Compare a [.NotEq] [b] pos) (xNeS ta tb) := pe_cmpR op_ne ha hb (nomark _)
theorem q_lt (ha : PE X a ta) (hb : PE X b tb) : PT X (.Compare a [.Lt] [b] pos) (cCmp (xLt ta tb)) := pt_cmpR op_lt ha hb (nomark _)
theorem q_le (ha : PE X a ta) (hb : PE X b tb) : PT X (.Compare a [.LtE] [b] pos) (cCmp (xLe ta tb)) := pt_cmpR op_le ha hb (nomark _)
theorem q_gt (ha : PE X a ta) (hb : PE X b tb) : PT X (.Compare a [.Gt] [b] pos) (cCmp (xGt ta tb)) := pt_cmpR op_gt ha hb (nomark _)
theorem q_ge (ha : PE X a ta) (hb : PE X b tb) : PT X (.Compare a [.GtE] [b] pos) (cCmp (xGe ta tb)) := pt_cmpR op_ge ha hb (nomark _)
theorem q_eqI (ha : PE X a ta) (hb : PE X b tb) : PT X (.Compare a [.Eq] [b] pos) (cCmp (xEqI ta tb)) := pt_cmpR op_eq ha hb (nomark _)
theorem q_neI (ha : PE X a ta) (hb : PE X b tb) : PT X (.Compare a [.NotEq] [b] pos) (cCmp (xNeI ta tb)) := pt_cmpR op_ne ha hb (nomark _)
theorem q_eqS (ha : PE X a ta) (hb : PE X b tb) : PT X (.Compare a [.Eq] [b] pos) (cCmp (xEqS ta tb)) := pt_cmpR op_eq ha hb (nomark _)
theorem q_neS (ha : PE X a ta) (hb : PE X b tb) : PT X (.Compare a [.NotEq] [b] pos) (cCmp (xNeS ta tb)) := pt_cmpR op_ne ha hb (nomark _)
theorem p_fst {K : PySem.W.Frag} {j : Nat} (ha : PE X a ta) (hK : X.K = K := by rfl) : PE X (.Subscript a (.Constant (.int 0) j p1) pos) (xFst K ta) := by
  cases hK
  exact pe_ix ix_tup ha pe_int fun _ _ => rfl
theorem p_snd {K : PySem.W.Frag} {j : Nat} (ha : PE X a ta) (hK : X.K = K := by rfl) : PE X (.Subscript a (.Constant (.int 1) j p1) pos) (xSnd K ta) := by
  cases hK
  exact pe_ix ix_tup ha pe_int fun _ _ => rfl
theorem p_ixL {K : PySem.W.Frag} (ha : PE X a ta) (hb : PE X b tb) (hs : PlainIx b := by exact fun _ _ => rfl) (hK : X.K = K := by rfl) : PE X (.Subscript a b pos) (xIxL K ta tb) := by
  cases hK
  exact pe_ix ix_list ha hb hs
theorem p_ixM {K : PySem.W.Frag} {k : Nat} (ha : PE X a (tVar k)) (hb : PE X b tb) (hs : PlainIx b := by exact fun _ _ => rfl) (hK : X.K = K := by rfl) : PE X (.Subscript a b pos) (xIxM K k tb) := by
  cases hK
  exact pe_ix ix_list ha hb hs
theorem p_ixU {K : PySem.W.Frag} (ha : PE X a ta) (hb : PE X b tb) (hs : PlainIx b := by exact fun _ _ => rfl) (hK : X.K = K := by rfl) : PE X (.Subscript a b pos) (xIxU K ta tb) := by
  cases hK
  exact pe_ix ix_tup ha hb hs
theorem p_t2 {K : PySem.W.Frag} {x1} (ha : PE X a ta) (hb : PE X b tb) (h1 : starEach [a, b] X.env = (false, eval a X.env) :: starEach [b] X.env := by rfl) (h2 : starEach [b] X.env = (false, eval b X.env) :: starEach [] X.env := by rfl) (hK : X.K = K := by rfl) : PE X (.Tuple [a, b] x1 pos) (xT2 K ta tb) := by
  cases hK
  exact pe_tup (pa_cons ha (pa_cons hb pa_nil h2) h1)
theorem p_t3 {K : PySem.W.Frag} {x1} (ha : PE X a ta) (hb : PE X b tb) (hc : PE X c tc) (h1 : starEach [a, b, c] X.env = (false, eval a X.env) :: starEach [b, c] X.env := by rfl) (h2 : starEach [b, c] X.env = (false, eval b X.env) :: starEach [c] X.env := by rfl) (h3 : starEach [c] X.env = (false, eval c X.env) :: starEach [] X.env := by rfl) (hK : X.K = K := by rfl) : PE X (.Tuple [a, b, c] x1 pos) (xT3 K ta tb tc) := by
  cases hK
  exact pe_tup (pa_cons ha (pa_cons hb (pa_cons hc pa_nil h3) h2) h1)
theorem p_tup {K : PySem.W.Frag} {x1} {es : List Expr} {t : TA} (h : PA X es t) (hK : X.K = K := by rfl) : PE X (.Tuple es x1 pos) (xTup K t) := by
  cases hK
  exact pe_tup h
end
section
variable {X : Cx} {a b : Expr} {ta tb : TE} {pos p1 p2 : Pos} {x : Str}
theorem p_int (hg : Gl X "int") (hm : X.mg "int" = none) (ha : PE X a ta) (hs : starEach [a] X.env = (false, eval a X.env) :: starEach [] X.env := by rfl) (hp : (backTo pos (starEach [] X.env)).any (·.1) = false := by rfl) : PE X (.Call (.Name "int" p1) [a] [] pos) (xInt ta) := pe_callTy call_int1 hg hm boot_int (pa_cons ha pa_nil hs) (he := hs) (hpl := hp)
theorem p_intB (hg : Gl X "int") (hm : X.mg "int" = none) (ha : PE X a ta) (hs : starEach [a] X.env = (false, eval a X.env) :: starEach [] X.env := by rfl) (hp : (backTo pos (starEach [] X.env)).any (·.1) = false := by rfl) : PE X (.Call (.Name "int" p1) [a] [] pos) (xIntB ta) := pe_callTy call_int1 hg hm boot_int (pa_cons ha pa_nil hs) (he := hs) (hpl := hp)
theorem p_abs (hg : Gl X "abs") (hm : X.mg "abs" = none) (ha : PE X a ta) (hs : starEach [a] X.env = (false, eval a X.env) :: starEach [] X.env := by rfl) (hp : (backTo pos (starEach [] X.env)).any (·.1) = false := by rfl) : PE X (.Call (.Name "abs" p1) [a] [] pos) (xAbs ta) := pe_callB call_abs hg hm boot_abs (pa_cons ha pa_nil hs) (he := hs) (hpl := hp)
theorem p_len {K : PySem.W.Frag} (hg : Gl X "len") (hm : X.mg "len" = none) (ha : PE X a ta) (hs : starEach [a] X.env = (false, eval a X.env) :: starEach [] X.env := by rfl) (hp : (backTo pos (starEach [] X.env)).any (·.1) = false := by rfl) (hK : X.K = K := by rfl) : PE X (.Call (.Name "len" p1) [a] [] pos) (xLen K ta) := by
  cases hK
  exact pe_callB call_len_seq hg hm PySem.boot_len (pa_cons ha pa_nil hs) (he := hs) (hpl := hp)
theorem p_lenU {K : PySem.W.Frag} (hg : Gl X "len") (hm : X.mg "len" = none) (ha : PE X a ta) (hs : starEach [a] X.env = (false, eval a X.env) :: starEach [] X.env := by rfl) (hp : (backTo pos (starEach [] X.env)).any (·.1) = false := by rfl) (hK : X.K = K := by rfl) : PE X (.Call (.Name "len" p1) [a] [] pos) (xLenU K ta) := by
  cases hK
  exact pe_callB call_len_seq hg hm PySem.boot_len (pa_cons ha pa_nil hs) (he := hs) (hpl := hp)
theorem p_len2 {K : PySem.W.Frag} (hg : Gl X "len") (hm : X.mg "len" = none) (ha : PE X a ta) (hs : starEach [a] X.env = (false, eval a X.env) :: starEach [] X.env := by rfl) (hp : (backTo pos (starEach [] X.env)).any (·.1) = false := by rfl) (hK : X.K = K := by rfl) : PE X (.Call (.Name "len" p1) [a] [] pos) (xLen2 K ta) := by
  cases hK
  exact pe_callB call_len_seq hg hm PySem.boot_len (pa_cons ha pa_nil hs) (he := hs) (hpl := hp)
theorem p_len3 {K : PySem.W.Frag} (hg : Gl X "len") (hm : X.mg "len" = none) (ha : PE X a ta) (hs : starEach [a] X.env = (false, eval a X.env) :: starEach [] X.env := by rfl) (hp : (backTo pos (starEach [] X.env)).any (·.1) = false := by rfl) (hK : X.K = K := by rfl) : PE X (.Call (.Name "len" p1) [a] [] pos) (xLen3 K ta) := by
  cases hK
  exact pe_callB call_len_seq hg hm PySem.boot_len (pa_cons ha pa_nil hs) (he := hs) (hpl := hp)
theorem p_lenM {K : PySem.W.Frag} {k : Nat} (hg : Gl X "len") (hm : X.mg "len" = none) (ha : PE X a (tVar k)) (hs : starEach [a] X.env = (false, eval a X.env) :: starEach [] X.env := by rfl) (hp : (backTo pos (starEach [] X.env)).any (·.1) = false := by rfl) (hK : X.K = K := by rfl) : PE X (.Call (.Name "len" p1) [a] [] pos) (xLenM K k) := by
  cases hK
  exact pe_callB call_len_seq hg hm PySem.boot_len (pa_cons ha pa_nil hs) (he := hs) (hpl := hp)
theorem p_max (hc : X.calm = true) (hg : Gl X "max") (hm : X.mg "max" = none) (ha : PE X a ta) (hb : PE X b tb) (hs : starEach [a, b] X.env = (false, eval a X.env) :: starEach [b] X.env := by rfl) (h2 : starEach [b] X.env = (false, eval b X.env) :: starEach [] X.env := by rfl) (hp : (backTo pos (starEach [b] X.env)).any (·.1) = false := by rfl) : PE X (.Call (.Name "max" p1) [a, b] [] pos) (xMax ta tb) := pe_callB (call_max2 hc) hg hm boot_max (pa_cons ha (pa_cons hb pa_nil h2) hs) (he := hs) (hpl := hp)
theorem p_min (hc : X.calm = true) (hg : Gl X "min") (hm : X.mg "min" = none) (ha : PE X a ta) (hb : PE X b tb) (hs : starEach [a, b] X.env = (false, eval a X.env) :: starEach [b] X.env := by rfl) (h2 : starEach [b] X.env = (false, eval b X.env) :: starEach [] X.env := by rfl) (hp : (backTo pos (starEach [b] X.env)).any (·.1) = false := by rfl) : PE X (.Call (.Name "min" p1) [a, b] [] pos) (xMin ta tb) := pe_callB (call_min2 hc) hg hm boot_min (pa_cons ha (pa_cons hb pa_nil h2) hs) (he := hs) (hpl := hp)
theorem p_isi {K : PySem.W.Frag} {z : String} (hg : Gl X "isinstance") (hm : X.mg "isinstance" = none) (ha : PE X a ta) (hb : PE X b (tC (.ty z))) (hs : starEach [a, b] X.env = (false, eval a X.env) :: starEach [b] X.env := by rfl) (h2 : starEach [b] X.env = (false, eval b X.env) :: starEach [] X.env := by rfl) (hp : (backTo pos (starEach [b] X.env)).any (·.1) = false := by rfl) (hK : X.K = K := by rfl) : PE X (.Call (.Name "isinstance" p1) [a, b] [] pos) (xIsi K ta z) := by
  cases hK
  exact pe_callB call_isi hg hm boot_isinstance (pa_cons ha (pa_cons hb pa_nil h2) hs) (he := hs) (hpl := hp)
end
section
variable {Γ : List SA} {α β γ : Type} {A : Rp α} {B : Rp β} {C : Rp γ} {a : α} {b : β} {c : γ} {ta tb tc : TE} {K : PySem.W.Frag} {i j : Int} {k l : Bool}
theorem e_add (ha : Ev ta Γ rInt i) (hb : Ev tb Γ rInt j) : Ev (xAdd ta tb) Γ rInt (i + j) := e_I0 ha hb fun _ _ => rfl
theorem e_sub (ha : Ev ta Γ rInt i) (hb : Ev tb Γ rInt j) : Ev (xSub ta tb) Γ rInt (i - j) := e_I0 ha hb fun _ _ => rfl
theorem e_mul (ha : Ev ta Γ rInt i) (hb : Ev tb Γ rInt j) (hd : CMulW i j) : Ev (xMul ta tb) Γ rInt (i * j) := e_I ha hb hd fun _ _ => rfl
theorem e_div (ha : Ev ta Γ rInt i) (hb : Ev tb Γ rInt j) (hd : CDiv i j) : Ev (xDiv ta tb) Γ rInt (i / j) := e_I ha hb hd fun _ _ => rfl
theorem e_divX (ha : Ev ta Γ rInt i) (hb : Ev tb Γ rInt j) (hd : DivX i j) : Ev (xDivX ta tb) Γ rInt (i.fdiv j) := e_I ha hb hd fun _ _ => rfl
theorem e_mod (ha : Ev ta Γ rInt i) (hb : Ev tb Γ rInt j) (hd : 0 < j) : Ev (xMod ta tb) Γ rInt (i % j) := e_I ha hb hd fun _ _ => rfl
theorem e_modN (ha : Ev ta Γ rInt i) (hb : Ev tb Γ rInt j) (hd : j ≠ 0) : Ev (xModN ta tb) Γ rInt (i.fmod j) := e_I ha hb hd fun _ _ => rfl
theorem e_pow (ha : Ev ta Γ rInt i) (hb : Ev tb Γ rInt j) (hd : PowX i j) : Ev (xPow ta tb) Γ rInt (i ^ j.toNat) := e_I ha hb hd fun _ _ => rfl
theorem e_neg (ha : Ev ta Γ rInt i) : Ev (xNeg ta) Γ rInt (-i) := e_U ha fun _ => rfl
theorem e_lt (ha : Ev ta Γ rInt i) (hb : Ev tb Γ rInt j) : Ev (xLt ta tb) Γ rBl (decide (i < j)) := e_B0 ha hb fun _ _ => rfl
theorem e_le (ha : Ev ta Γ rInt i) (hb : Ev tb Γ rInt j) : Ev (xLe ta tb) Γ rBl (decide (i ≤ j)) := e_B0 ha hb fun _ _ => rfl
theorem e_gt (ha : Ev ta Γ rInt i) (hb : Ev tb Γ rInt j) : Ev (xGt ta tb) Γ rBl (decide (j < i)) := e_B0 ha hb fun _ _ => rfl
theorem e_ge (ha : Ev ta Γ rInt i) (hb : Ev tb Γ rInt j) : Ev (xGe ta tb) Γ rBl (decide (j ≤ i)) := e_B0 ha hb fun _ _ => rfl
theorem e_xeqI (ha : Ev ta Γ rInt i) (hb : Ev tb Γ rInt j) : Ev (xEqI ta tb) Γ rBl (decide (i = j)) := e_eqI ha hb
theorem e_xneI (ha : Ev ta Γ rInt i) (hb : Ev tb Γ rInt j) : Ev (xNeI ta tb) Γ rBl (!decide (i = j)) := e_neI ha hb
theorem e_xeqS {x y : Str} (ha : Ev ta Γ rStr x) (hb : Ev tb Γ rStr y) : Ev (xEqS ta tb) Γ rBl (decide (x = y)) := e_eqS ha hb
theorem e_xneS {x y : Str} (ha : Ev ta Γ rStr x) (hb : Ev tb Γ rStr y) : Ev (xNeS ta tb) Γ rBl (!decide (x = y)) := e_neS ha hb
theorem eb_cmp (h : Ev ta Γ rBl k) : Eb (cCmp ta) Γ k := eb_test h
theorem e_xfst {c : α × β} (ha : Ev ta Γ (rT2 K A B) c) : Ev (xFst K ta) Γ A c.1 := e_fst ha
theorem e_xsnd {c : α × β} (ha : Ev ta Γ (rT2 K A B) c) : Ev (xSnd K ta) Γ B c.2 := e_snd ha
theorem e_xixL {as : List α} {x : α} (ha : Ev ta Γ (rLst K A) as) (hb : Ev tb Γ rInt i) (hx : atI as i = some x) : Ev (xIxL K ta tb) Γ A x := e_ixL ha hb hx
theorem e_xixM {k : Nat} {as : List α} {x : α} (h : Γ[k]? = some (.mu A as)) (hb : Ev tb Γ rInt i) (hx : atI as i = some x) : Ev (xIxM K k tb) Γ A x := e_ixM h hb hx
theorem e_xixU {as : List α} {x : α} (ha : Ev ta Γ (rTup K A) as) (hb : Ev tb Γ rInt i) (hx : atI as i = some x) : Ev (xIxU K ta tb) Γ A x := e_ixT ha hb hx
theorem e_xt2 (ha : Ev ta Γ A a) (hb : Ev tb Γ B b) : Ev (xT2 K ta tb) Γ (rT2 K A B) (a, b) := e_t2 ha hb
theorem e_xt3 (ha : Ev ta Γ A a) (hb : Ev tb Γ B b) (hc : Ev tc Γ C c) : Ev (xT3 K ta tb tc) Γ (rT3 K A B C) (a, b, c) := e_t3 ha hb hc
theorem e_xint (h : Ev ta Γ rInt i) : Ev (xInt ta) Γ rInt i := e_int1 h
theorem e_xintB (h : Ev ta Γ rBl k) : Ev (xIntB ta) Γ rInt (if k then 1 else 0) := e_intB h
theorem e_xabs (h : Ev ta Γ rInt i) : Ev (xAbs ta) Γ rInt (if i < 0 then -i else i) := e_abs h
theorem e_xmax (h : Ev ta Γ rInt i) (h' : Ev tb Γ rInt j) : Ev (xMax ta tb) Γ rInt (if j > i then j else i) := e_max2 h h'
theorem e_xmin (h : Ev ta Γ rInt i) (h' : Ev tb Γ rInt j) : Ev (xMin ta tb) Γ rInt (if j < i then j else i) := e_min2 h h'
theorem e_xlen {as : List α} (h : Ev ta Γ (rLst K A) as) : Ev (xLen K ta) Γ rInt (as.length : Int) := e_lenL h
theorem e_xlenU {as : List α} (h : Ev ta Γ (rTup K A) as) : Ev (xLenU K ta) Γ rInt (as.length : Int) := e_lenT h
theorem e_xlenM {k : Nat} {as : List α} (h : Γ[k]? = some (.mu A as)) : Ev (xLenM K k) Γ rInt (as.length : Int) := e_lenM h
theorem e_xlen2 {c : α × β} (h : Ev ta Γ (rT2 K A B) c) : Ev (xLen2 K ta) Γ rInt 2 := fun H0 H F σ e g Q q =>
  h H0 H F σ e g _ fun v H' F' o r => by
    obtain ⟨p, x, y, rfl, s, _⟩ := r
    exact ⟨p, _, rfl, .inr (Evl.ex_t o.i s), q _ H' F' o rfl⟩
theorem e_xlen3 {c : α × β × γ} (h : Ev ta Γ (rT3 K A B C) c) : Ev (xLen3 K ta) Γ rInt 3 := fun H0 H F σ e g Q q =>
  h H0 H F σ e g _ fun v H' F' o r => by
    obtain ⟨p, x, y, z, rfl, s, _⟩ := r
    exact ⟨p, _, rfl, .inr (Evl.ex_t o.i s), q _ H' F' o rfl⟩
class KitB (a b : String) (k : outParam Bool) : Prop where
  h : kitB a b = some k
instance : KitB "int" "int" true := ⟨by decide +kernel⟩
instance : KitB "int" "bool" false := ⟨by decide +kernel⟩
instance : KitB "bool" "int" true := ⟨by decide +kernel⟩
instance : KitB "bool" "bool" true := ⟨by decide +kernel⟩
instance : KitB "tuple" "tuple" true := ⟨by decide +kernel⟩
instance : KitB "list" "list" true := ⟨by decide +kernel⟩
instance : KitB "list" "tuple" false := ⟨by decide +kernel⟩
instance : KitB "tuple" "list" false := ⟨by decide +kernel⟩
instance : KitB "str" "str" true := ⟨by decide +kernel⟩
instance : KitB "int" "str" false := ⟨by decide +kernel⟩
instance : KitB "NoneType" "int" false := ⟨by decide +kernel⟩
instance : KitB "NoneType" "bool" false := ⟨by decide +kernel⟩
instance : KitB "NoneType" "tuple" false := ⟨by decide +kernel⟩
instance : KitB "int" "tuple" false := ⟨by decide +kernel⟩
instance : KitB "str" "int" false := ⟨by decide +kernel⟩
instance : KitB "NoneType" "str" false := ⟨by decide +kernel⟩
instance : KitB "tuple" "int" false := ⟨by decide +kernel⟩
instance : KitB "list" "int" false := ⟨by decide +kernel⟩
instance : KitB "bool" "tuple" false := ⟨by decide +kernel⟩
instance : KitB "str" "tuple" false := ⟨by decide +kernel⟩
theorem e_xisi {t z : String} {k : Bool} (h : Ev ta Γ A a) (i : HasTy K A a t) (m : KitB t z k) : Ev (xIsi K ta z) Γ rBl k := e_isi h m.h
end
end Tp

namespace Tm
open PySem L2 Tp
/-! ### sizes -/
def Bd (n : Nat) (x : Int) : Prop := x.natAbs < 2 ^ n
instance (n : Nat) (x : Int) : Decidable (Bd n x) := inferInstanceAs (Decidable (_ < _))
theorem Bd.log {n : Nat} {x : Int} (h : Bd n x) : x.natAbs.log2 ≤ n := by
  cases n with
  | zero =>
    have e : x.natAbs = 0 := by have := h; unfold Bd at this; omega
    rw [e]; decide
  | succ n => exact Nat.le_of_lt (PySem.Flt.log2_lt_of (Nat.succ_pos n) h)
theorem Bd.le {n m : Nat} {x : Int} (h : Bd n x) (e : n ≤ m) : Bd m x := Nat.lt_of_lt_of_le h (Nat.pow_le_pow_right (by decide) e)
theorem Bd.mul {n m : Nat} {x y : Int} (h : Bd n x) (h' : Bd m y) : Bd (n + m) (x * y) := wide_lt h h'
theorem Bd.neg {n : Nat} {x : Int} (h : Bd n x) : Bd n (-x) := by unfold Bd at *; rwa [Int.natAbs_neg]
theorem Bd.add {n : Nat} {x y : Int} (h : Bd n x) (h' : Bd n y) : Bd (n + 1) (x + y) := by
  unfold Bd at *
  have : (x + y).natAbs ≤ x.natAbs + y.natAbs := Int.natAbs_add_le x y
  rw [Nat.pow_succ]; omega
theorem Bd.sub {n : Nat} {x y : Int} (h : Bd n x) (h' : Bd n y) : Bd (n + 1) (x - y) := by
  have := h.add h'.neg
  rwa [← Int.sub_eq_add_neg] at this
theorem Bd.of {n : Nat} {x y : Int} (h : Bd n y) (e : x.natAbs ≤ y.natAbs) : Bd n x := Nat.lt_of_le_of_lt e h
theorem mul_ok {n m : Nat} {x y : Int} (h : Bd n x) (h' : Bd m y) (e : n + m < 1000000) : CMulW x y := by
  have a := h.log
  have b := h'.log
  unfold CMulW
  omega
theorem Bd.divX {n : Nat} {x y : Int} (h : Bd n y) (h0 : y ≠ 0) (e : n < 9000) : DivX x y := ⟨h0, Nat.lt_of_le_of_lt h.log e⟩
/-! ### greatest common divisors -/
theorem gcd_fmod (x y : Int) : Int.gcd y (x.fmod y) = Int.gcd x y := by
  rw [Int.fmod_def, Int.gcd_sub_mul_left_right, Int.gcd_comm]
theorem fmod_lt {x y : Int} (h : y ≠ 0) : (x.fmod y).natAbs < y.natAbs := by
  by_cases p : 0 < y
  · have a := Int.fmod_nonneg_of_pos x p
    have b := Int.fmod_lt_of_pos x p
    omega
  · have e : x.fmod y = -((-x).fmod (-y)) := by
      rw [Int.fmod_def, Int.fmod_def, Int.neg_fdiv_neg, Int.neg_mul]; omega
    have a := Int.fmod_nonneg_of_pos (-x) (show 0 < -y by omega)
    have b := Int.fmod_lt_of_pos (-x) (show 0 < -y by omega)
    omega
/-! ### ratios -/
def mkR (n d : Int) : Int × Int := let c : Int := if d < 0 then -(Int.gcd n d : Int) else (Int.gcd n d : Int); (n.fdiv c, d.fdiv c)
def isR (t : Int × Int) : Bool := decide (1 ≤ t.2) && decide (Int.gcd t.1 t.2 = 1)
theorem isR_iff {t : Int × Int} : isR t = true ↔ 1 ≤ t.2 ∧ Int.gcd t.1 t.2 = 1 := by unfold isR; simp
theorem dvd_cop {a b c : Int} (h : a ∣ b * c) (g : Int.gcd a b = 1) : a ∣ c := by
  rw [← Int.natAbs_dvd_natAbs] at h ⊢
  rw [Int.natAbs_mul] at h
  exact Nat.Coprime.dvd_of_dvd_mul_left g h
theorem mkR_spec {n d : Int} (h : d ≠ 0) : 1 ≤ (mkR n d).2 ∧ Int.gcd (mkR n d).1 (mkR n d).2 = 1 ∧ (mkR n d).1 * d = n * (mkR n d).2 := by
  have hg : 0 < Int.gcd n d := Int.gcd_pos_of_ne_zero_right n h
  obtain ⟨c, hc, hs⟩ : ∃ c : Int, (mkR n d) = (n.fdiv c, d.fdiv c) ∧ c.natAbs = Int.gcd n d ∧ (0 < c ↔ 0 < d) := by
    refine ⟨if d < 0 then -(Int.gcd n d : Int) else (Int.gcd n d : Int), rfl, ?_⟩
    split <;> constructor <;> omega
  have c0 : c ≠ 0 := by intro z; rw [z] at hs; omega
  have dn : c ∣ n := by
    have q := Int.gcd_dvd_left n d
    rw [← hs.1] at q
    exact Int.natAbs_dvd.mp q
  have dd : c ∣ d := by
    have q := Int.gcd_dvd_right n d
    rw [← hs.1] at q
    exact Int.natAbs_dvd.mp q
  obtain ⟨x, hx⟩ := dn
  obtain ⟨y, hy⟩ := dd
  have e1 : n.fdiv c = x := by rw [hx]; exact Int.mul_fdiv_cancel_left x c0
  have e2 : d.fdiv c = y := by rw [hy]; exact Int.mul_fdiv_cancel_left y c0
  rw [hc]
  simp only [e1, e2]
  have y0 : y ≠ 0 := by intro z; rw [z, Int.mul_zero] at hy; exact h hy
  refine ⟨?_, ?_, ?_⟩
  · by_cases p : 0 < c
    · have : 0 < d := hs.2.mp p
      rw [hy] at this
      have := Int.pos_of_mul_pos_right this p
      omega
    · have c1 : c < 0 := by omega
      have d1 : d < 0 := by omega
      rw [hy] at d1
      have : 0 < (-c) * y := by rw [Int.neg_mul]; omega
      have := Int.pos_of_mul_pos_right this (by omega : 0 < -c)
      omega
  · have q : Int.gcd n d = c.natAbs * Int.gcd x y := by rw [hx, hy, Int.gcd_mul_left]
    rw [← hs.1] at q
    have : 0 < c.natAbs := by omega
    exact Nat.eq_of_mul_eq_mul_left this (by rw [Nat.mul_one]; exact q.symm)
  · rw [hx, hy, ← Int.mul_assoc, Int.mul_comm x c]
theorem isR_mkR {n d : Int} (h : d ≠ 0) : isR (mkR n d) = true := isR_iff.mpr ⟨(mkR_spec h).1, (mkR_spec h).2.1⟩
/-- two ratios in lowest terms of one value -/
theorem ratio_eq {a b : Int × Int} (ha : isR a = true) (hb : isR b = true) (e : a.1 * b.2 = b.1 * a.2) : a = b := by
  obtain ⟨a1, a2⟩ := isR_iff.mp ha
  obtain ⟨b1, b2⟩ := isR_iff.mp hb
  have h1 : a.2 ∣ b.2 := by
    have : a.2 ∣ a.1 * b.2 := ⟨b.1, by rw [e, Int.mul_comm]⟩
    exact dvd_cop this (by rw [Int.gcd_comm]; exact a2)
  have h2 : b.2 ∣ a.2 := by
    have : b.2 ∣ b.1 * a.2 := ⟨a.1, by rw [← e, Int.mul_comm]⟩
    exact dvd_cop this (by rw [Int.gcd_comm]; exact b2)
  have h3 : a.2 = b.2 := Int.dvd_antisymm (by omega) (by omega) h1 h2
  have h4 : a.1 = b.1 := by
    rw [h3] at e
    exact Int.eq_of_mul_eq_mul_right (by omega) e
  exact Prod.ext h4 h3
theorem mkR_eq {n d n' d' : Int} (h : d ≠ 0) (h' : d' ≠ 0) (e : n * d' = n' * d) : mkR n d = mkR n' d' := by
  refine ratio_eq (isR_mkR h) (isR_mkR h') ?_
  have p := (mkR_spec (n := n) h).2.2
  have q := (mkR_spec (n := n') h').2.2
  have : ((mkR n d).1 * (mkR n' d').2) * (d * d') = ((mkR n' d').1 * (mkR n d).2) * (d * d') := by
    calc ((mkR n d).1 * (mkR n' d').2) * (d * d') = ((mkR n d).1 * d) * ((mkR n' d').2 * d') := by ac_rfl
      _ = (n * d') * ((mkR n d).2 * (mkR n' d').2) := by rw [p]; ac_rfl
      _ = (n' * (mkR n' d').2) * (d * (mkR n d).2) := by rw [e]; ac_rfl
      _ = ((mkR n' d').1 * (mkR n d).2) * (d * d') := by rw [← q]; ac_rfl
  exact Int.eq_of_mul_eq_mul_right (Int.mul_ne_zero h h') this
theorem mkR_val {n d n' d' : Int} (h : d ≠ 0) (e : n * d' = n' * d) : (mkR n d).1 * d' = n' * (mkR n d).2 := by
  have p := (mkR_spec (n := n) h).2.2
  refine Int.eq_of_mul_eq_mul_right h ?_
  calc (mkR n d).1 * d' * d = ((mkR n d).1 * d) * d' := by ac_rfl
    _ = (n * d') * (mkR n d).2 := by rw [p]; ac_rfl
    _ = n' * (mkR n d).2 * d := by rw [e]; ac_rfl
theorem mkR_le {n d : Int} (h : d ≠ 0) : (mkR n d).1.natAbs ≤ n.natAbs ∧ (mkR n d).2.natAbs ≤ d.natAbs := by
  have s := mkR_spec (n := n) h
  revert s
  generalize mkR n d = t
  intro s
  have k : ∀ c x y : Int, x = c * y → c ≠ 0 → y.natAbs ≤ x.natAbs := fun c x y e c0 => by
    rw [e, Int.natAbs_mul]
    exact Nat.le_mul_of_pos_left _ (by omega)
  have h2 : t.2 ∣ d := by
    have : t.2 ∣ t.1 * d := ⟨n, by rw [s.2.2, Int.mul_comm]⟩
    exact dvd_cop this (by rw [Int.gcd_comm]; exact s.2.1)
  obtain ⟨c, hc⟩ := h2
  have c0 : c ≠ 0 := by intro z; rw [z, Int.mul_zero] at hc; exact h hc
  have e1 : n = c * t.1 := by
    have : n * t.2 = (c * t.1) * t.2 := by
      rw [← s.2.2, hc]
      ac_rfl
    exact Int.eq_of_mul_eq_mul_right (by omega) this
  exact ⟨k c _ _ e1 c0, k c _ _ (by rw [hc, Int.mul_comm]) c0⟩
theorem Bd.mkR {n : Nat} {x y : Int} (h : y ≠ 0) : (Bd n x → Bd n (Tm.mkR x y).1) ∧ (Bd n y → Bd n (Tm.mkR x y).2) := ⟨fun b => b.of (mkR_le h).1, fun b => b.of (mkR_le h).2⟩
/-! ### what the laws draw -/
def cell (s : List Int) (p : Int) : Int := s.getD p.toNat 0
def sgn (c l : Int) : Int := if c % 2 = 1 then -(c / 2 % (l + 1)) else c / 2 % (l + 1)
theorem sgn_le {c l : Int} (h : 0 ≤ l) : (sgn c l).natAbs ≤ l.natAbs := by
  have a := Int.emod_nonneg (c / 2) (show l + 1 ≠ 0 by omega)
  have b := Int.emod_lt_of_pos (c / 2) (show 0 < l + 1 by omega)
  unfold sgn
  split <;> omega
end Tm
namespace Tm
open PySem L2 Tp
/-- what a drawn ratio keeps -/
def Rok (n : Nat) (t : Int × Int) : Prop := 1 ≤ t.2 ∧ Bd n t.1 ∧ Bd n t.2
theorem Rok.le {n m : Nat} {t : Int × Int} (h : Rok n t) (e : n ≤ m) : Rok m t := ⟨h.1, h.2.1.le e, h.2.2.le e⟩
theorem drawn {a b l : Int} {n : Nat} (h : 1 ≤ l) (hb : Bd n l) : Rok n (sgn a l, 1 + b % l) := by
  have p := Int.emod_nonneg b (show l ≠ 0 by omega)
  have q := Int.emod_lt_of_pos b (show 0 < l by omega)
  exact ⟨by show 1 ≤ 1 + b % l; omega, hb.of (sgn_le (by omega)), hb.of (by show (1 + b % l).natAbs ≤ _; omega)⟩
theorem at3 {x y z c : Int} : atI [x, y, z] (c % 3) = some (if c % 3 = 0 then x else if c % 3 = 1 then y else z) := by
  have h1 := Int.emod_nonneg c (show (3 : Int) ≠ 0 by decide)
  have h2 := Int.emod_lt_of_pos c (show (0 : Int) < 3 by decide)
  have : c % 3 = 0 ∨ c % 3 = 1 ∨ c % 3 = 2 := by omega
  rcases this with h | h | h <;> rw [h] <;> rfl
theorem at2 {x y c : Int} : atI [x, y] (c % 2) = some (if c % 2 = 0 then x else y) := by
  rcases Int.emod_two_eq c with h | h <;> rw [h] <;> rfl
end Tm
namespace Tm
open PySem L2 Tp
def cmpR (a b : Int × Int) : Int := if b.1 * a.2 < a.1 * b.2 then 1 else if a.1 * b.2 < b.1 * a.2 then -1 else 0
/-- a minus b, and b again: a -/
theorem sub_add {a b t : Int × Int} (t0 : t.2 ≠ 0) (b0 : b.2 ≠ 0) (e : t.1 * (a.2 * b.2) = (a.1 * b.2 - b.1 * a.2) * t.2) :
    (mkR (t.1 * b.2 + b.1 * t.2) (t.2 * b.2)).1 * a.2 = a.1 * (mkR (t.1 * b.2 + b.1 * t.2) (t.2 * b.2)).2 := by
  refine mkR_val (Int.mul_ne_zero t0 b0) ?_
  have : t.1 * (a.2 * b.2) = t.1 * b.2 * a.2 := by ac_rfl
  rw [Int.add_mul, ← this, e, Int.sub_mul]
  have h1 : b.1 * t.2 * a.2 = b.1 * a.2 * t.2 := by ac_rfl
  have h2 : a.1 * (t.2 * b.2) = a.1 * b.2 * t.2 := by ac_rfl
  rw [h1, h2]; omega
end Tm

namespace Tp
open PySem PySem.Spec PyProof.Rows L2
open Evl (Ex)
/-! ### lists as a whole -/
def rSeq (K : PySem.W.Frag) {α : Type} (A : Rp α) : Rp (List α) :=
  ⟨fun F v as => (rLst K A).r F v as ∨ (rTup K A).r F v as, fun e h => h.elim (fun z => .inl ((rLst K A).mono e z)) fun z => .inr ((rTup K A).mono e z)⟩
def xIxQ (K : PySem.W.Frag) (ta tb : TE) : TE := tOp (rIx K) ta tb
def xLenQ (K : PySem.W.Frag) (ta : TE) : TE := tCB (Evl.rLenS K) (tCons ta tNil)
def xSum (K : PySem.W.Frag) (ta : TE) : TE := tCB (rSum K) (tCons ta tNil)
def xLstOf (K : PySem.W.Frag) (ta : TE) : TE := tCB (fun xs H Q => ∃ p ys, xs = [.ref p] ∧ (SqL K H p ys ∨ SqT K H p ys) ∧ ∀ l, H l = none → Q (.ref l) (upd H l (.lst ys))) (tCons ta tNil)
def xTupOf (K : PySem.W.Frag) (ta : TE) : TE := tCB (fun xs H Q => ∃ p ys, xs = [.ref p] ∧ ((SqL K H p ys ∧ ∀ l, H l = none → Q (.ref l) (upd H l (.tup ys))) ∨ (SqT K H p ys ∧ Q (.ref p) H))) (tCons ta tNil)
def xSlL (K : PySem.W.Frag) (ta : TE) (tl th : TO) : TE := tSl (rSlL K) ta tl th
def xLst (_K : PySem.W.Frag) (t : TA) : TE := tLst t
def xEqD (K : PySem.W.Frag) (ta tb : TE) : TE := tOp (rEqD K) ta tb
def xNeD (K : PySem.W.Frag) (ta tb : TE) : TE := tOp (rNeD K) ta tb
def xEqDl (K : PySem.W.Frag) (ta tb : TE) : TE := tOp (rEqD K) ta tb
def xNeDl (K : PySem.W.Frag) (ta tb : TE) : TE := tOp (rNeD K) ta tb
def xLstOfM (K : PySem.W.Frag) (k : Nat) : TE := xLstOf K (tVar k)
section
variable {X : Cx} {a b : Expr} {ta tb : TE} {pos p1 p2 : Pos}
theorem p_ixQ {K : PySem.W.Frag} (ha : PE X a ta) (hb : PE X b tb) (hs : PlainIx b := by exact fun _ _ => rfl) (hK : X.K = K := by rfl) : PE X (.Subscript a b pos) (xIxQ K ta tb) := by
  cases hK
  exact pe_ix ix_seq ha hb hs
theorem p_lenQ {K : PySem.W.Frag} (hg : Gl X "len") (hm : X.mg "len" = none) (ha : PE X a ta) (hs : starEach [a] X.env = (false, eval a X.env) :: starEach [] X.env := by rfl) (hp : (backTo pos (starEach [] X.env)).any (·.1) = false := by rfl) (hK : X.K = K := by rfl) : PE X (.Call (.Name "len" p1) [a] [] pos) (xLenQ K ta) := by
  cases hK
  exact pe_callB call_len_seq hg hm PySem.boot_len (pa_cons ha pa_nil hs) (he := hs) (hpl := hp)
theorem p_sum {K : PySem.W.Frag} (hc : X.calm = true) (hg : Gl X "sum") (hm : X.mg "sum" = none) (ha : PE X a ta) (hs : starEach [a] X.env = (false, eval a X.env) :: starEach [] X.env := by rfl) (hp : (backTo pos (starEach [] X.env)).any (·.1) = false := by rfl) (hK : X.K = K := by rfl) : PE X (.Call (.Name "sum" p1) [a] [] pos) (xSum K ta) := by
  cases hK
  exact pe_callB (cr_sum hc) hg hm (by decide +kernel) (pa_cons ha pa_nil hs) (he := hs) (hpl := hp)
theorem p_lstOf {K : PySem.W.Frag} (hg : Gl X "list") (hm : X.mg "list" = none) (ha : PE X a ta) (hs : starEach [a] X.env = (false, eval a X.env) :: starEach [] X.env := by rfl) (hp : (backTo pos (starEach [] X.env)).any (·.1) = false := by rfl) (hK : X.K = K := by rfl) : PE X (.Call (.Name "list" p1) [a] [] pos) (xLstOf K ta) := by
  cases hK
  exact pe_callTy call_list_of hg hm boot_list (pa_cons ha pa_nil hs) (he := hs) (hpl := hp)
theorem p_lstOfM {K : PySem.W.Frag} {k : Nat} (hg : Gl X "list") (hm : X.mg "list" = none) (ha : PE X a (tVar k)) (hs : starEach [a] X.env = (false, eval a X.env) :: starEach [] X.env := by rfl) (hp : (backTo pos (starEach [] X.env)).any (·.1) = false := by rfl) (hK : X.K = K := by rfl) : PE X (.Call (.Name "list" p1) [a] [] pos) (xLstOfM K k) := by
  cases hK
  exact pe_callTy call_list_of hg hm boot_list (pa_cons ha pa_nil hs) (he := hs) (hpl := hp)
theorem p_tupOf {K : PySem.W.Frag} (hg : Gl X "tuple") (hm : X.mg "tuple" = none) (ha : PE X a ta) (hs : starEach [a] X.env = (false, eval a X.env) :: starEach [] X.env := by rfl) (hp : (backTo pos (starEach [] X.env)).any (·.1) = false := by rfl) (hK : X.K = K := by rfl) : PE X (.Call (.Name "tuple" p1) [a] [] pos) (xTupOf K ta) := by
  cases hK
  exact pe_callTy call_tuple_of hg hm boot_tuple (pa_cons ha pa_nil hs) (he := hs) (hpl := hp)
theorem p_slL {K : PySem.W.Frag} {lo hi : Option Expr} {tl th : TO} (ha : PE X a ta) (hl : PO X lo tl) (hh : PO X hi th) (hK : X.K = K := by rfl) : PE X (.Subscript a (.Slice lo hi none p2) pos) (xSlL K ta tl th) := by
  cases hK
  exact pe_slice sl_list ha hl hh
theorem p_lst {K : PySem.W.Frag} {es : List Expr} {t : TA} (h : PA X es t) (hK : X.K = K := by rfl) : PE X (.List es pos) (xLst K t) := by
  cases hK
  exact pe_lst h
theorem p_eqD {K : PySem.W.Frag} (hu : X.A.units + 64 < cLine) (ha : PE X a ta) (hb : PE X b tb) (hK : X.K = K := by rfl) : PE X (.Compare a [.Eq] [b] pos) (xEqD K ta tb) := by
  cases hK
  exact pe_cmpR (op_eqD hu) ha hb (nomark _)
theorem p_eqDl {K : PySem.W.Frag} (hu : X.A.units + 64 < cLine) (ha : PE X a ta) (hb : PE X b tb) (hK : X.K = K := by rfl) : PE X (.Compare a [.Eq] [b] pos) (xEqDl K ta tb) := by
  cases hK
  exact pe_cmpR (op_eqD hu) ha hb (nomark _)
theorem p_neD {K : PySem.W.Frag} (hu : X.A.units + 64 < cLine) (ha : PE X a ta) (hb : PE X b tb) (hK : X.K = K := by rfl) : PE X (.Compare a [.NotEq] [b] pos) (xNeD K ta tb) := by
  cases hK
  exact pe_cmpR (op_neD hu) ha hb (nomark _)
theorem p_neDl {K : PySem.W.Frag} (hu : X.A.units + 64 < cLine) (ha : PE X a ta) (hb : PE X b tb) (hK : X.K = K := by rfl) : PE X (.Compare a [.NotEq] [b] pos) (xNeDl K ta tb) := by
  cases hK
  exact pe_cmpR (op_neD hu) ha hb (nomark _)
theorem q_eqD {K : PySem.W.Frag} (hu : X.A.units + 64 < cLine) (ha : PE X a ta) (hb : PE X b tb) (hK : X.K = K := by rfl) : PT X (.Compare a [.Eq] [b] pos) (cCmp (xEqD K ta tb)) := by
  cases hK
  exact pt_cmpR (op_eqD hu) ha hb (nomark _)
theorem q_eqDl {K : PySem.W.Frag} (hu : X.A.units + 64 < cLine) (ha : PE X a ta) (hb : PE X b tb) (hK : X.K = K := by rfl) : PT X (.Compare a [.Eq] [b] pos) (cCmp (xEqDl K ta tb)) := by
  cases hK
  exact pt_cmpR (op_eqD hu) ha hb (nomark _)
theorem q_neD {K : PySem.W.Frag} (hu : X.A.units + 64 < cLine) (ha : PE X a ta) (hb : PE X b tb) (hK : X.K = K := by rfl) : PT X (.Compare a [.NotEq] [b] pos) (cCmp (xNeD K ta tb)) := by
  cases hK
  exact pt_cmpR (op_neD hu) ha hb (nomark _)
theorem q_neDl {K : PySem.W.Frag} (hu : X.A.units + 64 < cLine) (ha : PE X a ta) (hb : PE X b tb) (hK : X.K = K := by rfl) : PT X (.Compare a [.NotEq] [b] pos) (cCmp (xNeDl K ta tb)) := by
  cases hK
  exact pt_cmpR (op_neD hu) ha hb (nomark _)
end
section
variable {X : Cx} {K : PySem.W.Frag}
theorem p_gtup {n : Nat} {elts : List Expr} {k : Nat} {pos : Pos} {t : TGs} (hc : X.calm = true) (h : PGs X elts t) (hn : (assignEach elts X.env).length = n := by rfl) (hs : (assignEach elts X.env).findIdx? (·.1) = none := by rfl) (hK : X.K = K := by rfl) : PG X (.Tuple elts k pos) (gTup K n t) := by
  cases hK
  exact pg_tup hc h hn hs
end
/-- values as plain data -/
class HasD (K : PySem.W.Frag) {α : Type} (A : Rp α) (m : outParam Nat) where
  d : α → PyData
  dp : ∀ {F H v a}, Ex F H → A.r F v a → Dp K H v (d a)
  cl : ∀ a, (d a).canLay0 = true
  de : ∀ a, (d a).depth ≤ m
  eq : ∀ a b, PyData.eqv (d a) (d b) = true ↔ a = b
instance instDI {K : PySem.W.Frag} : HasD K rInt 0 := ⟨.int, fun _ r => by cases r; exact .int _, fun _ => by simp [PyData.canLay0], fun _ => by simp [PyData.depth], fun a b => by simp [PyData.eqv]⟩
instance instDB {K : PySem.W.Frag} : HasD K rBl 0 := ⟨.bool, fun _ r => by cases r; exact .bl _, fun _ => by simp [PyData.canLay0], fun _ => by simp [PyData.depth], fun a b => by simp [PyData.eqv]⟩
section
variable {K : PySem.W.Frag} {α β γ : Type} {A : Rp α} {B : Rp β} {C : Rp γ} {m n k : Nat}
instance instDT2 [a : HasD K A m] [b : HasD K B n] : HasD K (rT2 K A B) (max m n + 1) where
  d c := .tuple [a.d c.1, b.d c.2]
  dp e r := by
    obtain ⟨p, x, y, rfl, s, r1, r2⟩ := r
    exact .tup (Evl.ex_t e s) (.cons (a.dp e r1) (.cons (b.dp e r2) .nil))
  cl c := by simp [PyData.canLay0, PyData.canLayAll0, a.cl, b.cl]
  de c := by
    have h1 := a.de c.1
    have h2 := b.de c.2
    simp only [PyData.depth, PyData.depthAll]
    omega
  eq c c' := by
    simp only [PyData.eqv, PyData.eqvAll, Bool.and_true, Bool.and_eq_true, a.eq, b.eq]
    exact Prod.ext_iff.symm
instance instDT3 [a : HasD K A m] [b : HasD K B n] [c : HasD K C k] : HasD K (rT3 K A B C) (max m (max n k) + 1) where
  d t := .tuple [a.d t.1, b.d t.2.1, c.d t.2.2]
  dp e r := by
    obtain ⟨p, x, y, z, rfl, s, r1, r2, r3⟩ := r
    exact .tup (Evl.ex_t e s) (.cons (a.dp e r1) (.cons (b.dp e r2) (.cons (c.dp e r3) .nil)))
  cl t := by simp [PyData.canLay0, PyData.canLayAll0, a.cl, b.cl, c.cl]
  de t := by
    have h1 := a.de t.1
    have h2 := b.de t.2.1
    have h3 := c.de t.2.2
    simp only [PyData.depth, PyData.depthAll]
    omega
  eq t t' := by
    simp only [PyData.eqv, PyData.eqvAll, Bool.and_true, Bool.and_eq_true, a.eq, b.eq, c.eq]
    constructor
    · exact fun ⟨h1, h2, h3⟩ => Prod.ext h1 (Prod.ext h2 h3)
    · exact fun h => by subst h; exact ⟨rfl, rfl, rfl⟩
def instDO [a : HasD K A m] (h : ∀ x, a.d x ≠ .none) : HasD K (rOpt A) m where
  d o := match o with | none => .none | some x => a.d x
  dp {F H v o} e r := by
    cases o with
    | none => cases r; exact .non
    | some x => exact a.dp e r
  cl o := by
    cases o with
    | none => simp [PyData.canLay0]
    | some x => exact a.cl x
  de o := by
    cases o with
    | none => simp [PyData.depth]
    | some x => exact a.de x
  eq o o' := by
    cases o with
    | none =>
      cases o' with
      | none => simp [PyData.eqv]
      | some y =>
        have q := h y
        have z : PyData.eqv .none (a.d y) = false := by
          cases e : a.d y <;> simp_all [PyData.eqv]
        simp [z]
    | some x =>
      cases o' with
      | none =>
        have q := h x
        have z : PyData.eqv (a.d x) .none = false := by
          cases e : a.d x <;> simp_all [PyData.eqv]
        simp [z]
      | some y => simp [a.eq]
theorem da_of [a : HasD K A m] {F H : Hp} (e : Ex F H) : ∀ {vs : List V} {as : List α}, A2 (A.r F) vs as → DpAll K H vs (as.map a.d)
  | _, _, .nil => .nil
  | _, _, .cons h t => .cons (a.dp e h) (da_of e t)
theorem cla_of [a : HasD K A m] : ∀ as : List α, PyData.canLayAll0 (as.map a.d) = true
  | [] => by simp [PyData.canLayAll0]
  | x :: xs => by simp [PyData.canLayAll0, a.cl, cla_of xs]
theorem dea_of [a : HasD K A m] : ∀ as : List α, PyData.depthAll (as.map a.d) ≤ m
  | [] => by simp [PyData.depthAll]
  | x :: xs => by
    have h1 := a.de x
    have h2 := dea_of (a := a) xs
    simp only [List.map_cons, PyData.depthAll]
    omega
theorem eqa_of [a : HasD K A m] : ∀ as bs : List α, PyData.eqvAll (as.map a.d) (bs.map a.d) = true ↔ as = bs
  | [], [] => by simp [PyData.eqvAll]
  | [], _ :: _ => by simp [PyData.eqvAll]
  | _ :: _, [] => by simp [PyData.eqvAll]
  | x :: xs, y :: ys => by simp [PyData.eqvAll, a.eq, eqa_of xs ys]
instance instDL [a : HasD K A m] : HasD K (rLst K A) (m + 1) where
  d as := .list (as.map a.d)
  dp e r := by
    obtain ⟨p, xs, rfl, s, r1⟩ := r
    exact .lst (Evl.ex_l e s) (da_of e r1)
  cl as := by simp only [PyData.canLay0]; exact cla_of as
  de as := by simp only [PyData.depth]; exact Nat.succ_le_succ (dea_of as)
  eq as bs := by simp only [PyData.eqv]; exact eqa_of as bs
instance instDU [a : HasD K A m] : HasD K (rTup K A) (m + 1) where
  d as := .tuple (as.map a.d)
  dp e r := by
    obtain ⟨p, xs, rfl, s, r1⟩ := r
    exact .tup (Evl.ex_t e s) (da_of e r1)
  cl as := by simp only [PyData.canLay0]; exact cla_of as
  de as := by simp only [PyData.depth]; exact Nat.succ_le_succ (dea_of as)
  eq as bs := by simp only [PyData.eqv]; exact eqa_of as bs
theorem HasD.sh (i : HasD K A m) (h : m ≤ 64) (a : α) : SeqAt.shaped (i.d a) = true := by
  unfold SeqAt.shaped
  rw [i.cl a, Bool.true_and]
  exact decide_eq_true (Nat.le_trans (i.de a) h)
variable {Γ : List SA} {a b : α} {ta tb : TE} {i : Int}
theorem e_eqD (h : Ev ta Γ A a) (h' : Ev tb Γ A b) (d : HasD K A m) (hm : m ≤ 64) : Ev (xEqD K ta tb) Γ rBl (@decide (a = b) (Classical.propDecidable _)) :=
  e_bin h h' fun F H v w e r1 r2 Q q => ⟨d.d a, d.d b, d.dp e r1, d.dp e r2, d.sh hm a, d.sh hm b, by
    rw [show PyData.eqv (d.d a) (d.d b) = @decide (a = b) (Classical.propDecidable _) from by
      by_cases z : a = b
      · rw [@decide_eq_true _ (Classical.propDecidable _) z, (d.eq a b).mpr z]
      · rw [@decide_eq_false _ (Classical.propDecidable _) z]
        exact Bool.eq_false_iff.mpr fun y => z ((d.eq a b).mp y)]
    exact q _ H F (.refl e) rfl⟩
theorem e_neD (h : Ev ta Γ A a) (h' : Ev tb Γ A b) (d : HasD K A m) (hm : m ≤ 64) : Ev (xNeD K ta tb) Γ rBl (!@decide (a = b) (Classical.propDecidable _)) :=
  e_bin h h' fun F H v w e r1 r2 Q q => ⟨d.d a, d.d b, d.dp e r1, d.dp e r2, d.sh hm a, d.sh hm b, by
    rw [show PyData.eqv (d.d a) (d.d b) = @decide (a = b) (Classical.propDecidable _) from by
      by_cases z : a = b
      · rw [@decide_eq_true _ (Classical.propDecidable _) z, (d.eq a b).mpr z]
      · rw [@decide_eq_false _ (Classical.propDecidable _) z]
        exact Bool.eq_false_iff.mpr fun y => z ((d.eq a b).mp y)]
    exact q _ H F (.refl e) rfl⟩
theorem e_eqDl {as bs : List α} (h : EvN ta Γ A as) (h' : Ev tb Γ (rLst K A) bs) (d : HasD K A m) (hm : m ≤ 63) : Ev (xEqDl K ta tb) Γ rBl (@decide (as = bs) (Classical.propDecidable _)) := e_eqD (e_frz h) h' instDL (by omega)
theorem e_neDl {as bs : List α} (h : EvN ta Γ A as) (h' : Ev tb Γ (rLst K A) bs) (d : HasD K A m) (hm : m ≤ 63) : Ev (xNeDl K ta tb) Γ rBl (!@decide (as = bs) (Classical.propDecidable _)) := e_neD (e_frz h) h' instDL (by omega)
theorem en_lstOfM {k : Nat} {as : List α} (h : Γ[k]? = some (.mu A as)) : EvN (xLstOfM K k) Γ A as := fun H0 H F σ e g Q q => by
  obtain ⟨l, xs, hv, h0, hl, hF, r⟩ := g.mut h
  exact ⟨_, hv, l, xs, rfl, .inl (Evl.sq_of hl), fun L hL => q L xs _ F ((Ok.refl e).mut hL) hL (none_of e hL) upd_same r⟩
theorem e_seqL {as : List α} (h : Ev ta Γ (rLst K A) as) : Ev ta Γ (rSeq K A) as := fun H0 H F σ e g Q q => h H0 H F σ e g _ fun v H' F' o r => q v H' F' o (.inl r)
theorem e_seqU {as : List α} (h : Ev ta Γ (rTup K A) as) : Ev ta Γ (rSeq K A) as := fun H0 H F σ e g Q q => h H0 H F σ e g _ fun v H' F' o r => q v H' F' o (.inr r)
theorem e_ixQ {as : List α} {x : α} (ha : Ev ta Γ (rSeq K A) as) (hb : Ev tb Γ rInt i) (hx : atI as i = some x) : Ev (xIxQ K ta tb) Γ A x :=
  e_bin ha hb fun F H v w e r1 r2 Q q => by
    cases r2
    unfold atI at hx
    cases en : ixN as.length i with
    | none => rw [en] at hx; cases hx
    | some j =>
      rw [en] at hx
      rcases r1 with ⟨p, xs, rfl, s, h1⟩ | ⟨p, xs, rfl, s, h1⟩
      · obtain ⟨y, hy, ry⟩ := h1.get hx
        exact .inl ⟨p, xs, i, y, rfl, rfl, Evl.ex_l e s, by unfold atI; rw [h1.length, en]; exact hy, q _ H F (.refl e) ry⟩
      · obtain ⟨y, hy, ry⟩ := h1.get hx
        exact .inr (.inl ⟨p, xs, i, y, rfl, rfl, Evl.ex_t e s, by unfold atI; rw [h1.length, en]; exact hy, q _ H F (.refl e) ry⟩)
theorem e_lenQ {as : List α} (h : Ev ta Γ (rSeq K A) as) : Ev (xLenQ K ta) Γ rInt (as.length : Int) :=
  e_cb1 h (retI_up _ _) fun F' F v e r Q q => by
    rcases r with ⟨p, xs, rfl, s, h1⟩ | ⟨p, xs, rfl, s, h1⟩
    · exact ⟨p, xs, rfl, .inl (Evl.ex_l e s), by rw [h1.length]; exact q _ _ _ (.refl e) rfl⟩
    · exact ⟨p, xs, rfl, .inr (Evl.ex_t e s), by rw [h1.length]; exact q _ _ _ (.refl e) rfl⟩
theorem e_sum {ns : List Int} (h : Ev ta Γ (rLst K rInt) ns) : Ev (xSum K ta) Γ rInt ns.sum :=
  e_cb1 h (retI_up _ _) fun F' F v e r Q q => by
    obtain ⟨p, xs, rfl, s, h1⟩ := r
    have z : xs = ns.map V.int := h1.eq_map
    subst z
    exact ⟨p, ns, rfl, Evl.ex_l e s, q _ _ _ (.refl e) rfl⟩
theorem en_lstOfQ {as : List α} (h : Ev ta Γ (rSeq K A) as) : EvN (xLstOf K ta) Γ A as := fun H0 H F σ e g Q q =>
  h H0 H F σ e g _ fun v H' F' o r => by
    rcases r with ⟨p, xs, rfl, s, h1⟩ | ⟨p, xs, rfl, s, h1⟩
    · exact ⟨p, xs, rfl, .inl (Evl.ex_l o.i s), fun L hL => q L xs _ F' (o.mut hL) (none_of o.h hL) (none_of o.i hL) upd_same h1⟩
    · exact ⟨p, xs, rfl, .inr (Evl.ex_t o.i s), fun L hL => q L xs _ F' (o.mut hL) (none_of o.h hL) (none_of o.i hL) upd_same h1⟩
theorem en_lstOf {as : List α} (h : Ev ta Γ (rLst K A) as) : EvN (xLstOf K ta) Γ A as := en_lstOfQ (e_seqL h)
theorem en_lstOfU {as : List α} (h : Ev ta Γ (rTup K A) as) : EvN (xLstOf K ta) Γ A as := en_lstOfQ (e_seqU h)
theorem e_tupOfQ {as : List α} (h : Ev ta Γ (rSeq K A) as) : Ev (xTupOf K ta) Γ (rTup K A) as := fun H0 H F σ e g Q q =>
  h H0 H F σ e g _ fun v H' F' o r => by
    rcases r with ⟨p, xs, rfl, s, h1⟩ | ⟨p, xs, rfl, s, h1⟩
    · exact ⟨p, xs, rfl, .inl ⟨Evl.ex_l o.i s, fun L hL => q _ _ _ (o.new hL) ⟨L, xs, rfl, Evl.st_of upd_same, h1.imp fun _ _ z => A.mono (Ex.new (none_of o.i hL)) z⟩⟩⟩
    · exact ⟨p, xs, rfl, .inr ⟨Evl.ex_t o.i s, q _ _ _ o ⟨p, xs, rfl, s, h1⟩⟩⟩
theorem e_tupOf {as : List α} (h : Ev ta Γ (rLst K A) as) : Ev (xTupOf K ta) Γ (rTup K A) as := e_tupOfQ (e_seqL h)
theorem e_tupOfU {as : List α} (h : Ev ta Γ (rTup K A) as) : Ev (xTupOf K ta) Γ (rTup K A) as := e_tupOfQ (e_seqU h)
theorem en_slL {lo hi : Option Int} {as : List α} {tl th : TO} (h : Ev ta Γ (rLst K A) as) (hl : EvO tl Γ lo) (hh : EvO th Γ hi) : EvN (xSlL K ta tl th) Γ A (cutA as lo hi) := e_slL h hl hh
theorem en_xlst {t : TA} {as : List α} (h : EvA t Γ A as) (hn : as.length ≤ 100000) : EvN (xLst K t) Γ A as := en_lst h hn
end
section
variable {K : PySem.W.Frag} {α : Type} {A : Rp α}
instance {as : List α} : HasTy K (rLst K A) as "list" := ⟨fun e r => by obtain ⟨p, xs, rfl, s, _⟩ := r; exact ty_L e s⟩
end
/-! ### loops over a range, over a list -/
section
variable {B : Bs} {Γ : List SA} {D : Ends} {tz tu : TS} {α β : Type} {A : Rp α} {te ta tb : TE} {K : PySem.W.Frag}
theorem S.forR {n : Int} {j : Nat} (h : Ev te Γ rInt n) (hn : -4611686018427387904 ≤ n ∧ n < 4611686018427387904) (I : Nat → List SA) (h0 : Sub Γ (I 0))
    (hs : ∀ F1 (i : Nat), Ex B.F1 F1 → (i : Int) < n → S { B with F1 := F1 } tu ((I i).set j (.im rInt (i : Int))) { D with nx := To1 { B with F1 := F1 } (I (i + 1)), ct := To1 { B with F1 := F1 } (I (i + 1)), bk := tz D })
    (hd : S B tz (I n.toNat) D) : S B (tSeq (tFor (iRng1 (tCons te tNil)) (gName j) tu) tz) Γ D := by
  refine S.forI (iw_r1 h hn) I (fun i a => (I i).set j (.im rInt a)) h0 (fun i a _ => tg_name j) (fun F1 i a e ha => ?_) ?_
  · obtain ⟨rfl, hl⟩ := rng_get ha
    rw [Int.zero_add] at hl ⊢
    exact hs F1 i e hl
  · rw [rng_len, Int.sub_zero]; exact hd
theorem S.forR2 {lo hi : Int} {j : Nat} (h : Ev ta Γ rInt lo) (h' : Ev tb Γ rInt hi) (hl : -4611686018427387904 ≤ lo ∧ lo < 4611686018427387904) (hh : -4611686018427387904 ≤ hi ∧ hi < 4611686018427387904) (I : Nat → List SA) (h0 : Sub Γ (I 0))
    (hs : ∀ F1 (i : Nat), Ex B.F1 F1 → lo + (i : Int) < hi → S { B with F1 := F1 } tu ((I i).set j (.im rInt (lo + (i : Int)))) { D with nx := To1 { B with F1 := F1 } (I (i + 1)), ct := To1 { B with F1 := F1 } (I (i + 1)), bk := tz D })
    (hd : S B tz (I (hi - lo).toNat) D) : S B (tSeq (tFor (iRng2 (tCons ta (tCons tb tNil))) (gName j) tu) tz) Γ D := by
  refine S.forI (iw_r2 h h' hl hh) I (fun i a => (I i).set j (.im rInt a)) h0 (fun i a _ => tg_name j) (fun F1 i a e ha => ?_) ?_
  · obtain ⟨rfl, hlt⟩ := rng_get ha
    exact hs F1 i e hlt
  · rw [rng_len]; exact hd
/-- .. the state told by a word of the turn -/
theorem S.forRx {n : Int} {j : Nat} (h : Ev te Γ rInt n) (hn : -4611686018427387904 ≤ n ∧ n < 4611686018427387904) (P : Nat → β → Prop) (I : Nat → β → List SA) (x0 : β) (p0 : P 0 x0) (h0 : Sub Γ (I 0 x0))
    (hs : ∀ F1 (i : Nat) x, Ex B.F1 F1 → P i x → (i : Int) < n → S { B with F1 := F1 } tu ((I i x).set j (.im rInt (i : Int))) { D with nx := To { B with F1 := F1 } (P (i + 1)) (I (i + 1)), ct := To { B with F1 := F1 } (P (i + 1)) (I (i + 1)), bk := tz D })
    (hd : ∀ x, P n.toNat x → S B tz (I n.toNat x) D) : S B (tSeq (tFor (iRng1 (tCons te tNil)) (gName j) tu) tz) Γ D := by
  refine S.for (iw_r1 h hn) P I (fun i x a => (I i x).set j (.im rInt a)) x0 p0 h0 (fun i x a _ _ => tg_name j) (fun F1 i x a e p ha => ?_) (fun x p => ?_)
  · obtain ⟨rfl, hl⟩ := rng_get ha
    rw [Int.zero_add] at hl ⊢
    exact hs F1 i x e p hl
  · rw [rng_len, Int.sub_zero] at p ⊢; exact hd x p
theorem S.forN {wi : TI} {as : List α} {j : Nat} (hw : Iw wi Γ A as) (I : Nat → List SA) (h0 : Sub Γ (I 0))
    (hs : ∀ F1 (i : Nat) a, Ex B.F1 F1 → as[i]? = some a → S { B with F1 := F1 } tu ((I i).set j (.im A a)) { D with nx := To1 { B with F1 := F1 } (I (i + 1)), ct := To1 { B with F1 := F1 } (I (i + 1)), bk := tz D })
    (hd : S B tz (I as.length) D) : S B (tSeq (tFor wi (gName j) tu) tz) Γ D :=
  S.forI hw I (fun i a => (I i).set j (.im A a)) h0 (fun i a _ => tg_name j) hs hd
theorem S.forNx {wi : TI} {as : List α} {j : Nat} (hw : Iw wi Γ A as) (P : Nat → β → Prop) (I : Nat → β → List SA) (x0 : β) (p0 : P 0 x0) (h0 : Sub Γ (I 0 x0))
    (hs : ∀ F1 (i : Nat) x a, Ex B.F1 F1 → P i x → as[i]? = some a → S { B with F1 := F1 } tu ((I i x).set j (.im A a)) { D with nx := To { B with F1 := F1 } (P (i + 1)) (I (i + 1)), ct := To { B with F1 := F1 } (P (i + 1)) (I (i + 1)), bk := tz D })
    (hd : ∀ x, P as.length x → S B tz (I as.length x) D) : S B (tSeq (tFor wi (gName j) tu) tz) Γ D :=
  S.for hw P I (fun i x a => (I i x).set j (.im A a)) x0 p0 h0 (fun i x a _ _ => tg_name j) hs hd
theorem S.seqRet {te : TE} (s : S B (tRet te) Γ D) : S B (tSeq (tRet te) tz) Γ D := s
theorem Le.im {A : Rp α} {a a' : α} (e : a = a') : Le (.im A a) (.im A a') := e ▸ .eq _
theorem Le.mu {A : Rp α} {a a' : List α} (e : a = a') : Le (.mu A a) (.mu A a') := e ▸ .eq _
theorem S.to1 {Γ' : List SA} (s : Les Γ Γ') (e : D.nx = To1 B Γ') : S B tNext Γ D := S.to () trivial (Sub.of s) e
theorem S.toX {P : β → Prop} {I : β → List SA} (x : β) (p : P x) (s : Les Γ (I x)) (e : D.nx = To B P I) : S B tNext Γ D := S.to x p (Sub.of s) e
/-- xs.clear() -/
theorem S.clear {i : Nat} {as : List α} (h : Γ[i]? = some (.mu A as)) (k : S B tz (Γ.set i (.mu A [])) D) : S B (tSeq (tDrop (tBM0 K "list" rClear (tVar i))) tz) Γ D := fun H F σ b g => by
  obtain ⟨l, xs, hv, h0, hl, hF, r⟩ := g.mut h
  exact ⟨_, hv, .inl ⟨rfl, xs, Evl.sq_of hl⟩, l, xs, rfl, rfl, hl, k _ F σ ⟨b.1.set hF h0, b.2⟩ (g.wr h hv h0 hF .nil)⟩
/-- for a, b in zip(xs, ys) -/
theorem iw_zip {β : Type} {C : Rp β} {as : List α} {bs : List β} (h : Ev ta Γ (rLst K A) as) (h' : Ev tb Γ (rLst K C) bs) : Iw (iZip K (tCons ta (tCons tb tNil))) Γ (rT2 K A C) (as.zip bs) := fun H0 H F σ e g R k =>
  h H0 H F σ e g _ fun v H1 F1 o1 r1 => h' H0 H1 F1 σ o1.i (g.mono o1) _ fun w H2 F2 o2 r2 => by
    obtain ⟨p, xs, rfl, s, a⟩ := (rLst K A).mono o2.f r1
    obtain ⟨p', xs', rfl, s', a'⟩ := r2
    refine ⟨p, p', xs, xs', rfl, Evl.ex_l o2.i s, Evl.ex_l o2.i s', k _ H2 F2 (o1.trans o2) ⟨fun F' H' i e1 e2 hi => ?_, fun F' H' i c v Hn e1 e2 hc y => ?_, fun F' H' e1 e2 => ?_⟩⟩
    · rw [List.length_zip] at hi
      obtain ⟨u, hu, _⟩ := a.get (List.getElem?_eq_getElem (show i < as.length by omega))
      obtain ⟨u', hu', _⟩ := a'.get (List.getElem?_eq_getElem (show i < bs.length by omega))
      exact ⟨xs, xs', u, u', Evl.ex_l (e1.trans e2) s, Evl.ex_l (e1.trans e2) s', hu, hu'⟩
    · obtain ⟨T, x, y, rfl, nT, rfl, f1, f2⟩ := y
      have hx := f1 _ (Evl.ex_l (e1.trans e2) s)
      have hy := f2 _ (Evl.ex_l (e1.trans e2) s')
      obtain ⟨u, hu, ru⟩ := a.getl hx
      obtain ⟨u', hu', ru'⟩ := a'.getl hy
      have ec : (as.zip bs)[i]? = some (u, u') := List.getElem?_zip_eq_some.mpr ⟨hu, hu'⟩
      cases Option.some.inj (hc.symm.trans ec)
      have nF := none_of e2 nT
      exact ⟨_, (Ok.refl e2).new nT, T, x, y, rfl, Evl.st_of upd_same, A.mono (e1.trans (Ex.new nF)) ru, C.mono (e1.trans (Ex.new nF)) ru'⟩
    · refine ⟨xs, xs', Evl.ex_l (e1.trans e2) s, Evl.ex_l (e1.trans e2) s', ?_⟩
      rw [List.length_zip, a.length, a'.length]
      omega
/-- [e for j in range(n)] -/
theorem en_mapR {γ : Type} {n : Int} {j : Nat} {vs : List Nat} {C : Rp γ} (f : Nat → γ) (h : Ev ta Γ rInt n) (h0 : -4611686018427387904 ≤ n) (hn : n ≤ 100000) (hj : j ∈ vs) (he : ∀ i : Nat, (i : Int) < n → Ev te ((wipeG Γ vs).set j (.im rInt (i : Int))) C (f i)) :
    EvN (tLc (iRng1 (tCons ta tNil)) (gName j) tYes te vs) Γ C ((List.range n.toNat).map f) := by
  have q := en_map (C := C) (fun a : Int => f a.toNat) (iw_r1 h ⟨h0, by omega⟩) (by rw [rng_len]; omega) (fun a _ => tgc_name (A := rInt) hj) (fun a ha => by
    obtain ⟨i, hi⟩ := List.getElem?_of_mem ha
    obtain ⟨rfl, hl⟩ := rng_get hi
    rw [Int.zero_add] at hl ⊢
    exact he i hl)
  have e : (rng 0 n).map (fun a : Int => f a.toNat) = (List.range n.toNat).map f := by
    unfold rng
    rw [List.map_map, Int.sub_zero]
    refine List.map_congr_left fun i _ => ?_
    show f ((0 : Int) + (i : Int)).toNat = f i
    rw [Int.zero_add, Int.toNat_natCast]
  rwa [e] at q
/-- [e for j in xs] -/
theorem en_mapL {γ : Type} {wi : TI} {as : List α} {j : Nat} {vs : List Nat} {C : Rp γ} (f : α → γ) (hw : Iw wi Γ A as) (hn : as.length ≤ 100000) (hj : j ∈ vs) (he : ∀ a ∈ as, Ev te ((wipeG Γ vs).set j (.im A a)) C (f a)) :
    EvN (tLc wi (gName j) tYes te vs) Γ C (as.map f) := en_map f hw hn (fun a _ => tgc_name hj) he
theorem en_filL {γ : Type} {wi : TI} {tt : TT} {as : List α} {j : Nat} {vs : List Nat} {C : Rp γ} (f : α → γ) (p : α → Bool) (hw : Iw wi Γ A as) (hn : as.length ≤ 100000) (hj : j ∈ vs) (ht : ∀ a ∈ as, Eb tt ((wipeG Γ vs).set j (.im A a)) (p a)) (he : ∀ a ∈ as, p a = true → Ev te ((wipeG Γ vs).set j (.im A a)) C (f a)) :
    EvN (tLc wi (gName j) tt te vs) Γ C ((as.filter p).map f) := en_lc f p hw hn (fun a _ => tgc_name hj) ht he
end
end Tp
namespace Tp
open PySem PySem.Spec PyProof.Rows L2
open Evl (Ex)
/-! ### a triple's parts; a list times a number -/
def x30 (K : PySem.W.Frag) (ta : TE) : TE := tOp (rIxT K) ta (tC (.int 0))
def x31 (K : PySem.W.Frag) (ta : TE) : TE := tOp (rIxT K) ta (tC (.int 1))
def x32 (K : PySem.W.Frag) (ta : TE) : TE := tOp (rIxT K) ta (tC (.int 2))
def xRep (ta tb : TE) : TE := tOp rRep ta tb
section
variable {X : Cx} {a b : Expr} {ta tb : TE} {pos p1 : Pos} {K : PySem.W.Frag} {j : Nat}
theorem p_at30 (ha : PE X a ta) (hK : X.K = K := by rfl) : PE X (.Subscript a (.Constant (.int 0) j p1) pos) (x30 K ta) := by
  cases hK
  exact pe_ix ix_tup ha pe_int fun _ _ => rfl
theorem p_at31 (ha : PE X a ta) (hK : X.K = K := by rfl) : PE X (.Subscript a (.Constant (.int 1) j p1) pos) (x31 K ta) := by
  cases hK
  exact pe_ix ix_tup ha pe_int fun _ _ => rfl
theorem p_at32 (ha : PE X a ta) (hK : X.K = K := by rfl) : PE X (.Subscript a (.Constant (.int 2) j p1) pos) (x32 K ta) := by
  cases hK
  exact pe_ix ix_tup ha pe_int fun _ _ => rfl
theorem p_rep (ha : PE X a ta) (hb : PE X b tb) : PE X (.BinOp a .Mult b pos) (xRep ta tb) := pe_op op_rep ha hb
end
section
variable {Γ : List SA} {α β γ : Type} {A : Rp α} {B : Rp β} {C : Rp γ} {c : α × β × γ} {ta tb : TE} {K : PySem.W.Frag} {i : Int}
theorem e_30 (ha : Ev ta Γ (rT3 K A B C) c) : Ev (x30 K ta) Γ A c.1 :=
  e_bin (b := (0 : Int)) (B := rInt) ha e_int fun F H v w e r1 r2 Q q => by
    obtain ⟨p, x, y, z, rfl, s, h1, h2, h3⟩ := r1
    cases r2
    exact ⟨p, _, 0, x, rfl, rfl, Evl.ex_t e s, rfl, q _ H F (.refl e) h1⟩
theorem e_31 (ha : Ev ta Γ (rT3 K A B C) c) : Ev (x31 K ta) Γ B c.2.1 :=
  e_bin (b := (1 : Int)) (B := rInt) ha e_int fun F H v w e r1 r2 Q q => by
    obtain ⟨p, x, y, z, rfl, s, h1, h2, h3⟩ := r1
    cases r2
    exact ⟨p, _, 1, y, rfl, rfl, Evl.ex_t e s, rfl, q _ H F (.refl e) h2⟩
theorem e_32 (ha : Ev ta Γ (rT3 K A B C) c) : Ev (x32 K ta) Γ C c.2.2 :=
  e_bin (b := (2 : Int)) (B := rInt) ha e_int fun F H v w e r1 r2 Q q => by
    obtain ⟨p, x, y, z, rfl, s, h1, h2, h3⟩ := r1
    cases r2
    exact ⟨p, _, 2, z, rfl, rfl, Evl.ex_t e s, rfl, q _ H F (.refl e) h3⟩
theorem A2.flat {R : V → α → Prop} {xs : List V} {as : List α} (h : A2 R xs as) : ∀ n : Nat, A2 R (List.replicate n xs).flatten (List.replicate n as).flatten
  | 0 => .nil
  | n + 1 => by
    rw [List.replicate_succ, List.replicate_succ, List.flatten_cons, List.flatten_cons]
    exact h.app (A2.flat h n)
theorem en_rep {as : List α} (ha : EvN ta Γ A as) (hb : Ev tb Γ rInt i) (hi : -4611686018427387904 ≤ i ∧ i < 4611686018427387904) (hl : as.length * i.toNat ≤ 100000) : EvN (xRep ta tb) Γ A (List.replicate i.toNat as).flatten := fun H0 H F σ e g Q q =>
  ha H0 H F σ e g _ fun p xs H1 F1 o1 hp hF hl1 a => hb H0 H1 F1 σ o1.i (g.mono o1) _ fun v H2 F2 o2 r2 => by
    cases r2
    refine ⟨p, i, xs, rfl, rfl, o2.h p _ hl1, by omega, by omega, by rw [a.length]; exact Nat.le_trans hl (by decide), fun L hL => ?_⟩
    have o := o1.trans o2
    exact q L _ _ F2 (o.mut hL) (none_of o.h hL) (none_of o.i hL) upd_same ((a.imp fun _ _ z => A.mono o2.f z).flat _)
theorem rep1 (a : α) : ∀ n : Nat, (List.replicate n [a]).flatten = List.replicate n a
  | 0 => rfl
  | n + 1 => by rw [List.replicate_succ, List.flatten_cons, rep1 a n]; rfl
end
end Tp
namespace Tp
open PySem PySem.Spec PyProof.Rows L2
open Evl (Ex)
/-! ### x in xs; two truth values compared -/
def xInI (K : PySem.W.Frag) (ta tb : TE) : TE := tOp (rIn K false) ta tb
def xNinI (K : PySem.W.Frag) (ta tb : TE) : TE := tOp (rIn K true) ta tb
def xNeB (ta tb : TE) : TE := tOp rNe ta tb
def xEqB (ta tb : TE) : TE := tOp rEq ta tb
section
variable {X : Cx} {a b : Expr} {ta tb : TE} {pos p1 : Pos} {K : PySem.W.Frag}
theorem p_inI (ha : PE X a ta) (hb : PE X b tb) (hn : behindInMarks .In b = false := by rfl) (hK : X.K = K := by rfl) : PE X (.Compare a [.In] [b] pos) (xInI K ta tb) := by
  cases hK
  exact pe_cmpR op_in_seq ha hb hn
theorem q_inI (ha : PE X a ta) (hb : PE X b tb) (hn : behindInMarks .In b = false := by rfl) (hK : X.K = K := by rfl) : PT X (.Compare a [.In] [b] pos) (cCmp (xInI K ta tb)) := by
  cases hK
  exact pt_cmpR op_in_seq ha hb hn
theorem p_ninI (ha : PE X a ta) (hb : PE X b tb) (hn : behindInMarks .NotIn b = false := by rfl) (hK : X.K = K := by rfl) : PE X (.Compare a [.NotIn] [b] pos) (xNinI K ta tb) := by
  cases hK
  exact pe_cmpR op_notIn_seq ha hb hn
theorem q_ninI (ha : PE X a ta) (hb : PE X b tb) (hn : behindInMarks .NotIn b = false := by rfl) (hK : X.K = K := by rfl) : PT X (.Compare a [.NotIn] [b] pos) (cCmp (xNinI K ta tb)) := by
  cases hK
  exact pt_cmpR op_notIn_seq ha hb hn
theorem p_neB (ha : PE X a ta) (hb : PE X b tb) : PE X (.Compare a [.NotEq] [b] pos) (xNeB ta tb) := pe_cmpR op_ne ha hb (nomark _)
theorem q_neB (ha : PE X a ta) (hb : PE X b tb) : PT X (.Compare a [.NotEq] [b] pos) (cCmp (xNeB ta tb)) := pt_cmpR op_ne ha hb (nomark _)
theorem p_eqB (ha : PE X a ta) (hb : PE X b tb) : PE X (.Compare a [.Eq] [b] pos) (xEqB ta tb) := pe_cmpR op_eq ha hb (nomark _)
theorem q_eqB (ha : PE X a ta) (hb : PE X b tb) : PT X (.Compare a [.Eq] [b] pos) (cCmp (xEqB ta tb)) := pt_cmpR op_eq ha hb (nomark _)
end
section
variable {Γ : List SA} {ta tb : TE} {K : PySem.W.Frag} {i : Int} {k l : Bool}
theorem inV_ints (x : Int) : ∀ as : List Int, inV (.int x) (as.map V.int) = decide (x ∈ as)
  | [] => by simp [inV]
  | a :: as => by
    have ih := inV_ints x as
    unfold inV at ih ⊢
    rw [List.map_cons, List.any_cons, ih]
    have e : eqV (.int a) (.int x) = decide (x = a) := by
      show (a == x) = decide (x = a)
      by_cases z : x = a
      · subst z; simp
      · rw [decide_eq_false z]
        exact beq_eq_false_iff_ne.mpr fun y => z y.symm
    rw [e]
    by_cases z : x = a <;> simp [z]
theorem flat_ints (as : List Int) : (as.map V.int).all flatV = true := by
  rw [List.all_eq_true]
  intro v hv
  obtain ⟨n, _, rfl⟩ := List.mem_map.mp hv
  rfl
theorem e_inI {as : List Int} (ha : Ev ta Γ rInt i) (hb : Ev tb Γ (rLst K rInt) as) : Ev (xInI K ta tb) Γ rBl (decide (i ∈ as)) :=
  e_bin ha hb fun F H v w e r1 r2 Q q => by
    obtain ⟨p, xs, rfl, s, h1⟩ := r2
    have z : xs = as.map V.int := h1.eq_map
    subst z
    cases r1
    refine ⟨p, _, rfl, .inl (Evl.ex_l e s), rfl, flat_ints as, ?_⟩
    show Q (.bl (inV (.int i) (as.map V.int))) H
    rw [inV_ints]
    exact q _ _ _ (.refl e) rfl
theorem e_ninI {as : List Int} (ha : Ev ta Γ rInt i) (hb : Ev tb Γ (rLst K rInt) as) : Ev (xNinI K ta tb) Γ rBl (!decide (i ∈ as)) :=
  e_bin ha hb fun F H v w e r1 r2 Q q => by
    obtain ⟨p, xs, rfl, s, h1⟩ := r2
    have z : xs = as.map V.int := h1.eq_map
    subst z
    cases r1
    refine ⟨p, _, rfl, .inl (Evl.ex_l e s), rfl, flat_ints as, ?_⟩
    show Q (.bl (!inV (.int i) (as.map V.int))) H
    rw [inV_ints]
    exact q _ _ _ (.refl e) rfl
theorem e_neB (ha : Ev ta Γ rBl k) (hb : Ev tb Γ rBl l) : Ev (xNeB ta tb) Γ rBl (!decide (k = l)) :=
  e_bin ha hb fun F H v w e r1 r2 Q q => by
    cases r1; cases r2
    refine ⟨rfl, ?_⟩
    rw [show decide (V.bl k = V.bl l) = decide (k = l) by by_cases z : k = l <;> simp [z]]
    exact q _ H F (.refl e) rfl
theorem e_eqB (ha : Ev ta Γ rBl k) (hb : Ev tb Γ rBl l) : Ev (xEqB ta tb) Γ rBl (decide (k = l)) :=
  e_bin ha hb fun F H v w e r1 r2 Q q => by
    cases r1; cases r2
    refine ⟨rfl, ?_⟩
    rw [show decide (V.bl k = V.bl l) = decide (k = l) by by_cases z : k = l <;> simp [z]]
    exact q _ H F (.refl e) rfl
end
end Tp

namespace Tp
open PySem PySem.Spec PyProof.Rows L2
open Evl (Ex)
/-! ### one list behind another -/
def rCatL (K : PySem.W.Frag) : R2 := fun x y H Q => ∃ a b xs zs, x = .ref a ∧ y = .ref b ∧ SqL K H a xs ∧ SqL K H b zs ∧ xs.length + zs.length ≤ sizeLine ∧ ∀ p, H p = none → Q (.ref p) (upd H p (.lst (xs ++ zs)))
theorem op_catL {X : Cx} : OpR X (binaryOp .Add) (rCatL X.K) := by
  intro pins s σ H x y v u Q I rx ry h
  obtain ⟨l, b, xs, zs, rfl, rfl, hH, hB, hz, q⟩ := h
  cases rx
  cases ry
  obtain ⟨its, r, ⟨⟨cls, dd, data, sl⟩, n, ho, hc, hdd, hd⟩, z⟩ := I.list hH
  obtain ⟨its2, r2, ⟨⟨cls2, dd2, data2, sl2⟩, n2, ho2, hc2, hdd2, hd2⟩, z2⟩ := I.list hB
  simp only at hc hd hc2 hd2 hdd hdd2
  subst hc hd hc2 hd2 hdd hdd2
  have hl := r.length
  have hl2 := r2.length
  refine concat_meets ⟨_, ho, rfl⟩ ⟨_, ho2, rfl⟩ noFill_list_add seq_list_add PySem.F.slot_list_add PySem.F.entry_list_add (PySem.F.args_list_add_2 _ _) (list_addW l b its.toArray its2.toArray n n2 none none sl sl2 (by rw [List.size_toArray, List.size_toArray]; omega)) ⟨ho, ho2, ?_⟩
  have ea : its.toArray ++ its2.toArray = (its ++ its2).toArray := by simp
  rw [ea]
  exact ⟨.ref _, _, I.lnew (t' := s.toks) (r.append r2) (by rw [List.length_append]; omega), rfl, q _ I.fresh⟩
def xCatL (K : PySem.W.Frag) (ta tb : TE) : TE := tOp (rCatL K) ta tb
theorem p_catL {X : Cx} {a b : Expr} {ta tb : TE} {pos : Pos} {K : PySem.W.Frag} (ha : PE X a ta) (hb : PE X b tb) (hK : X.K = K := by rfl) : PE X (.BinOp a .Add b pos) (xCatL K ta tb) := by
  cases hK
  exact pe_op op_catL ha hb
theorem en_catL {Γ : List SA} {α : Type} {A : Rp α} {ta tb : TE} {K : PySem.W.Frag} {as bs : List α} (ha : Ev ta Γ (rLst K A) as) (hb : Ev tb Γ (rLst K A) bs) (hl : as.length + bs.length ≤ 100000) : EvN (xCatL K ta tb) Γ A (as ++ bs) := fun H0 H F σ e g Q q =>
  ha H0 H F σ e g _ fun v H1 F1 o1 r1 => hb H0 H1 F1 σ o1.i (g.mono o1) _ fun u H2 F2 o2 r2 => by
    obtain ⟨p, xs, rfl, s1, a1⟩ := r1
    obtain ⟨p2, xs2, rfl, s2, a2⟩ := r2
    refine ⟨p, p2, xs, xs2, rfl, rfl, Evl.ex_l (o2.f.trans o2.i) s1, Evl.ex_l o2.i s2, by rw [a1.length, a2.length]; exact Nat.le_trans hl (by decide), fun L hL => ?_⟩
    have o := o1.trans o2
    exact q L _ _ F2 (o.mut hL) (none_of o.h hL) (none_of o.i hL) upd_same ((a1.imp fun _ _ z => A.mono o2.f z).app a2)
end Tp

namespace Tp
open PySem PySem.Spec PyProof.Rows L2
open Evl (Ex)
/-! ### a call with one keyword behind; max of a list; the place of a value -/
/-- a def with one keyword-only parameter, as callers that write it know it -/
def KnK (CX : CXT) (P : Program) (w : World) (K : PySem.W.Frag) (mg : Str → Option Value) (base : Heap) (x : Str) (k n : Nat) (ks : List Str) (ps : List Str) (sp : Sp) : Prop :=
  ∃ f fd, FnOk P w K mg base CX k f fd ps sp ∧ PySem.W.keepIn K (.ref f) = true ∧ KBn K fd ps n ks (fun us ws => us ++ ws) (fun vs zs => vs ++ zs) ∧ mg x = some (.ref f)
theorem callK1 {sp : Sp} {E : XK} {ta tc : TE} : tCallN 1 1 sp (fun vs zs => vs ++ zs) E (tCons ta tNil) (tCons tc tNil) = tCall sp [] E (tCons ta (tCons tc tNil)) := by
  funext σ H Q
  show (ta σ H fun x H1 => tc σ H1 fun z H2 => (1 = 1 ∧ 1 = 1 ∧ sp [x, z] H2 Q E)) = (ta σ H fun x H1 => tc σ H1 fun z H2 => sp [x, z] H2 Q E)
  simp only [true_and]
theorem callK2 {sp : Sp} {E : XK} {ta tb tc : TE} : tCallN 2 1 sp (fun vs zs => vs ++ zs) E (tCons ta (tCons tb tNil)) (tCons tc tNil) = tCall sp [] E (tCons ta (tCons tb (tCons tc tNil))) := by
  funext σ H Q
  show (ta σ H fun x H1 => tb σ H1 fun y H2 => tc σ H2 fun z H3 => (2 = 2 ∧ 1 = 1 ∧ sp [x, y, z] H3 Q E)) = (ta σ H fun x H1 => tb σ H1 fun y H2 => tc σ H2 fun z H3 => sp [x, y, z] H3 Q E)
  simp only [true_and]
section
variable {X : Cx} {x nm : Str} {k : Nat} {ps : List Str} {sp : Sp} {a b c : Expr} {ta tb tc : TE} {p pos kpos : Pos}
theorem p_callK1 (G : KnK CX0 X.prog X.w X.K X.mg X.base x k 1 [nm] ps sp) (hr : Room k X.A) (hg : Gl X x) (ha : PE X a ta) (hc : PE X c tc) (hd : (x == ("__debug__" : Str)) = false := by decide)
    (hall : (backToKw pos (keywordEach [⟨some nm, c, kpos⟩] X.env)).all (·.1.isSome) = true := by rfl) (hks : (backToKw pos (keywordEach [⟨some nm, c, kpos⟩] X.env)).filterMap (·.1) = [nm] := by rfl)
    (hs : starEach [a] X.env = (false, eval a X.env) :: starEach [] X.env := by rfl)
    (hp : ((backTo pos (starEach [a] X.env)).any (·.1) || (backToKw pos (keywordEach [⟨some nm, c, kpos⟩] X.env)).any (·.1.isNone)) = false := by rfl) :
    PE X (.Call (.Name x p) [a] [⟨some nm, c, kpos⟩] pos) (tCall sp [] E0 (tCons ta (tCons tc tNil))) := by
  obtain ⟨f, fd, F, kp, b, m⟩ := G
  rw [← callK1]
  exact pe_callN F hr hg m kp b pass0 (pa_cons ha pa_nil hs) (pk_cons hc pk_nil) hall hks hd hs hp
theorem p_callK2 (G : KnK CX0 X.prog X.w X.K X.mg X.base x k 2 [nm] ps sp) (hr : Room k X.A) (hg : Gl X x) (ha : PE X a ta) (hb : PE X b tb) (hc : PE X c tc) (hd : (x == ("__debug__" : Str)) = false := by decide)
    (hall : (backToKw pos (keywordEach [⟨some nm, c, kpos⟩] X.env)).all (·.1.isSome) = true := by rfl) (hks : (backToKw pos (keywordEach [⟨some nm, c, kpos⟩] X.env)).filterMap (·.1) = [nm] := by rfl)
    (hs : starEach [a, b] X.env = (false, eval a X.env) :: starEach [b] X.env := by rfl) (h2 : starEach [b] X.env = (false, eval b X.env) :: starEach [] X.env := by rfl)
    (hp : ((backTo pos (starEach [a, b] X.env)).any (·.1) || (backToKw pos (keywordEach [⟨some nm, c, kpos⟩] X.env)).any (·.1.isNone)) = false := by rfl) :
    PE X (.Call (.Name x p) [a, b] [⟨some nm, c, kpos⟩] pos) (tCall sp [] E0 (tCons ta (tCons tb (tCons tc tNil)))) := by
  obtain ⟨f, fd, F, kp, bd, m⟩ := G
  rw [← callK2]
  exact pe_callN F hr hg m kp bd pass0 (pa_cons ha (pa_cons hb pa_nil h2) hs) (pk_cons hc pk_nil) hall hks hd hs hp
end
def xMaxL (K : PySem.W.Frag) (ta : TE) : TE := tCB (rMax K) (tCons ta tNil)
def xIdx (K : PySem.W.Frag) (ta tb : TE) : TE := tBM K "list" (rIndex K) ta (tCons tb tNil)
section
variable {X : Cx} {a b : Expr} {ta tb : TE} {pos p1 p2 : Pos}
theorem p_maxL {K : PySem.W.Frag} (hc : X.calm = true) (hg : Gl X "max") (hm : X.mg "max" = none) (ha : PE X a ta) (hs : starEach [a] X.env = (false, eval a X.env) :: starEach [] X.env := by rfl) (hp : (backTo pos (starEach [] X.env)).any (·.1) = false := by rfl) (hK : X.K = K := by rfl) :
    PE X (.Call (.Name "max" p1) [a] [] pos) (xMaxL K ta) := by
  cases hK
  exact pe_callB (cr_max hc) hg hm (by decide +kernel) (pa_cons ha pa_nil hs) (he := hs) (hpl := hp)
theorem p_idx {K : PySem.W.Frag} {apos : Pos} (ha : PE X a ta) (hb : PE X b tb) (hbase : attributeBase a "index" X.env (eval a X.env) = eval a X.env := by rfl)
    (hfew : ((backTo pos (starEach [b] X.env)).all (fun x => !x.1) && (backToKw pos (keywordEach [] X.env)).all (fun x => x.1.isSome) && decide ([b].length + ([] : List Keyword).length + (if ([] : List Keyword).isEmpty then 0 else 1) < 30)) = true := by rfl)
    (hline : (apos.endLine == pos.line) = true := by rfl) (hs : starEach [b] X.env = (false, eval b X.env) :: starEach [] X.env := by rfl) (hp : (backTo pos (starEach [] X.env)).any (·.1) = false := by rfl) (hK : X.K = K := by rfl) :
    PE X (.Call (.Attribute a "index" apos) [b] [] pos) (xIdx K ta tb) := by
  cases hK
  exact pe_bm PySem.F.plainAttrs_list PySem.F.slot_list_index PySem.F.type_list_index mt_index ha (pa_cons hb pa_nil hs) hbase hfew hline hs hp
end
section
variable {Γ : List SA} {ta tb : TE} {K : PySem.W.Frag}
theorem e_maxL {as : List Int} {m : Int} (ha : Ev ta Γ (rLst K rInt) as) (hm : m ∈ as) (hx : ∀ y ∈ as, y ≤ m) : Ev (xMaxL K ta) Γ rInt m := fun H0 H F σ e g Q q =>
  ha H0 H F σ e g _ fun v H1 F1 o r => by
    obtain ⟨p, xs, rfl, s, h1⟩ := r
    have z : xs = as.map V.int := h1.eq_map
    subst z
    refine ⟨p, as, rfl, Evl.ex_l o.i s, List.length_pos_of_mem hm, fun m' h h' => ?_⟩
    have : m' = m := Int.le_antisymm (hx _ h) (h' _ hm)
    subst this
    exact q _ H1 F1 o rfl
theorem e_idx {as : List Int} {x : Int} {j : Nat} (ha : Ev ta Γ (rLst K rInt) as) (hb : Ev tb Γ rInt x) (hj : as[j]? = some x) (hn : ∀ m, m < j → as[m]? ≠ some x) : Ev (xIdx K ta tb) Γ rInt (j : Int) := fun H0 H F σ e g Q q =>
  ha H0 H F σ e g _ fun v H1 F1 o r => by
    obtain ⟨p, xs, rfl, s, h1⟩ := r
    have z : xs = as.map V.int := h1.eq_map
    subst z
    refine ⟨.inl ⟨rfl, _, Evl.ex_l o.i s⟩, hb H0 H1 F1 σ o.i (g.mono o) _ fun u H2 F2 o2 r2 => ?_⟩
    cases r2
    have eq : ∀ a : Int, eqV (.int a) (.int x) = (a == x) := fun a => rfl
    refine ⟨p, as.map V.int, .int x, j, .int x, rfl, rfl, Evl.ex_l (o2.f.trans o2.i) s, rfl, flat_ints as, ?_, ?_, fun m z hm hz => ?_, q _ H2 F2 (o.trans o2) rfl⟩
    · rw [List.getElem?_map, hj]; rfl
    · rw [eq]; simp
    · rw [List.getElem?_map] at hz
      cases h : as[m]? with
      | none => rw [h] at hz; cases hz
      | some y =>
        rw [h] at hz
        cases hz
        rw [eq]
        exact beq_eq_false_iff_ne.mpr fun e => hn m hm (by rw [h, e])
end
theorem S.fall {B : Bs} {Γ : List SA} {D : Ends} (q : retI rNon () B.H0 B.F0 D.rt) (hn : D.nx = fun _ H' => D.rt .non H' := by rfl) : S B tNext Γ D := fun H F σ b g => by
  show D.nx σ H
  rw [hn]
  exact q _ H F b.1 rfl
end Tp

namespace Tm
open PySem L2 Tp
/-! ### powers and weights -/
theorem Bd.one {n : Nat} (h : 1 ≤ n) : Bd n 1 := by
  unfold Bd
  exact Nat.lt_of_lt_of_le (by decide : Int.natAbs 1 < 2 ^ 1) (Nat.pow_le_pow_right (by decide) h)
theorem Bd.zero {n : Nat} : Bd n 0 := by unfold Bd; exact Nat.two_pow_pos n
theorem Bd.pow {m : Nat} {b : Int} (h : Bd m b) : ∀ n : Nat, Bd (m * n + 1) (b ^ n)
  | 0 => by rw [Int.pow_zero]; exact Bd.one (by omega)
  | n + 1 => by
    rw [Int.pow_succ]
    exact ((Bd.pow h n).mul h).le (by rw [Nat.mul_succ]; omega)
theorem Bd.lit {n : Nat} {x : Int} (h : x.natAbs < 2 ^ n) : Bd n x := h
def powL (b : Int) (n : Nat) : List Int := (List.range n).map fun i => b ^ i
theorem powL_succ (b : Int) (n : Nat) : powL b (n + 1) = powL b n ++ [b ^ n] := by unfold powL; rw [List.range_succ, List.map_append]; rfl
theorem powL_len (b : Int) (n : Nat) : (powL b n).length = n := by unfold powL; rw [List.length_map, List.length_range]
theorem powL_get {b : Int} {n i : Nat} (h : i < n) : (powL b n)[i]? = some (b ^ i) := by unfold powL; rw [List.getElem?_map, List.getElem?_range h]; rfl
/-- the weight of day t of n -/
def wt (a b : Int) (n t : Nat) : Int := a ^ t * b ^ (n - 1 - t)
def wts (a b : Int) (n : Nat) : List Int := (List.range n).map (wt a b n)
theorem wts_len (a b : Int) (n : Nat) : (wts a b n).length = n := by unfold wts; rw [List.length_map, List.length_range]
theorem wts_get {a b : Int} {n i : Nat} (h : i < n) : (wts a b n)[i]? = some (wt a b n i) := by unfold wts; rw [List.getElem?_map, List.getElem?_range h]; rfl
theorem Bd.wt {a b : Int} (ha : Bd 10 a) (hb : Bd 10 b) {n t : Nat} (h : t < n) : Bd (10 * n) (Tm.wt a b n t) := by
  have q := (ha.pow t).mul (hb.pow (n - 1 - t))
  exact q.le (by omega)
/-- the sum of values by places -/
def sg (f : Nat → Int) : Nat → Int
  | 0 => 0
  | n + 1 => sg f n + f n
theorem sg_congr {f g : Nat → Int} : ∀ {n : Nat}, (∀ i, i < n → f i = g i) → sg f n = sg g n
  | 0, _ => rfl
  | n + 1, h => by
    show sg f n + f n = sg g n + g n
    rw [sg_congr fun i hi => h i (by omega), h n (by omega)]
theorem sg_mul (c : Int) (f : Nat → Int) : ∀ n : Nat, sg (fun i => c * f i) n = c * sg f n
  | 0 => by show (0 : Int) = c * 0; rw [Int.mul_zero]
  | n + 1 => by show sg (fun i => c * f i) n + c * f n = c * (sg f n + f n); rw [sg_mul c f n, Int.mul_add]
theorem sg_add (f g : Nat → Int) : ∀ n : Nat, sg (fun i => f i + g i) n = sg f n + sg g n
  | 0 => rfl
  | n + 1 => by show sg (fun i => f i + g i) n + (f n + g n) = sg f n + f n + (sg g n + g n); rw [sg_add f g n]; omega
theorem sg_first (f : Nat → Int) : ∀ n : Nat, sg f (n + 1) = f 0 + sg (fun i => f (i + 1)) n
  | 0 => by show (0 : Int) + f 0 = f 0 + 0; omega
  | n + 1 => by
    show sg f (n + 1) + f (n + 1) = f 0 + (sg (fun i => f (i + 1)) n + f (n + 1))
    rw [sg_first f n]; omega
theorem Bd.sg {f : Nat → Int} {m : Nat} : ∀ {n : Nat}, (∀ i, i < n → Bd m (f i)) → Bd (m + n) (Tm.sg f n)
  | 0, _ => Bd.zero
  | n + 1, h => ((Bd.sg (n := n) fun i hi => h i (by omega)).add ((h n (by omega)).le (by omega))).le (by omega)
theorem sum_map_range (f : Nat → Int) : ∀ n : Nat, ((List.range n).map f).sum = sg f n
  | 0 => rfl
  | n + 1 => by
    rw [List.range_succ, List.map_append, List.sum_append, sum_map_range f n]
    show sg f n + (f n + 0) = sg f n + f n
    omega
theorem sum_wts (a b : Int) (n : Nat) : (wts a b n).sum = sg (wt a b n) n := sum_map_range _ n
/-- weights over n + 1 days -/
theorem wt_zero (a b : Int) (n : Nat) : wt a b (n + 1) 0 = b ^ n := by unfold wt; simp
theorem wt_succ (a b : Int) (n t : Nat) : wt a b (n + 1) (t + 1) = a * wt a b n t := by
  unfold wt
  rw [show n + 1 - 1 - (t + 1) = n - 1 - t by omega, Int.pow_succ]
  ac_rfl
theorem wt_up (a b : Int) {n t : Nat} (h : t < n) : wt a b (n + 1) t = b * wt a b n t := by
  unfold wt
  rw [show n + 1 - 1 - t = (n - 1 - t) + 1 by omega, Int.pow_succ]
  ac_rfl
/-- sum of rewards by weights -/
def ws (a b : Int) (n : Nat) (r : Nat → Int) (k : Nat) : Int := sg (fun t => wt a b n t * r t) k
theorem ws_first (a b : Int) (n k : Nat) (r : Nat → Int) : ws a b (n + 1) r (k + 1) = b ^ n * r 0 + a * ws a b n (fun t => r (t + 1)) k := by
  unfold ws
  rw [sg_first, wt_zero, ← sg_mul]
  congr 1
  refine sg_congr fun i _ => ?_
  rw [wt_succ, Int.mul_assoc]
theorem ws_up (a b : Int) {n k : Nat} (h : k ≤ n) (r : Nat → Int) : ws a b (n + 1) r k = b * ws a b n r k := by
  unfold ws
  rw [← sg_mul]
  refine sg_congr fun i hi => ?_
  rw [wt_up a b (by omega), Int.mul_assoc]
theorem Bd.ws {a b : Int} (ha : Bd 10 a) (hb : Bd 10 b) {n k m : Nat} {r : Nat → Int} (h : k ≤ n) (hr : ∀ i, i < k → Bd m (r i)) : Bd (10 * n + m + k) (Tm.ws a b n r k) :=
  Bd.sg fun i hi => (Bd.wt ha hb (by omega)).mul (hr i hi)
/-! ### what the laws draw: a row, a discount, rewards -/
def mix (c : Int) (k : Nat) : Int :=
  let m := (c + 7919 * (k : Int) + 13) % 2147483647
  let m := (m * (m + 48271)) % 2147483629
  let m := (m * (m + 69621) + 31 * (k : Int)) % 2147483647
  m / 9
def rowF (c : Int) : Nat → List Int × Int
  | 0 => ([], c)
  | i + 1 => if 10 ^ 18 ≤ c ∧ 0 < (rowF c i).2 then ((rowF c i).1 ++ [(rowF c i).2 % 10 ^ 10], (rowF c i).2.fdiv (10 ^ 10)) else ((rowF c i).1 ++ [mix c i], (rowF c i).2)
theorem rowF_len (c : Int) : ∀ n : Nat, (rowF c n).1.length = n
  | 0 => rfl
  | n + 1 => by
    unfold rowF
    split <;> simp [rowF_len c n]
theorem mix_nn (c : Int) (k : Nat) : 0 ≤ mix c k ∧ mix c k < 10 ^ 10 := by
  have e : ∃ m : Int, mix c k = (m * (m + 69621) + 31 * (k : Int)) % 2147483647 / 9 := ⟨_, rfl⟩
  obtain ⟨m, e⟩ := e
  rw [e]
  have h1 := Int.emod_nonneg (m * (m + 69621) + 31 * (k : Int)) (show (2147483647 : Int) ≠ 0 by decide)
  have h2 := Int.emod_lt_of_pos (m * (m + 69621) + 31 * (k : Int)) (show (0 : Int) < 2147483647 by decide)
  have : (10 : Int) ^ 10 = 10000000000 := by decide
  constructor <;> omega
theorem rowF_nn (c : Int) : ∀ n : Nat, ∀ x ∈ (rowF c n).1, 0 ≤ x ∧ x < 10 ^ 10
  | 0 => fun x h => by cases h
  | n + 1 => fun x h => by
    have ih := rowF_nn c n
    unfold rowF at h
    split at h
    · rcases List.mem_append.mp h with h | h
      · exact ih x h
      · have e : x = (rowF c n).2 % 10 ^ 10 := by simpa using h
        rw [e]
        exact ⟨Int.emod_nonneg _ (by decide), Int.emod_lt_of_pos _ (by decide)⟩
    · rcases List.mem_append.mp h with h | h
      · exact ih x h
      · have e : x = mix c n := by simpa using h
        rw [e]
        exact mix_nn c n
def menu : List (Int × Int) := [(1, 2), (1, 3), (2, 3), (3, 4), (9, 10), (2, 4), (1, 1000), (999, 1000)]
def discF (f s : Int) : Int × Int := if f % 2 = 0 then menu.getD (f / 2 % 8).toNat (1, 2) else (1 + s % (2 + f / 2 % 999 - 1), 2 + f / 2 % 999)
/-- a discount -/
def Dis (d : Int × Int) : Prop := 1 ≤ d.1 ∧ d.1 < d.2 ∧ d.2 ≤ 1000
theorem menu_at (f : Int) : atI menu (f / 2 % 8) = some (menu.getD (f / 2 % 8).toNat (1, 2)) := by
  have h1 := Int.emod_nonneg (f / 2) (show (8 : Int) ≠ 0 by decide)
  have h2 := Int.emod_lt_of_pos (f / 2) (show (0 : Int) < 8 by decide)
  refine Tp.at_nat h1 ?_
  rw [List.getD_eq_getElem?_getD, List.getElem?_eq_getElem (show (f / 2 % 8).toNat < menu.length by show _ < 8; omega)]
  rfl
theorem menu_ok : ∀ n : Nat, Dis (menu.getD n (1, 2))
  | 0 | 1 | 2 | 3 | 4 | 5 | 6 | 7 => by refine ⟨?_, ?_, ?_⟩ <;> decide
  | n + 8 => by
    rw [List.getD_eq_getElem?_getD, List.getElem?_eq_none (show menu.length ≤ n + 8 by show 8 ≤ _; omega)]
    refine ⟨?_, ?_, ?_⟩ <;> decide
theorem discF_ok (f s : Int) : Dis (discF f s) := by
  unfold discF
  split
  · exact menu_ok _
  · have h1 := Int.emod_nonneg (f / 2) (show (999 : Int) ≠ 0 by decide)
    have h2 := Int.emod_lt_of_pos (f / 2) (show (0 : Int) < 999 by decide)
    have h3 := Int.emod_nonneg s (show 2 + f / 2 % 999 - 1 ≠ 0 by omega)
    have h4 := Int.emod_lt_of_pos s (show 0 < 2 + f / 2 % 999 - 1 by omega)
    refine ⟨?_, ?_, ?_⟩
    · show 1 ≤ 1 + s % (2 + f / 2 % 999 - 1); omega
    · show 1 + s % (2 + f / 2 % 999 - 1) < 2 + f / 2 % 999; omega
    · show 2 + f / 2 % 999 ≤ 1000; omega
theorem Dis.bd {d : Int × Int} (h : Dis d) : Bd 10 d.1 ∧ Bd 10 d.2 ∧ 0 < d.1 ∧ 0 < d.2 := by
  obtain ⟨h1, h2, h3⟩ := h
  unfold Bd
  refine ⟨?_, ?_, ?_, ?_⟩ <;> omega
end Tm
namespace Tm
open PySem L2 Tp
theorem wt_pow (a b : Int) {k t : Nat} (ht : t < k) : ∀ j : Nat, wt a b (k + j) t = b ^ j * wt a b k t
  | 0 => by rw [Int.pow_zero, Int.one_mul]; rfl
  | j + 1 => by
    rw [← Nat.add_assoc, wt_up a b (show t < k + j by omega), wt_pow a b ht j, Int.pow_succ]
    ac_rfl
theorem ws_pow (a b : Int) {n k : Nat} (h : k ≤ n) (r : Nat → Int) : ws a b n r k = b ^ (n - k) * ws a b k r k := by
  unfold ws
  rw [← sg_mul]
  refine sg_congr fun i hi => ?_
  have e := wt_pow a b hi (n - k)
  rw [show k + (n - k) = n by omega] at e
  rw [e, Int.mul_assoc]
theorem ws_last (a b : Int) (k : Nat) (r : Nat → Int) : ws a b (k + 1) r (k + 1) = b * ws a b k r k + a ^ k * r k := by
  show ws a b (k + 1) r k + wt a b (k + 1) k * r k = _
  rw [ws_up a b (Nat.le_refl k)]
  unfold wt
  rw [show k + 1 - 1 - k = 0 by omega, Int.pow_zero, Int.mul_one]
/-- the sums of the first k over the last denominator, as over their own -/
theorem ws_over (a b : Int) {n k : Nat} (h : k ≤ n) (r : Nat → Int) : ws a b n r k * b ^ k = (b * ws a b k r k) * b ^ (n - 1) := by
  by_cases z : k = 0
  · subst z
    show 0 * _ = b * 0 * _
    rw [Int.mul_zero, Int.zero_mul, Int.zero_mul]
  · rw [ws_pow a b h]
    have e : b ^ (n - k) * b ^ k = b * b ^ (n - 1) := by
      rw [← Int.pow_add, show n - k + k = n - 1 + 1 by omega, Int.pow_succ, Int.mul_comm]
    calc b ^ (n - k) * ws a b k r k * b ^ k = (b ^ (n - k) * b ^ k) * ws a b k r k := by ac_rfl
      _ = (b * ws a b k r k) * b ^ (n - 1) := by rw [e]; ac_rfl
def one (_ : Nat) : Int := 1
def rdl (rs : List Int) (i : Nat) : Int := rs.getD i 0
theorem rdl_at {rs : List Int} {i : Nat} (h : i < rs.length) : atI rs (i : Int) = some (rdl rs i) := atI_nat (by unfold rdl; rw [List.getD_eq_getElem?_getD, List.getElem?_eq_getElem h]; rfl)
theorem rdl_mem {rs : List Int} {i : Nat} (h : i < rs.length) : rdl rs i ∈ rs := by
  unfold rdl
  rw [List.getD_eq_getElem?_getD, List.getElem?_eq_getElem h]
  exact List.getElem_mem h
/-- the discounted days, the discounted sums, over one denominator: places 0 to k -/
def pl (a b : Int) (n : Nat) (r : Nat → Int) (k : Nat) : List Int := (List.range (k + 1)).map (ws a b n r)
theorem pl_len (a b : Int) (n : Nat) (r : Nat → Int) (k : Nat) : (pl a b n r k).length = k + 1 := by unfold pl; rw [List.length_map, List.length_range]
theorem pl_succ (a b : Int) (n : Nat) (r : Nat → Int) (k : Nat) : pl a b n r (k + 1) = pl a b n r k ++ [ws a b n r (k + 1)] := by unfold pl; rw [List.range_succ, List.map_append]; rfl
theorem pl_at {a b : Int} {n : Nat} {r : Nat → Int} {k i : Nat} (h : i ≤ k) : (pl a b n r k)[i]? = some (ws a b n r i) := by unfold pl; rw [List.getElem?_map, List.getElem?_range (by omega)]; rfl
theorem pl_last (a b : Int) (n : Nat) (r : Nat → Int) (k : Nat) : atI (pl a b n r k) (-1) = some (ws a b n r k) := by
  cases k with
  | zero => rfl
  | succ k => rw [pl_succ]; exact atI_last _ _
/-- rewards within the limits -/
def Rws (rs : List Int) : Prop := rs.length ≤ 60 ∧ ∀ x ∈ rs, -1000000000 ≤ x ∧ x ≤ 1000000000
theorem Rws.bd {rs : List Int} (h : Rws rs) (i : Nat) : Bd 31 (rdl rs i) := by
  by_cases q : i < rs.length
  · have := h.2 _ (rdl_mem q)
    unfold Bd
    omega
  · unfold rdl
    rw [List.getD_eq_getElem?_getD, List.getElem?_eq_none (by omega)]
    exact Bd.zero
theorem ws_congr {a b : Int} {n k : Nat} {r r' : Nat → Int} (h : ∀ i, i < k → r i = r' i) : ws a b n r k = ws a b n r' k := sg_congr fun i hi => by rw [h i hi]
/-! rewards that are drawn -/
def rewF (raw mode : Int) : Int :=
  let r : Int := if mode = 4 then raw / 4 else raw
  let m : Int := if mode = 4 then raw % 4 else mode
  if m = 0 then r % 6 - 2 else if m = 1 then r % 2 * 3 else if m = 2 then r % 2001 - 1000 else r * 10 % 2000000001 - 1000000000
theorem rewF_ok (raw mode : Int) : -1000000000 ≤ rewF raw mode ∧ rewF raw mode ≤ 1000000000 := by
  unfold rewF
  dsimp only
  generalize (if mode = 4 then raw / 4 else raw) = r
  generalize (if mode = 4 then raw % 4 else mode) = m
  split
  · omega
  · split
    · omega
    · split
      · omega
      · have h1 := Int.emod_nonneg (r * 10) (show (2000000001 : Int) ≠ 0 by decide)
        have h2 := Int.emod_lt_of_pos (r * 10) (show (0 : Int) < 2000000001 by decide)
        omega
def sizeF (row : List Int) (room : Int) : Int :=
  if rdl row 0 % 4 = 3 then rdl row 0 / 4 % (room + 1) else rdl row 0 / 4 % (if room + 1 < 7 then room + 1 else 7)
theorem sizeF_ok (row : List Int) {room : Int} (h : 0 ≤ room) : 0 ≤ sizeF row room ∧ sizeF row room ≤ room := by
  unfold sizeF
  have h1 := Int.emod_nonneg (rdl row 0 / 4) (show room + 1 ≠ 0 by omega)
  have h2 := Int.emod_lt_of_pos (rdl row 0 / 4) (show 0 < room + 1 by omega)
  split
  · omega
  · split
    · omega
    · omega
def rewsF (row : List Int) (room : Int) : List Int := (List.range (sizeF row room).toNat).map fun k => rewF (rdl row (2 + k)) (rdl row 1 % 5)
theorem rewsF_ok (row : List Int) {room : Int} (h : 0 ≤ room) (h6 : room ≤ 60) : Rws (rewsF row room) := by
  have := sizeF_ok row h
  refine ⟨by unfold rewsF; rw [List.length_map, List.length_range]; omega, fun x hx => ?_⟩
  unfold rewsF at hx
  obtain ⟨k, _, rfl⟩ := List.mem_map.mp hx
  exact rewF_ok _ _
theorem cut2 (x y : Int) (r : List Int) : Tp.cutA (x :: y :: r) (some 2) none = r := by
  unfold Tp.cutA
  rw [show HT.sIx (x :: y :: r).length 0 (some 2) = min 2 (x :: y :: r).length from HT.sIx_nat _ 0 2, HT.sIx_none]
  have e : min 2 (x :: y :: r).length = 2 := by simp
  rw [e]
  show List.take ((x :: y :: r).length - 2) r = r
  exact List.take_of_length_le (by simp)
end Tm

namespace Tm
open PySem L2 Tp
/-! ### rests: the nearest point at which the slope is greatest -/
section
variable (D S : Nat → Int)
def nx (s : Nat) : Nat → Nat
  | 0 => s + 1
  | i + 1 => if (S (nx s i) - S s) * (D (s + 2 + i) - D s) < (S (s + 2 + i) - S s) * (D (nx s i) - D s) then s + 2 + i else nx s i
def nextF (n s : Nat) : Nat := nx D S s (n - s - 1)
/-- e is the next rest behind s, of the points up to n -/
structure NR (n s e : Nat) : Prop where
  lt : s < e
  le : e ≤ n
  top : ∀ k, s < k → k ≤ n → (S k - S s) * (D e - D s) ≤ (S e - S s) * (D k - D s)
  near : ∀ k, s < k → k < e → (S k - S s) * (D e - D s) < (S e - S s) * (D k - D s)
def Up (n : Nat) : Prop := ∀ i j, i < j → j ≤ n → D i < D j
variable {D S}
/-- slopes are in order -/
theorem slope_trans {x y z u v w : Int} (hv : 0 < v) (hw : 0 < w) (hu : 0 < u) (h1 : x * v ≤ y * u) (h2 : y * w ≤ z * v) : x * w ≤ z * u := by
  have a : x * v * w ≤ y * u * w := Int.mul_le_mul_of_nonneg_right h1 (by omega)
  have b : y * w * u ≤ z * v * u := Int.mul_le_mul_of_nonneg_right h2 (by omega)
  have c : (x * w) * v ≤ (z * u) * v := by
    calc (x * w) * v = x * v * w := by ac_rfl
      _ ≤ y * u * w := a
      _ = y * w * u := by ac_rfl
      _ ≤ z * v * u := b
      _ = (z * u) * v := by ac_rfl
  exact Int.le_of_mul_le_mul_right c hv
theorem slope_trans_lt {x y z u v w : Int} (hv : 0 < v) (hw : 0 < w) (hu : 0 < u) (h1 : x * v ≤ y * u) (h2 : y * w < z * v) : x * w < z * u := by
  have a : x * v * w ≤ y * u * w := Int.mul_le_mul_of_nonneg_right h1 (by omega)
  have b : y * w * u < z * v * u := Int.mul_lt_mul_of_pos_right h2 hu
  have c : (x * w) * v < (z * u) * v := by
    calc (x * w) * v = x * v * w := by ac_rfl
      _ ≤ y * u * w := a
      _ = y * w * u := by ac_rfl
      _ < z * v * u := b
      _ = (z * u) * v := by ac_rfl
  exact Int.lt_of_mul_lt_mul_right c (by omega)
theorem nx_le (s i : Nat) : s < nx D S s i ∧ nx D S s i ≤ s + 1 + i := by
  induction i with
  | zero => exact ⟨Nat.lt_succ_self s, Nat.le_refl _⟩
  | succ i ih =>
    unfold nx
    split <;> omega
theorem nx_top {n s : Nat} (u : Up D n) : ∀ i, s + 1 + i ≤ n → NR D S (s + 1 + i) s (nx D S s i)
  | 0, _ => ⟨Nat.lt_succ_self s, Nat.le_refl _, fun k h1 h2 => by
      have e : k = s + 1 := by omega
      subst e
      exact Int.le_refl _, fun k h1 h2 => by
      exact absurd (show k < s + 1 from h2) (by omega)⟩
  | i + 1, hi => by
    have ih := nx_top (s := s) u i (by omega)
    have hb := nx_le (D := D) (S := S) s i
    generalize hB : nx D S s i = b at ih hb
    have db : 0 < D b - D s := by have := u s b hb.1 (by omega); omega
    have de : 0 < D (s + 2 + i) - D s := by have := u s (s + 2 + i) (by omega) (by omega); omega
    unfold nx
    rw [hB]
    split
    next c =>
      refine ⟨by omega, by omega, fun k h1 h2 => ?_, fun k h1 h2 => ?_⟩
      · by_cases q : k = s + 2 + i
        · subst q; exact Int.le_refl _
        · have dk : 0 < D k - D s := by have := u s k h1 (by omega); omega
          exact Int.le_of_lt (slope_trans_lt db de dk (ih.top k h1 (by omega)) c)
      · have dk : 0 < D k - D s := by have := u s k h1 (by omega); omega
        exact slope_trans_lt db de dk (ih.top k h1 (by omega)) c
    next c =>
      refine ⟨hb.1, by omega, fun k h1 h2 => ?_, ih.near⟩
      by_cases q : k = s + 2 + i
      · subst q; omega
      · exact ih.top k h1 (by omega)
theorem next_top {n s : Nat} (u : Up D n) (h : s < n) : NR D S n s (nextF D S n s) := by
  have q := nx_top (S := S) (s := s) u (n - s - 1) (by omega)
  rwa [show s + 1 + (n - s - 1) = n by omega] at q
theorem NR.uniq {n s e e' : Nat} (h : NR D S n s e) (h' : NR D S n s e') : e = e' := by
  rcases Nat.lt_trichotomy e e' with q | q | q
  · have a := h'.near e h.lt q
    have b := h.top e' h'.lt h'.le
    omega
  · exact q
  · have a := h.near e' h'.lt q
    have b := h'.top e h.lt h.le
    omega
variable (D S) in
/-- the rests behind s -/
def rsF (n : Nat) : Nat → Nat → List Nat
  | 0, _ => []
  | f + 1, s => if s < n then nextF D S n s :: rsF n f (nextF D S n s) else []
variable (D S) in
def restsF (n : Nat) : List Nat := 0 :: rsF D S n n 0
/-- the chain of rests from s -/
inductive Rch (n : Nat) : Nat → List Nat → Prop where
  | nil : Rch n n []
  | cons {s e : Nat} {l : List Nat} (h : NR D S n s e) (r : Rch n e l) : Rch n s (e :: l)
theorem rsF_ch {n : Nat} (u : Up D n) : ∀ (f s : Nat), s ≤ n → n ≤ s + f → Rch (D := D) (S := S) n s (rsF D S n f s)
  | 0, s, h, h' => by
    have e : s = n := by omega
    subst e
    exact .nil
  | f + 1, s, h, h' => by
    unfold rsF
    split
    next c =>
      have q := next_top (S := S) u c
      exact .cons q (rsF_ch u f _ q.le (by have := q.lt; omega))
    next c =>
      have e : s = n := by omega
      subst e
      exact .nil
theorem rests_ch {n : Nat} (u : Up D n) : Rch (D := D) (S := S) n 0 (rsF D S n n 0) := rsF_ch u n 0 (Nat.zero_le n) (by omega)
theorem Rch.uniq {n s : Nat} {l l' : List Nat} (h : Rch (D := D) (S := S) n s l) (h' : Rch (D := D) (S := S) n s l') : l = l' := by
  induction h generalizing l' with
  | nil =>
    cases h' with
    | nil => rfl
    | cons q _ => exact absurd q.lt (by have := q.le; omega)
  | cons q r ih =>
    cases h' with
    | nil => exact absurd q.lt (by have := q.le; omega)
    | cons q' r' =>
      cases q.uniq q'
      rw [ih r']
theorem Rch.le {n s : Nat} {l : List Nat} (h : Rch (D := D) (S := S) n s l) : s ≤ n := by
  cases h with
  | nil => exact Nat.le_refl _
  | cons q _ => exact Nat.le_trans (Nat.le_of_lt q.lt) q.le
/-- consecutive rests -/
theorem Rch.step {n s : Nat} {l : List Nat} (h : Rch (D := D) (S := S) n s l) : ∀ (i x y : Nat), (s :: l)[i]? = some x → (s :: l)[i + 1]? = some y → NR D S n x y := by
  induction h with
  | nil => intro i x y _ h2; simp at h2
  | cons q r ih =>
    intro i x y h1 h2
    cases i with
    | zero =>
      simp at h1 h2
      subst h1 h2
      exact q
    | succ i => exact ih i x y (by simpa using h1) (by simpa using h2)
theorem Rch.last {n s : Nat} {l : List Nat} (h : Rch (D := D) (S := S) n s l) : (s :: l)[l.length]? = some n := by
  induction h with
  | nil => rfl
  | cons q r ih => simpa using ih
theorem Rch.mem {n s : Nat} {l : List Nat} (h : Rch (D := D) (S := S) n s l) : ∀ x ∈ s :: l, s ≤ x ∧ x ≤ n := by
  induction h with
  | nil => intro x hx; simp at hx; omega
  | cons q r ih =>
    intro x hx
    have a := q.lt
    have b := q.le
    rcases List.mem_cons.mp hx with rfl | hx
    · omega
    · have := ih x hx
      omega
theorem NR.congr {D' S' : Nat → Int} {n s e : Nat} (h : NR D S n s e) (hD : ∀ k, k ≤ n → D k = D' k) (hS : ∀ k, k ≤ n → S k = S' k) : NR D' S' n s e := by
  have hs := Nat.le_trans (Nat.le_of_lt h.lt) h.le
  refine ⟨h.lt, h.le, fun k h1 h2 => ?_, fun k h1 h2 => ?_⟩
  · have t := h.top k h1 h2
    rwa [hD k h2, hD s hs, hD e h.le, hS k h2, hS s hs, hS e h.le] at t
  · have h3 := Nat.le_trans (Nat.le_of_lt h2) h.le
    have t := h.near k h1 h2
    rwa [hD k h3, hD s hs, hD e h.le, hS k h3, hS s hs, hS e h.le] at t
theorem cast_rdl {l : List Nat} {i : Nat} {x : Nat} (h : l[i]? = some x) : rdl (l.map fun k : Nat => (k : Int)) i = (x : Int) := by
  unfold rdl
  rw [List.getD_eq_getElem?_getD, List.getElem?_map, h]
  rfl
theorem Rch.rdl {n s : Nat} {l : List Nat} (h : Rch (D := D) (S := S) n s l) (i : Nat) (hi : i + 1 < ((s :: l).map fun k : Nat => (k : Int)).length) :
    NR D S n (Tm.rdl ((s :: l).map fun k : Nat => (k : Int)) i).toNat (Tm.rdl ((s :: l).map fun k : Nat => (k : Int)) (i + 1)).toNat ∧ 0 ≤ Tm.rdl ((s :: l).map fun k : Nat => (k : Int)) i ∧ 0 ≤ Tm.rdl ((s :: l).map fun k : Nat => (k : Int)) (i + 1) := by
  rw [List.length_map] at hi
  have e1 : (s :: l)[i]? = some (s :: l)[i] := List.getElem?_eq_getElem (by omega)
  have e2 : (s :: l)[i + 1]? = some (s :: l)[i + 1] := List.getElem?_eq_getElem hi
  have q := h.step i _ _ e1 e2
  rw [cast_rdl e1, cast_rdl e2, Int.toNat_natCast, Int.toNat_natCast]
  exact ⟨q, by omega, by omega⟩
theorem Rch.len {n s : Nat} {l : List Nat} (h : Rch (D := D) (S := S) n s l) : l.length + s ≤ n := by
  induction h with
  | nil => simp
  | cons q r ih =>
    have := q.lt
    simp only [List.length_cons]
    omega
theorem Rch.marks {n : Nat} {l : List Nat} (h : Rch (D := D) (S := S) n 0 l) (hn : n ≤ 900) :
    ((0 :: l).map fun k : Nat => (k : Int)).length ≤ 1000 ∧ 0 < ((0 :: l).map fun k : Nat => (k : Int)).length ∧ (∀ i, i + 1 < ((0 :: l).map fun k : Nat => (k : Int)).length → Tm.rdl ((0 :: l).map fun k : Nat => (k : Int)) i < Tm.rdl ((0 :: l).map fun k : Nat => (k : Int)) (i + 1)) ∧
      Tm.rdl ((0 :: l).map fun k : Nat => (k : Int)) 0 = 0 ∧ Tm.rdl ((0 :: l).map fun k : Nat => (k : Int)) (((0 :: l).map fun k : Nat => (k : Int)).length - 1) = (n : Int) := by
  have hl := h.len
  refine ⟨by rw [List.length_map, List.length_cons]; omega, by simp, fun i hi => ?_, rfl, ?_⟩
  · obtain ⟨q, h1, h2⟩ := h.rdl i hi
    have := q.lt
    omega
  · rw [List.length_map, List.length_cons, Nat.add_sub_cancel]
    exact cast_rdl h.last
end
/-! the points of a list of rewards -/
theorem wt_pos {a b : Int} (ha : 0 < a) (hb : 0 < b) (n t : Nat) : 0 < wt a b n t := Int.mul_pos (Int.pow_pos ha) (Int.pow_pos hb)
theorem ws_one_up {a b : Int} (ha : 0 < a) (hb : 0 < b) (n : Nat) : ∀ i j, i < j → ws a b n one i < ws a b n one j := by
  intro i j h
  induction j with
  | zero => omega
  | succ j ih =>
    have w : 0 < wt a b n j * one j := by
      show 0 < wt a b n j * 1
      rw [Int.mul_one]
      exact wt_pos ha hb n j
    have e : ws a b n one (j + 1) = ws a b n one j + wt a b n j * one j := rfl
    by_cases q : i = j
    · subst q; omega
    · have := ih (by omega); omega
theorem pl_rdl {a b : Int} {n : Nat} {r : Nat → Int} {m k : Nat} (h : k ≤ m) : rdl (pl a b n r m) k = ws a b n r k := by
  unfold rdl
  rw [List.getD_eq_getElem?_getD, pl_at h]
  rfl
end Tm
namespace Tm
open PySem L2 Tp
/-! ### stretches and charges -/
section
variable (D S : Nat → Int)
def strL : Nat → List Nat → List ((Int × Int) × Int × Int)
  | _, [] => []
  | s, e :: l => (mkR (S e - S s) (D e - D s), (s : Int), (e : Int)) :: strL e l
def chgOf (ts : List ((Int × Int) × Int × Int)) : List (Int × Int) := ts.flatMap fun t => List.replicate (t.2.2 - t.2.1).toNat t.1
variable {D S}
theorem strL_len : ∀ (s : Nat) (l : List Nat), (strL D S s l).length = l.length
  | _, [] => rfl
  | s, e :: l => by show (strL D S e l).length + 1 = l.length + 1; rw [strL_len e l]
theorem strL_get : ∀ (s : Nat) (l : List Nat) (k x y : Nat), (s :: l)[k]? = some x → (s :: l)[k + 1]? = some y → (strL D S s l)[k]? = some (mkR (S y - S x) (D y - D x), (x : Int), (y : Int))
  | s, [], k, x, y, _, h2 => by simp at h2
  | s, e :: l, 0, x, y, h1, h2 => by
    simp at h1 h2
    subst h1 h2
    rfl
  | s, e :: l, k + 1, x, y, h1, h2 => by
    have q := strL_get e l k x y (by simpa using h1) (by simpa using h2)
    simpa [strL] using q
theorem chg_snoc (ts : List ((Int × Int) × Int × Int)) (t : (Int × Int) × Int × Int) : chgOf (ts ++ [t]) = chgOf ts ++ List.replicate (t.2.2 - t.2.1).toNat t.1 := by
  unfold chgOf
  rw [List.flatMap_append]
  simp
theorem chg_cons (s e : Nat) (l : List Nat) : chgOf (strL D S s (e :: l)) = List.replicate (e - s) (mkR (S e - S s) (D e - D s)) ++ chgOf (strL D S e l) := by
  show List.flatMap _ (_ :: _) = _
  rw [List.flatMap_cons]
  show List.replicate ((e : Int) - (s : Int)).toNat _ ++ _ = _
  rw [show ((e : Int) - (s : Int)).toNat = e - s by omega]
  rfl
theorem Rch.chg_len {n s : Nat} {l : List Nat} (h : Rch (D := D) (S := S) n s l) : (chgOf (strL D S s l)).length = n - s := by
  induction h with
  | nil => simp [strL, chgOf]
  | cons q r ih =>
    have := q.lt
    have := q.le
    rw [chg_cons, List.length_append, List.length_replicate, ih]
    omega
theorem Rch.chg_get {n s : Nat} {l : List Nat} (h : Rch (D := D) (S := S) n s l) : ∀ (k x y t : Nat), (s :: l)[k]? = some x → (s :: l)[k + 1]? = some y → x ≤ t → t < y → (chgOf (strL D S s l))[t - s]? = some (mkR (S y - S x) (D y - D x)) := by
  induction h with
  | nil => intro k x y t _ h2; simp at h2
  | @cons s e l q r ih =>
    intro k x y t h1 h2 h3 h4
    have qlt := q.lt
    rw [chg_cons]
    cases k with
    | zero =>
      simp at h1 h2
      subst h1 h2
      rw [List.getElem?_append_left (by rw [List.length_replicate]; omega), List.getElem?_replicate, if_pos (by omega)]
    | succ k =>
      have m := r.mem x (List.mem_of_getElem? (by simpa using h1))
      rw [List.getElem?_append_right (by rw [List.length_replicate]; omega), List.length_replicate]
      have g := ih k x y t (by simpa using h1) (by simpa using h2) h3 h4
      rwa [show t - s - (e - s) = t - e by omega]
theorem chg_pre {s : Nat} {l : List Nat} (i : Nat) (t : (Int × Int) × Int × Int) (h : (strL D S s l)[i]? = some t) : chgOf ((strL D S s l).take (i + 1)) = chgOf ((strL D S s l).take i) ++ List.replicate (t.2.2 - t.2.1).toNat t.1 := by
  rw [List.take_add_one, h]
  exact chg_snoc _ _
theorem Rch.chg_pre_len {n s : Nat} {l : List Nat} (h : Rch (D := D) (S := S) n s l) (i : Nat) : (chgOf ((strL D S s l).take i)).length ≤ n := by
  have e := h.chg_len
  have q : (chgOf (strL D S s l)).length = (chgOf ((strL D S s l).take i)).length + (chgOf ((strL D S s l).drop i)).length := by
    unfold chgOf
    rw [← List.length_append, ← List.flatMap_append, List.take_append_drop]
  omega
/-- a stretch of the list -/
theorem Rch.str_get {n s : Nat} {l : List Nat} (h : Rch (D := D) (S := S) n s l) {i : Nat} {t : (Int × Int) × Int × Int} (ht : (strL D S s l)[i]? = some t) :
    ∃ x y : Nat, (s :: l)[i]? = some x ∧ (s :: l)[i + 1]? = some y ∧ NR D S n x y ∧ t = (mkR (S y - S x) (D y - D x), (x : Int), (y : Int)) := by
  have hi : i < l.length := by
    have := (List.getElem?_eq_some_iff.mp ht).1
    rwa [strL_len] at this
  have e1 : (s :: l)[i]? = some ((s :: l)[i]'(by simp; omega)) := List.getElem?_eq_getElem (by simp; omega)
  have e2 : (s :: l)[i + 1]? = some ((s :: l)[i + 1]'(by simp; omega)) := List.getElem?_eq_getElem (by simp; omega)
  have g := strL_get (D := D) (S := S) s l i _ _ e1 e2
  exact ⟨_, _, e1, e2, h.step i _ _ e1 e2, Option.some.inj (ht.symm.trans g)⟩
/-- the stretch in which a step stands -/
theorem Rch.find {n s : Nat} {l : List Nat} (h : Rch (D := D) (S := S) n s l) : ∀ t, s ≤ t → t < n → ∃ i x y, (s :: l)[i]? = some x ∧ (s :: l)[i + 1]? = some y ∧ x ≤ t ∧ t < y := by
  induction h with
  | nil => intro t h1 h2; omega
  | @cons s e l q r ih =>
    intro t h1 h2
    by_cases z : t < e
    · exact ⟨0, s, e, rfl, rfl, h1, z⟩
    · obtain ⟨i, x, y, g1, g2, g3, g4⟩ := ih t (by omega) h2
      exact ⟨i + 1, x, y, by simpa using g1, by simpa using g2, g3, g4⟩
end
end Tm

namespace Tm
open PySem L2 Tp
/-! ### THE charges: never rising, their sums nowhere below those of the rewards, equal where they fall and at the end -/
def rdc (cs : List (Int × Int)) (i : Nat) : Int × Int := cs.getD i (0, 1)
theorem rdc_at {cs : List (Int × Int)} {i : Nat} (h : i < cs.length) : atI cs (i : Int) = some (rdc cs i) := atI_nat (by unfold rdc; rw [List.getD_eq_getElem?_getD, List.getElem?_eq_getElem h]; rfl)
theorem rdc_of {cs : List (Int × Int)} {i : Nat} {c : Int × Int} (h : cs[i]? = some c) : rdc cs i = c := by unfold rdc; rw [List.getD_eq_getElem?_getD, h]; rfl
/-- the sum of charges less rewards so far, over the product of the denominators -/
def tbF (w r : Nat → Int) (c : Nat → Int × Int) : Nat → Int × Int
  | 0 => (0, 1)
  | k + 1 => ((tbF w r c k).1 * (c k).2 + w k * ((c k).1 - r k * (c k).2) * (tbF w r c k).2, (tbF w r c k).2 * (c k).2)
section
variable {D S w r : Nat → Int} {c : Nat → Int × Int}
theorem tb_pos (h : ∀ k, 0 < (c k).2) : ∀ k, 0 < (tbF w r c k).2
  | 0 => by show (0 : Int) < 1; decide
  | k + 1 => Int.mul_pos (tb_pos h k) (h k)
/-- within a stretch -/
theorem tb_in {s e n : Nat} (hw : ∀ k, k < n → D (k + 1) = D k + w k) (hS : ∀ k, k < n → S (k + 1) = S k + w k * r k) (he : e ≤ n) (h0 : (tbF w r c s).1 = 0) (hc : ∀ t, s ≤ t → t < e → (c t).1 * (D e - D s) = (S e - S s) * (c t).2) :
    ∀ j, s + j ≤ e → (tbF w r c (s + j)).1 * (D e - D s) = (tbF w r c (s + j)).2 * ((S e - S s) * (D (s + j) - D s) - (S (s + j) - S s) * (D e - D s))
  | 0, _ => by
    show (tbF w r c s).1 * _ = (tbF w r c s).2 * ((S e - S s) * (D s - D s) - (S s - S s) * (D e - D s))
    rw [h0]
    simp
  | j + 1, hj => by
    have ih := tb_in hw hS he h0 hc j (by omega)
    have hcj := hc (s + j) (by omega) (by omega)
    have e1 := hw (s + j) (by omega)
    have e2 := hS (s + j) (by omega)
    show ((tbF w r c (s + j)).1 * (c (s + j)).2 + w (s + j) * ((c (s + j)).1 - r (s + j) * (c (s + j)).2) * (tbF w r c (s + j)).2) * (D e - D s) = ((tbF w r c (s + j)).2 * (c (s + j)).2) * ((S e - S s) * (D (s + j + 1) - D s) - (S (s + j + 1) - S s) * (D e - D s))
    rw [e1, e2]
    revert ih hcj
    generalize (tbF w r c (s + j)).1 = t
    generalize (tbF w r c (s + j)).2 = b
    generalize (c (s + j)).1 = p
    generalize (c (s + j)).2 = q
    generalize w (s + j) = W
    generalize r (s + j) = R
    generalize D e - D s = dd
    generalize S e - S s = ss
    rw [show D (s + j) + W - D s = (D (s + j) - D s) + W by omega, show S (s + j) + W * R - S s = (S (s + j) - S s) + W * R by omega]
    generalize D (s + j) - D s = x
    generalize S (s + j) - S s = y
    intro ih hcj
    have a1 : (t * q + W * (p - R * q) * b) * dd = (t * dd) * q + W * b * (p * dd) - W * R * q * b * dd := by
      rw [Int.add_mul, Int.mul_sub, Int.sub_mul, Int.sub_mul]
      have z1 : t * q * dd = t * dd * q := by ac_rfl
      have z2 : W * p * b * dd = W * b * (p * dd) := by ac_rfl
      have z3 : W * (R * q) * b * dd = W * R * q * b * dd := by ac_rfl
      rw [z1, z2, z3]; omega
    rw [a1, ih, hcj]
    have b1 : b * (ss * x - y * dd) * q = b * q * (ss * x) - b * q * (y * dd) := by
      rw [Int.mul_sub, Int.sub_mul]
      have z1 : b * (ss * x) * q = b * q * (ss * x) := by ac_rfl
      have z2 : b * (y * dd) * q = b * q * (y * dd) := by ac_rfl
      rw [z1, z2]
    have b2 : b * q * (ss * (x + W) - (y + W * R) * dd) = b * q * (ss * x) + b * q * (ss * W) - b * q * (y * dd) - b * q * (W * R * dd) := by
      rw [Int.mul_add, Int.add_mul, Int.mul_sub, Int.mul_add, Int.mul_add]; omega
    rw [b1, b2]
    have b3 : W * b * (ss * q) = b * q * (ss * W) := by ac_rfl
    have b4 : W * R * q * b * dd = b * q * (W * R * dd) := by ac_rfl
    rw [b3, b4]; omega
/-- what the check asks at step k -/
def Ask (w r : Nat → Int) (c : Nat → Int × Int) (k : Nat) : Prop :=
  (0 < k → (c k).1 * (c (k - 1)).2 - (c (k - 1)).1 * (c k).2 ≤ 0 ∧ ((c k).1 * (c (k - 1)).2 - (c (k - 1)).1 * (c k).2 < 0 → (tbF w r c k).1 = 0))
theorem slope_fall {s e f n : Nat} (up : Up D n) (h1 : NR D S n s e) (h2 : NR D S n e f) : (S f - S e) * (D e - D s) ≤ (S e - S s) * (D f - D e) := by
  have t := h1.top f (by have := h1.lt; have := h2.lt; omega) h2.le
  have e1 : (S f - S s) * (D e - D s) = (S f - S e) * (D e - D s) + (S e - S s) * (D e - D s) := by rw [← Int.add_mul]; congr 1; omega
  have e2 : (S e - S s) * (D f - D s) = (S e - S s) * (D f - D e) + (S e - S s) * (D e - D s) := by rw [← Int.mul_add]; congr 1; omega
  omega
theorem ratio_fall {p q p' q' x d x' d' : Int} (hd : 0 < d) (hd' : 0 < d') (hq : 0 < q) (hq' : 0 < q') (e : p * d = x * q) (e' : p' * d' = x' * q') (h : x * d' ≤ x' * d) : p * q' - p' * q ≤ 0 := by
  have a : p * q' * (d * d') ≤ p' * q * (d * d') := by
    calc p * q' * (d * d') = (p * d) * (q' * d') := by ac_rfl
      _ = (x * d') * (q * q') := by rw [e]; ac_rfl
      _ ≤ (x' * d) * (q * q') := Int.mul_le_mul_of_nonneg_right h (Int.le_of_lt (Int.mul_pos hq hq'))
      _ = (x' * q') * (q * d) := by ac_rfl
      _ = p' * q * (d * d') := by rw [← e']; ac_rfl
  have := Int.le_of_mul_le_mul_right a (Int.mul_pos hd hd')
  omega
/-- the whole line -/
theorem tb_all {n : Nat} (up : Up D n) (hw : ∀ k, k < n → D (k + 1) = D k + w k) (hS : ∀ k, k < n → S (k + 1) = S k + w k * r k) (hq : ∀ k, 0 < (c k).2) {s : Nat} {l : List Nat} (h : Rch (D := D) (S := S) n s l) :
    (tbF w r c s).1 = 0 → (∀ i x y t, (s :: l)[i]? = some x → (s :: l)[i + 1]? = some y → x ≤ t → t < y → (c t).1 * (D y - D x) = (S y - S x) * (c t).2) →
    (tbF w r c n).1 = 0 ∧ (∀ k, s ≤ k → k ≤ n → 0 ≤ (tbF w r c k).1) ∧ ∀ k, s < k → k < n → Ask w r c k := by
  induction h with
  | nil => exact fun h0 _ => ⟨h0, fun k h1 h2 => by rw [show k = n by omega, h0]; exact Int.le_refl 0, fun k h1 h2 => by omega⟩
  | @cons s e l q rch ih =>
    intro h0 hc
    have de : 0 < D e - D s := by have := up s e q.lt q.le; omega
    have id := tb_in (c := c) hw hS q.le h0 (fun t h1 h2 => hc 0 s e t rfl rfl h1 h2)
    have he0 : (tbF w r c e).1 = 0 := by
      have z := id (e - s) (by have := q.lt; omega)
      rw [show s + (e - s) = e by have := q.lt; omega, Int.sub_self, Int.mul_zero] at z
      exact (Int.mul_eq_zero.mp z).resolve_right (by omega)
    obtain ⟨i1, i2, i3⟩ := ih he0 (fun i x y t h1 h2 => hc (i + 1) x y t (by simpa using h1) (by simpa using h2))
    refine ⟨i1, fun k h1 h2 => ?_, fun k h1 h2 => ?_⟩
    · by_cases z : e ≤ k
      · exact i2 k z h2
      · have g := id (k - s) (by omega)
        rw [show s + (k - s) = k by omega] at g
        by_cases zz : k = s
        · rw [zz, h0]; exact Int.le_refl 0
        · have t := q.top k (by omega) h2
          have p := tb_pos (w := w) (r := r) hq k
          have nn : 0 ≤ (tbF w r c k).1 * (D e - D s) := by rw [g]; exact Int.mul_nonneg (Int.le_of_lt p) (by omega)
          exact Int.le_of_mul_le_mul_right (by rw [Int.zero_mul]; exact nn) de
    · by_cases z : e < k
      · exact i3 k z h2
      · intro _
        by_cases zz : k = e
        · subst zz
          -- the next stretch begins
          cases rch with
          | nil => omega
          | @cons _ f l' q' rch' =>
            have c1 := hc 0 s k (k - 1) rfl rfl (by omega) (by omega)
            have c2 := hc 1 k f k rfl rfl (Nat.le_refl _) q'.lt
            have df : 0 < D f - D k := by have := up k f q'.lt q'.le; omega
            exact ⟨ratio_fall df de (hq k) (hq (k - 1)) c2 c1 (slope_fall up q q'), fun _ => he0⟩
        · have c1 := hc 0 s e (k - 1) rfl rfl (by omega) (by omega)
          have c2 := hc 0 s e k rfl rfl (by omega) (by omega)
          have e0 : (c k).1 * (c (k - 1)).2 - (c (k - 1)).1 * (c k).2 = 0 := by
            have a : (c k).1 * (c (k - 1)).2 * (D e - D s) = (c (k - 1)).1 * (c k).2 * (D e - D s) := by
              calc (c k).1 * (c (k - 1)).2 * (D e - D s) = ((c k).1 * (D e - D s)) * (c (k - 1)).2 := by ac_rfl
                _ = ((S e - S s) * (c (k - 1)).2) * (c k).2 := by rw [c2]; ac_rfl
                _ = (c (k - 1)).1 * (c k).2 * (D e - D s) := by rw [← c1]; ac_rfl
            have := Int.eq_of_mul_eq_mul_right (by omega) a
            omega
          exact ⟨by omega, fun z => by omega⟩
end
theorem tb_congr {w w' r : Nat → Int} {c : Nat → Int × Int} : ∀ {k : Nat}, (∀ t, t < k → w t = w' t) → tbF w r c k = tbF w' r c k
  | 0, _ => rfl
  | k + 1, h => by
    unfold tbF
    rw [tb_congr fun t ht => h t (by omega), h k (by omega)]
/-! sizes -/
theorem tb_bd {w r : Nat → Int} {c : Nat → Int × Int} (hw : ∀ k, Bd 700 (w k)) (hr : ∀ k, Bd 31 (r k)) (hc : ∀ k, Bd 700 (c k).1 ∧ Bd 700 (c k).2) : ∀ k, Bd (2300 + 800 * k) (tbF w r c k).1 ∧ Bd (1 + 700 * k) (tbF w r c k).2
  | 0 => ⟨Bd.zero, Bd.one (by decide)⟩
  | k + 1 => by
    obtain ⟨h1, h2⟩ := tb_bd hw hr hc k
    have a1 : Bd 732 ((c k).1 - r k * (c k).2) := Bd.sub ((hc k).1.le (by decide)) ((hr k).mul (hc k).2)
    have a2 := ((hw k).mul a1).mul h2
    exact ⟨(((h1.mul (hc k).2).le (show _ ≤ 3000 + 800 * k by omega)).add (a2.le (show _ ≤ 3000 + 800 * k by omega))).le (by omega), (h2.mul (hc k).2).le (by omega)⟩
theorem ws_step (a b : Int) (n : Nat) (r : Nat → Int) (k : Nat) : ws a b n r (k + 1) = ws a b n r k + wt a b n k * r k := rfl
theorem ws_one_step (a b : Int) (n : Nat) (k : Nat) : ws a b n one (k + 1) = ws a b n one k + wt a b n k := by
  rw [ws_step]
  show _ + wt a b n k * 1 = _
  rw [Int.mul_one]
/-- the charges of a list: the facts of each -/
theorem chg_facts {a b : Int} {rs : List Int} (ha : Bd 10 a) (hb : Bd 10 b) (a0 : 0 < a) (b0 : 0 < b) (hr : Rws rs) {l : List Nat} (h : Rch (D := ws a b rs.length one) (S := ws a b rs.length (rdl rs)) rs.length 0 l) :
    (∀ k, 0 < (rdc (chgOf (strL (ws a b rs.length one) (ws a b rs.length (rdl rs)) 0 l)) k).2) ∧
    (∀ k, isR (rdc (chgOf (strL (ws a b rs.length one) (ws a b rs.length (rdl rs)) 0 l)) k) = true) ∧
    (∀ k, Bd 700 (rdc (chgOf (strL (ws a b rs.length one) (ws a b rs.length (rdl rs)) 0 l)) k).1 ∧ Bd 700 (rdc (chgOf (strL (ws a b rs.length one) (ws a b rs.length (rdl rs)) 0 l)) k).2) ∧
    ∀ i x y t, (0 :: l)[i]? = some x → (0 :: l)[i + 1]? = some y → x ≤ t → t < y → (rdc (chgOf (strL (ws a b rs.length one) (ws a b rs.length (rdl rs)) 0 l)) t).1 * (ws a b rs.length one y - ws a b rs.length one x) = (ws a b rs.length (rdl rs) y - ws a b rs.length (rdl rs) x) * (rdc (chgOf (strL (ws a b rs.length one) (ws a b rs.length (rdl rs)) 0 l)) t).2 := by
  have up : Up (ws a b rs.length one) rs.length := fun i j hij _ => ws_one_up a0 b0 _ i j hij
  have h60 := hr.1
  have get : ∀ i x y t, (0 :: l)[i]? = some x → (0 :: l)[i + 1]? = some y → x ≤ t → t < y → rdc (chgOf (strL (ws a b rs.length one) (ws a b rs.length (rdl rs)) 0 l)) t = mkR (ws a b rs.length (rdl rs) y - ws a b rs.length (rdl rs) x) (ws a b rs.length one y - ws a b rs.length one x) ∧ ws a b rs.length one y - ws a b rs.length one x ≠ 0 ∧ y ≤ rs.length ∧ x ≤ rs.length := fun i x y t h1 h2 h3 h4 => by
    have nr := h.step i x y h1 h2
    have u := up x y nr.lt nr.le
    exact ⟨rdc_of (h.chg_get i x y t h1 h2 h3 h4), by omega, nr.le, Nat.le_trans (Nat.le_of_lt nr.lt) nr.le⟩
  have W : ∀ (r : Nat → Int), (∀ i, Bd 31 (r i)) → ∀ k, k ≤ rs.length → Bd 692 (ws a b rs.length r k) := fun r hB k hk => (Bd.ws (m := 31) ha hb hk fun i _ => hB i).le (by omega)
  -- every step stands in some stretch, or behind the end
  have cases : ∀ t, rdc (chgOf (strL (ws a b rs.length one) (ws a b rs.length (rdl rs)) 0 l)) t = (0, 1) ∨ ∃ x y, x ≤ rs.length ∧ y ≤ rs.length ∧ ws a b rs.length one y - ws a b rs.length one x ≠ 0 ∧ rdc (chgOf (strL (ws a b rs.length one) (ws a b rs.length (rdl rs)) 0 l)) t = mkR (ws a b rs.length (rdl rs) y - ws a b rs.length (rdl rs) x) (ws a b rs.length one y - ws a b rs.length one x) := fun t => by
    by_cases q : t < rs.length
    · obtain ⟨i, x, y, h1, h2, h3, h4⟩ := h.find t (Nat.zero_le t) q
      obtain ⟨g1, g2, g3, g4⟩ := get i x y t h1 h2 h3 h4
      exact .inr ⟨x, y, g4, g3, g2, g1⟩
    · refine .inl ?_
      unfold rdc
      rw [List.getD_eq_getElem?_getD, List.getElem?_eq_none (by rw [h.chg_len]; omega)]
      rfl
  refine ⟨fun k => ?_, fun k => ?_, fun k => ?_, fun i x y t h1 h2 h3 h4 => ?_⟩
  · rcases cases k with z | ⟨x, y, hx, hy, hd, z⟩
    · rw [z]; decide
    · rw [z]; have := (mkR_spec (n := ws a b rs.length (rdl rs) y - ws a b rs.length (rdl rs) x) hd).1; omega
  · rcases cases k with z | ⟨x, y, hx, hy, hd, z⟩
    · rw [z]; decide
    · rw [z]; exact isR_mkR hd
  · rcases cases k with z | ⟨x, y, hx, hy, hd, z⟩
    · rw [z]; exact ⟨Bd.zero, Bd.one (by decide)⟩
    · rw [z]
      exact ⟨((Bd.mkR hd).1 ((W _ hr.bd y hy).sub (W _ hr.bd x hx))).le (by decide), ((Bd.mkR hd).2 ((W _ (fun _ => Bd.one (by decide)) y hy).sub (W _ (fun _ => Bd.one (by decide)) x hx))).le (by decide)⟩
  · obtain ⟨g1, g2, _, _⟩ := get i x y t h1 h2 h3 h4
    rw [g1]
    exact (mkR_spec g2).2.2
end Tm
namespace Tm
open PySem L2 Tp
/-! ### a discount that is not in lowest terms -/
theorem wt_scale (c a b : Int) {n t : Nat} (h : t < n) : wt (c * a) (c * b) n t = c ^ (n - 1) * wt a b n t := by
  unfold wt
  rw [Int.mul_pow, Int.mul_pow]
  have e : c ^ (n - 1) = c ^ t * c ^ (n - 1 - t) := by rw [← Int.pow_add]; congr 1; omega
  rw [e]
  ac_rfl
theorem ws_scale (c a b : Int) {n k : Nat} (h : k ≤ n) (r : Nat → Int) : ws (c * a) (c * b) n r k = c ^ (n - 1) * ws a b n r k := by
  unfold ws
  rw [← sg_mul]
  refine sg_congr fun i hi => ?_
  rw [wt_scale c a b (by omega), Int.mul_assoc]
theorem NR.scale {D S : Nat → Int} {n s e : Nat} {c : Int} (hc : 0 < c) (h : NR D S n s e) : NR (fun k => c * D k) (fun k => c * S k) n s e := by
  have m : ∀ x y z w : Int, (c * x - c * y) * (c * z - c * w) = c * c * ((x - y) * (z - w)) := fun x y z w => by
    rw [← Int.mul_sub, ← Int.mul_sub]; ac_rfl
  have cc := Int.mul_pos hc hc
  refine ⟨h.lt, h.le, fun k h1 h2 => ?_, fun k h1 h2 => ?_⟩
  · have t := h.top k h1 h2
    show (c * S k - c * S s) * (c * D e - c * D s) ≤ (c * S e - c * S s) * (c * D k - c * D s)
    rw [m, m]
    exact Int.mul_le_mul_of_nonneg_left t (Int.le_of_lt cc)
  · have t := h.near k h1 h2
    show (c * S k - c * S s) * (c * D e - c * D s) < (c * S e - c * S s) * (c * D k - c * D s)
    rw [m, m]
    exact Int.mul_lt_mul_of_pos_left t cc
theorem Rch.map {D S D' S' : Nat → Int} {n s : Nat} {l : List Nat} (f : ∀ x y, NR D S n x y → NR D' S' n x y) (h : Rch (D := D) (S := S) n s l) : Rch (D := D') (S := S') n s l := by
  induction h with
  | nil => exact .nil
  | cons q r ih => exact .cons (f _ _ q) ih
theorem strL_congr {D S D' S' : Nat → Int} {n : Nat} {s : Nat} {l : List Nat} (h : Rch (D := D) (S := S) n s l) (e : ∀ x y, NR D S n x y → mkR (S y - S x) (D y - D x) = mkR (S' y - S' x) (D' y - D' x)) : strL D S s l = strL D' S' s l := by
  induction h with
  | nil => rfl
  | cons q r ih =>
    unfold strL
    rw [ih, e _ _ q]
/-- the charges do not depend on the discount's terms -/
theorem chg_scale {a b : Int} {rs : List Int} (a0 : 0 < a) (b0 : 0 < b) {c : Int} (hc : 0 < c) :
    chgOf (strL (ws (c * a) (c * b) rs.length one) (ws (c * a) (c * b) rs.length (rdl rs)) 0 (rsF (ws (c * a) (c * b) rs.length one) (ws (c * a) (c * b) rs.length (rdl rs)) rs.length rs.length 0)) =
      chgOf (strL (ws a b rs.length one) (ws a b rs.length (rdl rs)) 0 (rsF (ws a b rs.length one) (ws a b rs.length (rdl rs)) rs.length rs.length 0)) := by
  have up : Up (ws a b rs.length one) rs.length := fun i j hij _ => ws_one_up a0 b0 _ i j hij
  have up2 : Up (ws (c * a) (c * b) rs.length one) rs.length := fun i j hij _ => ws_one_up (Int.mul_pos hc a0) (Int.mul_pos hc b0) _ i j hij
  have h1 := rests_ch (S := ws a b rs.length (rdl rs)) up
  have h2 := rests_ch (S := ws (c * a) (c * b) rs.length (rdl rs)) up2
  have cp : 0 < c ^ (rs.length - 1) := Int.pow_pos hc
  have h3 : Rch (D := ws (c * a) (c * b) rs.length one) (S := ws (c * a) (c * b) rs.length (rdl rs)) rs.length 0 (rsF (ws a b rs.length one) (ws a b rs.length (rdl rs)) rs.length rs.length 0) :=
    h1.map fun x y q => (q.scale cp).congr (fun k hk => (ws_scale c a b hk one).symm) fun k hk => (ws_scale c a b hk (rdl rs)).symm
  rw [h2.uniq h3]
  refine congrArg chgOf (strL_congr h1 fun x y q => ?_).symm
  have hx := Nat.le_trans (Nat.le_of_lt q.lt) q.le
  have u := up x y q.lt q.le
  have d0 : ws a b rs.length one y - ws a b rs.length one x ≠ 0 := by omega
  rw [ws_scale c a b q.le, ws_scale c a b hx, ws_scale c a b q.le, ws_scale c a b hx, ← Int.mul_sub, ← Int.mul_sub]
  exact mkR_eq d0 (Int.mul_ne_zero (by omega) d0) (by ac_rfl)
end Tm
namespace Tm
open PySem L2 Tp
/-! ### heights -/
section
variable (D S : Nat → Int) (m : Int)
def hgOf (ts : List ((Int × Int) × Int × Int)) : List (Int × Int) := ts.flatMap fun t => (List.range (t.2.2 - t.2.1).toNat).map fun j => mkR (S t.2.1.toNat * t.1.2 + t.1.1 * (D (t.2.1.toNat + 1 + j) - D t.2.1.toNat)) (m * t.1.2)
variable {D S m}
theorem hg_snoc (ts : List ((Int × Int) × Int × Int)) (t : (Int × Int) × Int × Int) : hgOf D S m (ts ++ [t]) = hgOf D S m ts ++ (List.range (t.2.2 - t.2.1).toNat).map fun j => mkR (S t.2.1.toNat * t.1.2 + t.1.1 * (D (t.2.1.toNat + 1 + j) - D t.2.1.toNat)) (m * t.1.2) := by
  unfold hgOf
  rw [List.flatMap_append]
  simp
theorem hg_pre {s : Nat} {l : List Nat} (i : Nat) (t : (Int × Int) × Int × Int) (h : (strL D S s l)[i]? = some t) : hgOf D S m ((strL D S s l).take (i + 1)) = hgOf D S m ((strL D S s l).take i) ++ (List.range (t.2.2 - t.2.1).toNat).map fun j => mkR (S t.2.1.toNat * t.1.2 + t.1.1 * (D (t.2.1.toNat + 1 + j) - D t.2.1.toNat)) (m * t.1.2) := by
  rw [List.take_add_one, h]
  exact hg_snoc _ _
theorem hg_cons (s e : Nat) (l : List Nat) : hgOf D S m (strL D S s (e :: l)) = ((List.range (e - s)).map fun j => mkR (S s * (mkR (S e - S s) (D e - D s)).2 + (mkR (S e - S s) (D e - D s)).1 * (D (s + 1 + j) - D s)) (m * (mkR (S e - S s) (D e - D s)).2)) ++ hgOf D S m (strL D S e l) := by
  show List.flatMap _ (_ :: _) = _
  rw [List.flatMap_cons]
  show (List.range ((e : Int) - (s : Int)).toNat).map _ ++ _ = _
  rw [show ((e : Int) - (s : Int)).toNat = e - s by omega]
  rfl
theorem Rch.hg_len {n s : Nat} {l : List Nat} (h : Rch (D := D) (S := S) n s l) : (hgOf D S m (strL D S s l)).length = n - s := by
  induction h with
  | nil => simp [strL, hgOf]
  | cons q r ih =>
    have := q.lt
    have := q.le
    rw [hg_cons, List.length_append, List.length_map, List.length_range, ih]
    omega
theorem Rch.hg_pre_len {n s : Nat} {l : List Nat} (h : Rch (D := D) (S := S) n s l) (i : Nat) : (hgOf D S m ((strL D S s l).take i)).length ≤ n := by
  have e := h.hg_len (m := m)
  have q : (hgOf D S m (strL D S s l)).length = (hgOf D S m ((strL D S s l).take i)).length + (hgOf D S m ((strL D S s l).drop i)).length := by
    unfold hgOf
    rw [← List.length_append, ← List.flatMap_append, List.take_append_drop]
  omega
theorem Rch.hg_get {n s : Nat} {l : List Nat} (h : Rch (D := D) (S := S) n s l) : ∀ (k x y t : Nat), (s :: l)[k]? = some x → (s :: l)[k + 1]? = some y → x ≤ t → t < y →
    (hgOf D S m (strL D S s l))[t - s]? = some (mkR (S x * (mkR (S y - S x) (D y - D x)).2 + (mkR (S y - S x) (D y - D x)).1 * (D (t + 1) - D x)) (m * (mkR (S y - S x) (D y - D x)).2)) := by
  induction h with
  | nil => intro k x y t _ h2; simp at h2
  | @cons s e l q r ih =>
    intro k x y t h1 h2 h3 h4
    have qlt := q.lt
    rw [hg_cons]
    cases k with
    | zero =>
      simp at h1 h2
      subst h1 h2
      rw [List.getElem?_append_left (by rw [List.length_map, List.length_range]; omega), List.getElem?_map, List.getElem?_range (by omega)]
      show some (mkR (_ + _ * (D (s + 1 + (t - s)) - D s)) _) = _
      rw [show s + 1 + (t - s) = t + 1 by omega]
    | succ k =>
      have mm := r.mem x (List.mem_of_getElem? (by simpa using h1))
      rw [List.getElem?_append_right (by rw [List.length_map, List.length_range]; omega), List.length_map, List.length_range]
      have g := ih k x y t (by simpa using h1) (by simpa using h2) h3 h4
      rwa [show t - s - (e - s) = t - e by omega]
end
section
variable {D S w r : Nat → Int} {c : Nat → Int × Int}
/-- nothing but the rests touches the line -/
theorem tb_zero {n : Nat} (up : Up D n) (hw : ∀ k, k < n → D (k + 1) = D k + w k) (hS : ∀ k, k < n → S (k + 1) = S k + w k * r k) (hq : ∀ k, 0 < (c k).2) {s : Nat} {l : List Nat} (h : Rch (D := D) (S := S) n s l) :
    (tbF w r c s).1 = 0 → (∀ i x y t, (s :: l)[i]? = some x → (s :: l)[i + 1]? = some y → x ≤ t → t < y → (c t).1 * (D y - D x) = (S y - S x) * (c t).2) →
    ∀ k, s ≤ k → k ≤ n → ((tbF w r c k).1 = 0 ↔ k ∈ s :: l) := by
  induction h with
  | nil => exact fun h0 _ k h1 h2 => by rw [show k = n by omega]; simp [h0]
  | @cons s e l q rch ih =>
    intro h0 hc k h1 h2
    have de : 0 < D e - D s := by have := up s e q.lt q.le; omega
    have id := tb_in (c := c) hw hS q.le h0 (fun t h1 h2 => hc 0 s e t rfl rfl h1 h2)
    have he0 : (tbF w r c e).1 = 0 := by
      have z := id (e - s) (by have := q.lt; omega)
      rw [show s + (e - s) = e by have := q.lt; omega, Int.sub_self, Int.mul_zero] at z
      exact (Int.mul_eq_zero.mp z).resolve_right (by omega)
    have i := ih he0 (fun i x y t h1 h2 => hc (i + 1) x y t (by simpa using h1) (by simpa using h2))
    by_cases z : e ≤ k
    · rw [i k z h2]
      constructor
      · exact fun m => List.mem_cons_of_mem _ m
      · intro m
        rcases List.mem_cons.mp m with m | m
        · exact absurd m (by have := q.lt; omega)
        · exact m
    · by_cases zz : k = s
      · rw [zz]; simp [h0]
      · have t := q.near k (by omega) (by omega)
        have g := id (k - s) (by omega)
        rw [show s + (k - s) = k by omega] at g
        have p := tb_pos (w := w) (r := r) hq k
        have nn : 0 < (tbF w r c k).1 * (D e - D s) := by rw [g]; exact Int.mul_pos p (by omega)
        constructor
        · intro e0; rw [e0, Int.zero_mul] at nn; omega
        · intro m
          rcases List.mem_cons.mp m with m | m
          · exact absurd m zz
          · have := rch.mem k m; omega
/-- the sum of charges alone -/
def tcF (w : Nat → Int) (c : Nat → Int × Int) : Nat → Int × Int
  | 0 => (0, 1)
  | k + 1 => ((tcF w c k).1 * (c k).2 + w k * (c k).1 * (tcF w c k).2, (tcF w c k).2 * (c k).2)
theorem tc_s1 (w : Nat → Int) (c : Nat → Int × Int) (k : Nat) : (tcF w c k).1 * (c k).2 + w k * (c k).1 * (tcF w c k).2 = (tcF w c (k + 1)).1 := rfl
theorem tc_s2 (w : Nat → Int) (c : Nat → Int × Int) (k : Nat) : (tcF w c k).2 * (c k).2 = (tcF w c (k + 1)).2 := rfl
theorem tc_tb {n : Nat} (hS : ∀ k, k < n → S (k + 1) = S k + w k * r k) (h0 : S 0 = 0) : ∀ k, k ≤ n → (tcF w c k).2 = (tbF w r c k).2 ∧ (tcF w c k).1 = (tbF w r c k).1 + S k * (tbF w r c k).2
  | 0, _ => by
    refine ⟨rfl, ?_⟩
    show (0 : Int) = 0 + S 0 * 1
    rw [h0]; rfl
  | k + 1, h => by
    obtain ⟨h1, h2⟩ := tc_tb hS h0 k (by omega)
    have e := hS k (by omega)
    unfold tcF tbF
    simp only [h1, h2, e]
    refine ⟨trivial, ?_⟩
    generalize (tbF w r c k).1 = t
    generalize (tbF w r c k).2 = b
    generalize (c k).1 = p
    generalize (c k).2 = q
    generalize w k = W
    generalize r k = R
    generalize S k = s
    rw [Int.add_mul, Int.mul_sub, Int.sub_mul, Int.add_mul]
    have z1 : s * b * q = s * (b * q) := by ac_rfl
    have z2 : W * (R * q) * b = W * R * (b * q) := by ac_rfl
    rw [z1, z2]; omega
/-- the height behind step t, told in two ways -/
theorem hg_val {n x y t : Nat} (up : Up D n) (hw : ∀ k, k < n → D (k + 1) = D k + w k) (hS : ∀ k, k < n → S (k + 1) = S k + w k * r k) (h0 : S 0 = 0) (nr : NR D S n x y) (z : (tbF w r c x).1 = 0) (hc : ∀ t, x ≤ t → t < y → (c t).1 * (D y - D x) = (S y - S x) * (c t).2) (h1 : x ≤ t) (h2 : t < y) (m : Int) :
    (S x * (c t).2 + (c t).1 * (D (t + 1) - D x)) * ((tcF w c (t + 1)).2 * m) = (tcF w c (t + 1)).1 * (m * (c t).2) := by
  have de : 0 < D y - D x := by have := up x y nr.lt nr.le; omega
  have id := tb_in (c := c) hw hS nr.le z hc (t + 1 - x) (by omega)
  rw [show x + (t + 1 - x) = t + 1 by omega] at id
  obtain ⟨e1, e2⟩ := tc_tb (c := c) hS h0 (t + 1) (by have := nr.le; omega)
  have e3 := hc t h1 h2
  rw [e1, e2]
  revert id e3
  generalize (tbF w r c (t + 1)).1 = T
  generalize (tbF w r c (t + 1)).2 = b
  generalize (c t).1 = p
  generalize (c t).2 = q
  generalize S (t + 1) = st
  rw [show D (t + 1) = (D (t + 1) - D x) + D x by omega]
  generalize hX : D (t + 1) - D x = X
  rw [show X + D x - D x = X by omega]
  rw [show S y = (S y - S x) + S x by omega]
  generalize S y - S x = ss
  rw [show ss + S x - S x = ss by omega]
  revert de
  generalize D y - D x = dd
  generalize S x = s
  intro de id e3
  have key : (s * q + p * X) * b * dd = (T + st * b) * q * dd := by
    have a1 : (s * q + p * X) * b * dd = s * q * b * dd + (p * dd) * X * b := by
      rw [Int.add_mul, Int.add_mul]; congr 1; ac_rfl
    have a2 : (T + st * b) * q * dd = (T * dd) * q + st * b * q * dd := by
      rw [Int.add_mul, Int.add_mul]; congr 1; ac_rfl
    rw [a1, a2, id, e3]
    have b1 : b * (ss * X - (st - s) * dd) * q = b * q * (ss * X) - b * q * (st * dd) + b * q * (s * dd) := by
      rw [Int.sub_mul st s dd, Int.mul_sub, Int.mul_sub, Int.sub_mul, Int.sub_mul]
      have z1 : b * (ss * X) * q = b * q * (ss * X) := by ac_rfl
      have z2 : b * (st * dd) * q = b * q * (st * dd) := by ac_rfl
      have z3 : b * (s * dd) * q = b * q * (s * dd) := by ac_rfl
      rw [z1, z2, z3]; omega
    rw [b1]
    have z1 : s * q * b * dd = b * q * (s * dd) := by ac_rfl
    have z2 : ss * q * X * b = b * q * (ss * X) := by ac_rfl
    have z3 : st * b * q * dd = b * q * (st * dd) := by ac_rfl
    rw [z1, z2, z3]; omega
  have k2 : (s * q + p * X) * b = (T + st * b) * q := Int.eq_of_mul_eq_mul_right (by omega) key
  calc (s * q + p * X) * (b * m) = (s * q + p * X) * b * m := by ac_rfl
    _ = (T + st * b) * (m * q) := by rw [k2]; ac_rfl
end
/-- a wide bound behind a shut door, so that no search opens its power -/
@[irreducible] def Bq (x : Int) : Prop := Bd 110000 x
theorem Bq.mk {n : Nat} {x : Int} (h : Bd n x) (e : n ≤ 110000) : Bq x := by unfold Bq; exact h.le e
theorem Bq.out {x : Int} (h : Bq x) : Bd 110000 x := by unfold Bq at h; exact h
end Tm

namespace Tm
open PySem L2 Tp
/-! ### a line of charges cut at a place -/
section
variable {D S D' S' : Nat → Int}
theorem NR.aff {n m o s e : Nat} {c : Int} (hc : 0 < c) (hm : o + m ≤ n) (he : e ≤ m)
    (hD : ∀ i j, i ≤ m → j ≤ m → D (o + i) - D (o + j) = c * (D' i - D' j)) (hS : ∀ i j, i ≤ m → j ≤ m → S (o + i) - S (o + j) = c * (S' i - S' j))
    (h : NR D S n (o + s) (o + e)) : NR D' S' m s e := by
  have lt : s < e := by have := h.lt; omega
  have cc := Int.mul_pos hc hc
  have mm : ∀ x y : Int, (c * x) * (c * y) = c * c * (x * y) := fun x y => by ac_rfl
  refine ⟨lt, he, fun k h1 h2 => ?_, fun k h1 h2 => ?_⟩
  · have t := h.top (o + k) (by omega) (by omega)
    rw [hD e s he (by omega), hS k s h2 (by omega), hS e s he (by omega), hD k s h2 (by omega), mm, mm] at t
    exact Int.le_of_mul_le_mul_left t cc
  · have t := h.near (o + k) (by omega) (by omega)
    rw [hD e s he (by omega), hS k s (by omega) (by omega), hS e s he (by omega), hD k s (by omega) (by omega), mm, mm] at t
    exact Int.lt_of_mul_lt_mul_left t (Int.le_of_lt cc)
theorem Rch.split {n p : Nat} (f : ∀ x y, NR D S n x y → y ≤ p → NR D' S' p x y) {s : Nat} {l : List Nat} (h : Rch (D := D) (S := S) n s l) :
    p ∈ s :: l → ∃ l1 l2, Rch (D := D) (S := S) n p l2 ∧ Rch (D := D') (S := S') p s l1 ∧ chgOf (strL D S s l) = chgOf (strL D S s l1) ++ chgOf (strL D S p l2) := by
  induction h with
  | nil =>
    intro m
    have e : p = n := by simpa using m
    subst e
    exact ⟨[], [], .nil, .nil, by simp [strL, chgOf]⟩
  | @cons s e l q r ih =>
    intro m
    by_cases z : p = s
    · subst z
      exact ⟨[], e :: l, .cons q r, .nil, by simp [strL, chgOf]⟩
    · have m' : p ∈ e :: l := by
        rcases List.mem_cons.mp m with m | m
        · exact absurd m z
        · exact m
      obtain ⟨l1, l2, a1, a2, a3⟩ := ih m'
      refine ⟨e :: l1, l2, a1, .cons (f s e q (r.mem p m').1) a2, ?_⟩
      rw [chg_cons, chg_cons, a3, List.append_assoc]
theorem Rch.shift {n p : Nat} (f : ∀ x y, p ≤ x → NR D S n x y → NR D' S' (n - p) (x - p) (y - p) ∧ mkR (S y - S x) (D y - D x) = mkR (S' (y - p) - S' (x - p)) (D' (y - p) - D' (x - p))) {s : Nat} {l : List Nat} (h : Rch (D := D) (S := S) n s l) :
    p ≤ s → Rch (D := D') (S := S') (n - p) (s - p) (l.map (· - p)) ∧ chgOf (strL D S s l) = chgOf (strL D' S' (s - p) (l.map (· - p))) := by
  induction h with
  | nil => exact fun _ => ⟨.nil, rfl⟩
  | @cons s e l q r ih =>
    intro hs
    have lt := q.lt
    obtain ⟨i1, i2⟩ := ih (by omega)
    obtain ⟨f1, f2⟩ := f s e hs q
    refine ⟨.cons f1 i1, ?_⟩
    rw [List.map_cons, chg_cons, chg_cons, i2, f2, show e - p - (s - p) = e - s by omega]
end
theorem tb_scale {w r r' : Nat → Int} {c c' : Nat → Int × Int} (C : Int) : ∀ {k : Nat} {w' : Nat → Int}, (∀ t, t < k → w t = C * w' t ∧ r t = r' t ∧ c t = c' t) → (tbF w r c k).1 = C * (tbF w' r' c' k).1 ∧ (tbF w r c k).2 = (tbF w' r' c' k).2
  | 0, _, _ => ⟨(Int.mul_zero C).symm, rfl⟩
  | k + 1, w', h => by
    obtain ⟨a1, a2⟩ := tb_scale (r := r) (r' := r') (c := c) (c' := c') C (k := k) (w := w) (w' := w') fun t ht => h t (by omega)
    obtain ⟨b1, b2, b3⟩ := h k (by omega)
    refine ⟨?_, ?_⟩
    · show (tbF w r c k).1 * (c k).2 + w k * ((c k).1 - r k * (c k).2) * (tbF w r c k).2 = C * ((tbF w' r' c' k).1 * (c' k).2 + w' k * ((c' k).1 - r' k * (c' k).2) * (tbF w' r' c' k).2)
      rw [a1, a2, b1, b2, b3, Int.mul_add]
      congr 1 <;> ac_rfl
    · show (tbF w r c k).2 * (c k).2 = (tbF w' r' c' k).2 * (c' k).2
      rw [a2, b3]
/-- the charges of a list -/
def chgs (a b : Int) (rs : List Int) : List (Int × Int) := chgOf (strL (ws a b rs.length one) (ws a b rs.length (rdl rs)) 0 (rsF (ws a b rs.length one) (ws a b rs.length (rdl rs)) rs.length rs.length 0))
theorem chgs_len {a b : Int} (a0 : 0 < a) (b0 : 0 < b) (rs : List Int) : (chgs a b rs).length = rs.length := by
  have up : Up (ws a b rs.length one) rs.length := fun i j hij _ => ws_one_up a0 b0 _ i j hij
  exact (rests_ch (S := ws a b rs.length (rdl rs)) up).chg_len
theorem wt_cut (a b : Int) {n p t : Nat} (h : p ≤ n) : wt a b n (p + t) = a ^ p * wt a b (n - p) t := by
  unfold wt
  rw [Int.pow_add, show n - 1 - (p + t) = n - p - 1 - t by omega, Int.mul_assoc]
theorem wt_pre (a b : Int) {n p t : Nat} (h : p ≤ n) (ht : t < p) : wt a b n t = b ^ (n - p) * wt a b p t := by
  have := wt_pow a b ht (n - p)
  rwa [show p + (n - p) = n by omega] at this
theorem ws_pre (a b : Int) {n p k : Nat} {r r' : Nat → Int} (h : p ≤ n) (hk : k ≤ p) (hr : ∀ t, t < p → r t = r' t) : ws a b n r k = b ^ (n - p) * ws a b p r' k := by
  unfold ws
  rw [← sg_mul]
  refine sg_congr fun i hi => ?_
  rw [wt_pre a b h (by omega), hr i (by omega), Int.mul_assoc]
theorem sg_split (f : Nat → Int) (p : Nat) : ∀ k : Nat, sg f (p + k) = sg f p + sg (fun t => f (p + t)) k
  | 0 => by show sg f p = sg f p + 0; rw [Int.add_zero]
  | k + 1 => by
    show sg f (p + k) + f (p + k) = sg f p + (sg (fun t => f (p + t)) k + f (p + k))
    rw [sg_split f p k, Int.add_assoc]
theorem ws_cut (a b : Int) {n p : Nat} {r r' : Nat → Int} (h : p ≤ n) (hr : ∀ t, r (p + t) = r' t) (k : Nat) : ws a b n r (p + k) = ws a b n r p + a ^ p * ws a b (n - p) r' k := by
  unfold ws
  rw [sg_split, ← sg_mul]
  refine congrArg _ (sg_congr fun i hi => ?_)
  show wt a b n (p + i) * r (p + i) = _
  rw [wt_cut a b h, hr i, Int.mul_assoc]
theorem rdl_take {rs : List Int} {p t : Nat} (h : t < p) : rdl rs t = rdl (rs.take p) t := by
  unfold rdl
  rw [List.getD_eq_getElem?_getD, List.getD_eq_getElem?_getD, List.getElem?_take_of_lt h]
theorem rdl_drop (rs : List Int) (p t : Nat) : rdl rs (p + t) = rdl (rs.drop p) t := by
  unfold rdl
  rw [List.getD_eq_getElem?_getD, List.getD_eq_getElem?_getD, List.getElem?_drop]
theorem Rws.take {rs : List Int} (h : Rws rs) (p : Nat) : Rws (rs.take p) := ⟨by have := h.1; rw [List.length_take]; omega, fun x hx => h.2 x (List.mem_of_mem_take hx)⟩
theorem Rws.drop {rs : List Int} (h : Rws rs) (p : Nat) : Rws (rs.drop p) := ⟨by have := h.1; rw [List.length_drop]; omega, fun x hx => h.2 x (List.mem_of_mem_drop hx)⟩
/-- the charges of both parts are those of the whole, exactly if the place is a rest -/
theorem chg_cut {a b : Int} {rs : List Int} (ha : Bd 10 a) (hb : Bd 10 b) (a0 : 0 < a) (b0 : 0 < b) (hr : Rws rs) {p : Nat} (hp : p ≤ rs.length) :
    chgs a b (rs.take p) ++ chgs a b (rs.drop p) = chgs a b rs ↔ p ∈ 0 :: rsF (ws a b rs.length one) (ws a b rs.length (rdl rs)) rs.length rs.length 0 := by
  have UP : ∀ n m, Up (ws a b n one) m := fun n m i j hij _ => ws_one_up a0 b0 _ i j hij
  have rc := rests_ch (S := ws a b rs.length (rdl rs)) (UP rs.length rs.length)
  have l1 : (rs.take p).length = p := by rw [List.length_take]; omega
  have l2 : (rs.drop p).length = rs.length - p := List.length_drop
  have rc1 := rests_ch (S := ws a b p (rdl (rs.take p))) (UP p p)
  have rc2 := rests_ch (S := ws a b (rs.length - p) (rdl (rs.drop p))) (UP (rs.length - p) (rs.length - p))
  have bp : 0 < b ^ (rs.length - p) := Int.pow_pos b0
  have ap : 0 < a ^ p := Int.pow_pos a0
  have e1 : ∀ k, k ≤ p → ws a b rs.length one k = b ^ (rs.length - p) * ws a b p one k := fun k hk => ws_pre a b hp hk fun _ _ => rfl
  have e2 : ∀ k, k ≤ p → ws a b rs.length (rdl rs) k = b ^ (rs.length - p) * ws a b p (rdl (rs.take p)) k := fun k hk => ws_pre a b hp hk fun t ht => rdl_take ht
  have e3 : ∀ k, ws a b rs.length one (p + k) = ws a b rs.length one p + a ^ p * ws a b (rs.length - p) one k := fun k => ws_cut a b hp (fun _ => rfl) k
  have e4 : ∀ k, ws a b rs.length (rdl rs) (p + k) = ws a b rs.length (rdl rs) p + a ^ p * ws a b (rs.length - p) (rdl (rs.drop p)) k := fun k => ws_cut a b hp (fun t => rdl_drop rs p t) k
  constructor
  · intro h
    obtain ⟨q1, q2, q3, q4⟩ := chg_facts ha hb a0 b0 hr rc
    have rc1' := rc1
    rw [← l1] at rc1'
    have rc1'' : Rch (D := ws a b (rs.take p).length one) (S := ws a b (rs.take p).length (rdl (rs.take p))) (rs.take p).length 0 (rsF (ws a b (rs.take p).length one) (ws a b (rs.take p).length (rdl (rs.take p))) (rs.take p).length (rs.take p).length 0) := rests_ch (UP _ _)
    obtain ⟨t1, t2, t3, t4⟩ := chg_facts ha hb a0 b0 (hr.take p) rc1''
    have st1 : ∀ n, ∀ k, k < n → ws a b n one (k + 1) = ws a b n one k + wt a b n k := fun n k _ => ws_one_step _ _ _ k
    have st2 : ∀ n (r : Nat → Int), ∀ k, k < n → ws a b n r (k + 1) = ws a b n r k + wt a b n k * r k := fun n r k _ => ws_step _ _ _ _ k
    have z1 := tb_zero (w := wt a b (rs.take p).length) (r := rdl (rs.take p)) (UP _ _) (st1 _) (st2 _ _) t1 rc1'' rfl t4 (rs.take p).length (Nat.zero_le _) (Nat.le_refl _)
    have z := tb_zero (w := wt a b rs.length) (r := rdl rs) (UP _ _) (st1 _) (st2 _ _) q1 rc rfl q4 p (Nat.zero_le _) hp
    refine z.mp ?_
    have y1 := z1.mpr (List.mem_of_getElem? rc1''.last)
    have same : ∀ t, t < p → rdc (chgs a b rs) t = rdc (chgs a b (rs.take p)) t := fun t ht => by
      have ln : (chgs a b (rs.take p)).length = p := by
        have := rc1''.chg_len
        rw [l1] at this
        unfold chgs
        rw [l1, this]
        omega
      unfold rdc
      rw [← h, List.getD_eq_getElem?_getD, List.getD_eq_getElem?_getD, List.getElem?_append_left (by omega)]
    have sc := (tb_scale (w := wt a b rs.length) (r := rdl rs) (r' := rdl (rs.take p)) (c := rdc (chgs a b rs)) (c' := rdc (chgs a b (rs.take p))) (b ^ (rs.length - p)) (k := p) (w' := wt a b p) fun t ht => ⟨wt_pre a b hp ht, rdl_take ht, same t ht⟩).1
    have y2 : (tbF (wt a b p) (rdl (rs.take p)) (rdc (chgs a b (rs.take p))) p).1 = 0 := by
      have := y1
      rw [l1] at this
      unfold chgs
      rw [l1]
      exact this
    rw [y2, Int.mul_zero] at sc
    exact sc
  · intro m
    obtain ⟨x1, x2, c1, c2, c3⟩ := rc.split (D' := ws a b p one) (S' := ws a b p (rdl (rs.take p))) (fun x y q hy => NR.aff (D := ws a b rs.length one) (S := ws a b rs.length (rdl rs)) (n := rs.length) (o := 0) bp (by omega) hy
      (fun i j hi hj => by rw [Nat.zero_add, Nat.zero_add, e1 i hi, e1 j hj, Int.mul_sub]) (fun i j hi hj => by rw [Nat.zero_add, Nat.zero_add, e2 i hi, e2 j hj, Int.mul_sub]) (by rwa [Nat.zero_add, Nat.zero_add])) m
    have d1 : chgs a b (rs.take p) = chgOf (strL (ws a b rs.length one) (ws a b rs.length (rdl rs)) 0 x1) := by
      unfold chgs
      rw [l1, rc1.uniq c2]
      refine congrArg chgOf (strL_congr c2 fun x y q => ?_)
      have u := UP p p x y q.lt q.le
      have hx := Nat.le_trans (Nat.le_of_lt q.lt) q.le
      have d0 : ws a b p one y - ws a b p one x ≠ 0 := by omega
      rw [e1 y q.le, e1 x hx, e2 y q.le, e2 x hx, ← Int.mul_sub, ← Int.mul_sub]
      exact mkR_eq d0 (Int.mul_ne_zero (by omega) d0) (by ac_rfl)
    obtain ⟨g1, g2⟩ := Rch.shift (p := p) (D' := ws a b (rs.length - p) one) (S' := ws a b (rs.length - p) (rdl (rs.drop p))) (fun x y hx q => by
      have lt := q.lt
      have le := q.le
      have fx : x = p + (x - p) := by omega
      have fy : y = p + (y - p) := by omega
      have n1 : NR (ws a b (rs.length - p) one) (ws a b (rs.length - p) (rdl (rs.drop p))) (rs.length - p) (x - p) (y - p) := NR.aff (D := ws a b rs.length one) (S := ws a b rs.length (rdl rs)) (o := p) (n := rs.length) ap (by omega) (by omega)
        (fun i j _ _ => by rw [e3 i, e3 j, Int.mul_sub]; omega) (fun i j _ _ => by rw [e4 i, e4 j, Int.mul_sub]; omega) (by rw [← fx, ← fy]; exact q)
      refine ⟨n1, ?_⟩
      have u := UP (rs.length - p) (rs.length - p) _ _ n1.lt n1.le
      have d0 : ws a b (rs.length - p) one (y - p) - ws a b (rs.length - p) one (x - p) ≠ 0 := by omega
      have h1 : ws a b rs.length one y - ws a b rs.length one x = a ^ p * (ws a b (rs.length - p) one (y - p) - ws a b (rs.length - p) one (x - p)) := by
        rw [fx, fy, e3, e3, Int.mul_sub, Nat.add_sub_cancel_left, Nat.add_sub_cancel_left]
        omega
      have h2 : ws a b rs.length (rdl rs) y - ws a b rs.length (rdl rs) x = a ^ p * (ws a b (rs.length - p) (rdl (rs.drop p)) (y - p) - ws a b (rs.length - p) (rdl (rs.drop p)) (x - p)) := by
        rw [fx, fy, e4, e4, Int.mul_sub, Nat.add_sub_cancel_left, Nat.add_sub_cancel_left]
        omega
      rw [h1, h2]
      exact mkR_eq (Int.mul_ne_zero (by omega) d0) d0 (by ac_rfl)) c1 (Nat.le_refl p)
    have d2 : chgs a b (rs.drop p) = chgOf (strL (ws a b rs.length one) (ws a b rs.length (rdl rs)) p x2) := by
      rw [g2]
      unfold chgs
      rw [Nat.sub_self] at g1 ⊢
      rw [l2, rc2.uniq g1]
    rw [d1, d2]
    unfold chgs
    exact c3.symm
end Tm
namespace Tm
open PySem L2 Tp
theorem cut_take {α : Type} (as : List α) {p : Int} (h : 0 ≤ p) : Tp.cutA as none (some p) = as.take p.toNat := by
  obtain ⟨k, rfl⟩ : ∃ k : Nat, p = (k : Int) := ⟨p.toNat, by omega⟩
  unfold Tp.cutA
  rw [HT.sIx_nat, HT.sIx_none, Int.toNat_natCast, List.drop_zero, Nat.sub_zero]
  rw [← List.take_take, List.take_length]
theorem cut_drop {α : Type} (as : List α) {p : Int} (h : 0 ≤ p) : Tp.cutA as (some p) none = as.drop p.toNat := by
  obtain ⟨k, rfl⟩ : ∃ k : Nat, p = (k : Int) := ⟨p.toNat, by omega⟩
  unfold Tp.cutA
  rw [HT.sIx_nat, HT.sIx_none, Int.toNat_natCast]
  by_cases q : k ≤ as.length
  · rw [Nat.min_eq_left q]
    exact List.take_of_length_le (by rw [List.length_drop]; omega)
  · rw [Nat.min_eq_right (by omega), Nat.sub_self, List.take_zero, List.drop_of_length_le (by omega)]
/-- the places of the law -/
def placesF (row : List Int) (n : Int) (ms : List Int) : List Int :=
  if n < 8 then (List.range (n + 1).toNat).map (fun i : Nat => (i : Int)) else (List.range 3).map (fun k => rdl row k % (n + 1)) ++ [rdl ms (rdl row 3 % (ms.length : Int)).toNat]
theorem placesF_ok {row : List Int} {n : Int} {ms : List Int} (h : 0 ≤ n) (hm : 0 < ms.length) (hb : ∀ x ∈ ms, 0 ≤ x ∧ x ≤ n) : ∀ x ∈ placesF row n ms, 0 ≤ x ∧ x ≤ n := by
  intro x hx
  unfold placesF at hx
  split at hx
  · obtain ⟨i, hi, rfl⟩ := List.mem_map.mp hx
    have := List.mem_range.mp hi
    omega
  · rcases List.mem_append.mp hx with hx | hx
    · obtain ⟨i, _, rfl⟩ := List.mem_map.mp hx
      have a := Int.emod_nonneg (rdl row i) (show n + 1 ≠ 0 by omega)
      have b := Int.emod_lt_of_pos (rdl row i) (show 0 < n + 1 by omega)
      omega
    · have e := List.mem_singleton.mp hx
      subst e
      have a := Int.emod_nonneg (rdl row 3) (show (ms.length : Int) ≠ 0 by omega)
      have b := Int.emod_lt_of_pos (rdl row 3) (show 0 < (ms.length : Int) by omega)
      exact hb _ (rdl_mem (by omega))
theorem rests_mem {D S : Nat → Int} {n : Nat} (up : Up D n) : ∀ x ∈ (restsF D S n).map (fun k : Nat => (k : Int)), 0 ≤ x ∧ x ≤ (n : Int) := by
  intro x hx
  obtain ⟨k, hk, rfl⟩ := List.mem_map.mp hx
  have := (rests_ch (S := S) up).mem k hk
  omega
theorem rests_in {D S : Nat → Int} {n : Nat} {p : Int} (h : 0 ≤ p) : p ∈ (restsF D S n).map (fun k : Nat => (k : Int)) ↔ p.toNat ∈ 0 :: rsF D S n n 0 := by
  constructor
  · intro hx
    obtain ⟨k, hk, rfl⟩ := List.mem_map.mp hx
    rw [Int.toNat_natCast]
    exact hk
  · exact fun hx => List.mem_map.mpr ⟨_, hx, by omega⟩
end Tm

namespace Tm
open PySem L2 Tp
/-! ### worths earned on days: waits never help -/
/-- the sum of worths on days, from the last: the waits are w -/
def onF (a b : Int) (c : Nat → Int × Int) (w : Nat → Nat) (m : Nat) : Nat → Int × Int
  | 0 => (0, 1)
  | k + 1 => (((c (m - 1 - k)).1 * (onF a b c w m k).2 + (onF a b c w m k).1 * (c (m - 1 - k)).2) * a ^ w (m - 1 - k), (onF a b c w m k).2 * (c (m - 1 - k)).2 * b ^ w (m - 1 - k))
section
variable {a b : Int} {w : Nat → Nat} {m : Nat} {r : Nat → Int} {c : Nat → Int × Int}
theorem on_pos (b0 : 0 < b) (hq : ∀ k, 0 < (c k).2) : ∀ k, 0 < (onF a b c w m k).2
  | 0 => by show (0 : Int) < 1; decide
  | k + 1 => Int.mul_pos (Int.mul_pos (on_pos b0 hq k) (hq _)) (Int.pow_pos b0)
/-- the lead of the charges over the rewards, with the sum before -/
def leadF (a b : Int) (r : Nat → Int) (c : Nat → Int × Int) (w : Nat → Nat) (m k : Nat) : Int :=
  (onF a b c w m k).1 * (onF a b (fun t => (r t, 1)) w m k).2 - (onF a b (fun t => (r t, 1)) w m k).1 * (onF a b c w m k).2
theorem lead_step (k : Nat) : leadF a b r c w m (k + 1) = a ^ w (m - 1 - k) * b ^ w (m - 1 - k) * (((c (m - 1 - k)).1 - r (m - 1 - k) * (c (m - 1 - k)).2) * ((onF a b (fun t => (r t, 1)) w m k).2 * (onF a b c w m k).2) + (c (m - 1 - k)).2 * leadF a b r c w m k) := by
  show ((c (m - 1 - k)).1 * (onF a b c w m k).2 + (onF a b c w m k).1 * (c (m - 1 - k)).2) * a ^ w (m - 1 - k) * ((onF a b (fun t => (r t, 1)) w m k).2 * 1 * b ^ w (m - 1 - k)) - (r (m - 1 - k) * (onF a b (fun t => (r t, 1)) w m k).2 + (onF a b (fun t => (r t, 1)) w m k).1 * 1) * a ^ w (m - 1 - k) * ((onF a b c w m k).2 * (c (m - 1 - k)).2 * b ^ w (m - 1 - k)) = _
  unfold leadF
  generalize (onF a b (fun t => (r t, 1)) w m k).1 = e1
  generalize (onF a b (fun t => (r t, 1)) w m k).2 = e2
  generalize (onF a b c w m k).1 = m1
  generalize (onF a b c w m k).2 = m2
  generalize (c (m - 1 - k)).1 = p
  generalize (c (m - 1 - k)).2 = q
  generalize r (m - 1 - k) = x
  generalize a ^ w (m - 1 - k) = A
  generalize b ^ w (m - 1 - k) = B
  grind
theorem pow_gap {a b : Int} (a0 : 0 < a) (hab : a < b) : ∀ v : Nat, 0 ≤ b ^ v - a ^ v ∧ (b ^ v - a ^ v = 0 ↔ v = 0)
  | 0 => ⟨by simp, by simp⟩
  | v + 1 => by
    obtain ⟨h, _⟩ := pow_gap a0 hab v
    have p : 0 < a ^ v := Int.pow_pos a0
    have x : 0 ≤ (b ^ v - a ^ v) * b := Int.mul_nonneg h (by omega)
    have y : 0 < a ^ v * (b - a) := Int.mul_pos p (by omega)
    have e : b ^ (v + 1) - a ^ (v + 1) = (b ^ v - a ^ v) * b + a ^ v * (b - a) := by
      rw [Int.pow_succ, Int.pow_succ]; grind
    rw [e]
    exact ⟨by omega, ⟨fun z => by omega, fun z => by omega⟩⟩
theorem wt_next {n t : Nat} (h : t + 1 < n) : wt a b n t * a = wt a b n (t + 1) * b := by
  unfold wt
  rw [show n - 1 - t = (n - 1 - (t + 1)) + 1 by omega, Int.pow_succ, Int.pow_succ]
  ac_rfl
theorem on_g {n : Nat} (a0 : 0 < a) (hab : a < b) (hq : ∀ k, 0 < (c k).2) (hm : m ≤ n) (hw : ∀ t, 1 ≤ t → t < m → 1 ≤ w t) (hT : ∀ t, t ≤ m → 0 ≤ (tbF (wt a b n) r c t).1) :
    ∀ k, k + 1 ≤ m → 0 ≤ wt a b n (m - k - 1) * leadF a b r c w m k * (tbF (wt a b n) r c (m - k)).2 + (tbF (wt a b n) r c (m - k)).1 * ((onF a b (fun t => (r t, 1)) w m k).2 * (onF a b c w m k).2) ∧
      (wt a b n (m - k - 1) * leadF a b r c w m k * (tbF (wt a b n) r c (m - k)).2 + (tbF (wt a b n) r c (m - k)).1 * ((onF a b (fun t => (r t, 1)) w m k).2 * (onF a b c w m k).2) = 0 ↔
        (tbF (wt a b n) r c m).1 = 0 ∧ ∀ t, m - k ≤ t → t < m → (tbF (wt a b n) r c t).1 = 0 ∨ w t = 1)
  | 0, _ => by
    have e : wt a b n (m - 0 - 1) * leadF a b r c w m 0 * (tbF (wt a b n) r c (m - 0)).2 + (tbF (wt a b n) r c (m - 0)).1 * ((onF a b (fun t => (r t, 1)) w m 0).2 * (onF a b c w m 0).2) = (tbF (wt a b n) r c m).1 := by
      show wt a b n (m - 0 - 1) * (0 * 1 - 0 * 1) * _ + _ * (1 * 1) = _
      rw [Nat.sub_zero]
      grind
    rw [e]
    exact ⟨hT m (Nat.le_refl m), ⟨fun z => ⟨z, fun t h1 h2 => by omega⟩, fun z => z.1⟩⟩
  | k + 1, hk => by
    obtain ⟨i1, i2⟩ := on_g a0 hab hq hm hw hT k (by omega)
    obtain ⟨s, hs⟩ : ∃ s, m - (k + 1) = s := ⟨_, rfl⟩
    have hs1 : 1 ≤ s := by omega
    have e0 : m - k = s + 1 := by omega
    have e1 : m - 1 - k = s := by omega
    have w1 := hw s hs1 (by omega)
    obtain ⟨v, hv⟩ : ∃ v, w s = v + 1 := ⟨w s - 1, by omega⟩
    rw [e0, Nat.add_sub_cancel] at i1 i2
    rw [hs, lead_step, e1, hv]
    have b0 : 0 < b := by omega
    have q0 := hq s
    have EM : 0 < (onF a b (fun t => (r t, 1)) w m k).2 * (onF a b c w m k).2 := Int.mul_pos (on_pos b0 (fun _ => by show (0 : Int) < 1; decide) k) (on_pos b0 hq k)
    have t1 : (tbF (wt a b n) r c (s + 1)).1 = (tbF (wt a b n) r c s).1 * (c s).2 + wt a b n s * ((c s).1 - r s * (c s).2) * (tbF (wt a b n) r c s).2 := rfl
    have t2 : (tbF (wt a b n) r c (s + 1)).2 = (tbF (wt a b n) r c s).2 * (c s).2 := rfl
    have wn : wt a b n (s - 1) * a = wt a b n s * b := by
      have := wt_next (a := a) (b := b) (n := n) (t := s - 1) (by omega)
      rwa [show s - 1 + 1 = s by omega] at this
    have en : (onF a b (fun t => (r t, 1)) w m (k + 1)).2 = (onF a b (fun t => (r t, 1)) w m k).2 * (b * b ^ v) := by
      show (onF a b (fun t => (r t, 1)) w m k).2 * 1 * b ^ w (m - 1 - k) = _
      rw [e1, hv, Int.pow_succ, Int.mul_one, Int.mul_comm (b ^ v)]
    have mn : (onF a b c w m (k + 1)).2 = (onF a b c w m k).2 * (c s).2 * (b * b ^ v) := by
      show (onF a b c w m k).2 * (c (m - 1 - k)).2 * b ^ w (m - 1 - k) = _
      rw [e1, hv, Int.pow_succ, Int.mul_comm (b ^ v)]
    rw [en, mn, Int.pow_succ, Int.pow_succ]
    have Ts := hT s (by omega)
    obtain ⟨g0, gz⟩ := pow_gap a0 hab v
    have av : 0 < a ^ v := Int.pow_pos a0
    have bv : 0 < b ^ v := Int.pow_pos b0
    rw [t1, t2] at i1 i2
    generalize (onF a b (fun t => (r t, 1)) w m k).2 = E at *
    generalize (onF a b c w m k).2 = M at *
    generalize leadF a b r c w m k = D at *
    generalize hTs : (tbF (wt a b n) r c s).1 = T at *
    generalize (tbF (wt a b n) r c s).2 = β at *
    generalize wt a b n (s - 1) = W' at *
    generalize wt a b n s = W at *
    generalize c s = cs at *
    generalize r s = x at *
    generalize hG : W * D * (β * cs.2) + (T * cs.2 + W * (cs.1 - x * cs.2) * β) * (E * M) = G at i1 i2
    have key : W' * (a ^ v * a * (b ^ v * b) * ((cs.1 - x * cs.2) * (E * M) + cs.2 * D)) * β + T * (E * (b * b ^ v) * (M * cs.2 * (b * b ^ v))) = b * b ^ v * b * (a ^ v * G + (b ^ v - a ^ v) * (T * (cs.2 * (E * M)))) := by
      rw [← hG]
      grind
    rw [key]
    have x1 : 0 ≤ a ^ v * G := Int.mul_nonneg (Int.le_of_lt av) i1
    have x2 : 0 ≤ (b ^ v - a ^ v) * (T * (cs.2 * (E * M))) := Int.mul_nonneg g0 (Int.mul_nonneg Ts (Int.le_of_lt (Int.mul_pos q0 EM)))
    have bb : 0 < b * b ^ v * b := Int.mul_pos (Int.mul_pos b0 bv) b0
    refine ⟨Int.mul_nonneg (Int.le_of_lt bb) (by omega), ?_⟩
    have y1 : a ^ v * G = 0 ↔ G = 0 := ⟨fun z => (Int.mul_eq_zero.mp z).resolve_left (by omega), fun z => by rw [z, Int.mul_zero]⟩
    have qe := Int.mul_pos q0 EM
    have y2 : (b ^ v - a ^ v) * (T * (cs.2 * (E * M))) = 0 ↔ (T = 0 ∨ v = 0) := by
      constructor
      · intro z
        rcases Int.mul_eq_zero.mp z with z | z
        · exact .inr (gz.mp z)
        · exact .inl ((Int.mul_eq_zero.mp z).resolve_right (by omega))
      · rintro (z | z)
        · rw [z, Int.zero_mul, Int.mul_zero]
        · rw [gz.mpr z, Int.zero_mul]
    have y3 : b * b ^ v * b * (a ^ v * G + (b ^ v - a ^ v) * (T * (cs.2 * (E * M)))) = 0 ↔ (G = 0 ∧ (T = 0 ∨ v = 0)) := by
      rw [← y1, ← y2]
      constructor
      · intro z
        have := (Int.mul_eq_zero.mp z).resolve_left (by omega)
        omega
      · rintro ⟨z1, z2⟩
        rw [z1, z2, Int.add_zero, Int.mul_zero]
    rw [y3, i2]
    constructor
    · rintro ⟨⟨z1, z2⟩, z3⟩
      refine ⟨z1, fun t h1 h2 => ?_⟩
      by_cases zt : t = s
      · subst zt
        rcases z3 with z3 | z3
        · exact .inl (hTs.trans z3)
        · exact .inr (by omega)
      · exact z2 t (by omega) h2
    · rintro ⟨z1, z2⟩
      refine ⟨⟨z1, fun t h1 h2 => z2 t (by omega) h2⟩, ?_⟩
      rcases z2 s (Nat.le_refl s) (by omega) with z | z
      · exact .inl (hTs.symm.trans z)
      · exact .inr (by omega)
/-- the whole: never behind, and level exactly if every wait stands at a rest -/
theorem on_all {n : Nat} (a0 : 0 < a) (hab : a < b) (hq : ∀ k, 0 < (c k).2) (hm : m ≤ n) (hw : ∀ t, 1 ≤ t → t < m → 1 ≤ w t) (hT : ∀ t, t ≤ m → 0 ≤ (tbF (wt a b n) r c t).1) (m1 : 1 ≤ m) :
    0 ≤ leadF a b r c w m m ∧ (leadF a b r c w m m = 0 ↔ (tbF (wt a b n) r c m).1 = 0 ∧ ∀ t, 1 ≤ t → t < m → (tbF (wt a b n) r c t).1 = 0 ∨ w t = 1) := by
  obtain ⟨k, rfl⟩ : ∃ k, m = k + 1 := ⟨m - 1, by omega⟩
  obtain ⟨i1, i2⟩ := on_g a0 hab hq hm hw hT k (Nat.le_refl _)
  have e0 : k + 1 - k = 1 := by omega
  have b0 : 0 < b := by omega
  rw [e0] at i1 i2
  have t1 : (tbF (wt a b n) r c 1).1 = wt a b n 0 * ((c 0).1 - r 0 * (c 0).2) := by
    show (0 : Int) * (c 0).2 + wt a b n 0 * ((c 0).1 - r 0 * (c 0).2) * 1 = _
    rw [Int.zero_mul, Int.zero_add, Int.mul_one]
  have t2 : (tbF (wt a b n) r c 1).2 = (c 0).2 := by
    show (1 : Int) * (c 0).2 = _
    rw [Int.one_mul]
  have st := lead_step (a := a) (b := b) (r := r) (c := c) (w := w) (m := k + 1) k
  rw [show k + 1 - 1 - k = 0 by omega] at st
  have W0 := wt_pos a0 b0 n 0
  rw [t1, t2] at i1 i2
  have e : wt a b n (1 - 1) * leadF a b r c w (k + 1) k * (c 0).2 + wt a b n 0 * ((c 0).1 - r 0 * (c 0).2) * ((onF a b (fun t => (r t, 1)) w (k + 1) k).2 * (onF a b c w (k + 1) k).2) = wt a b n 0 * (((c 0).1 - r 0 * (c 0).2) * ((onF a b (fun t => (r t, 1)) w (k + 1) k).2 * (onF a b c w (k + 1) k).2) + (c 0).2 * leadF a b r c w (k + 1) k) := by
    rw [Nat.sub_self]
    grind
  rw [e] at i1 i2
  have AB : 0 < a ^ w 0 * b ^ w 0 := Int.mul_pos (Int.pow_pos a0) (Int.pow_pos b0)
  rw [st]
  generalize ((c 0).1 - r 0 * (c 0).2) * ((onF a b (fun t => (r t, 1)) w (k + 1) k).2 * (onF a b c w (k + 1) k).2) + (c 0).2 * leadF a b r c w (k + 1) k = Z at i1 i2 ⊢
  have zn : 0 ≤ Z := Int.nonneg_of_mul_nonneg_right i1 W0
  refine ⟨Int.mul_nonneg (Int.le_of_lt AB) zn, ?_⟩
  rw [← i2]
  constructor
  · intro z
    rw [(Int.mul_eq_zero.mp z).resolve_left (by omega), Int.mul_zero]
  · intro z
    rw [(Int.mul_eq_zero.mp z).resolve_left (by omega), Int.mul_zero]
end
end Tm
namespace Tm
open PySem L2 Tp
/-! ### the days of the law -/
def gap1 (x : Int) : List Int := [x / 4 % 60, 0, 0, 0]
def gapF (x kind : Int) : Int := if kind = 0 then (if x % 6 - 3 > 0 then x % 6 - 3 else 0) else if kind = 1 then rdl (gap1 x) (x % 4).toNat else x % 200
theorem gap1_at (x : Int) : atI (gap1 x) (x % 4) = some (rdl (gap1 x) (x % 4).toNat) := by
  have a := Int.emod_nonneg x (show (4 : Int) ≠ 0 by decide)
  have b := Int.emod_lt_of_pos x (show (0 : Int) < 4 by decide)
  have e := rdl_at (rs := gap1 x) (i := (x % 4).toNat) (by show _ < 4; omega)
  rwa [Int.toNat_of_nonneg a] at e
theorem gapF_ok (x kind : Int) : 0 ≤ gapF x kind := by
  unfold gapF
  split
  · split <;> omega
  · split
    · have a := Int.emod_nonneg x (show (4 : Int) ≠ 0 by decide)
      have b := Int.emod_lt_of_pos x (show (0 : Int) < 4 by decide)
      have h := rdl_mem (rs := gap1 x) (i := (x % 4).toNat) (by show _ < 4; omega)
      have c := Int.emod_nonneg (x / 4) (show (60 : Int) ≠ 0 by decide)
      generalize rdl (gap1 x) (x % 4).toNat = y at h ⊢
      unfold gap1 at h
      simp at h
      omega
    · exact Int.emod_nonneg x (by decide)
def gpF (row ms : List Int) (k : Nat) (sp : Int) : Int :=
  if (decide (rdl row 5 % 2 = 1) && !decide ((k : Int) ∈ ms)) = true then 0 else if gapF (rdl row (6 + k)) (rdl row 4 % 3) < sp then gapF (rdl row (6 + k)) (rdl row 4 % 3) else sp
theorem gpF_ok (row ms : List Int) (k : Nat) {sp : Int} (h : 0 ≤ sp) : 0 ≤ gpF row ms k sp ∧ gpF row ms k sp ≤ sp := by
  have g := gapF_ok (rdl row (6 + k)) (rdl row 4 % 3)
  unfold gpF
  split
  · omega
  · split <;> omega
def day0 (row : List Int) (n : Int) : Int := rdl row 3 % rdl [5, 201 - n] (rdl row 2 % 2).toNat
def dayF (row ms : List Int) (n : Int) : Nat → Int × Int
  | 0 => (day0 row n, 200 - n - day0 row n)
  | 0 + 1 => (day0 row n, 200 - n - day0 row n)
  | k + 1 + 1 => ((dayF row ms n (k + 1)).1 + 1 + gpF row ms (k + 1) (dayF row ms n (k + 1)).2, (dayF row ms n (k + 1)).2 - gpF row ms (k + 1) (dayF row ms n (k + 1)).2)
theorem day_menu (row : List Int) {n : Int} (h0 : 0 ≤ n) (h1 : n ≤ 60) : atI [5, 201 - n] (rdl row 2 % 2) = some (rdl [5, 201 - n] (rdl row 2 % 2).toNat) ∧ 0 < rdl [5, 201 - n] (rdl row 2 % 2).toNat ∧ rdl [5, 201 - n] (rdl row 2 % 2).toNat ≤ 201 - n := by
  have a := Int.emod_nonneg (rdl row 2) (show (2 : Int) ≠ 0 by decide)
  have b := Int.emod_lt_of_pos (rdl row 2) (show (0 : Int) < 2 by decide)
  have e := rdl_at (rs := [5, 201 - n]) (i := (rdl row 2 % 2).toNat) (by show _ < 2; omega)
  rw [Int.toNat_of_nonneg a] at e
  refine ⟨e, ?_⟩
  have h := rdl_mem (rs := [5, 201 - n]) (i := (rdl row 2 % 2).toNat) (by show _ < 2; omega)
  generalize rdl [5, 201 - n] (rdl row 2 % 2).toNat = y at h ⊢
  simp at h
  omega
theorem dayF_ok (row ms : List Int) {n : Int} (h0 : 0 ≤ n) (h1 : n ≤ 60) : ∀ k, 0 ≤ (dayF row ms n (k + 1)).1 ∧ 0 ≤ (dayF row ms n (k + 1)).2 ∧ (dayF row ms n (k + 1)).1 + (dayF row ms n (k + 1)).2 = 200 - n + k
  | 0 => by
    obtain ⟨_, p, q⟩ := day_menu row h0 h1
    have a := Int.emod_nonneg (rdl row 3) (show rdl [5, 201 - n] (rdl row 2 % 2).toNat ≠ 0 by omega)
    have b := Int.emod_lt_of_pos (rdl row 3) p
    show 0 ≤ day0 row n ∧ 0 ≤ 200 - n - day0 row n ∧ day0 row n + (200 - n - day0 row n) = 200 - n + ((0 : Nat) : Int)
    unfold day0
    omega
  | k + 1 => by
    obtain ⟨a, b, c⟩ := dayF_ok row ms h0 h1 k
    obtain ⟨g0, g1⟩ := gpF_ok row ms (k + 1) b
    show 0 ≤ (dayF row ms n (k + 1)).1 + 1 + gpF row ms (k + 1) (dayF row ms n (k + 1)).2 ∧ 0 ≤ (dayF row ms n (k + 1)).2 - gpF row ms (k + 1) (dayF row ms n (k + 1)).2 ∧ (dayF row ms n (k + 1)).1 + 1 + gpF row ms (k + 1) (dayF row ms n (k + 1)).2 + ((dayF row ms n (k + 1)).2 - gpF row ms (k + 1) (dayF row ms n (k + 1)).2) = _
    omega
def daysF (row ms : List Int) (n : Int) : List Int := (List.range n.toNat).map fun j => (dayF row ms n (j + 1)).1
theorem daysF_len (row ms : List Int) (n : Int) : (daysF row ms n).length = n.toNat := by unfold daysF; rw [List.length_map, List.length_range]
theorem daysF_rdl {row ms : List Int} {n : Int} {j : Nat} (h : j < n.toNat) : rdl (daysF row ms n) j = (dayF row ms n (j + 1)).1 := by
  unfold rdl daysF
  rw [List.getD_eq_getElem?_getD, List.getElem?_map, List.getElem?_range h]
  rfl
/-- the wait before each step -/
def wI (ds : List Int) (t : Nat) : Int := if 0 < t then rdl ds t - rdl ds (t - 1) else rdl ds 0
theorem daysF_wait (row ms : List Int) {n : Int} (h0 : 0 ≤ n) (h1 : n ≤ 60) (t : Nat) (h : t < (daysF row ms n).length) : 0 ≤ wI (daysF row ms n) t ∧ wI (daysF row ms n) t ≤ 200 ∧ (1 ≤ t → 1 ≤ wI (daysF row ms n) t) := by
  rw [daysF_len] at h
  unfold wI
  split
  next c =>
    obtain ⟨s, rfl⟩ : ∃ s, t = s + 1 := ⟨t - 1, by omega⟩
    rw [Nat.add_sub_cancel, daysF_rdl h, daysF_rdl (j := s) (by omega)]
    obtain ⟨a1, a2, a3⟩ := dayF_ok row ms h0 h1 s
    obtain ⟨b1, b2, b3⟩ := dayF_ok row ms h0 h1 (s + 1)
    obtain ⟨g0, g1⟩ := gpF_ok row ms (s + 1) a2
    have e : (dayF row ms n (s + 1 + 1)).1 = (dayF row ms n (s + 1)).1 + 1 + gpF row ms (s + 1) (dayF row ms n (s + 1)).2 := rfl
    omega
  next c =>
    rw [daysF_rdl (j := 0) (by omega)]
    obtain ⟨a1, a2, a3⟩ := dayF_ok row ms h0 h1 0
    omega
theorem on_bd {a b : Int} {c : Nat → Int × Int} {w : Nat → Nat} {m : Nat} (ha : Bd 10 a) (hb : Bd 10 b) (hc : ∀ t, Bd 700 (c t).1 ∧ Bd 700 (c t).2) (hw : ∀ t, t < m → w t ≤ 200) : ∀ k, k ≤ m → Bd (1 + 2800 * k) (onF a b c w m k).1 ∧ Bd (1 + 2800 * k) (onF a b c w m k).2
  | 0, _ => ⟨Bd.zero, Bd.one (by decide)⟩
  | k + 1, h => by
    obtain ⟨h1, h2⟩ := on_bd ha hb hc hw k (by omega)
    obtain ⟨c1, c2⟩ := hc (m - 1 - k)
    have w1 := hw (m - 1 - k) (by omega)
    have A : Bd 2001 (a ^ w (m - 1 - k)) := (ha.pow _).le (by omega)
    have B : Bd 2001 (b ^ w (m - 1 - k)) := (hb.pow _).le (by omega)
    exact ⟨(((((c1.mul h2).le (show _ ≤ 701 + 2800 * k by omega)).add ((h1.mul c2).le (show _ ≤ 701 + 2800 * k by omega))).mul A)).le (by omega), ((h2.mul c2).mul B).le (by omega)⟩
theorem on_s1 (a b : Int) (c : Nat → Int × Int) (w : Nat → Nat) (m k : Nat) : ((c (m - 1 - k)).1 * (onF a b c w m k).2 + (onF a b c w m k).1 * (c (m - 1 - k)).2) * a ^ w (m - 1 - k) = (onF a b c w m (k + 1)).1 := rfl
theorem on_s2 (a b : Int) (c : Nat → Int × Int) (w : Nat → Nat) (m k : Nat) : (onF a b c w m k).2 * (c (m - 1 - k)).2 * b ^ w (m - 1 - k) = (onF a b c w m (k + 1)).2 := rfl
/-- every step that was not taken at once stands at a rest -/
def evF (ms ds : List Int) (c : Bool) : Nat → Bool
  | 0 => c
  | i + 1 => if (decide (rdl ds (i + 1) > rdl ds i + 1) && !decide (1 + (i : Int) ∈ ms)) = true then false else evF ms ds c i
theorem evF_true (ms ds : List Int) (c : Bool) : ∀ i, evF ms ds c i = true ↔ c = true ∧ ∀ t, 1 ≤ t → t < i + 1 → ((t : Int) ∈ ms ∨ rdl ds t ≤ rdl ds (t - 1) + 1)
  | 0 => ⟨fun h => ⟨h, fun t a b => by omega⟩, fun h => h.1⟩
  | i + 1 => by
    have ih := evF_true ms ds c i
    have ec : (1 + (i : Int)) = ((i + 1 : Nat) : Int) := by omega
    unfold evF
    rw [ec]
    split
    next z =>
      simp at z
      refine ⟨fun h => (nomatch h), fun h => ?_⟩
      have := h.2 (i + 1) (by omega) (by omega)
      rw [Nat.add_sub_cancel] at this
      rcases this with q | q
      · exact absurd q (by simpa using z.2)
      · omega
    next z =>
      rw [ih]
      constructor
      · rintro ⟨h1, h2⟩
        refine ⟨h1, fun t a b => ?_⟩
        by_cases q : t = i + 1
        · subst q
          rw [Nat.add_sub_cancel]
          by_cases y : ((i + 1 : Nat) : Int) ∈ ms
          · exact .inl y
          · refine .inr (Int.not_lt.mp fun x => z ?_)
            rw [decide_eq_true x, decide_eq_false y]
            rfl
        · exact h2 t a (by omega)
      · rintro ⟨h1, h2⟩
        exact ⟨h1, fun t a b => h2 t a (by omega)⟩
theorem rdc_ones (rs : List Int) : rdc (rs.map fun r => (r, (1 : Int))) = fun t => (rdl rs t, 1) := by
  funext t
  unfold rdc rdl
  rw [List.getD_eq_getElem?_getD, List.getD_eq_getElem?_getD, List.getElem?_map]
  cases rs[t]? <;> rfl
end Tm

namespace Tm
open PySem L2 Tp
/-! ### the best stop under an offer -/
section
variable (D S : Nat → Int) (o : Int × Int)
/-- the gain of the first k steps -/
def gnF (k : Nat) : Int := S k * o.2 - o.1 * D k
/-- the greatest so far, and its least place -/
def bsF : Nat → Int × Nat
  | 0 => (0, 0)
  | k + 1 => if (bsF k).1 < gnF D S o (k + 1) then (gnF D S o (k + 1), k + 1) else bsF k
end
section
variable {D S : Nat → Int} {o : Int × Int}
theorem bs_ok (d0 : D 0 = 0) (s0 : S 0 = 0) : ∀ n, (bsF D S o n).2 ≤ n ∧ gnF D S o (bsF D S o n).2 = (bsF D S o n).1 ∧ (∀ k, k ≤ n → gnF D S o k ≤ (bsF D S o n).1) ∧ ∀ k, k < (bsF D S o n).2 → gnF D S o k < (bsF D S o n).1
  | 0 => by
    have e : gnF D S o 0 = 0 := by unfold gnF; rw [d0, s0, Int.zero_mul, Int.mul_zero, Int.sub_zero]
    refine ⟨Nat.le_refl _, e, fun k hk => ?_, fun k hk => absurd hk (Nat.not_lt_zero k)⟩
    rw [show k = 0 by omega, e]
    exact Int.le_refl _
  | n + 1 => by
    obtain ⟨h1, h2, h3, h4⟩ := bs_ok d0 s0 n
    unfold bsF
    split
    next c =>
      refine ⟨Nat.le_refl _, rfl, fun k hk => ?_, fun k hk => ?_⟩
      · by_cases e : k = n + 1
        · rw [e]; exact Int.le_refl _
        · exact Int.le_of_lt (Int.lt_of_le_of_lt (h3 k (by omega)) c)
      · exact Int.lt_of_le_of_lt (h3 k (by show k ≤ n; have : k < n + 1 := hk; omega)) c
    next c =>
      refine ⟨by omega, h2, fun k hk => ?_, h4⟩
      by_cases e : k = n + 1
      · rw [e]; omega
      · exact h3 k (by omega)
end
theorem zip_pl {a b : Int} {n : Nat} {r r' : Nat → Int} {o : Int × Int} {m k : Nat} (h : k ≤ m) : ((pl a b n r m).zip (pl a b n r' m)).map (fun c => c.2 * o.2 - o.1 * c.1) = (List.range (m + 1)).map (gnF (ws a b n r) (ws a b n r') o) := by
  refine List.ext_getElem? fun i => ?_
  rw [List.getElem?_map, List.getElem?_map]
  by_cases q : i < m + 1
  · rw [List.getElem?_range q]
    have e1 : (pl a b n r m)[i]? = some (ws a b n r i) := pl_at (by omega)
    have e2 : (pl a b n r' m)[i]? = some (ws a b n r' i) := pl_at (by omega)
    have : ((pl a b n r m).zip (pl a b n r' m))[i]? = some (ws a b n r i, ws a b n r' i) := by rw [List.getElem?_zip_eq_some]; exact ⟨e1, e2⟩
    rw [this]
    rfl
  · rw [List.getElem?_eq_none (by rw [List.length_zip, pl_len, pl_len]; omega), List.getElem?_eq_none (by rw [List.length_range]; omega)]
    rfl
/-- the drawn offers -/
def payF (f s : Int) : Int × Int := if f % 4 = 0 then (0, 1 + s % 3) else if f % 4 = 1 then (f / 4 % 7, 1) else if f % 4 = 2 then (f / 4 % 60, 1 + s % 12) else (f / 4, 1 + s)
theorem payF_ok {f s : Int} (hf : 0 ≤ f ∧ f < 10 ^ 10) (hs : 0 ≤ s ∧ s < 10 ^ 10) : 0 ≤ (payF f s).1 ∧ 1 ≤ (payF f s).2 ∧ Bd 40 (payF f s).1 ∧ Bd 40 (payF f s).2 := by
  have e : (10 : Int) ^ 10 = 10000000000 := by decide
  rw [e] at hf hs
  have E : (2 : Nat) ^ 40 = 1099511627776 := by decide
  unfold payF Bd
  rw [E]
  split
  · refine ⟨?_, ?_, ?_, ?_⟩ <;> simp only <;> omega
  · split
    · refine ⟨?_, ?_, ?_, ?_⟩ <;> simp only <;> omega
    · split
      · refine ⟨?_, ?_, ?_, ?_⟩ <;> simp only <;> omega
      · refine ⟨?_, ?_, ?_, ?_⟩ <;> simp only <;> omega
/-- the slope between two points of the list, if it is not below 0 -/
def slopeF (a b : Int) (rs row : List Int) : Int × Int :=
  let x := (rdl row 0 % (rs.length : Int)).toNat
  let y := x + (rdl row 1 % ((rs.length : Int) - (x : Int))).toNat
  if ws a b rs.length (rdl rs) (y + 1) - ws a b rs.length (rdl rs) x < 0 then (0, 1) else (ws a b rs.length (rdl rs) (y + 1) - ws a b rs.length (rdl rs) x, ws a b rs.length one (y + 1) - ws a b rs.length one x)
end Tm
namespace Tm
open PySem L2 Tp
theorem gn_step (a b : Int) (n : Nat) (r : Nat → Int) (o : Int × Int) (k : Nat) : gnF (ws a b n one) (ws a b n r) o k + wt a b n k * (r k * o.2 - o.1) = gnF (ws a b n one) (ws a b n r) o (k + 1) := by
  unfold gnF
  rw [ws_step, ws_one_step]
  generalize ws a b n one k = x
  generalize ws a b n r k = y
  generalize wt a b n k = w
  generalize r k = z
  generalize o.1 = p
  generalize o.2 = q
  grind
theorem bs_s1 {D S : Nat → Int} {o : Int × Int} {k : Nat} (h : (bsF D S o k).1 < gnF D S o (k + 1)) : bsF D S o (k + 1) = (gnF D S o (k + 1), k + 1) := by
  show (if (bsF D S o k).1 < gnF D S o (k + 1) then (gnF D S o (k + 1), k + 1) else bsF D S o k) = _
  rw [if_pos h]
theorem bs_s2 {D S : Nat → Int} {o : Int × Int} {k : Nat} (h : ¬ (bsF D S o k).1 < gnF D S o (k + 1)) : bsF D S o (k + 1) = bsF D S o k := by
  show (if (bsF D S o k).1 < gnF D S o (k + 1) then (gnF D S o (k + 1), k + 1) else bsF D S o k) = _
  rw [if_neg h]
end Tm
namespace Tm
open PySem L2 Tp
/-- an offer within the bounds -/
def Offr (o : Int × Int) : Prop := 0 ≤ o.1 ∧ 1 ≤ o.2 ∧ Bd 1400 o.1 ∧ Bd 1400 o.2
theorem slopeF_ok {a b : Int} {rs row : List Int} (ha : Bd 10 a) (hb : Bd 10 b) (a0 : 0 < a) (b0 : 0 < b) (hr : Rws rs) (h0 : 0 < rs.length) : Offr (slopeF a b rs row) := by
  have h60 := hr.1
  have W : ∀ (r : Nat → Int), (∀ i, Bd 31 (r i)) → ∀ k, k ≤ rs.length → Bd 692 (ws a b rs.length r k) := fun r hB k hk => (Bd.ws (m := 31) ha hb hk fun i _ => hB i).le (by omega)
  have o1 : ∀ i, Bd 31 (one i) := fun i => Bd.one (by decide)
  have a1 := Int.emod_nonneg (rdl row 0) (show (rs.length : Int) ≠ 0 by omega)
  have a2 := Int.emod_lt_of_pos (rdl row 0) (show 0 < (rs.length : Int) by omega)
  obtain ⟨x, hx, hxl⟩ : ∃ x : Nat, (rdl row 0 % (rs.length : Int)).toNat = x ∧ x < rs.length := ⟨_, rfl, by omega⟩
  have b1 := Int.emod_nonneg (rdl row 1) (show (rs.length : Int) - (x : Int) ≠ 0 by omega)
  have b2 := Int.emod_lt_of_pos (rdl row 1) (show 0 < (rs.length : Int) - (x : Int) by omega)
  obtain ⟨y, hy, hyl⟩ : ∃ y : Nat, (rdl row 1 % ((rs.length : Int) - (x : Int))).toNat = y ∧ x + y < rs.length := ⟨_, rfl, by omega⟩
  have es : slopeF a b rs row = if ws a b rs.length (rdl rs) (x + y + 1) - ws a b rs.length (rdl rs) x < 0 then (0, 1) else (ws a b rs.length (rdl rs) (x + y + 1) - ws a b rs.length (rdl rs) x, ws a b rs.length one (x + y + 1) - ws a b rs.length one x) := by
    unfold slopeF
    simp only [hx, hy]
  rw [es]
  split
  · exact ⟨Int.le_refl 0, Int.le_refl 1, Bd.zero, Bd.one (by decide)⟩
  next c =>
    have up := ws_one_up a0 b0 rs.length x (x + y + 1) (by omega)
    exact ⟨by show 0 ≤ ws a b rs.length (rdl rs) (x + y + 1) - ws a b rs.length (rdl rs) x; omega, by show 1 ≤ ws a b rs.length one (x + y + 1) - ws a b rs.length one x; omega, ((W _ hr.bd _ (by omega)).sub (W _ hr.bd _ (by omega))).le (by decide), ((W _ o1 _ (by omega)).sub (W _ o1 _ (by omega))).le (by decide)⟩
theorem pay_wide (c e : Int) : Offr (c % ((10 ^ (20 : Int).toNat) ^ (20 : Int).toNat - 1 + 1), 1 + e % ((10 ^ (20 : Int).toNat) ^ (20 : Int).toNat - 1)) := by
  have p : (0 : Int) < (10 ^ (20 : Int).toNat) ^ (20 : Int).toNat - 1 := by decide +kernel
  have B : Bd 1390 ((10 ^ (20 : Int).toNat) ^ (20 : Int).toNat - 1) := by decide +kernel
  generalize ((10 : Int) ^ (20 : Int).toNat) ^ (20 : Int).toNat - 1 = m at p B ⊢
  have c1 := Int.emod_nonneg c (show m + 1 ≠ 0 by omega)
  have c2 := Int.emod_lt_of_pos c (show 0 < m + 1 by omega)
  have e1 := Int.emod_nonneg e (show m ≠ 0 by omega)
  have e2 := Int.emod_lt_of_pos e p
  exact ⟨c1, by show 1 ≤ 1 + e % m; omega, (show Bd 1390 (c % (m + 1)) from B.of (by omega)).le (by decide), (show Bd 1390 (1 + e % m) from B.of (by omega)).le (by decide)⟩
end Tm

namespace Tp
open PySem PySem.Spec PyProof.Rows L2
open Evl (Ex)
/-! ### chains of comparisons of ints -/
def cLL (ta tb tc : TE) : TT := tTest (tChain (rI0 fun i j => .bl (decide (i ≤ j))) (rI0 fun i j => .bl (decide (i < j))) ta tb tc)
def cLE (ta tb tc : TE) : TT := tTest (tChain (rI0 fun i j => .bl (decide (i ≤ j))) (rI0 fun i j => .bl (decide (i ≤ j))) ta tb tc)
def tTest3 (r r' r'' : R2) (ta tb tc td : TE) : TT := fun σ H Q => ta σ H fun x H1 => tb σ H1 fun y H2 => r x y H2 fun z H3 => ∃ k, z = .bl k ∧
  (if k = true then tc σ H3 fun w' H4 => r' y w' H4 fun z' H5 => ∃ k', z' = .bl k' ∧ (if k' = true then td σ H5 fun u H6 => r'' w' u H6 fun z'' H7 => ∃ k'', z'' = .bl k'' ∧ Q k'' H7 else Q false H5) else Q false H3)
def cLLE (ta tb tc td : TE) : TT := tTest3 (rI0 fun i j => .bl (decide (i ≤ j))) (rI0 fun i j => .bl (decide (i < j))) (rI0 fun i j => .bl (decide (i ≤ j))) ta tb tc td
section
variable {X : Cx} {a b c d : Expr} {ta tb tc td : TE} {pos : Pos}
theorem q_chLL (ha : PE X a ta) (hb : PE X b tb) (hc : PE X c tc) (hm : lastMarks [.LtE, .Lt] [b, c] = false := by with_unfolding_all rfl) : PT X (.Compare a [.LtE, .Lt] [b, c] pos) (cLL ta tb tc) := pt_chain op_le op_lt ha hb hc hm
theorem q_chLE (ha : PE X a ta) (hb : PE X b tb) (hc : PE X c tc) (hm : lastMarks [.LtE, .LtE] [b, c] = false := by with_unfolding_all rfl) : PT X (.Compare a [.LtE, .LtE] [b, c] pos) (cLE ta tb tc) := pt_chain op_le op_le ha hb hc hm
theorem pt_chain3 {op op' op'' : CmpOp} {r r' r'' : R2} (ho : OpR X (compareOp op) r) (ho' : OpR X (compareOp op') r') (ho'' : OpR X (compareOp op'') r'') (ha : PE X a ta) (hb : PE X b tb) (hc : PE X c tc) (hd : PE X d td)
    (hm : lastMarks [op, op', op''] [b, c, d] = false := by with_unfolding_all rfl) : PT X (.Compare a [op, op', op''] [b, c, d] pos) (tTest3 r r' r'' ta tb tc td) := by
  refine ⟨fun pins s σ H Q I h => ?_⟩
  refine isTrue_chain (thn (ha.run pins s σ H _ I h) fun v s1 ⟨x, H1, I1, r1, q1⟩ => test_link (thn (hb.run pins s1 σ H1 _ I1 q1) fun u s2 ⟨y, H2, I2, r2, q2⟩ =>
    thn (ho pins s2 σ H2 x y v u _ I2 r1 r2 q2) fun d s3 ⟨z, H3, I3, r3, k, e, q3⟩ => ?_)) hm
  subst e
  cases r3
  refine wpAny_truthy_bool ?_
  cases k with
  | false => exact ite_ff ⟨H3, I3, q3⟩
  | true =>
    refine ite_tt (test_link (thn (hc.run pins s3 σ H3 _ I3 q3) fun w' s4 ⟨z', H4, I4, r4, q4⟩ => thn (ho' pins s4 σ H4 y z' u w' _ I4 r2 r4 q4) fun d' s5 ⟨z2, H5, I5, r5, k2, e2, q5⟩ => ?_))
    subst e2
    cases r5
    refine wpAny_truthy_bool ?_
    cases k2 with
    | false => exact ite_ff ⟨H5, I5, q5⟩
    | true =>
      refine ite_tt (test_last (thn (hd.run pins s5 σ H5 _ I5 q5) fun w6 s6 ⟨z6, H6, I6, r6, q6⟩ => thn (ho'' pins s6 σ H6 z' z6 w' w6 _ I6 r4 r6 q6) fun d7 s7 ⟨z7, H7, I7, r7, k7, e7, q7⟩ => ?_))
      subst e7
      cases r7
      exact wpAny_truthy_bool ⟨H7, I7, q7⟩
theorem q_chLLE (ha : PE X a ta) (hb : PE X b tb) (hc : PE X c tc) (hd : PE X d td) (hm : lastMarks [.LtE, .Lt, .LtE] [b, c, d] = false := by with_unfolding_all rfl) : PT X (.Compare a [.LtE, .Lt, .LtE] [b, c, d] pos) (cLLE ta tb tc td) := pt_chain3 op_le op_lt op_le ha hb hc hd hm
def xEqO (ta tb : TE) : TE := tOp rEq ta tb
def xNeO (ta tb : TE) : TE := tOp rNe ta tb
/-- is None -/
def cIsN (ta : TE) : TT := tTest (tOp (fun x y H Q => y = .non ∧ Q (.bl (decide (x = .non))) H) ta (tC .non))
def cNotN (ta : TE) : TT := tTest (tOp (fun x y H Q => y = .non ∧ Q (.bl (!decide (x = .non))) H) ta (tC .non))
theorem q_isN (ha : PE X a ta) (hb : PE X b (tC .non)) (hn : behindInMarks .Is b = false := by rfl) : PT X (.Compare a [.Is] [b] pos) (cIsN ta) := pt_cmpR op_isN ha hb hn
theorem q_notN (ha : PE X a ta) (hb : PE X b (tC .non)) (hn : behindInMarks .IsNot b = false := by rfl) : PT X (.Compare a [.IsNot] [b] pos) (cNotN ta) := pt_cmpR op_notN ha hb hn
def xIsN (ta : TE) : TE := tOp (fun x y H Q => y = .non ∧ Q (.bl (decide (x = .non))) H) ta (tC .non)
def xNotN (ta : TE) : TE := tOp (fun x y H Q => y = .non ∧ Q (.bl (!decide (x = .non))) H) ta (tC .non)
theorem p_eqO (ha : PE X a ta) (hb : PE X b tb) : PE X (.Compare a [.Eq] [b] pos) (xEqO ta tb) := pe_cmpR op_eq ha hb (nomark _)
theorem p_neO (ha : PE X a ta) (hb : PE X b tb) : PE X (.Compare a [.NotEq] [b] pos) (xNeO ta tb) := pe_cmpR op_ne ha hb (nomark _)
theorem q_eqO (ha : PE X a ta) (hb : PE X b tb) : PT X (.Compare a [.Eq] [b] pos) (cCmp (xEqO ta tb)) := pt_cmpR op_eq ha hb (nomark _)
theorem q_neO (ha : PE X a ta) (hb : PE X b tb) : PT X (.Compare a [.NotEq] [b] pos) (cCmp (xNeO ta tb)) := pt_cmpR op_ne ha hb (nomark _)
theorem p_isN (ha : PE X a ta) (hb : PE X b (tC .non)) (hn : behindInMarks .Is b = false := by rfl) : PE X (.Compare a [.Is] [b] pos) (xIsN ta) := pe_cmpR op_isN ha hb hn
theorem p_notN (ha : PE X a ta) (hb : PE X b (tC .non)) (hn : behindInMarks .IsNot b = false := by rfl) : PE X (.Compare a [.IsNot] [b] pos) (xNotN ta) := pe_cmpR op_notN ha hb hn
end
/-- no value of it is None -/
class NoN {α : Type} (A : Rp α) : Prop where
  nn : ∀ {F v a}, A.r F v a → v ≠ .non
instance : NoN rInt := ⟨fun r z => by subst z; cases r⟩
instance {K : PySem.W.Frag} {α β : Type} {A : Rp α} {B : Rp β} : NoN (rT2 K A B) := ⟨fun r z => by obtain ⟨p, x, y, e, _⟩ := r; rw [e] at z; cases z⟩
instance {K : PySem.W.Frag} {α : Type} {A : Rp α} : NoN (rLst K A) := ⟨fun r z => by obtain ⟨p, x, e, _⟩ := r; rw [e] at z; cases z⟩
section
variable {Γ : List SA} {α β γ : Type} {A : Rp α} {B : Rp β} {C : Rp γ} {a : α} {b : β} {c : γ} {ta tb tc td te : TE} {K : PySem.W.Frag} {i j k l n m : Int}
theorem eb_chLL (ha : Ev ta Γ rInt i) (hb : Ev tb Γ rInt j) (hc : decide (i ≤ j) = true → Ev tc Γ rInt k) : Eb (cLL ta tb tc) Γ (decide (i ≤ j) && decide (j < k)) := fun H0 H F σ e g Q q =>
  ha H0 H F σ e g _ fun x H1 F1 o1 r1 => hb H0 H1 F1 σ o1.i (g.mono o1) _ fun y H2 F2 o2 r2 => ⟨i, j, r1, r2, _, rfl, by
    by_cases z : i ≤ j
    · rw [if_pos (decide_eq_true z)]
      refine hc (decide_eq_true z) H0 H2 F2 σ o2.i (g.mono (o1.trans o2)) _ fun w H3 F3 o3 r3 => ⟨j, k, r2, r3, _, rfl, ?_⟩
      have h := q H3 F3 ((o1.trans o2).trans o3)
      rwa [decide_eq_true z, Bool.true_and] at h
    · rw [if_neg (by simp [z])]
      refine ⟨false, rfl, ?_⟩
      have h := q H2 F2 (o1.trans o2)
      rwa [decide_eq_false z, Bool.false_and] at h⟩
theorem eb_chLE (ha : Ev ta Γ rInt i) (hb : Ev tb Γ rInt j) (hc : decide (i ≤ j) = true → Ev tc Γ rInt k) : Eb (cLE ta tb tc) Γ (decide (i ≤ j) && decide (j ≤ k)) := fun H0 H F σ e g Q q =>
  ha H0 H F σ e g _ fun x H1 F1 o1 r1 => hb H0 H1 F1 σ o1.i (g.mono o1) _ fun y H2 F2 o2 r2 => ⟨i, j, r1, r2, _, rfl, by
    by_cases z : i ≤ j
    · rw [if_pos (decide_eq_true z)]
      refine hc (decide_eq_true z) H0 H2 F2 σ o2.i (g.mono (o1.trans o2)) _ fun w H3 F3 o3 r3 => ⟨j, k, r2, r3, _, rfl, ?_⟩
      have h := q H3 F3 ((o1.trans o2).trans o3)
      rwa [decide_eq_true z, Bool.true_and] at h
    · rw [if_neg (by simp [z])]
      refine ⟨false, rfl, ?_⟩
      have h := q H2 F2 (o1.trans o2)
      rwa [decide_eq_false z, Bool.false_and] at h⟩
theorem eb_chLLE (ha : Ev ta Γ rInt i) (hb : Ev tb Γ rInt j) (hc : Ev tc Γ rInt k) (hd : Ev td Γ rInt l) : Eb (cLLE ta tb tc td) Γ (decide (i ≤ j) && (decide (j < k) && decide (k ≤ l))) := fun H0 H F σ e g Q q =>
  ha H0 H F σ e g _ fun x H1 F1 o1 r1 => hb H0 H1 F1 σ o1.i (g.mono o1) _ fun y H2 F2 o2 r2 => ⟨i, j, r1, r2, _, rfl, by
    by_cases z : i ≤ j
    · rw [if_pos (decide_eq_true z)]
      refine hc H0 H2 F2 σ o2.i (g.mono (o1.trans o2)) _ fun w H3 F3 o3 r3 => ⟨j, k, r2, r3, _, rfl, ?_⟩
      by_cases z2 : j < k
      · rw [if_pos (decide_eq_true z2)]
        refine hd H0 H3 F3 σ o3.i (g.mono ((o1.trans o2).trans o3)) _ fun w H4 F4 o4 r4 => ⟨k, l, r3, r4, _, rfl, ?_⟩
        have h := q H4 F4 (((o1.trans o2).trans o3).trans o4)
        rwa [decide_eq_true z, decide_eq_true z2, Bool.true_and, Bool.true_and] at h
      · rw [if_neg (by simp [z2])]
        have h := q H3 F3 ((o1.trans o2).trans o3)
        rwa [decide_eq_true z, decide_eq_false z2, Bool.true_and, Bool.false_and] at h
    · rw [if_neg (by simp [z])]
      have h := q H2 F2 (o1.trans o2)
      rwa [decide_eq_false z, Bool.false_and] at h⟩
theorem opt_non [NoN A] {F : Hp} {v : V} {o : Option α} (r : (rOpt A).r F v o) : decide (v = V.non) = o.isNone := by
  cases o with
  | none => rw [show v = .non from r]; simp
  | some a => simp [NoN.nn (A := A) r]
theorem e_isN [NoN A] {o : Option α} (ha : Ev ta Γ (rOpt A) o) : Ev (xIsN ta) Γ rBl o.isNone := fun H0 H F σ e g Q q =>
  ha H0 H F σ e g _ fun v H1 F1 o1 r => ⟨rfl, by rw [opt_non r]; exact q _ H1 F1 o1 rfl⟩
theorem e_notN [NoN A] {o : Option α} (ha : Ev ta Γ (rOpt A) o) : Ev (xNotN ta) Γ rBl (!o.isNone) := fun H0 H F σ e g Q q =>
  ha H0 H F σ e g _ fun v H1 F1 o1 r => ⟨rfl, by rw [opt_non r]; exact q _ H1 F1 o1 rfl⟩
theorem eb_isN [NoN A] {o : Option α} (ha : Ev ta Γ (rOpt A) o) : Eb (cIsN ta) Γ o.isNone := eb_test (e_isN ha)
theorem eb_notN [NoN A] {o : Option α} (ha : Ev ta Γ (rOpt A) o) : Eb (cNotN ta) Γ (!o.isNone) := eb_test (e_notN ha)
theorem e_eqO {o : Option Int} (ha : Ev ta Γ (rOpt rInt) o) (hb : Ev tb Γ rInt j) : Ev (xEqO ta tb) Γ rBl (decide (o = some j)) :=
  e_bin ha hb fun F H v w e r1 r2 Q q => by
    cases r2
    cases o with
    | none => cases (show v = V.non from r1); exact ⟨rfl, q _ H F (.refl e) rfl⟩
    | some i =>
      cases (show v = V.int i from r1)
      refine ⟨rfl, ?_⟩
      rw [show decide (V.int i = V.int j) = decide (some i = some j) by by_cases z : i = j <;> simp [z]]
      exact q _ H F (.refl e) rfl
theorem e_neO {o : Option Int} (ha : Ev ta Γ (rOpt rInt) o) (hb : Ev tb Γ rInt j) : Ev (xNeO ta tb) Γ rBl (!decide (o = some j)) :=
  e_bin ha hb fun F H v w e r1 r2 Q q => by
    cases r2
    cases o with
    | none => cases (show v = V.non from r1); exact ⟨rfl, q _ H F (.refl e) rfl⟩
    | some i =>
      cases (show v = V.int i from r1)
      refine ⟨rfl, ?_⟩
      rw [show decide (V.int i = V.int j) = decide (some i = some j) by by_cases z : i = j <;> simp [z]]
      exact q _ H F (.refl e) rfl
instance instDOI {K : PySem.W.Frag} : HasD K (rOpt rInt) 0 := instDO fun x z => by cases z
/-- the value at slot i, known to be there -/
theorem e_varO {i : Nat} (h : Γ[i]? = some (.im (rOpt A) (some a))) : Ev (tVar i) Γ A a := fun H0 H F σ e g Q q => by
  obtain ⟨x, hx, r⟩ := g.var h
  exact ⟨x, hx, q x H F (.refl e) r⟩
theorem e_unO (h : Ev ta Γ (rOpt A) (some a)) : Ev ta Γ A a := fun H0 H F σ e g Q q => h H0 H F σ e g Q fun v H' F' o r => q v H' F' o r
end
section
variable {B : Bs} {Γ : List SA} {D : Ends} {t tz : TS} {α : Type} {A : Rp α} {a : α} {te tb : TE}
theorem S.unO {i : Nat} (h : Γ[i]? = some (.im (rOpt A) (some a))) (k : S B t (Γ.set i (.im A a)) D) : S B t Γ D := k.sub fun H0 H F σ g => by
  obtain ⟨x, hx, r⟩ := g.var h
  have g' := g.setI (A := A) (a := a) r i
  have e : σ.set i (some x) = σ := by
    refine List.ext_getElem? fun j => ?_
    by_cases q : i = j
    · subst q
      rw [hx, List.getElem?_set_self (List.getElem?_eq_some_iff.mp hx).1]
    · rw [List.getElem?_set_ne q]
  rwa [e] at g'
/-- the letter at slot i said otherwise -/
theorem S.as {β : Type} {C : Rp β} {c : β} {i : Nat} (h : Γ[i]? = some (.im A a)) (hc : ∀ F v, A.r F v a → C.r F v c) (k : S B t (Γ.set i (.im C c)) D) : S B t Γ D := k.sub fun H0 H F σ g => by
  obtain ⟨x, hx, r⟩ := g.var h
  have g' := g.setI (A := C) (a := c) (hc F x r) i
  have e : σ.set i (some x) = σ := by
    refine List.ext_getElem? fun j => ?_
    by_cases q : i = j
    · subst q
      rw [hx, List.getElem?_set_self (List.getElem?_eq_some_iff.mp hx).1]
    · rw [List.getElem?_set_ne q]
  rwa [e] at g'
/-- xs[i] += e, ints -/
theorem S.augS {K : PySem.W.Frag} {i : Nat} {n y x : Int} {f : Int → Int → Int} {j : Nat} {as : List Int} (h : Γ[i]? = some (.mu rInt as)) (hi : Ev tb Γ rInt n) (hx : atI as n = some x) (hj : ixN as.length n = some j) (he : Ev te Γ rInt y)
    (k : S B tz (Γ.set i (.mu rInt (as.set j (f x y)))) D) : S B (tSeq (tAugS (tVar i) tb te (rIxL K) (ipI f) rSetL) tz) Γ D := fun H F σ b g => by
  obtain ⟨l, xs, hv, h0, hl, hF, r⟩ := g.mut h
  refine ⟨_, hv, hi B.H0 H F σ b.1.i g _ fun w H1 F1 o1 rw1 => ?_⟩
  cases rw1
  obtain ⟨l1, xs1, hv1, _, hl1, hF1, r1⟩ := (g.mono o1).mut h
  cases Option.some.inj (hv.symm.trans hv1)
  unfold atI at hx
  rw [hj] at hx
  obtain ⟨v, hvv, rv⟩ := r1.get hx
  refine ⟨l, xs1, n, v, rfl, rfl, Evl.sq_of hl1, by unfold atI; rw [r1.length, hj]; exact hvv, he B.H0 H1 F1 σ o1.i (g.mono o1) _ fun u H2 F2 o2 rw2 => ?_⟩
  cases rw2
  cases rv
  obtain ⟨l2, xs2, hv2, _, hl2, hF2, r2⟩ := (g.mono (o1.trans o2)).mut h
  cases Option.some.inj (hv.symm.trans hv2)
  refine ⟨x, y, rfl, rfl, l, xs2, n, j, rfl, rfl, hl2, by rw [r2.length]; exact hj, ?_⟩
  exact k _ F2 σ ⟨((b.up o1).up o2).1.set hF2 h0, ((b.up o1).up o2).2⟩ ((g.mono (o1.trans o2)).wr h hv h0 hF2 (r2.set rfl j))
/-- xs.insert(n, e) -/
theorem S.ins {K : PySem.W.Frag} {i : Nat} {n : Int} {as : List α} (h : Γ[i]? = some (.mu A as)) (hi : Ev tb Γ rInt n) (he : Ev te Γ A a) (h0 : 0 ≤ n) (h1 : n < 100000) (hn : as.length < 100000) (k : S B tz (Γ.set i (.mu A (as.take n.toNat ++ [a] ++ as.drop n.toNat))) D) :
    S B (tSeq (tDrop (tBM K "list" (fun x vs H Q => ∃ (l : Addr) (xs : List V) (i : Int) (y : V), x = .ref l ∧ vs = [.int i, y] ∧ H l = some (.lst xs) ∧ xs.length < sizeLine ∧ 0 ≤ i ∧ i < 2 ^ 63 ∧ Q .non (upd H l (.lst (xs.take i.toNat ++ [y] ++ xs.drop i.toNat)))) (tVar i) (tCons tb (tCons te tNil)))) tz) Γ D := fun H F σ b g => by
  obtain ⟨l, xs, hv, h0', hl, hF, r⟩ := g.mut h
  refine ⟨_, hv, .inl ⟨rfl, xs, Evl.sq_of hl⟩, hi B.H0 H F σ b.1.i g _ fun w H1 F1 o1 rw1 => he B.H0 H1 F1 σ o1.i (g.mono o1) _ fun v H2 F2 o2 rv => ?_⟩
  cases rw1
  obtain ⟨l2, xs2, hv2, _, hl2, hF2, r2⟩ := (g.mono (o1.trans o2)).mut h
  cases Option.some.inj (hv.symm.trans hv2)
  refine ⟨l, xs2, n, v, rfl, rfl, hl2, Evl.sz_lt (by rw [r2.length]; exact hn), h0, by omega, ?_⟩
  exact k _ F2 σ ⟨((b.up o1).up o2).1.set hF2 h0', ((b.up o1).up o2).2⟩ ((g.mono (o1.trans o2)).wr h hv h0' hF2 (((r2.take _).snoc rv).app (r2.drop _)))
end
theorem get_list {X : Cx} : PGet X (rIxL X.K) := by
  intro pins s σ H x y v u Q I rx ry h
  obtain ⟨p, xs, i, z, rfl, rfl, hq, he, q⟩ := h
  cases rx
  obtain ⟨t, rfl⟩ := ry
  obtain ⟨its, r, pl, hz⟩ := I.list hq
  obtain ⟨j, h1, h2, h3, h4, h5⟩ := atI_get he
  obtain ⟨w, ew, rw'⟩ := r.get h2
  have hl := r.length
  have hn := line63
  have fin : EP X pins σ Q w s := ⟨z, H, I, rw', q⟩
  by_cases h0 : 0 ≤ i
  · have hj : i.toNat = j := by
      rw [seqIndex_of h0 h5] at h1
      exact Option.some.inj h1
    exact wpAny_getItem_list pl.isList h0 (by omega) (by rw [hj]; simpa using ew) fin
  · have hj : (i + (its.toArray.size : Int)).toNat = j := by
      rw [seqIndex_neg (by omega) h4] at h1
      rw [List.size_toArray, ← hl]
      exact Option.some.inj h1
    exact wpAny_getItem_list_neg pl.isList (by omega) (by rw [List.size_toArray] <;> omega) (by omega) (by rw [hj]; simpa using ew) fin
theorem p_augL {X : Cx} {K : PySem.W.Frag} {o i e : Expr} {to ti te : TE} {tip : TIp} {op : Operator} {pos tpos : Pos} (ho : PE X o to) (hi : PE X i ti) (he : PE X e te) (hp : PIp X op tip) (hK : X.K = K := by rfl)
    (ha : ∀ ov iv new, augStore i ov iv new = (do holding [new, ov, iv] (setItem ov iv new); release [new, ov, iv] []; pure .next) := by intros; rfl) : PS X (.AugAssign (.Subscript o i tpos) op e pos) (tAugS to ti te (rIxL K) tip rSetL) := by
  cases hK
  exact ps_augS ho hi get_list he hp set_list ha
def xIns (K : PySem.W.Frag) (ta tb tc : TE) : TE := tBM K "list" (fun x vs H Q => ∃ (l : Addr) (xs : List V) (i : Int) (y : V), x = .ref l ∧ vs = [.int i, y] ∧ H l = some (.lst xs) ∧ xs.length < sizeLine ∧ 0 ≤ i ∧ i < 2 ^ 63 ∧ Q .non (upd H l (.lst (xs.take i.toNat ++ [y] ++ xs.drop i.toNat)))) ta (tCons tb (tCons tc tNil))
theorem A2.mapr {α β γ : Type} {R : α → β → Prop} {R' : α → γ → Prop} {f : β → γ} (hf : ∀ x b, R x b → R' x (f b)) {xs : List α} {bs : List β} (h : A2 R xs bs) : A2 R' xs (bs.map f) := by
  induction h with
  | nil => exact .nil
  | cons a _ ih => exact .cons (hf _ _ a) ih
theorem e_conv {Γ : List SA} {α β : Type} {A : Rp α} {B : Rp β} {a : α} {b : β} {te : TE} (h : Ev te Γ A a) (hc : ∀ F v, A.r F v a → B.r F v b) : Ev te Γ B b := fun H0 H F σ e g Q q => h H0 H F σ e g Q fun v H' F' o r => q v H' F' o (hc _ _ r)
theorem e_lstO {Γ : List SA} {K : PySem.W.Frag} {α : Type} {A : Rp α} {as : List α} {te : TE} (h : Ev te Γ (rLst K A) as) : Ev te Γ (rLst K (rOpt A)) (as.map some) := e_conv h fun F v ⟨p, xs, e, s, a⟩ => ⟨p, xs, e, s, A2.mapr (R' := (rOpt A).r F) (f := some) (fun _ _ r => r) a⟩
theorem e_lstQ {Γ : List SA} {K : PySem.W.Frag} {α : Type} {A : Rp α} {as : List (List α)} {te : TE} (h : Ev te Γ (rLst K (rLst K A)) as) : Ev te Γ (rLst K (rSeq K A)) as := e_conv h fun F v ⟨p, xs, e, s, a⟩ => ⟨p, xs, e, s, a.imp fun _ _ r => .inl r⟩
theorem inV_non : ∀ as : List Int, inV .non (as.map V.int) = false := by
  intro as
  induction as with
  | nil => rfl
  | cons a t ih =>
    unfold inV at ih ⊢
    rw [List.map_cons, List.any_cons, ih, Bool.or_false]
    rfl
def xInN (K : PySem.W.Frag) (ta tb : TE) : TE := tOp (rIn K false) ta tb
theorem p_inN {X : Cx} {K : PySem.W.Frag} {a b : Expr} {ta tb : TE} {pos : Pos} (ha : PE X a ta) (hb : PE X b tb) (hn : behindInMarks .In b = false := by rfl) (hK : X.K = K := by rfl) : PE X (.Compare a [.In] [b] pos) (xInN K ta tb) := p_inI ha hb hn hK
theorem q_inN {X : Cx} {K : PySem.W.Frag} {a b : Expr} {ta tb : TE} {pos : Pos} (ha : PE X a ta) (hb : PE X b tb) (hn : behindInMarks .In b = false := by rfl) (hK : X.K = K := by rfl) : PT X (.Compare a [.In] [b] pos) (cCmp (xInN K ta tb)) := q_inI ha hb hn hK
theorem e_inN {Γ : List SA} {K : PySem.W.Frag} {ta tb : TE} {as : List Int} (ha : Ev ta Γ rNon ()) (hb : Ev tb Γ (rLst K rInt) as) : Ev (xInN K ta tb) Γ rBl false :=
  e_bin ha hb fun F H v w e r1 r2 Q q => by
    obtain ⟨p, xs, rfl, s, h1⟩ := r2
    have z : xs = as.map V.int := h1.eq_map
    subst z
    cases (show v = V.non from r1)
    refine ⟨p, _, rfl, .inl (Evl.ex_l e s), rfl, flat_ints as, ?_⟩
    rw [inV_non]
    exact q _ H F (.refl e) rfl
/-! ### what a module's name holds -/
def GlV (mg : Str → Option Value) (x : Str) {α : Type} (A : Rp α) (a : α) : Prop := ∃ u v, mg x = some u ∧ RelV v u ∧ ∀ F, A.r F v a
def xGlob {α : Type} (A : Rp α) (a : α) : TE := fun _ H Q => ∀ v, (∀ F, A.r F v a) → Q v H
theorem p_glob {X : Cx} {x : Str} {pos : Pos} {α : Type} {A : Rp α} {a : α} (G : GlV X.mg x A a) (hg : Gl X x) (hd : (x == ("__debug__" : Str)) = false := by decide) : PE X (.Name x pos) (xGlob A a) := by
  obtain ⟨u, v, hm, r, h⟩ := G
  exact ⟨fun pins s σ H Q I q => (pe_glob hg hm r hd).run pins s σ H Q I (q v h)⟩
theorem e_glob {Γ : List SA} {α : Type} {A : Rp α} {a : α} : Ev (xGlob A a) Γ A a := fun _ H F _ e _ Q q v hv => q v H F (.refl e) (hv F)
theorem GlV.int {mg : Str → Option Value} {x : Str} {n : Int} {t : Tok} (h : mg x = some (.int n t)) : GlV mg x rInt n := ⟨_, .int n, h, ⟨_, rfl⟩, fun _ => rfl⟩
/-! ### a def whose last parameter has a default, called without it -/
def KnD (CX : CXT) (P : Program) (w : World) (K : PySem.W.Frag) (mg : Str → Option Value) (base : Heap) (x : Str) (k : Nat) (ps : List Str) {α : Type} (A : Rp α) (a : α) (sp : Sp) : Prop :=
  ∃ f fd ds v, FnOk P w K mg base CX k f fd ps sp ∧ PySem.W.keepIn K (.ref f) = true ∧ Binds K fd ps ds ∧ Vals [v] ds ∧ (∀ F, A.r F v a) ∧ mg x = some (.ref f)
def tCallD {α : Type} (sp : Sp) (A : Rp α) (a : α) (t : TA) : TE := fun σ H Q => ∀ v, (∀ F, A.r F v a) → tCall sp [v] E0 t σ H Q
section
variable {X : Cx} {x : Str} {k : Nat} {ps : List Str} {sp : Sp} {e : Expr} {es : List Expr} {t : TA} {p pos : Pos} {α : Type} {A : Rp α} {c : α}
theorem p_callD (G : KnD CX0 X.prog X.w X.K X.mg X.base x k ps A c sp) (hr : Room k X.A) (hg : Gl X x) (ha : PA X (e :: es) t) (hd : (x == ("__debug__" : Str)) = false := by decide)
    (hs : starEach (e :: es) X.env = (false, eval e X.env) :: starEach es X.env := by rfl) (hp : (backTo pos (starEach es X.env)).any (·.1) = false := by rfl) :
    PE X (.Call (.Name x p) (e :: es) [] pos) (tCallD sp A c t) := by
  obtain ⟨f, fd, ds, v, F, kp, bd, hv, hA, m⟩ := G
  exact ⟨fun pins s σ H Q I q => (pe_call F hr hg m kp bd hv pass0 ha hd hs hp).run pins s σ H Q I (q v hA)⟩
end
section
variable {Γ : List SA} {α β γ : Type} {A0 : Rp α} {A1 : Rp β} {A2 : Rp γ} {a0 : α} {a1 : β} {a2 : γ} {t0 t1 : TE}
theorem e_callD1 {pre : α → β → Prop} {ret : α → β → Ret} (h0 : Ev t0 Γ A0 a0) (hp : pre a0 a1) (hu : Up (ret a0 a1)) : EvR (tCallD (Sp2 A0 A1 pre ret) A1 a1 (tCons t0 tNil)) Γ (ret a0 a1) := fun H0 H F σ e g Q q v hv =>
  h0 H0 H F σ e g _ fun w H1 F1 o1 r1 => ⟨F1, w, v, a0, a1, o1.i, rfl, r1, hv F1, hp, hu q o1⟩
theorem e_callD2 {pre : α → β → γ → Prop} {ret : α → β → γ → Ret} (h0 : Ev t0 Γ A0 a0) (h1 : Ev t1 Γ A1 a1) (hp : pre a0 a1 a2) (hu : Up (ret a0 a1 a2)) : EvR (tCallD (Sp3 A0 A1 A2 pre ret) A2 a2 (tCons t0 (tCons t1 tNil))) Γ (ret a0 a1 a2) := fun H0 H F σ e g Q q v hv =>
  h0 H0 H F σ e g _ fun w H1 F1 o1 r1 => h1 H0 H1 F1 σ o1.i (g.mono o1) _ fun w2 H2 F2 o2 r2 => ⟨F2, w, w2, v, a0, a1, a2, o2.i, rfl, A0.mono o2.f r1, r2, hv F2, hp, hu q (o1.trans o2)⟩
end
theorem GlV.t2 {K : PySem.W.Frag} {mg : Str → Option Value} {x : Str} {p : Addr} {i j : Int} {t t' : Tok} {n : Nat} {od : Option Addr} {sl : Array (Option Value)} (h : mg x = some (.ref p)) (l : K.lookup p = some ⟨.type "tuple", od, .seq #[.int i t, .int j t'] n, sl⟩) : GlV mg x (rRat K) (i, j) :=
  ⟨_, .ref p, h, rfl, fun F => ⟨p, .int i, .int j, rfl, .inr ⟨_, _, _, l, rfl, rfl, (by show 2 ≤ sizeLine; decide), .cons ⟨_, rfl⟩ (.cons ⟨_, rfl⟩ .nil)⟩, rfl, rfl⟩⟩
theorem rat_K {K : PySem.W.Frag} {p : Addr} {i j : Int} {t t' : Tok} {n : Nat} {od : Option Addr} {sl : Array (Option Value)} (l : K.lookup p = some ⟨.type "tuple", od, .seq #[.int i t, .int j t'] n, sl⟩) (F : Hp) : (rRat K).r F (.ref p) (i, j) :=
  ⟨p, .int i, .int j, rfl, .inr ⟨_, _, _, l, rfl, rfl, (by show 2 ≤ sizeLine; decide), .cons ⟨_, rfl⟩ (.cons ⟨_, rfl⟩ .nil)⟩, rfl, rfl⟩
/-! ### objects with two and three fields, made by an __init__ of their values -/
def rOb2 (C : Addr) (n1 n2 : Str) {α β : Type} (A : Rp α) (B : Rp β) : Rp (α × β) :=
  ⟨fun F v c => ∃ a dx fs x y, v = .ref a ∧ F a = some (.ins C dx fs) ∧ fs.lookup n1 = some x ∧ fs.lookup n2 = some y ∧ (∀ m, m ≠ n1 → m ≠ n2 → fs.lookup m = none) ∧ A.r F x c.1 ∧ B.r F y c.2,
   fun e ⟨a, dx, fs, x, y, h1, h2, h3, h4, h5, h6, h7⟩ => ⟨a, dx, fs, x, y, h1, e _ _ h2, h3, h4, h5, A.mono e h6, B.mono e h7⟩⟩
def rOb3 (C : Addr) (n1 n2 n3 : Str) {α β γ : Type} (A : Rp α) (B : Rp β) (D : Rp γ) : Rp (α × β × γ) :=
  ⟨fun F v c => ∃ a dx fs x y z, v = .ref a ∧ F a = some (.ins C dx fs) ∧ fs.lookup n1 = some x ∧ fs.lookup n2 = some y ∧ fs.lookup n3 = some z ∧ (∀ m, m ≠ n1 → m ≠ n2 → m ≠ n3 → fs.lookup m = none) ∧ A.r F x c.1 ∧ B.r F y c.2.1 ∧ D.r F z c.2.2,
   fun e ⟨a, dx, fs, x, y, z, h1, h2, h3, h4, h4', h5, h6, h7, h8⟩ => ⟨a, dx, fs, x, y, z, h1, e _ _ h2, h3, h4, h4', h5, A.mono e h6, B.mono e h7, D.mono e h8⟩⟩
instance {C : Addr} {n1 n2 : Str} {α β : Type} {A : Rp α} {B : Rp β} : NoN (rOb2 C n1 n2 A B) := ⟨fun r z => by obtain ⟨p, _, _, _, _, e, _⟩ := r; rw [e] at z; cases z⟩
/-- a class as the walk knows it: its fields' names are no attributes of it -/
structure ClF (K : PySem.W.Frag) (C : Addr) (ns : List Str) : Prop where
  cl : Cls K C
  na : ∀ n ∈ ns, NoAttr K C n
/-- a field -/
def xFld1 (K : PySem.W.Frag) (ta : TE) (f : Str) : TE := tFld K ta f
def xFld2 (K : PySem.W.Frag) (ta : TE) (f : Str) : TE := tFld K ta f
def xFld31 (K : PySem.W.Frag) (ta : TE) (f : Str) : TE := tFld K ta f
def xFld32 (K : PySem.W.Frag) (ta : TE) (f : Str) : TE := tFld K ta f
def xFld33 (K : PySem.W.Frag) (ta : TE) (f : Str) : TE := tFld K ta f
section
variable {X : Cx} {e : Expr} {f : Str} {pos : Pos} {ta : TE} {K : PySem.W.Frag}
theorem p_fld1 (he : PE X e ta) (hb : attributeBase e f X.env (eval e X.env) = eval e X.env := by rfl) (hK : X.K = K := by rfl) : PE X (.Attribute e f pos) (xFld1 K ta f) := by
  cases hK; exact pe_fld he hb
theorem p_fld2 (he : PE X e ta) (hb : attributeBase e f X.env (eval e X.env) = eval e X.env := by rfl) (hK : X.K = K := by rfl) : PE X (.Attribute e f pos) (xFld2 K ta f) := by
  cases hK; exact pe_fld he hb
theorem p_fld31 (he : PE X e ta) (hb : attributeBase e f X.env (eval e X.env) = eval e X.env := by rfl) (hK : X.K = K := by rfl) : PE X (.Attribute e f pos) (xFld31 K ta f) := by
  cases hK; exact pe_fld he hb
theorem p_fld32 (he : PE X e ta) (hb : attributeBase e f X.env (eval e X.env) = eval e X.env := by rfl) (hK : X.K = K := by rfl) : PE X (.Attribute e f pos) (xFld32 K ta f) := by
  cases hK; exact pe_fld he hb
theorem p_fld33 (he : PE X e ta) (hb : attributeBase e f X.env (eval e X.env) = eval e X.env := by rfl) (hK : X.K = K := by rfl) : PE X (.Attribute e f pos) (xFld33 K ta f) := by
  cases hK; exact pe_fld he hb
end
section
variable {Γ : List SA} {α β γ : Type} {A : Rp α} {B : Rp β} {D : Rp γ} {ta : TE} {K : PySem.W.Frag} {C : Addr} {n1 n2 n3 : Str}
theorem e_fld1 {c : α × β} {ns : List Str} (h : Ev ta Γ (rOb2 C n1 n2 A B) c) (T : ClF K C ns) (hn : n1 ∈ ns) : Ev (xFld1 K ta n1) Γ A c.1 := fun H0 H F σ e g Q q =>
  h H0 H F σ e g _ fun v H1 F1 o ⟨a, dx, fs, x, y, ev, h2, h3, h4, h5, h6, h7⟩ => ⟨a, C, dx, fs, x, ev, o.i _ _ h2, T.cl, T.na _ hn, h3, q _ H1 F1 o h6⟩
theorem e_fld2 {c : α × β} {ns : List Str} (h : Ev ta Γ (rOb2 C n1 n2 A B) c) (T : ClF K C ns) (hn : n2 ∈ ns) : Ev (xFld2 K ta n2) Γ B c.2 := fun H0 H F σ e g Q q =>
  h H0 H F σ e g _ fun v H1 F1 o ⟨a, dx, fs, x, y, ev, h2, h3, h4, h5, h6, h7⟩ => ⟨a, C, dx, fs, y, ev, o.i _ _ h2, T.cl, T.na _ hn, h4, q _ H1 F1 o h7⟩
theorem e_fld31 {c : α × β × γ} {ns : List Str} (h : Ev ta Γ (rOb3 C n1 n2 n3 A B D) c) (T : ClF K C ns) (hn : n1 ∈ ns) : Ev (xFld31 K ta n1) Γ A c.1 := fun H0 H F σ e g Q q =>
  h H0 H F σ e g _ fun v H1 F1 o ⟨a, dx, fs, x, y, z, ev, h2, h3, h4, h4', h5, h6, h7, h8⟩ => ⟨a, C, dx, fs, x, ev, o.i _ _ h2, T.cl, T.na _ hn, h3, q _ H1 F1 o h6⟩
theorem e_fld32 {c : α × β × γ} {ns : List Str} (h : Ev ta Γ (rOb3 C n1 n2 n3 A B D) c) (T : ClF K C ns) (hn : n2 ∈ ns) : Ev (xFld32 K ta n2) Γ B c.2.1 := fun H0 H F σ e g Q q =>
  h H0 H F σ e g _ fun v H1 F1 o ⟨a, dx, fs, x, y, z, ev, h2, h3, h4, h4', h5, h6, h7, h8⟩ => ⟨a, C, dx, fs, y, ev, o.i _ _ h2, T.cl, T.na _ hn, h4, q _ H1 F1 o h7⟩
theorem e_fld33 {c : α × β × γ} {ns : List Str} (h : Ev ta Γ (rOb3 C n1 n2 n3 A B D) c) (T : ClF K C ns) (hn : n3 ∈ ns) : Ev (xFld33 K ta n3) Γ D c.2.2 := fun H0 H F σ e g Q q =>
  h H0 H F σ e g _ fun v H1 F1 o ⟨a, dx, fs, x, y, z, ev, h2, h3, h4, h4', h5, h6, h7, h8⟩ => ⟨a, C, dx, fs, z, ev, o.i _ _ h2, T.cl, T.na _ hn, h4', q _ H1 F1 o h8⟩
end
/-- __init__ of two arguments, as its maker knows it -/
def SpI2 (C : Addr) {α β γ : Type} (A : Rp α) (B : Rp β) (R : Rp γ) (pre : α → β → Prop) (f : α → β → γ) : Sp := fun vs H Q _ => ∃ (H1 F : Hp) (x dx : Addr) (v w : V) (a : α) (b : β), vs = [.ref x, v, w] ∧ H = upd (upd H1 dx (.own x)) x (.ins C dx []) ∧ H1 x = none ∧ H1 dx = none ∧ dx ≠ x ∧ Ex F H1 ∧
  A.r F v a ∧ B.r F w b ∧ pre a b ∧ ∀ H' F', Ok H1 F H' F' → R.r F' (.ref x) (f a b) → Q .non H'
theorem SpI2.len {C : Addr} {α β γ : Type} {A : Rp α} {B : Rp β} {R : Rp γ} {pre : α → β → Prop} {f : α → β → γ} {vs : List V} {H : Hp} {Q : VK} {E : XK} (h : SpI2 C A B R pre f vs H Q E) : vs.length = 3 := by
  obtain ⟨_, _, _, _, _, _, _, _, rfl, _⟩ := h
  rfl
def KnC (CX : CXT) (P : Program) (w : World) (K : PySem.W.Frag) (mg : Str → Option Value) (base : Heap) (x : Str) (C : Addr) (k : Nat) (ps : List Str) (sp : Sp) : Prop :=
  ∃ f fd, FnOk P w K mg base CX k f fd ps sp ∧ Mk K C f ∧ Binds K fd ps [] ∧ mg x = some (.ref C)
theorem p_make {X : Cx} {x : Str} {C : Addr} {k : Nat} {ps : List Str} {sp : Sp} {e : Expr} {es : List Expr} {t : TA} {p pos : Pos} (G : KnC CX0 X.prog X.w X.K X.mg X.base x C k ps sp) (hr : Room (k + 1) X.A) (hg : Gl X x) (ha : PA X (e :: es) t)
    (hd : (x == ("__debug__" : Str)) = false := by decide) (hs : starEach (e :: es) X.env = (false, eval e X.env) :: starEach es X.env := by rfl) (hp : (backTo pos (starEach es X.env)).any (·.1) = false := by rfl) :
    PE X (.Call (.Name x p) (e :: es) [] pos) (tMake C sp [] E0 t) := by
  obtain ⟨f, fd, F, M, b, m⟩ := G
  exact pe_make M F hr hg m b .nil pass0 ha hd hs hp
theorem e_make2 {Γ : List SA} {C : Addr} {α β γ : Type} {A : Rp α} {B : Rp β} {R : Rp γ} {pre : α → β → Prop} {f : α → β → γ} {ta tb : TE} {a : α} {b : β} (ha : Ev ta Γ A a) (hb : Ev tb Γ B b) (hp : pre a b) :
    Ev (tMake C (SpI2 C A B R pre f) [] E0 (tCons ta (tCons tb tNil))) Γ R (f a b) := fun H0 H F σ e g Q q =>
  ha H0 H F σ e g _ fun v H1 F1 o1 r1 => hb H0 H1 F1 σ o1.i (g.mono o1) _ fun w H2 F2 o2 r2 x dx hx hdx hne =>
    ⟨H2, F2, x, dx, v, w, a, b, rfl, rfl, hx, hdx, hne, o2.i, A.mono o2.f r1, r2, hp, fun H' F' o r => ⟨rfl, q _ H' F' ((o1.trans o2).trans o) r⟩⟩
/-- the body of such an __init__: self.n1 = .., self.n2 = .. -/
theorem body_init2 {N : List Str} {K : PySem.W.Frag} {C : Addr} {n1 n2 : Str} {α β α' β' : Type} {A : Rp α} {B : Rp β} {A' : Rp α'} {B' : Rp β'} {te1 te2 : TE} {H1 F : Hp} {x dx : Addr} {v w : V} {a : α} {b : β} {a' : α'} {b' : β'} {D : Ends} {Q : VK} {ns : List Str}
    (T : ClF K C ns) (m1 : n1 ∈ ns) (m2 : n2 ∈ ns) (hne : n1 ≠ n2) (h1 : Ev te1 [.un, .im A a, .im B b] A' a') (h2 : Ev te2 [.un, .im A a, .im B b] B' b') (hx : H1 x = none) (hdx : H1 dx = none) (hn : dx ≠ x) (e : Ex F H1) (ra : A.r F v a) (rb : B.r F w b)
    (hN : N.length = 3) (hD : D.nx = fun _ H' => Q .non H') (q : ∀ H' F', Ok H1 F H' F' → (rOb2 C n1 n2 A' B').r F' (.ref x) (a', b') → Q .non H') : tSeq (sFld K (tVar 0) te1 n1) (sFld K (tVar 0) te2 n2) D (start N [.ref x, v, w]) (upd (upd H1 dx (.own x)) x (.ins C dx [])) := by
  have eN : start N [.ref x, v, w] = [some (.ref x), some v, some w] := by
    match N, hN with
    | [_, _, _], _ => rfl
  rw [eN]
  have o0 : Ok H1 F (upd (upd H1 dx (.own x)) x (.ins C dx [])) F := ((Ok.refl e).mut hdx).mut (by rw [upd_ne (Ne.symm hn)]; exact hx)
  have gw : ∀ (G F' : Hp), Ex F F' → Good H1 G F' [some (.ref x), some v, some w] [.un, .im A a, .im B b] := fun G F' e' => by
    have h := ((good_rep H1 G F' 3).setU (some (.ref x)) 0).setI (A.mono e' ra) 1
    exact h.setI (B.mono e' rb) 2
  have g0 : ∀ G, Good H1 G F [some (.ref x), some v, some w] [.un, .im A a, .im B b] := fun G => gw G F (Ex.refl F)
  refine h1 H1 _ F _ o0.i (g0 _) _ fun y H2 F2 o1 r1 => ⟨_, rfl, x, C, dx, [], rfl, o1.h _ _ upd_same, T.cl, T.na _ m1, (by show 0 < 1000; decide), ?_⟩
  have fx : F2 x = none := by
    cases q : F2 x with
    | none => rfl
    | some u =>
      rcases o1.r x u q with z | z
      · have := e x u z; rw [hx] at this; cases this
      · rw [upd_same] at z; cases z
  have o2 : Ok H1 F (upd H2 x (.ins C dx (putF n1 y []))) F2 := (o0.trans o1).set fx hx
  have g2 : Good H1 (upd H2 x (.ins C dx (putF n1 y []))) F2 [some (.ref x), some v, some w] [.un, .im A a, .im B b] := gw _ F2 o2.f
  refine h2 H1 _ F2 _ o2.i g2 _ fun z H3 F3 o3 r3 => ⟨_, rfl, x, C, dx, _, rfl, o3.h _ _ upd_same, T.cl, T.na _ m2, (by show 1 < 1000; decide), ?_⟩
  have fx3 : F3 x = none := by
    cases q : F3 x with
    | none => rfl
    | some u =>
      rcases o3.r x u q with z | z
      · rw [fx] at z; cases z
      · rw [upd_same] at z; cases z
  show D.nx _ _
  rw [hD]
  have o4 := (o2.trans o3).set (x := HO.ins C dx (putF n2 z (putF n1 y []))) fx3 hx
  refine q _ _ (o4.frz upd_same fx3 hx) ⟨x, dx, _, y, z, rfl, upd_same, ?_, ?_, fun m k1 k2 => ?_, A'.mono (o3.f.trans (Ex.new fx3)) r1, B'.mono (Ex.new fx3) r3⟩
  · rw [lookup_putF, if_neg hne, lookup_putF, if_pos rfl]
  · rw [lookup_putF, if_pos rfl]
  · rw [lookup_putF, if_neg k2, lookup_putF, if_neg k1]
    rfl
/-! ### methods of such an object -/
def KnM (CX : CXT) (P : Program) (w : World) (K : PySem.W.Frag) (mg : Str → Option Value) (base : Heap) (C : Addr) (m : Str) (k : Nat) (ps : List Str) (sp : Sp) : Prop :=
  ∃ f fd, FnOk P w K mg base CX k f fd ps sp ∧ Meth K C m f ∧ Binds K fd ps [] ∧ Cls K C
section
variable {X : Cx} {m : Str} {C : Addr} {k : Nat} {ps : List Str} {sp : Sp} {o e : Expr} {es : List Expr} {ta : TE} {t : TA} {pos apos : Pos} {pl : Sem Bool}
theorem p_meth (G : KnM CX0 X.prog X.w X.K X.mg X.base C m k ps sp) (hr : Room k X.A) (ho : PE X o ta) (ha : PA X (e :: es) t)
    (hst : starEach (e :: es) X.env = (false, eval e X.env) :: starEach es X.env := by rfl) (hpl : (backTo pos (starEach es X.env)).any (·.1) = false := by rfl)
    (ht : eval (.Call (.Attribute o m apos) (e :: es) [] pos) X.env = (do
      let ov ← eval o X.env
      standAt apos.atName
      let (f, first) ← holding [ov] (getMethod ov m pl)
      callWith pos f first (backTo pos (starEach (e :: es) X.env)) (backToKw pos (keywordEach [] X.env))) := by rfl) :
    PE X (.Call (.Attribute o m apos) (e :: es) [] pos) (tMeth C m sp [] E0 ta t) := by
  obtain ⟨f, fd, F, hm, b, c⟩ := G
  exact pe_meth ho c hm F hr b .nil pass0 ha hst hpl ht
theorem p_meth0 (G : KnM CX0 X.prog X.w X.K X.mg X.base C m k ps sp) (hr : Room k X.A) (ho : PE X o ta)
    (ht : eval (.Call (.Attribute o m apos) [] [] pos) X.env = (do
      let ov ← eval o X.env
      standAt apos.atName
      let (f, first) ← holding [ov] (getMethod ov m pl)
      callWith pos f first (backTo pos (starEach [] X.env)) (backToKw pos (keywordEach [] X.env))) := by rfl) :
    PE X (.Call (.Attribute o m apos) [] [] pos) (tMeth C m sp [] E0 ta tNil) := by
  obtain ⟨f, fd, F, hm, b, c⟩ := G
  exact pe_meth0 ho c hm F hr b .nil pass0 ht
end
section
variable {Γ : List SA} {α β γ : Type} {A : Rp α} {B : Rp β} {D : Rp γ} {a : α} {b : β} {c : γ} {ta tb : TE} {C : Addr} {m : Str}
/-- what a letter says of an instance: its class, and that m is no attribute of its own -/
class IsOb {α : Type} (A : Rp α) (C : outParam Addr) (m : Str) : Prop where
  ob : ∀ {F v a}, A.r F v a → ∃ x dx fs, v = .ref x ∧ F x = some (.ins C dx fs) ∧ fs.lookup m = none
theorem e_meth0 {pre : α → Prop} {ret : α → Ret} [i : IsOb A C m] (h : Ev ta Γ A a) (hp : pre a) (hu : Up (ret a)) : EvR (tMeth C m (Sp1 A pre ret) [] E0 ta tNil) Γ (ret a) := fun H0 H F σ e g Q q =>
  h H0 H F σ e g _ fun v H1 F1 o r => by
    obtain ⟨x, dx, fs, rfl, h2, h3⟩ := i.ob r
    exact ⟨x, dx, fs, rfl, o.i _ _ h2, h3, F1, _, a, o.i, rfl, r, hp, hu q o⟩
theorem e_meth1 {pre : α → β → Prop} {ret : α → β → Ret} [i : IsOb A C m] (h : Ev ta Γ A a) (h' : Ev tb Γ B b) (hp : pre a b) (hu : Up (ret a b)) : EvR (tMeth C m (Sp2 A B pre ret) [] E0 ta (tCons tb tNil)) Γ (ret a b) := fun H0 H F σ e g Q q =>
  h H0 H F σ e g _ fun v H1 F1 o r => by
    obtain ⟨x, dx, fs, rfl, h2, h3⟩ := i.ob r
    exact ⟨x, dx, fs, rfl, o.i _ _ h2, h3, h' H0 H1 F1 σ o.i (g.mono o) _ fun w H2 F2 o2 r2 => ⟨F2, _, w, a, b, o2.i, rfl, A.mono o2.f r, r2, hp, hu q (o.trans o2)⟩⟩
end
end Tp

namespace Tm
open PySem PyProof.Rows L2
/-! ### companies -/
theorem rdl_get {rs : List Int} {i : Nat} (h : i < rs.length) : rs[i]? = some (rdl rs i) := by unfold rdl; rw [List.getD_eq_getElem?_getD, List.getElem?_eq_getElem h]; rfl
abbrev Co := (Int × Int) × List (List Int)
def tot (ps : List (List Int)) : Nat := (ps.map List.length).sum
def POk (ps : List (List Int)) : Prop := ps.length ≤ 10 ∧ tot ps ≤ 60 ∧ ∀ rs ∈ ps, ∀ x ∈ rs, -1000000000 ≤ x ∧ x ≤ 1000000000
/-- a discount in lowest terms -/
def DisL (d : Int × Int) : Prop := Dis d ∧ isR d = true
structure COk (c : Co) : Prop where
  d : DisL c.1
  p : POk c.2
theorem DisL.of {d : Int × Int} (h : Dis d) : DisL (mkR d.1 d.2) := by
  have h0 : d.2 ≠ 0 := by have := h.1; have := h.2.1; omega
  obtain ⟨s1, s2, s3⟩ := mkR_spec (n := d.1) h0
  refine ⟨⟨?_, ?_, ?_⟩, isR_mkR h0⟩
  · by_cases z : 1 ≤ (mkR d.1 d.2).1
    · exact z
    · have := h.1
      have := h.2.1
      have e : d.1 * (mkR d.1 d.2).2 ≤ 0 := by
        rw [← s3]
        exact Int.mul_nonpos_of_nonpos_of_nonneg (by omega) (by omega)
      have e2 : 0 < d.1 * (mkR d.1 d.2).2 := Int.mul_pos (by omega) (by omega)
      omega
  · have := h.1
    have := h.2.1
    refine Int.lt_of_mul_lt_mul_right (a := d.2) ?_ (by omega)
    rw [s3, Int.mul_comm (mkR d.1 d.2).2]
    exact Int.mul_lt_mul_of_pos_right h.2.1 (by omega)
  · have := (mkR_le (n := d.1) h0).2
    have := h.1
    have := h.2.1
    have := h.2.2
    omega
theorem tot_take_le (ps : List (List Int)) (i : Nat) : tot (ps.take i) ≤ tot ps := by
  unfold tot
  have e : ps.map List.length = (ps.take i).map List.length ++ (ps.drop i).map List.length := by rw [← List.map_append, List.take_append_drop]
  rw [e, List.sum_append]
  omega
theorem tot_take {ps : List (List Int)} {i : Nat} {rs : List Int} (h : ps[i]? = some rs) : tot (ps.take (i + 1)) = tot (ps.take i) + rs.length := by
  unfold tot
  rw [List.take_add_one, h]
  simp
theorem POk.rws {ps : List (List Int)} (h : POk ps) {rs : List Int} (m : rs ∈ ps) : Rws rs := by
  refine ⟨?_, h.2.2 rs m⟩
  obtain ⟨i, hi⟩ := List.getElem?_of_mem m
  have := tot_take hi
  have := tot_take_le ps (i + 1)
  have := h.2.1
  omega
theorem ixN_of {n : Nat} {x : Int} (h0 : 0 ≤ x) (h : x.toNat < n) : ixN n x = some x.toNat := by
  have e : x = ((x.toNat : Nat) : Int) := by omega
  rw [e, Int.toNat_natCast]
  exact Evl.ixN_nat h
/-! ### plans -/
abbrev Pl := List (Option Int)
def cntP (pl : Pl) (j : Nat) : Nat := pl.count (some (j : Int))
def tkF (n : Nat) (pl : Pl) : List Int := (List.range n).map fun j => (cntP pl j : Int)
/-- every entry can be carried out -/
def VP (ps : List (List Int)) (pl : Pl) : Prop := ∀ i x, pl[i]? = some (some x) → 0 ≤ x ∧ ∃ rs, ps[x.toNat]? = some rs ∧ cntP (pl.take i) x.toNat < rs.length
theorem tkF_len (n : Nat) (pl : Pl) : (tkF n pl).length = n := by unfold tkF; rw [List.length_map, List.length_range]
theorem tkF_get {n j : Nat} (pl : Pl) (h : j < n) : (tkF n pl)[j]? = some (cntP pl j : Int) := by unfold tkF; rw [List.getElem?_map, List.getElem?_range h]; rfl
theorem tkF_at {n : Nat} {x : Int} (pl : Pl) (h0 : 0 ≤ x) (h : x.toNat < n) : atI (tkF n pl) x = some (cntP pl x.toNat : Int) := Tp.at_nat h0 (tkF_get pl h)
theorem tkF_nil {α : Type} (as : List α) : as.map (fun _ => (0 : Int)) = tkF as.length [] := by
  refine List.ext_getElem? fun j => ?_
  unfold tkF cntP
  by_cases h : j < as.length
  · rw [List.getElem?_map, List.getElem?_map, List.getElem?_range h, List.getElem?_eq_getElem h]; rfl
  · rw [List.getElem?_eq_none (by simpa using h), List.getElem?_eq_none (by simpa using h)]
theorem cntP_snoc_none (pl : Pl) (j : Nat) : cntP (pl ++ [none]) j = cntP pl j := by unfold cntP; rw [List.count_append]; simp
theorem cntP_snoc (pl : Pl) (x : Int) (j : Nat) : cntP (pl ++ [some x]) j = cntP pl j + if x = (j : Int) then 1 else 0 := by
  unfold cntP
  rw [List.count_append, List.count_singleton]
  by_cases h : x = (j : Int)
  · simp [h]
  · have : (some x == some (j : Int)) = false := by simpa using h
    rw [this, if_neg h]; rfl
theorem take_snoc {α : Type} {as : List α} {i : Nat} {a : α} (h : as[i]? = some a) : as.take (i + 1) = as.take i ++ [a] := by rw [List.take_add_one, h]; rfl
theorem tkF_none {n i : Nat} {pl : Pl} (h : pl[i]? = some none) : tkF n (pl.take i) = tkF n (pl.take (i + 1)) := by
  rw [take_snoc h]
  unfold tkF
  exact List.map_congr_left fun j _ => by rw [cntP_snoc_none]
theorem tkF_snoc {n : Nat} {pl : Pl} {x : Int} (h0 : 0 ≤ x) (hx : x.toNat < n) : (tkF n pl).set x.toNat ((cntP pl x.toNat : Int) + 1) = tkF n (pl ++ [some x]) := by
  refine List.ext_getElem? fun j => ?_
  by_cases hj : j < n
  · rw [tkF_get _ hj, cntP_snoc]
    by_cases q : x.toNat = j
    · subst q
      rw [List.getElem?_set_self (by rw [tkF_len]; exact hx), if_pos (by omega)]
      rfl
    · rw [List.getElem?_set_ne q, tkF_get _ hj, if_neg (by omega)]
      rfl
  · rw [List.getElem?_eq_none (by rw [List.length_set, tkF_len]; omega), List.getElem?_eq_none (by rw [tkF_len]; omega)]
theorem tkF_some {n i : Nat} {pl : Pl} {x : Int} (h : pl[i]? = some (some x)) (h0 : 0 ≤ x) (hx : x.toNat < n) : (tkF n (pl.take i)).set x.toNat ((cntP (pl.take i) x.toNat : Int) + 1) = tkF n (pl.take (i + 1)) := by
  rw [take_snoc h, tkF_snoc h0 hx]
theorem VP.take {ps : List (List Int)} {pl : Pl} (h : VP ps pl) (n : Nat) : VP ps (pl.take n) := fun i x e => by
  by_cases q : i < n
  · rw [List.getElem?_take, if_pos q] at e
    have := h i x e
    rwa [List.take_take, Nat.min_eq_left (by omega)]
  · rw [List.getElem?_take, if_neg q] at e; cases e
theorem VP.snoc_none {ps : List (List Int)} {pl : Pl} (h : VP ps pl) : VP ps (pl ++ [none]) := fun i x e => by
  by_cases q : i < pl.length
  · rw [List.getElem?_append_left q] at e
    rw [List.take_append_of_le_length (by omega)]
    exact h i x e
  · rw [List.getElem?_append_right (by omega)] at e
    cases k : i - pl.length with
    | zero => rw [k] at e; cases e
    | succ => rw [k] at e; cases e
theorem VP.snoc {ps : List (List Int)} {pl : Pl} {x : Int} (h : VP ps pl) (h0 : 0 ≤ x) {rs : List Int} (hr : ps[x.toNat]? = some rs) (hc : cntP pl x.toNat < rs.length) : VP ps (pl ++ [some x]) := fun i y e => by
  by_cases q : i < pl.length
  · rw [List.getElem?_append_left q] at e
    rw [List.take_append_of_le_length (by omega)]
    exact h i y e
  · rw [List.getElem?_append_right (by omega)] at e
    cases k : i - pl.length with
    | zero =>
      rw [k] at e; cases e
      rw [show i = pl.length by omega, List.take_left]
      exact ⟨h0, rs, hr, hc⟩
    | succ => rw [k] at e; cases e
/-- the drawn plan -/
def rdp (ps : List (List Int)) (j : Nat) : List Int := ps.getD j []
theorem rdp_at {ps : List (List Int)} {j : Nat} (h : j < ps.length) : ps[j]? = some (rdp ps j) := by unfold rdp; rw [List.getD_eq_getElem?_getD, List.getElem?_eq_getElem h]; rfl
theorem rdp_mem {ps : List (List Int)} {j : Nat} (h : j < ps.length) : rdp ps j ∈ ps := by
  have e := rdp_at h
  exact List.mem_of_getElem? e
def readyF (ps : List (List Int)) (pl : Pl) : List Int := (Tp.rng 0 (ps.length : Int)).filter fun x => decide ((cntP pl x.toNat : Int) < ((rdp ps x.toNat).length : Int))
theorem readyF_mem {ps : List (List Int)} {pl : Pl} {x : Int} (h : x ∈ readyF ps pl) : 0 ≤ x ∧ x.toNat < ps.length ∧ cntP pl x.toNat < (rdp ps x.toNat).length := by
  unfold readyF at h
  obtain ⟨h1, h2⟩ := List.mem_filter.mp h
  obtain ⟨i, hi⟩ := List.getElem?_of_mem h1
  obtain ⟨rfl, hl⟩ := Tp.rng_get hi
  have := of_decide_eq_true h2
  exact ⟨by omega, by omega, by omega⟩
theorem readyF_len (ps : List (List Int)) (pl : Pl) : (readyF ps pl).length ≤ ps.length := by
  unfold readyF
  refine Nat.le_trans (List.length_filter_le _ _) ?_
  rw [Tp.rng_len]; omega
def planF (ps : List (List Int)) (row : List Int) : Nat → Pl
  | 0 => []
  | k + 1 => planF ps row k ++ [if rdl row k % ((readyF ps (planF ps row k)).length + 1 : Int) = (readyF ps (planF ps row k)).length then none else some (rdl (readyF ps (planF ps row k)) (rdl row k % ((readyF ps (planF ps row k)).length + 1 : Int)).toNat)]
theorem planF_len (ps : List (List Int)) (row : List Int) : ∀ k, (planF ps row k).length = k
  | 0 => rfl
  | k + 1 => by unfold planF; rw [List.length_append, planF_len ps row k]; rfl
theorem planF_pick {ps : List (List Int)} {pl : Pl} {x : Int} (h : ¬ x % ((readyF ps pl).length + 1 : Int) = (readyF ps pl).length) : 0 ≤ x % ((readyF ps pl).length + 1 : Int) ∧ (x % ((readyF ps pl).length + 1 : Int)).toNat < (readyF ps pl).length := by
  have a := Int.emod_nonneg x (show ((readyF ps pl).length + 1 : Int) ≠ 0 by omega)
  have b := Int.emod_lt_of_pos x (show (0 : Int) < (readyF ps pl).length + 1 by omega)
  exact ⟨a, by omega⟩
theorem planF_ok (ps : List (List Int)) (row : List Int) : ∀ k, VP ps (planF ps row k)
  | 0 => fun i x e => by unfold planF at e; simp at e
  | k + 1 => by
    unfold planF
    split
    · exact (planF_ok ps row k).snoc_none
    · rename_i h
      obtain ⟨_, h2⟩ := planF_pick h
      obtain ⟨a, b, c⟩ := readyF_mem (rdl_mem h2)
      exact (planF_ok ps row k).snoc a (rdp_at b) c
theorem planF_s1 {ps : List (List Int)} {row : List Int} {k : Nat} (h : rdl row k % ((readyF ps (planF ps row k)).length + 1 : Int) = (readyF ps (planF ps row k)).length) : planF ps row (k + 1) = planF ps row k ++ [none] := by
  rw [planF, if_pos h]
theorem planF_s2 {ps : List (List Int)} {row : List Int} {k : Nat} (h : ¬ rdl row k % ((readyF ps (planF ps row k)).length + 1 : Int) = (readyF ps (planF ps row k)).length) : planF ps row (k + 1) = planF ps row k ++ [some (rdl (readyF ps (planF ps row k)) (rdl row k % ((readyF ps (planF ps row k)).length + 1 : Int)).toNat)] := by
  rw [planF, if_neg h]
/-! ### the drawn projects -/
def prjF (row : List Int) (most room : Int) : Nat → List (List Int)
  | 0 => []
  | k + 1 =>
    let ps := prjF row most room k
    let sp := room - tot ps
    let raw := rdl row (2 + k)
    let sz := if raw % 4 = 3 then raw / 4 % (sp + 1) else if raw / 4 % 5 < sp then raw / 4 % 5 else sp
    ps ++ [if raw % 4 = 2 ∧ 0 < k ∧ ((rdp ps (k - 1)).length : Int) ≤ sp then rdp ps (k - 1) else (List.range sz.toNat).map fun j => rewF (rdl row ((2 + most).toNat + tot ps + j)) (rdl row 1 % 5)]
theorem tot_snoc (ps : List (List Int)) (rs : List Int) : tot (ps ++ [rs]) = tot ps + rs.length := by unfold tot; simp
theorem prjF_len (row : List Int) (most room : Int) : ∀ k, (prjF row most room k).length = k
  | 0 => rfl
  | k + 1 => by unfold prjF; dsimp only; rw [List.length_append, prjF_len row most room k]; rfl
def szF (row : List Int) (room : Int) (k : Nat) (t : Nat) : Int := if rdl row (2 + k) % 4 = 3 then rdl row (2 + k) / 4 % (room - t + 1) else if rdl row (2 + k) / 4 % 5 < room - t then rdl row (2 + k) / 4 % 5 else room - t
theorem szF_ok (row : List Int) {room : Int} (k : Nat) {t : Nat} (h : (t : Int) ≤ room) : 0 ≤ szF row room k t ∧ szF row room k t ≤ room - t := by
  unfold szF
  split
  · have a := Int.emod_nonneg (rdl row (2 + k) / 4) (show room - t + 1 ≠ 0 by omega)
    have b := Int.emod_lt_of_pos (rdl row (2 + k) / 4) (show 0 < room - t + 1 by omega)
    omega
  · split <;> omega
theorem prjF_s1 {row : List Int} {most room : Int} {k : Nat} (h : rdl row (2 + k) % 4 = 2 ∧ 0 < k ∧ ((rdp (prjF row most room k) (k - 1)).length : Int) ≤ room - tot (prjF row most room k)) : prjF row most room (k + 1) = prjF row most room k ++ [rdp (prjF row most room k) (k - 1)] := by
  rw [prjF, if_pos h]
theorem prjF_s2 {row : List Int} {most room : Int} {k : Nat} (h : ¬ (rdl row (2 + k) % 4 = 2 ∧ 0 < k ∧ ((rdp (prjF row most room k) (k - 1)).length : Int) ≤ room - tot (prjF row most room k))) :
    prjF row most room (k + 1) = prjF row most room k ++ [(List.range (szF row room k (tot (prjF row most room k))).toNat).map fun j => rewF (rdl row ((2 + most).toNat + tot (prjF row most room k) + j)) (rdl row 1 % 5)] := by
  rw [prjF, if_neg h]; rfl
theorem prjF_ok (row : List Int) (most : Int) {room : Int} (h : 0 ≤ room) : ∀ k, (tot (prjF row most room k) : Int) ≤ room ∧ ∀ rs ∈ prjF row most room k, ∀ x ∈ rs, -1000000000 ≤ x ∧ x ≤ 1000000000
  | 0 => ⟨h, fun rs m => by unfold prjF at m; cases m⟩
  | k + 1 => by
    obtain ⟨i1, i2⟩ := prjF_ok row most h k
    by_cases z : rdl row (2 + k) % 4 = 2 ∧ 0 < k ∧ ((rdp (prjF row most room k) (k - 1)).length : Int) ≤ room - tot (prjF row most room k)
    · rw [prjF_s1 z, tot_snoc]
      refine ⟨by omega, fun rs m => ?_⟩
      rcases List.mem_append.mp m with m | m
      · exact i2 rs m
      · rw [List.mem_singleton.mp m]
        exact i2 _ (rdp_mem (by rw [prjF_len]; omega))
    · rw [prjF_s2 z, tot_snoc, List.length_map, List.length_range]
      have := szF_ok row k i1
      refine ⟨by omega, fun rs m => ?_⟩
      rcases List.mem_append.mp m with m | m
      · exact i2 rs m
      · rw [List.mem_singleton.mp m]
        intro x hx
        obtain ⟨j, _, rfl⟩ := List.mem_map.mp hx
        exact rewF_ok _ _
theorem prjF_snoc (row : List Int) (most room : Int) (k : Nat) : ∃ p, prjF row most room (k + 1) = prjF row most room k ++ [p] := ⟨_, by rw [prjF]⟩
theorem prjF_new (row : List Int) (most room : Int) (k : Nat) : (prjF row most room (k + 1))[k]? = some (rdp (prjF row most room (k + 1)) k) ∧ tot (prjF row most room (k + 1)) = tot (prjF row most room k) + (rdp (prjF row most room (k + 1)) k).length := by
  have l := prjF_len row most room (k + 1)
  have e := rdp_at (ps := prjF row most room (k + 1)) (j := k) (by omega)
  refine ⟨e, ?_⟩
  obtain ⟨p, hp⟩ := prjF_snoc row most room k
  have l2 := prjF_len row most room k
  rw [hp] at e ⊢
  rw [List.getElem?_append_right (by omega), show k - (prjF row most room k).length = 0 by omega] at e
  rw [← Option.some.inj e, tot_snoc]
def prjsF (row : List Int) (most room : Int) : List (List Int) := prjF row most room (rdl row 0 % (most + 1)).toNat
theorem prjsF_ok (row : List Int) {most room : Int} (m0 : 0 ≤ most) (m1 : most ≤ 10) (h : 0 ≤ room) (h6 : room ≤ 60) : POk (prjsF row most room) ∧ ((prjsF row most room).length : Int) ≤ most ∧ (tot (prjsF row most room) : Int) ≤ room := by
  have a := Int.emod_nonneg (rdl row 0) (show most + 1 ≠ 0 by omega)
  have b := Int.emod_lt_of_pos (rdl row 0) (show 0 < most + 1 by omega)
  obtain ⟨i1, i2⟩ := prjF_ok row most h (rdl row 0 % (most + 1)).toNat
  unfold prjsF
  exact ⟨⟨by rw [prjF_len]; omega, by omega, i2⟩, by rw [prjF_len]; omega, i1⟩
end Tm

namespace Tm
open PySem L2 Tp
/-! ### sums of rationals -/
def sR (f : Nat → Rat) : Nat → Rat
  | 0 => 0
  | n + 1 => sR f n + f n
theorem sR_succ (f : Nat → Rat) (n : Nat) : sR f (n + 1) = sR f n + f n := rfl
theorem sR_congr {f g : Nat → Rat} : ∀ {n : Nat}, (∀ i, i < n → f i = g i) → sR f n = sR g n
  | 0, _ => rfl
  | n + 1, h => by rw [sR_succ, sR_succ, sR_congr fun i hi => h i (by omega), h n (by omega)]
theorem sR_le {f g : Nat → Rat} : ∀ {n : Nat}, (∀ i, i < n → f i ≤ g i) → sR f n ≤ sR g n
  | 0, _ => by exact Rat.le_refl
  | n + 1, h => by
    have a := sR_le (n := n) fun i hi => h i (by omega)
    have b := h n (by omega)
    rw [sR_succ, sR_succ]
    grind
theorem sR_zero {f : Nat → Rat} : ∀ {n : Nat}, (∀ i, i < n → f i = 0) → sR f n = 0
  | 0, _ => rfl
  | n + 1, h => by
    have a := sR_zero (n := n) fun i hi => h i (by omega)
    have b := h n (by omega)
    rw [sR_succ]
    grind
theorem sR_nn {f : Nat → Rat} {n : Nat} (h : ∀ i, i < n → 0 ≤ f i) : 0 ≤ sR f n := by
  have a := sR_le (f := fun _ => 0) (g := f) h
  rw [sR_zero fun _ _ => rfl] at a
  exact a
theorem sR_add (f g : Nat → Rat) : ∀ n : Nat, sR (fun i => f i + g i) n = sR f n + sR g n
  | 0 => by show (0 : Rat) = 0 + 0; grind
  | n + 1 => by rw [sR_succ, sR_succ, sR_succ, sR_add f g n]; grind
theorem sR_sub (f g : Nat → Rat) : ∀ n : Nat, sR (fun i => f i - g i) n = sR f n - sR g n
  | 0 => by show (0 : Rat) = 0 - 0; grind
  | n + 1 => by rw [sR_succ, sR_succ, sR_succ, sR_sub f g n]; grind
theorem sR_mul (c : Rat) (f : Nat → Rat) : ∀ n : Nat, sR (fun i => c * f i) n = c * sR f n
  | 0 => by show (0 : Rat) = c * 0; grind
  | n + 1 => by rw [sR_succ, sR_succ, sR_mul c f n]; grind
theorem sR_const (c : Rat) : ∀ n : Nat, sR (fun _ => c) n = (n : Rat) * c
  | 0 => by show (0 : Rat) = ((0 : Nat) : Rat) * c; grind
  | n + 1 => by rw [sR_succ, sR_const c n]; grind
theorem sR_split (f : Nat → Rat) (p : Nat) : ∀ k : Nat, sR f (p + k) = sR f p + sR (fun t => f (p + t)) k
  | 0 => by show sR f p = sR f p + 0; grind
  | k + 1 => by rw [← Nat.add_assoc, sR_succ, sR_succ, sR_split f p k]; grind
/-- longer sums of terms not below 0 -/
theorem sR_mono {f : Nat → Rat} {m n : Nat} (h : m ≤ n) (hf : ∀ i, m ≤ i → i < n → 0 ≤ f i) : sR f m ≤ sR f n := by
  obtain ⟨k, rfl⟩ := Nat.le.dest h
  rw [sR_split]
  have := sR_nn (f := fun t => f (m + t)) (n := k) fun i hi => hf _ (by omega) (by omega)
  grind
theorem sR_stop {f : Nat → Rat} {m n : Nat} (h : m ≤ n) (hf : ∀ i, m ≤ i → i < n → f i = 0) : sR f n = sR f m := by
  obtain ⟨k, rfl⟩ := Nat.le.dest h
  rw [sR_split, sR_zero (f := fun t => f (m + t)) fun i hi => hf _ (by omega) (by omega)]
  grind
/-- one term moves -/
theorem sR_bump {f g : Nat → Rat} {x : Nat} {d : Rat} : ∀ {n : Nat}, x < n → (∀ j, j < n → j ≠ x → f j ≤ g j) → f x ≤ g x + d → sR f n ≤ sR g n + d
  | 0, h, _, _ => absurd h (by omega)
  | n + 1, h, h1, h2 => by
    rw [sR_succ, sR_succ]
    by_cases q : x = n
    · subst q
      have a := sR_le (f := f) (g := g) (n := x) fun i hi => h1 i (by omega) (by omega)
      grind
    · have a := sR_bump (n := n) (by omega) (fun j hj => h1 j (by omega)) h2
      have b := h1 n (by omega) (by omega)
      grind
theorem sR_bump_eq {f g : Nat → Rat} {x : Nat} {d : Rat} : ∀ {n : Nat}, x < n → (∀ j, j < n → j ≠ x → f j = g j) → f x = g x + d → sR f n = sR g n + d
  | 0, h, _, _ => absurd h (by omega)
  | n + 1, h, h1, h2 => by
    rw [sR_succ, sR_succ]
    by_cases q : x = n
    · subst q
      have a := sR_congr (f := f) (g := g) (n := x) fun i hi => h1 i (by omega) (by omega)
      grind
    · have a := sR_bump_eq (n := n) (by omega) (fun j hj => h1 j (by omega)) h2
      have b := h1 n (by omega) (by omega)
      grind
theorem qpow_succ (q : Rat) (n : Nat) : q ^ (n + 1) = q ^ n * q := Rat.pow_succ ..
theorem qpow_pos {q : Rat} (h : 0 < q) : ∀ n : Nat, 0 < q ^ n
  | 0 => by rw [Rat.pow_zero]; decide
  | n + 1 => by rw [qpow_succ]; exact Rat.mul_pos (qpow_pos h n) h
theorem qpow_add (q : Rat) (m : Nat) : ∀ n : Nat, q ^ (m + n) = q ^ m * q ^ n
  | 0 => by rw [Nat.add_zero, Rat.pow_zero]; grind
  | n + 1 => by rw [← Nat.add_assoc, qpow_succ, qpow_succ, qpow_add q m n]; grind
/-- sums with falling weights -/
theorem abel {q : Rat} (q0 : 0 < q) (q1 : q ≤ 1) {h : Nat → Rat} : ∀ {n : Nat}, (∀ s, s ≤ n → 0 ≤ sR h s) → q ^ n * sR h n ≤ sR (fun t => q ^ t * h t) n
  | 0, _ => by show q ^ 0 * 0 ≤ (0 : Rat); grind
  | n + 1, H => by
    have i := abel q0 q1 (h := h) (n := n) fun s hs => H s (by omega)
    have p := qpow_pos q0 n
    have a := H (n + 1) (Nat.le_refl _)
    rw [sR_succ, qpow_succ]
    rw [sR_succ] at a ⊢
    have e1 : 0 ≤ q ^ n * (sR h n + h n) := Rat.mul_nonneg (Rat.le_of_lt p) a
    have e2 : 0 ≤ q ^ n * (sR h n + h n) * (1 - q) := Rat.mul_nonneg e1 (by grind)
    grind
theorem abel_le {q : Rat} (q0 : 0 < q) (q1 : q ≤ 1) {f g : Nat → Rat} {n : Nat} (H : ∀ s, s ≤ n → sR f s ≤ sR g s) : sR (fun t => q ^ t * f t) n ≤ sR (fun t => q ^ t * g t) n := by
  have a := abel q0 q1 (h := fun t => g t - f t) (n := n) fun s hs => by rw [sR_sub]; have := H s hs; grind
  have e : sR (fun t => q ^ t * (g t - f t)) n = sR (fun t => q ^ t * g t) n - sR (fun t => q ^ t * f t) n := by
    rw [← sR_sub]; exact sR_congr fun i _ => by grind
  have b : 0 ≤ sR (fun t => g t - f t) n := by rw [sR_sub]; have := H n (Nat.le_refl _); grind
  have c : 0 ≤ q ^ n * sR (fun t => g t - f t) n := Rat.mul_nonneg (Rat.le_of_lt (qpow_pos q0 n)) b
  rw [e] at a
  grind
/-! ### the value of a pair of ints -/
def rv (t : Int × Int) : Rat := (t.1 : Rat) / (t.2 : Rat)
theorem cast_pos {x : Int} (h : 0 < x) : (0 : Rat) < (x : Rat) := by exact_mod_cast h
theorem rv_lt {s t : Int × Int} (hs : 0 < s.2) (ht : 0 < t.2) : rv s < rv t ↔ s.1 * t.2 < t.1 * s.2 := by
  have a := cast_pos hs
  have b := cast_pos ht
  unfold rv
  rw [Rat.div_lt_iff a, show (t.1 : Rat) / (t.2 : Rat) * (s.2 : Rat) = ((t.1 : Rat) * (s.2 : Rat)) / (t.2 : Rat) by grind, Rat.lt_div_iff b]
  exact_mod_cast Iff.rfl
theorem rv_le {s t : Int × Int} (hs : 0 < s.2) (ht : 0 < t.2) : rv s ≤ rv t ↔ s.1 * t.2 ≤ t.1 * s.2 := by
  rw [← Rat.not_lt, rv_lt ht hs, Int.not_lt]
theorem rv_eq {s t : Int × Int} (hs : 0 < s.2) (ht : 0 < t.2) : rv s = rv t ↔ s.1 * t.2 = t.1 * s.2 := by
  constructor
  · intro h
    have a := (rv_le hs ht).mp (by rw [h]; exact Rat.le_refl)
    have b := (rv_le ht hs).mp (by rw [h]; exact Rat.le_refl)
    omega
  · intro h
    have a := (rv_le hs ht).mpr (by omega)
    have b := (rv_le ht hs).mpr (by omega)
    grind
theorem rv_mkR {n d : Int} (h : 0 < d) : rv (mkR n d) = rv (n, d) := by
  obtain ⟨s1, s2, s3⟩ := mkR_spec (n := n) (d := d) (by omega)
  exact (rv_eq (by omega) h).mpr s3
theorem rv_inj {s t : Int × Int} (hs : isR s = true) (ht : isR t = true) (e : rv s = rv t) : s = t := by
  have a := (isR_iff.mp hs).1
  have b := (isR_iff.mp ht).1
  exact ratio_eq hs ht ((rv_eq (by omega) (by omega)).mp e)
theorem mkR_self {t : Int × Int} (h : isR t = true) : mkR t.1 t.2 = t := by
  have a := (isR_iff.mp h).1
  exact rv_inj (isR_mkR (by omega)) h (rv_mkR (by omega))
end Tm

namespace Tm
open PySem L2 Tp
/-! ### what a plan's days are worth -/
def cs (pl : Pl) (s j : Nat) : Nat := cntP (pl.take s) j
theorem cs_le (pl : Pl) (s j : Nat) : cs pl s j ≤ s := by
  unfold cs cntP
  refine Nat.le_trans List.count_le_length ?_
  rw [List.length_take]; omega
theorem cs_zero (pl : Pl) (j : Nat) : cs pl 0 j = 0 := by have := cs_le pl 0 j; omega
theorem cs_none {pl : Pl} {s : Nat} (h : pl[s]? = some none) (j : Nat) : cs pl (s + 1) j = cs pl s j := by unfold cs; rw [take_snoc h, cntP_snoc_none]
theorem cs_some {pl : Pl} {s : Nat} {x : Int} (h : pl[s]? = some (some x)) (x0 : 0 ≤ x) (j : Nat) : cs pl (s + 1) j = cs pl s j + if j = x.toNat then 1 else 0 := by
  unfold cs; rw [take_snoc h, cntP_snoc]
  by_cases q : x = (j : Int)
  · rw [if_pos q, if_pos (by omega)]
  · rw [if_neg q, if_neg (by omega)]
theorem cs_over {pl : Pl} {s : Nat} (h : pl.length ≤ s) (j : Nat) : cs pl s j = cntP pl j := by unfold cs; rw [List.take_of_length_le h]
/-- plans by the numbers of steps -/
def VL (n : Nat) (len : Nat → Nat) (pl : Pl) : Prop := ∀ i x, pl[i]? = some (some x) → 0 ≤ x ∧ x.toNat < n ∧ cs pl i x.toNat < len x.toNat
def lenP (ps : List (List Int)) (j : Nat) : Nat := (rdp ps j).length
theorem VP.vl {ps : List (List Int)} {pl : Pl} (h : VP ps pl) : VL ps.length (lenP ps) pl := fun i x e => by
  obtain ⟨a, rs, b, c⟩ := h i x e
  have l := (List.getElem?_eq_some_iff.mp b).1
  have e2 := rdp_at l
  rw [b] at e2
  cases Option.some.inj e2
  exact ⟨a, l, c⟩
theorem VL.vp {ps : List (List Int)} {pl : Pl} (h : VL ps.length (lenP ps) pl) : VP ps pl := fun i x e => by
  obtain ⟨a, b, c⟩ := h i x e
  exact ⟨a, _, rdp_at b, c⟩
theorem VL.cs_le {n : Nat} {len : Nat → Nat} {pl : Pl} (h : VL n len pl) (j : Nat) : ∀ s, cs pl s j ≤ len j
  | 0 => by rw [cs_zero]; omega
  | s + 1 => by
    have i := VL.cs_le h j s
    cases e : pl[s]? with
    | none =>
      have l : pl.length ≤ s := List.getElem?_eq_none_iff.mp e
      rw [cs_over (by omega), ← cs_over l]; exact i
    | some o =>
      cases o with
      | none => rw [cs_none e]; exact i
      | some x =>
        obtain ⟨a, b, c⟩ := h s x e
        rw [cs_some e a]
        split
        · subst j; omega
        · omega
section
variable (q : Rat) (val : Nat → Nat → Rat) (pl : Pl)
def trm (t : Nat) : Rat := match pl[t]? with
  | some (some x) => q ^ t * val x.toNat (cs pl t x.toNat)
  | _ => 0
def dsum (s : Nat) : Rat := sR (trm q val pl) s
end
section
variable {q : Rat} {val : Nat → Nat → Rat} {pl : Pl}
theorem trm_none {t : Nat} (h : pl[t]? = some none) : trm q val pl t = 0 := by unfold trm; rw [h]
theorem trm_over {t : Nat} (h : pl.length ≤ t) : trm q val pl t = 0 := by unfold trm; rw [List.getElem?_eq_none h]
theorem trm_some {t : Nat} {x : Int} (h : pl[t]? = some (some x)) : trm q val pl t = q ^ t * val x.toNat (cs pl t x.toNat) := by unfold trm; rw [h]
theorem trm_cases (t : Nat) : (∃ x, pl[t]? = some (some x)) ∨ ∀ (q : Rat) (val : Nat → Nat → Rat), trm q val pl t = 0 := by
  cases e : pl[t]? with
  | none => exact .inr fun q val => by unfold trm; rw [e]
  | some o =>
    cases o with
    | none => exact .inr fun q val => trm_none e
    | some x => exact .inl ⟨x, rfl⟩
theorem dsum_add (f g : Nat → Nat → Rat) (s : Nat) : dsum q (fun j k => f j k + g j k) pl s = dsum q f pl s + dsum q g pl s := by
  unfold dsum
  rw [← sR_add]
  refine sR_congr fun t _ => ?_
  rcases trm_cases (pl := pl) t with ⟨x, e⟩ | h
  · rw [trm_some e, trm_some e, trm_some e]; grind
  · rw [h, h, h]; grind
theorem dsum_mul (c : Rat) (f : Nat → Nat → Rat) (s : Nat) : dsum q (fun j k => c * f j k) pl s = c * dsum q f pl s := by
  unfold dsum
  rw [← sR_mul]
  refine sR_congr fun t _ => ?_
  rcases trm_cases (pl := pl) t with ⟨x, e⟩ | h
  · rw [trm_some e, trm_some e]; grind
  · rw [h, h]; grind
theorem dsum_sub (f g : Nat → Nat → Rat) (s : Nat) : dsum q (fun j k => f j k - g j k) pl s = dsum q f pl s - dsum q g pl s := by
  have a := dsum_add (q := q) (pl := pl) (fun j k => f j k - g j k) g s
  have e : (fun j k => f j k - g j k + g j k) = f := by funext j k; grind
  rw [e] at a
  grind
variable {n : Nat} {len : Nat → Nat}
theorem dsum_le {f g : Nat → Nat → Rat} (q0 : 0 < q) (h : VL n len pl) (H : ∀ j k, j < n → k < len j → f j k ≤ g j k) (s : Nat) : dsum q f pl s ≤ dsum q g pl s := sR_le fun t _ => by
  rcases trm_cases (pl := pl) t with ⟨x, e⟩ | z
  · obtain ⟨a, b, c⟩ := h t x e
    rw [trm_some e, trm_some e]
    exact Rat.mul_le_mul_of_nonneg_left (H _ _ b c) (Rat.le_of_lt (qpow_pos q0 t))
  · rw [z, z]; exact Rat.le_refl
theorem dsum_congr {f g : Nat → Nat → Rat} (h : VL n len pl) (H : ∀ j k, j < n → k < len j → f j k = g j k) (s : Nat) : dsum q f pl s = dsum q g pl s := sR_congr fun t _ => by
  rcases trm_cases (pl := pl) t with ⟨x, e⟩ | z
  · obtain ⟨a, b, c⟩ := h t x e
    rw [trm_some e, trm_some e, H _ _ b c]
  · rw [z, z]
/-- project by project -/
theorem psum (h : VL n len pl) (φ : Nat → Nat → Rat) : ∀ s, dsum 1 φ pl s = sR (fun j => sR (φ j) (cs pl s j)) n
  | 0 => by
    show (0 : Rat) = _
    rw [sR_zero]
    intro j _
    rw [cs_zero]; rfl
  | s + 1 => by
    have i := psum h φ s
    unfold dsum at i ⊢
    rw [sR_succ, i]
    have one : (1 : Rat) ^ s = 1 := by
      have : ∀ s : Nat, (1 : Rat) ^ s = 1 := fun s => by
        induction s with
        | zero => exact Rat.pow_zero _
        | succ s ih => rw [qpow_succ, ih]; grind
      exact this s
    cases e : pl[s]? with
    | none =>
      have l : pl.length ≤ s := List.getElem?_eq_none_iff.mp e
      rw [trm_over l, sR_congr (f := fun j => sR (φ j) (cs pl (s + 1) j)) (g := fun j => sR (φ j) (cs pl s j)) fun j _ => by rw [cs_over (by omega), cs_over l]]
      grind
    | some o =>
      cases o with
      | none =>
        rw [trm_none e, sR_congr (f := fun j => sR (φ j) (cs pl (s + 1) j)) (g := fun j => sR (φ j) (cs pl s j)) fun j _ => by rw [cs_none e]]
        grind
      | some x =>
        obtain ⟨a, b, c⟩ := h s x e
        rw [trm_some e, one, sR_bump_eq (f := fun j => sR (φ j) (cs pl (s + 1) j)) (g := fun j => sR (φ j) (cs pl s j)) (d := φ x.toNat (cs pl s x.toNat)) b (fun j _ hj => by rw [cs_some e a, if_neg hj]; rfl) (by rw [cs_some e a, if_pos rfl]; rfl)]
        grind
/-- the part of T that the days behind have -/
def pot (q : Rat) (T : Nat → Nat → Rat) (pl : Pl) (n s : Nat) : Rat := sR (fun j => q ^ (s - cs pl s j) * T j (cs pl s j)) n
theorem pot_zero {T : Nat → Nat → Rat} (T0 : ∀ j, T j 0 = 0) : pot q T pl n 0 = 0 := sR_zero fun j _ => by rw [cs_zero, T0]; grind
theorem pow_up {s c : Nat} (h : c ≤ s) : q ^ (s + 1 - c) = q ^ (s - c) * q := by rw [show s + 1 - c = s - c + 1 by omega, qpow_succ]
theorem pot_step {T : Nat → Nat → Rat} (q0 : 0 < q) (q1 : q ≤ 1) (Ts : ∀ j k, T j (k + 1) = T j k + q ^ k * val j k) (h : VL n len pl) (hT : ∀ j k, j < n → k ≤ len j → 0 ≤ T j k) (s : Nat) : pot q T pl n (s + 1) ≤ pot q T pl n s + trm q val pl s := by
  have fall : ∀ j, j < n → cs pl (s + 1) j = cs pl s j → q ^ (s + 1 - cs pl (s + 1) j) * T j (cs pl (s + 1) j) ≤ q ^ (s - cs pl s j) * T j (cs pl s j) := fun j hj e => by
    rw [e, pow_up (cs_le _ _ _)]
    have a := hT j _ hj (h.cs_le j s)
    have p := qpow_pos q0 (s - cs pl s j)
    have m : 0 ≤ q ^ (s - cs pl s j) * T j (cs pl s j) := Rat.mul_nonneg (Rat.le_of_lt p) a
    have m2 : 0 ≤ q ^ (s - cs pl s j) * T j (cs pl s j) * (1 - q) := Rat.mul_nonneg m (by grind)
    grind
  cases e : pl[s]? with
  | none =>
    have l : pl.length ≤ s := List.getElem?_eq_none_iff.mp e
    rw [trm_over l]
    have := sR_le (f := fun j => q ^ (s + 1 - cs pl (s + 1) j) * T j (cs pl (s + 1) j)) (g := fun j => q ^ (s - cs pl s j) * T j (cs pl s j)) (n := n) fun j hj => fall j hj (by rw [cs_over (by omega), cs_over l])
    unfold pot; grind
  | some o =>
    cases o with
    | none =>
      rw [trm_none e]
      have := sR_le (f := fun j => q ^ (s + 1 - cs pl (s + 1) j) * T j (cs pl (s + 1) j)) (g := fun j => q ^ (s - cs pl s j) * T j (cs pl s j)) (n := n) fun j hj => fall j hj (cs_none e j)
      unfold pot; grind
    | some x =>
      obtain ⟨a, b, c⟩ := h s x e
      rw [trm_some e]
      refine sR_bump b (fun j hj hn => fall j hj (by rw [cs_some e a, if_neg hn]; rfl)) ?_
      have k := cs_le pl s x.toNat
      rw [cs_some e a, if_pos rfl, show s + 1 - (cs pl s x.toNat + 1) = s - cs pl s x.toNat by omega, Ts]
      have e2 : q ^ s = q ^ (s - cs pl s x.toNat) * q ^ cs pl s x.toNat := by rw [← qpow_add]; congr 1; omega
      rw [e2]
      grind
theorem pot_le {T : Nat → Nat → Rat} (q0 : 0 < q) (q1 : q ≤ 1) (T0 : ∀ j, T j 0 = 0) (Ts : ∀ j k, T j (k + 1) = T j k + q ^ k * val j k) (h : VL n len pl) (hT : ∀ j k, j < n → k ≤ len j → 0 ≤ T j k) : ∀ s, pot q T pl n s ≤ dsum q val pl s
  | 0 => by rw [pot_zero T0]; exact Rat.le_refl
  | s + 1 => by
    have i := pot_le q0 q1 T0 Ts h hT s
    have j := pot_step q0 q1 Ts h hT s
    unfold dsum at i ⊢
    rw [sR_succ]; grind
/-- waits never help -/
theorem waits {T : Nat → Nat → Rat} (q0 : 0 < q) (q1 : q ≤ 1) (T0 : ∀ j, T j 0 = 0) (Ts : ∀ j k, T j (k + 1) = T j k + q ^ k * val j k) (h : VL n len pl) (hT : ∀ j k, j < n → k ≤ len j → 0 ≤ T j k) (s : Nat) : 0 ≤ dsum q val pl s := by
  have a := pot_le q0 q1 T0 Ts h hT s
  have b : 0 ≤ pot q T pl n s := sR_nn fun j hj => Rat.mul_nonneg (Rat.le_of_lt (qpow_pos q0 _)) (hT j _ hj (h.cs_le j s))
  grind
/-- no wait where T is not 0: nothing is lost -/
theorem pot_eq {T : Nat → Nat → Rat} (T0 : ∀ j, T j 0 = 0) (Ts : ∀ j k, T j (k + 1) = T j k + q ^ k * val j k) (h : VL n len pl) {m : Nat} (hm : m ≤ pl.length) (hz : ∀ s j, s < m → j < n → pl[s]? ≠ some (some (j : Int)) → T j (cs pl s j) = 0) : ∀ s, s ≤ m → pot q T pl n s = dsum q val pl s
  | 0, _ => by rw [pot_zero T0]; rfl
  | s + 1, hs => by
    have i := pot_eq T0 Ts h hm hz s (by omega)
    unfold dsum at i ⊢
    rw [sR_succ, ← i]
    have same : ∀ j, j < n → cs pl (s + 1) j = cs pl s j → T j (cs pl s j) = 0 → q ^ (s + 1 - cs pl (s + 1) j) * T j (cs pl (s + 1) j) = q ^ (s - cs pl s j) * T j (cs pl s j) := fun j hj e z => by
      rw [e, z]; grind
    obtain ⟨o, e⟩ : ∃ o, pl[s]? = some o := ⟨_, List.getElem?_eq_getElem (by omega)⟩
    cases o with
    | none =>
      rw [trm_none e]
      have := sR_congr (f := fun j => q ^ (s + 1 - cs pl (s + 1) j) * T j (cs pl (s + 1) j)) (g := fun j => q ^ (s - cs pl s j) * T j (cs pl s j)) (n := n) fun j hj => same j hj (cs_none e j) (hz s j (by omega) hj (by rw [e]; simp))
      unfold pot; grind
    | some x =>
      obtain ⟨a, b, c⟩ := h s x e
      rw [trm_some e]
      refine sR_bump_eq b (fun j hj hn => same j hj (by rw [cs_some e a, if_neg hn]; rfl) (hz s j (by omega) hj (by rw [e]; simp; omega))) ?_
      have k := cs_le pl s x.toNat
      rw [cs_some e a, if_pos rfl, show s + 1 - (cs pl s x.toNat + 1) = s - cs pl s x.toNat by omega, Ts]
      have e2 : q ^ s = q ^ (s - cs pl s x.toNat) * q ^ cs pl s x.toNat := by rw [← qpow_add]; congr 1; omega
      rw [e2]
      grind
end
end Tm

namespace Tm
open PySem L2 Tp
/-! ### the merged charges -/
abbrev Chs := List (List (Int × Int))
def rcl (css : Chs) (j : Nat) : List (Int × Int) := css.getD j []
theorem rcl_at {css : Chs} {j : Nat} (h : j < css.length) : css[j]? = some (rcl css j) := by unfold rcl; rw [List.getD_eq_getElem?_getD, List.getElem?_eq_getElem h]; rfl
def lenC (css : Chs) (j : Nat) : Nat := (rcl css j).length
def chC (css : Chs) (j k : Nat) : Int × Int := rdc (rcl css j) k
abbrev Mg := List (Int × (Int × Int))
def mpl (m : Mg) : Pl := m.map fun e => some e.1
theorem mpl_len (m : Mg) : (mpl m).length = m.length := by unfold mpl; rw [List.length_map]
theorem mpl_at {m : Mg} {i : Nat} {x : Int} {c : Int × Int} (h : m[i]? = some (x, c)) : (mpl m)[i]? = some (some x) := by unfold mpl; rw [List.getElem?_map, h]; rfl
theorem mpl_of {m : Mg} {i : Nat} {o : Option Int} (h : (mpl m)[i]? = some o) : ∃ x c, o = some x ∧ m[i]? = some (x, c) := by
  unfold mpl at h
  rw [List.getElem?_map] at h
  cases e : m[i]? with
  | none => rw [e] at h; cases h
  | some p => rw [e] at h; cases h; exact ⟨p.1, p.2, rfl, rfl⟩
theorem cs_app {m m' : Mg} {i : Nat} (h : i ≤ m.length) (j : Nat) : cs (mpl (m ++ m')) i j = cs (mpl m) i j := by
  unfold cs mpl
  rw [List.map_append, List.take_append_of_le_length (by rw [List.length_map]; exact h)]
structure Mrg0 (css : Chs) (m : Mg) : Prop where
  vl : VL css.length (lenC css) (mpl m)
  ch : ∀ i x c, m[i]? = some (x, c) → c = chC css x.toNat (cs (mpl m) i x.toNat)
  top : ∀ i x c, m[i]? = some (x, c) → ∀ j, j < css.length → cs (mpl m) i j < lenC css j → rv (chC css j (cs (mpl m) i j)) ≤ rv c ∧ (j < x.toNat → rv (chC css j (cs (mpl m) i j)) < rv c)
structure Mrg (css : Chs) (m : Mg) : Prop extends Mrg0 css m where
  full : ∀ j, j < css.length → cs (mpl m) m.length j = lenC css j
/-- the first of the greatest heads -/
def bstF (css : Chs) (pos : Nat → Nat) : Nat → Option Nat
  | 0 => none
  | j + 1 => if pos j < lenC css j then (match bstF css pos j with
      | none => some j
      | some b => if 0 < cmpR (chC css j (pos j)) (chC css b (pos b)) then some j else some b) else bstF css pos j
theorem cmpR_pos {a b : Int × Int} (ha : 0 < a.2) (hb : 0 < b.2) : 0 < cmpR a b ↔ rv b < rv a := by
  rw [rv_lt hb ha]
  unfold cmpR
  split
  · simp; omega
  · split <;> simp <;> omega
theorem bst_ok {css : Chs} {pos : Nat → Nat} (hq : ∀ j k, 0 < (chC css j k).2) : ∀ n, match bstF css pos n with
    | none => ∀ i, i < n → ¬ pos i < lenC css i
    | some b => b < n ∧ pos b < lenC css b ∧ ∀ i, i < n → pos i < lenC css i → rv (chC css i (pos i)) ≤ rv (chC css b (pos b)) ∧ (i < b → rv (chC css i (pos i)) < rv (chC css b (pos b)))
  | 0 => fun i h => absurd h (by omega)
  | n + 1 => by
    have ih := bst_ok (pos := pos) hq n
    unfold bstF
    by_cases z : pos n < lenC css n
    · rw [if_pos z]
      cases e : bstF css pos n with
      | none =>
        rw [e] at ih
        refine ⟨by omega, z, fun i hi hp => ?_⟩
        by_cases k : i = n
        · subst k; exact ⟨Rat.le_refl, fun h => absurd h (by omega)⟩
        · exact absurd hp (ih i (by omega))
      | some b =>
        rw [e] at ih
        obtain ⟨b1, b2, b3⟩ := ih
        dsimp only
        by_cases y : 0 < cmpR (chC css n (pos n)) (chC css b (pos b))
        · rw [if_pos y]
          have lt := (cmpR_pos (hq _ _) (hq _ _)).mp y
          refine ⟨by omega, z, fun i hi hp => ?_⟩
          by_cases k : i = n
          · subst k; exact ⟨Rat.le_refl, fun h => absurd h (by omega)⟩
          · have := (b3 i (by omega) hp).1
            exact ⟨by grind, fun _ => by grind⟩
        · rw [if_neg y]
          have nl : ¬ rv (chC css b (pos b)) < rv (chC css n (pos n)) := fun h => y ((cmpR_pos (hq _ _) (hq _ _)).mpr h)
          refine ⟨by omega, b2, fun i hi hp => ?_⟩
          by_cases k : i = n
          · subst k; exact ⟨by grind, fun h => absurd h (by omega)⟩
          · exact b3 i (by omega) hp
    · rw [if_neg z]
      cases e : bstF css pos n with
      | none =>
        rw [e] at ih
        intro i hi
        by_cases k : i = n
        · subst k; exact z
        · exact ih i (by omega)
      | some b =>
        rw [e] at ih
        obtain ⟨b1, b2, b3⟩ := ih
        refine ⟨by omega, b2, fun i hi hp => ?_⟩
        by_cases k : i = n
        · subst k; exact absurd hp z
        · exact b3 i (by omega) hp
def mgF (css : Chs) : Nat → Mg
  | 0 => []
  | k + 1 => mgF css k ++ [match bstF css (cntP (mpl (mgF css k))) css.length with
    | some b => ((b : Int), chC css b (cntP (mpl (mgF css k)) b))
    | none => (0, (0, 1))]
theorem mgF_len (css : Chs) : ∀ k, (mgF css k).length = k
  | 0 => rfl
  | k + 1 => by unfold mgF; rw [List.length_append, mgF_len css k]; rfl
theorem Mrg0.snoc {css : Chs} {m : Mg} (h : Mrg0 css m) (hq : ∀ j k, 0 < (chC css j k).2) {b : Nat} (e : bstF css (cntP (mpl m)) css.length = some b) : Mrg0 css (m ++ [((b : Int), chC css b (cntP (mpl m) b))]) := by
  have ok := bst_ok (css := css) (pos := cntP (mpl m)) hq css.length
  rw [e] at ok
  obtain ⟨b1, b2, b3⟩ := ok
  have last : ∀ j, cs (mpl (m ++ [((b : Int), chC css b (cntP (mpl m) b))])) m.length j = cntP (mpl m) j := fun j => by
    rw [cs_app (Nat.le_refl _), cs_over (by rw [mpl_len]; omega)]
  have split : ∀ {i : Nat} {x : Int} {c : Int × Int}, (m ++ [((b : Int), chC css b (cntP (mpl m) b))])[i]? = some (x, c) → (i < m.length ∧ m[i]? = some (x, c)) ∨ (i = m.length ∧ x = (b : Int) ∧ c = chC css b (cntP (mpl m) b)) := fun {i x c} z => by
    by_cases hi : i < m.length
    · rw [List.getElem?_append_left hi] at z; exact .inl ⟨hi, z⟩
    · rw [List.getElem?_append_right (by omega)] at z
      cases k : i - m.length with
      | zero => rw [k] at z; cases z; exact .inr ⟨by omega, rfl, rfl⟩
      | succ => rw [k] at z; cases z
  refine ⟨fun i x z => ?_, fun i x c z => ?_, fun i x c z j hj hc => ?_⟩
  · obtain ⟨x', c, ex, z⟩ := mpl_of z
    cases ex
    rcases split z with ⟨hi, z⟩ | ⟨rfl, rfl, rfl⟩
    · rw [cs_app (by omega)]; exact h.vl i x (mpl_at z)
    · rw [last, Int.toNat_natCast]; exact ⟨by omega, b1, b2⟩
  · rcases split z with ⟨hi, z⟩ | ⟨rfl, rfl, rfl⟩
    · rw [cs_app (by omega)]; exact h.ch i x c z
    · rw [last, Int.toNat_natCast]
  · rcases split z with ⟨hi, z⟩ | ⟨rfl, rfl, rfl⟩
    · rw [cs_app (by omega)] at hc ⊢; exact h.top i x c z j hj hc
    · rw [last] at hc ⊢; rw [Int.toNat_natCast]; exact b3 j hj hc
theorem sR_first (f : Nat → Rat) : ∀ n : Nat, sR f (n + 1) = f 0 + sR (fun i => f (i + 1)) n
  | 0 => by show (0 : Rat) + f 0 = f 0 + 0; grind
  | n + 1 => by rw [sR_succ, sR_first f n, sR_succ]; grind
theorem sum_getD {α : Type} (g : α → Nat) (d : α) : ∀ l : List α, (((l.map g).sum : Nat) : Rat) = sR (fun j => (g (l.getD j d) : Rat)) l.length
  | [] => rfl
  | a :: l => by
    have ih := sum_getD g d l
    rw [List.map_cons, List.sum_cons, List.length_cons, sR_first]
    have e : ((g a + (l.map g).sum : Nat) : Rat) = (g a : Rat) + ((l.map g).sum : Nat) := by exact_mod_cast rfl
    rw [e, ih]
    rfl
def totC (css : Chs) : Nat := (css.map List.length).sum
theorem totC_eq (css : Chs) : (totC css : Rat) = sR (fun j => (lenC css j : Rat)) css.length := sum_getD List.length [] css
theorem sR_each {f : Nat → Rat} : ∀ {n : Nat}, (∀ i, i < n → 0 ≤ f i) → sR f n = 0 → ∀ i, i < n → f i = 0
  | 0, _, _, _, h => absurd h (by omega)
  | n + 1, h, e, i, hi => by
    rw [sR_succ] at e
    have a := sR_nn (f := f) (n := n) fun i hi => h i (by omega)
    have b := h n (by omega)
    by_cases k : i = n
    · subst k; grind
    · exact sR_each (n := n) (fun i hi => h i (by omega)) (by grind) i (by omega)
theorem pow_one (s : Nat) : (1 : Rat) ^ s = 1 := by
  induction s with
  | zero => exact Rat.pow_zero _
  | succ s ih => rw [qpow_succ, ih]; grind
/-- every day a step: as many steps as days -/
theorem sum_cs {n : Nat} {len : Nat → Nat} {m : Mg} (h : VL n len (mpl m)) {s : Nat} (hs : s ≤ m.length) : sR (fun j => (cs (mpl m) s j : Rat)) n = (s : Rat) := by
  have p := psum h (fun _ _ => 1) s
  have e : dsum 1 (fun _ _ => 1) (mpl m) s = (s : Rat) := by
    have c := sR_const 1 s
    rw [show (s : Rat) * 1 = (s : Rat) by grind] at c
    rw [← c]
    refine sR_congr fun t ht => ?_
    obtain ⟨x, hx⟩ : ∃ x, m[t]? = some x := ⟨_, List.getElem?_eq_getElem (by omega)⟩
    rw [trm_some (mpl_at (x := x.1) (c := x.2) hx), pow_one]; grind
  rw [← e, p]
  refine sR_congr fun j _ => ?_
  rw [sR_const]; grind
theorem avail {css : Chs} {m : Mg} (h : Mrg0 css m) (hl : m.length < totC css) : ∃ j, j < css.length ∧ cntP (mpl m) j < lenC css j := by
  refine Classical.byContradiction fun no => ?_
  have a := sum_cs h.vl (Nat.le_refl m.length)
  have b := totC_eq css
  have c : sR (fun j => (lenC css j : Rat)) css.length ≤ sR (fun j => (cs (mpl m) m.length j : Rat)) css.length := sR_le fun j hj => by
    have : ¬ cntP (mpl m) j < lenC css j := fun z => no ⟨j, hj, z⟩
    rw [cs_over (by rw [mpl_len]; omega)]
    have : lenC css j ≤ cntP (mpl m) j := by omega
    exact_mod_cast this
  rw [a, ← b] at c
  have : (totC css : Rat) ≤ (m.length : Rat) := c
  have : totC css ≤ m.length := by exact_mod_cast this
  omega
theorem mgF_step {css : Chs} (hq : ∀ j k, 0 < (chC css j k).2) {k : Nat} (h : Mrg0 css (mgF css k)) (hk : k < totC css) : ∃ b, bstF css (cntP (mpl (mgF css k))) css.length = some b ∧ b < css.length ∧ cntP (mpl (mgF css k)) b < lenC css b ∧ mgF css (k + 1) = mgF css k ++ [((b : Int), chC css b (cntP (mpl (mgF css k)) b))] := by
  have ok := bst_ok (css := css) (pos := cntP (mpl (mgF css k))) hq css.length
  cases e : bstF css (cntP (mpl (mgF css k))) css.length with
  | none =>
    rw [e] at ok
    obtain ⟨j, hj, hc⟩ := avail h (by rw [mgF_len]; exact hk)
    exact absurd hc (ok j hj)
  | some b =>
    rw [e] at ok
    exact ⟨b, rfl, ok.1, ok.2.1, by rw [mgF, e]⟩
theorem mgF_ok {css : Chs} (hq : ∀ j k, 0 < (chC css j k).2) : ∀ k, k ≤ totC css → Mrg0 css (mgF css k)
  | 0, _ => ⟨fun i x z => by unfold mgF mpl at z; simp at z, fun i x c z => by unfold mgF at z; simp at z, fun i x c z => by unfold mgF at z; simp at z⟩
  | k + 1, hk => by
    have ih := mgF_ok hq k (by omega)
    obtain ⟨b, e, b1, b2, b3⟩ := mgF_step hq ih (by omega)
    rw [b3]
    exact ih.snoc hq e
theorem mg_full {css : Chs} (hq : ∀ j k, 0 < (chC css j k).2) : Mrg css (mgF css (totC css)) := by
  have h := mgF_ok hq (totC css) (Nat.le_refl _)
  refine ⟨h, fun j hj => ?_⟩
  have a := sum_cs h.vl (s := (mgF css (totC css)).length) (Nat.le_refl _)
  rw [mgF_len] at a ⊢
  have b := totC_eq css
  have c := sR_each (f := fun j => (lenC css j : Rat) - (cs (mpl (mgF css (totC css))) (totC css) j : Rat)) (n := css.length) (fun i hi => by
    have := h.vl.cs_le i (totC css)
    have : (cs (mpl (mgF css (totC css))) (totC css) i : Rat) ≤ (lenC css i : Rat) := by exact_mod_cast this
    grind) (by rw [sR_sub, a, ← b]; grind) j hj
  have : (lenC css j : Rat) = (cs (mpl (mgF css (totC css))) (totC css) j : Rat) := by grind
  exact_mod_cast this.symm
/-- lists that may be merged -/
def MOk (css : Chs) : Prop := css.length ≤ 1000 ∧ totC css ≤ 1000 ∧ ∀ j k, 0 < (chC css j k).2 ∧ Bd 100000 (chC css j k).1 ∧ Bd 100000 (chC css j k).2
theorem totC_int (css : Chs) : (css.map fun r => (r.length : Int)).sum = (totC css : Int) := by
  unfold totC
  induction css with
  | nil => rfl
  | cons a t ih => rw [List.map_cons, List.sum_cons, List.map_cons, List.sum_cons, ih]; omega
theorem tkF_mg (css : Chs) (m : Mg) {b : Nat} (hb : b < css.length) (c : Int × Int) : (tkF css.length (mpl m)).set b ((cntP (mpl m) b : Int) + 1) = tkF css.length (mpl (m ++ [((b : Int), c)])) := by
  have e : mpl (m ++ [((b : Int), c)]) = mpl m ++ [some (b : Int)] := by unfold mpl; rw [List.map_append]; rfl
  rw [e, ← tkF_snoc (x := (b : Int)) (by omega) (by rw [Int.toNat_natCast]; exact hb), Int.toNat_natCast]
theorem chC_at {css : Chs} {j k : Nat} (h : k < lenC css j) : atI (rcl css j) (k : Int) = some (chC css j k) := rdc_at h
theorem bst_s0 {css : Chs} {pos : Nat → Nat} {j : Nat} (h : ¬ pos j < lenC css j) : bstF css pos (j + 1) = bstF css pos j := by rw [bstF, if_neg h]
theorem bst_s1 {css : Chs} {pos : Nat → Nat} {j : Nat} (h : pos j < lenC css j) (e : bstF css pos j = none) : bstF css pos (j + 1) = some j := by rw [bstF, if_pos h, e]
theorem bst_s2 {css : Chs} {pos : Nat → Nat} {j b : Nat} (h : pos j < lenC css j) (e : bstF css pos j = some b) (g : 0 < cmpR (chC css j (pos j)) (chC css b (pos b))) : bstF css pos (j + 1) = some j := by rw [bstF, if_pos h, e]; exact if_pos g
theorem bst_s3 {css : Chs} {pos : Nat → Nat} {j b : Nat} (h : pos j < lenC css j) (e : bstF css pos j = some b) (g : ¬ 0 < cmpR (chC css j (pos j)) (chC css b (pos b))) : bstF css pos (j + 1) = some b := by rw [bstF, if_pos h, e]; exact if_neg g
/-! ### in falling order -/
/-- charges that never rise -/
def Fal (css : Chs) : Prop := ∀ j k, j < css.length → k + 1 < lenC css j → rv (chC css j (k + 1)) ≤ rv (chC css j k)
def gM (m : Mg) (i : Nat) : Int × Int := (m.getD i (0, (0, 1))).2
def xM (m : Mg) (i : Nat) : Nat := (m.getD i (0, (0, 1))).1.toNat
theorem m_at {m : Mg} {i : Nat} (h : i < m.length) : ∃ x : Int, m[i]? = some (x, gM m i) ∧ xM m i = x.toNat := by
  refine ⟨(m.getD i (0, (0, 1))).1, ?_, rfl⟩
  unfold gM
  rw [List.getD_eq_getElem?_getD, List.getElem?_eq_getElem h]; rfl
theorem Mrg0.fall {css : Chs} {m : Mg} (h : Mrg0 css m) (hf : Fal css) {i : Nat} (hi : i + 1 < m.length) : rv (gM m (i + 1)) ≤ rv (gM m i) ∧ (rv (gM m (i + 1)) = rv (gM m i) → xM m i ≤ xM m (i + 1)) := by
  obtain ⟨x, hx, ex⟩ := m_at (m := m) (i := i) (by omega)
  obtain ⟨y, hy, ey⟩ := m_at (m := m) (i := i + 1) hi
  obtain ⟨x0, x1, x2⟩ := h.vl i x (mpl_at hx)
  obtain ⟨y0, y1, y2⟩ := h.vl (i + 1) y (mpl_at hy)
  have cy := h.ch _ _ _ hy
  have cx := h.ch _ _ _ hx
  have st := cs_some (mpl_at hx) x0 y.toNat
  rw [ex, ey]
  by_cases z : y.toNat = x.toNat
  · rw [if_pos z] at st
    have a := hf x.toNat (cs (mpl m) i x.toNat) x1 (by rw [z] at y2 st; omega)
    have e : gM m (i + 1) = chC css x.toNat (cs (mpl m) i x.toNat + 1) := by rw [cy, st, z]
    rw [e]
    exact ⟨by rw [cx]; exact a, fun _ => by omega⟩
  · rw [if_neg z] at st
    have t := h.top i x _ hx y.toNat y1 (by omega)
    rw [show cs (mpl m) i y.toNat = cs (mpl m) (i + 1) y.toNat by omega, ← cy] at t
    exact ⟨t.1, fun e => by
      by_cases k : y.toNat < x.toNat
      · have := t.2 k; grind
      · omega⟩
theorem Mrg0.falls {css : Chs} {m : Mg} (h : Mrg0 css m) (hf : Fal css) {i : Nat} : ∀ d, i + d < m.length → rv (gM m (i + d)) ≤ rv (gM m i)
  | 0, _ => Rat.le_refl
  | d + 1, hd => by
    have a := h.falls hf d (i := i) (by omega)
    have b := (h.fall hf (i := i + d) (by omega)).1
    rw [show i + (d + 1) = i + d + 1 by omega]
    grind
end Tm

namespace Tm
open PySem L2 Tp
/-! ### the best plan -/
theorem rle {a b : Rat} (h : a = b) : a ≤ b := h ▸ Rat.le_refl
theorem filter_take {α : Type} (p : α → Bool) : ∀ l : List α, (∀ (i j : Nat) (a b : α), i < j → l[i]? = some a → l[j]? = some b → p b = true → p a = true) → l.filter p = l.take (l.filter p).length
  | [], _ => rfl
  | a :: l, h => by
    have ih := filter_take p l fun i j x y hij hx hy => h (i + 1) (j + 1) x y (by omega) (by simpa using hx) (by simpa using hy)
    cases e : p a with
    | true => rw [List.filter_cons_of_pos e, List.length_cons, List.take_succ_cons, ← ih]
    | false =>
      have z : l.filter p = [] := List.filter_eq_nil_iff.mpr fun b hb hp => by
        obtain ⟨i, hi⟩ := List.getElem?_of_mem hb
        have := h 0 (i + 1) a b (by omega) rfl (by simpa using hi) hp
        rw [e] at this; cases this
      rw [List.filter_cons_of_neg (by simp [e]), z]; rfl
def abv (M : Rat) (e : Int × (Int × Int)) : Bool := decide (M < rv e.2)
def cutK (m : Mg) (M : Rat) : Nat := (m.filter (abv M)).length
theorem gM_of {m : Mg} {i : Nat} {e : Int × (Int × Int)} (h : m[i]? = some e) : gM m i = e.2 := by unfold gM; rw [List.getD_eq_getElem?_getD, h]; rfl
theorem Mrg0.cut {css : Chs} {m : Mg} (h : Mrg0 css m) (hf : Fal css) (M : Rat) : m.filter (abv M) = m.take (cutK m M) := filter_take _ m fun i j a b hij ha hb hp => by
  have lb := (List.getElem?_eq_some_iff.mp hb).1
  have f := h.falls hf (i := i) (j - i) (by omega)
  rw [show i + (j - i) = j by omega, gM_of ha, gM_of hb] at f
  have := of_decide_eq_true hp
  exact decide_eq_true (by grind)
theorem cutK_le (m : Mg) (M : Rat) : cutK m M ≤ m.length := List.length_filter_le _ _
theorem Mrg0.cut_lt {css : Chs} {m : Mg} (h : Mrg0 css m) (hf : Fal css) (M : Rat) {i : Nat} (hi : i < m.length) : i < cutK m M ↔ M < rv (gM m i) := by
  have e := h.cut hf M
  constructor
  · intro k
    have mem : m[i] ∈ m.filter (abv M) := by
      rw [e]
      exact List.mem_take_iff_getElem.mpr ⟨i, by omega, rfl⟩
    have := of_decide_eq_true (List.mem_filter.mp mem).2
    rwa [gM_of (List.getElem?_eq_getElem hi)]
  · intro k
    refine Classical.byContradiction fun no => ?_
    have c : (m.filter (abv M)).length = (m.take (cutK m M)).length + ((m.drop (cutK m M)).filter (abv M)).length := by
      have s : m.filter (abv M) = (m.take (cutK m M)).filter (abv M) ++ (m.drop (cutK m M)).filter (abv M) := by rw [← List.filter_append, List.take_append_drop]
      have t : (m.take (cutK m M)).filter (abv M) = m.take (cutK m M) := by
        rw [← e, List.filter_filter]; simp
      rw [s, List.length_append, t]
    have d : ((m.drop (cutK m M)).filter (abv M)).length = 0 := by
      have := cutK_le m M
      rw [List.length_take] at c
      have : (m.filter (abv M)).length = cutK m M := rfl
      omega
    have mem : m[i] ∈ (m.drop (cutK m M)).filter (abv M) := List.mem_filter.mpr ⟨by
      refine List.mem_of_getElem? (i := i - cutK m M) ?_
      rw [List.getElem?_drop, show cutK m M + (i - cutK m M) = i by omega]
      exact List.getElem?_eq_getElem hi, decide_eq_true (by rw [gM_of (List.getElem?_eq_getElem hi)] at k; exact k)⟩
    rw [List.length_eq_zero_iff.mp d] at mem
    cases mem
def pos (x : Rat) : Rat := if 0 ≤ x then x else 0
theorem pos_nn (x : Rat) : 0 ≤ pos x := by unfold pos; split <;> grind
theorem le_pos (x : Rat) : x ≤ pos x := by unfold pos; split <;> grind
theorem pos_of {x : Rat} (h : 0 ≤ x) : pos x = x := if_pos h
theorem pos_neg {x : Rat} (h : x ≤ 0) : pos x = 0 := by unfold pos; split <;> grind
def gpos (m : Mg) (M : Rat) (k : Nat) : Rat := if k < m.length then pos (rv (gM m k) - M) else 0
theorem trm_q (q : Rat) (val : Nat → Nat → Rat) (pl : Pl) (t : Nat) : trm q val pl t = q ^ t * trm 1 val pl t := by
  rcases trm_cases (pl := pl) t with ⟨x, e⟩ | z
  · rw [trm_some e, trm_some e, pow_one]; grind
  · rw [z, z]; grind
theorem dsum_mpl {css : Chs} {m : Mg} (h : Mrg0 css m) (q : Rat) (φ : Rat → Rat) {s : Nat} (hs : s ≤ m.length) : dsum q (fun j k => φ (rv (chC css j k))) (mpl m) s = sR (fun k => q ^ k * φ (rv (gM m k))) s := sR_congr fun t ht => by
  obtain ⟨x, hx, ex⟩ := m_at (m := m) (i := t) (by omega)
  rw [trm_some (mpl_at hx), ← h.ch _ _ _ hx]
theorem played_le (pl : Pl) (s : Nat) : dsum 1 (fun _ _ => 1) pl s ≤ (s : Rat) := by
  have c := sR_const 1 s
  rw [show (s : Rat) * 1 = (s : Rat) by grind] at c
  rw [← c]
  refine sR_le fun t _ => ?_
  rcases trm_cases (pl := pl) t with ⟨x, e⟩ | z
  · rw [trm_some e, pow_one]; grind
  · rw [z]; decide
theorem F_le_G {css : Chs} {m : Mg} {pl : Pl} (h : Mrg css m) (hf : Fal css) (vl : VL css.length (lenC css) pl) (M : Rat) (s : Nat) : dsum 1 (fun j k => rv (chC css j k) - M) pl s ≤ sR (gpos m M) s := by
  obtain ⟨θ, hθ, hM, hS⟩ : ∃ θ : Rat, M ≤ θ ∧ (¬ θ = M → s < m.length ∧ θ = rv (gM m s)) ∧ (s < m.length → rv (gM m s) ≤ θ) := by
    by_cases z : s < m.length ∧ M < rv (gM m s)
    · exact ⟨rv (gM m s), by grind, fun _ => ⟨z.1, rfl⟩, fun _ => Rat.le_refl⟩
    · refine ⟨M, Rat.le_refl, fun k => absurd rfl k, fun k => ?_⟩
      have : ¬ M < rv (gM m s) := fun y => z ⟨k, y⟩
      grind
  have s1 : dsum 1 (fun j k => rv (chC css j k) - M) pl s ≤ dsum 1 (fun j k => pos (rv (chC css j k) - θ) + (θ - M) * 1) pl s := dsum_le (by decide) vl (fun j k _ _ => by have := le_pos (rv (chC css j k) - θ); grind) s
  rw [dsum_add (fun j k => pos (rv (chC css j k) - θ)) (fun _ _ => (θ - M) * 1), dsum_mul (θ - M) (fun _ _ => 1)] at s1
  have s2 : (θ - M) * dsum 1 (fun _ _ => 1) pl s ≤ (θ - M) * (s : Rat) := Rat.mul_le_mul_of_nonneg_left (played_le pl s) (by grind)
  have s3 : dsum 1 (fun j k => pos (rv (chC css j k) - θ)) pl s ≤ sR (fun k => pos (rv (gM m k) - θ)) m.length := by
    have e : dsum 1 (fun j k => pos (rv (chC css j k) - θ)) (mpl m) m.length = sR (fun k => pos (rv (gM m k) - θ)) m.length := by
      rw [dsum_mpl h.toMrg0 1 (fun x => pos (x - θ)) (Nat.le_refl _)]
      exact sR_congr fun k _ => by rw [pow_one]; grind
    rw [← e, psum vl, psum h.vl]
    refine sR_le fun j hj => ?_
    rw [h.full j hj]
    exact sR_mono (vl.cs_le j s) fun i _ _ => pos_nn _
  have s4 : sR (fun k => pos (rv (gM m k) - θ)) m.length + (θ - M) * (s : Rat) ≤ sR (gpos m M) s := by
    by_cases z : s < m.length
    · have e1 : sR (fun k => pos (rv (gM m k) - θ)) m.length = sR (fun k => pos (rv (gM m k) - θ)) s := sR_stop (by omega) fun i h1 h2 => pos_neg (by
        have f := h.falls hf (i := s) (i - s) (by omega)
        rw [show s + (i - s) = i by omega] at f
        have := hS z
        grind)
      have c := sR_const (θ - M) s
      rw [e1, show (θ - M) * (s : Rat) = (s : Rat) * (θ - M) by grind, ← c, ← sR_add]
      refine sR_le fun k hk => ?_
      unfold gpos
      rw [if_pos (by omega)]
      by_cases y : θ = M
      · rw [y]; grind
      · obtain ⟨_, e⟩ := hM y
        have f := h.falls hf (i := k) (s - k) (by omega)
        rw [show k + (s - k) = s by omega] at f
        rw [pos_of (by grind), pos_of (by grind)]
        grind
    · have y : θ = M := Classical.byContradiction fun k => z (hM k).1
      rw [y]
      have e1 : sR (fun k => pos (rv (gM m k) - M)) m.length = sR (gpos m M) m.length := sR_congr fun i hi => by unfold gpos; rw [if_pos hi]
      have e2 := sR_mono (f := gpos m M) (m := m.length) (n := s) (by omega) fun i _ _ => by
        unfold gpos
        split
        · exact pos_nn _
        · exact Rat.le_refl
      grind
  grind
/-- what falling charges above M give -/
def fallW (q : Rat) (m : Mg) (M : Rat) : Rat := sR (fun k => q ^ k * (rv (gM m k) - M)) (cutK m M)
theorem no_plan_more {css : Chs} {m : Mg} {pl : Pl} {q : Rat} (q0 : 0 < q) (q1 : q ≤ 1) (h : Mrg css m) (hf : Fal css) (vl : VL css.length (lenC css) pl) (M : Rat) (s : Nat) : dsum q (fun j k => rv (chC css j k) - M) pl s ≤ fallW q m M := by
  have a : dsum q (fun j k => rv (chC css j k) - M) pl s ≤ sR (fun t => q ^ t * gpos m M t) s := by
    have b := abel_le q0 q1 (f := trm 1 (fun j k => rv (chC css j k) - M) pl) (g := gpos m M) (n := s) fun t _ => F_le_G h hf vl M t
    refine Rat.le_trans (rle (sR_congr fun t _ => trm_q _ _ _ _)) b
  have e : ∀ k, k < cutK m M → q ^ k * gpos m M k = q ^ k * (rv (gM m k) - M) := fun k hk => by
    have l := cutK_le m M
    have g := (h.cut_lt hf M (i := k) (by omega)).mp hk
    unfold gpos
    rw [if_pos (by omega), pos_of (by grind)]
  have b : sR (fun t => q ^ t * gpos m M t) s ≤ sR (fun k => q ^ k * (rv (gM m k) - M)) (cutK m M) := by
    rw [sR_congr (n := cutK m M) fun k hk => (e k hk).symm]
    by_cases z : s ≤ cutK m M
    · refine sR_mono z fun i _ hi => ?_
      refine Rat.mul_nonneg (Rat.le_of_lt (qpow_pos q0 i)) ?_
      unfold gpos
      split
      · exact pos_nn _
      · exact Rat.le_refl
    · refine rle (sR_stop (by omega) fun i h1 h2 => ?_)
      have : gpos m M i = 0 := by
        unfold gpos
        split
        · rename_i hi
          have := h.cut_lt hf M (i := i) hi
          have : ¬ M < rv (gM m i) := fun k => by have := this.mpr k; omega
          exact pos_neg (by grind)
        · rfl
      rw [this]; grind
  unfold fallW
  grind
/-! ### where the best plan loses nothing -/
theorem last_play {m : Mg} {css : Chs} (h : Mrg0 css m) (j : Nat) : ∀ s, s ≤ m.length → 0 < cs (mpl m) s j → ∃ s', s' < s ∧ xM m s' = j ∧ cs (mpl m) s' j + 1 = cs (mpl m) s j ∧ ∀ t, s' < t → t ≤ s → cs (mpl m) t j = cs (mpl m) s j
  | 0, _, hc => by rw [cs_zero] at hc; omega
  | s + 1, hs, hc => by
    obtain ⟨x, hx, ex⟩ := m_at (m := m) (i := s) (by omega)
    obtain ⟨x0, x1, x2⟩ := h.vl s x (mpl_at hx)
    have st := cs_some (mpl_at hx) x0 j
    by_cases z : j = x.toNat
    · rw [if_pos z] at st
      exact ⟨s, by omega, by rw [ex, z], by omega, fun t h1 h2 => by rw [show t = s + 1 by omega]⟩
    · rw [if_neg z] at st
      obtain ⟨s', a, b, c, d⟩ := last_play h j s (by omega) (by omega)
      refine ⟨s', by omega, b, by omega, fun t h1 h2 => ?_⟩
      by_cases k : t = s + 1
      · rw [k]
      · rw [d t h1 (by omega)]; omega
theorem gM_ch {m : Mg} {css : Chs} (h : Mrg0 css m) {s : Nat} (hs : s < m.length) : gM m s = chC css (xM m s) (cs (mpl m) s (xM m s)) ∧ xM m s < css.length ∧ cs (mpl m) s (xM m s) < lenC css (xM m s) ∧ (mpl m)[s]? = some (some (xM m s : Int)) := by
  obtain ⟨x, hx, ex⟩ := m_at hs
  obtain ⟨x0, x1, x2⟩ := h.vl s x (mpl_at hx)
  rw [ex]
  exact ⟨h.ch _ _ _ hx, x1, x2, by rw [mpl_at hx]; congr 2; omega⟩
theorem rest_at {m : Mg} {css : Chs} (h : Mrg0 css m) (hf : Fal css) {s j : Nat} (hs : s < m.length) (hj : j < css.length) (hn : j ≠ xM m s) (c0 : 0 < cs (mpl m) s j) (c1 : cs (mpl m) s j < lenC css j) :
    rv (chC css j (cs (mpl m) s j)) < rv (chC css j (cs (mpl m) s j - 1)) := by
  refine Classical.byContradiction fun no => ?_
  obtain ⟨s', a, b, c, d⟩ := last_play h j s (by omega) c0
  have fl := hf j (cs (mpl m) s j - 1) hj (by omega)
  rw [show cs (mpl m) s j - 1 + 1 = cs (mpl m) s j by omega] at fl
  obtain ⟨g1, g2, g3, g4⟩ := gM_ch h (s := s') (by omega)
  obtain ⟨k1, k2, k3, k4⟩ := gM_ch h (s := s' + 1) (by omega)
  obtain ⟨y, hy, ey⟩ := m_at (m := m) (i := s' + 1) (by omega)
  rw [b, show cs (mpl m) s' j = cs (mpl m) s j - 1 by omega] at g1
  have e1 := d (s' + 1) (by omega) (by omega)
  have yj : xM m (s' + 1) ≠ j := fun z => by
    by_cases w : s' + 1 = s
    · rw [← w, z] at hn; exact hn rfl
    · have st := cs_some k4 (by omega) j
      rw [Int.toNat_natCast, if_pos z.symm] at st
      have := d (s' + 1 + 1) (by omega) (by omega)
      omega
  have t := h.top _ _ _ hy j hj (by omega)
  rw [e1] at t
  have f := h.fall hf (i := s') (by omega)
  have ne : rv (gM m (s' + 1)) = rv (gM m s') := by rw [g1] at f ⊢; grind
  have o := f.2 ne
  rw [b] at o
  rw [ey] at o yj
  have := t.2 (by omega)
  rw [g1] at f
  grind
theorem rest_cut {m : Mg} {css : Chs} (h : Mrg css m) (hf : Fal css) (M : Rat) {j : Nat} (hj : j < css.length) (c0 : 0 < cs (mpl m) (cutK m M) j) (c1 : cs (mpl m) (cutK m M) j < lenC css j) :
    rv (chC css j (cs (mpl m) (cutK m M) j)) < rv (chC css j (cs (mpl m) (cutK m M) j - 1)) := by
  have l := cutK_le m M
  have k : cutK m M < m.length := by
    refine Classical.byContradiction fun no => ?_
    have := h.full j hj
    rw [show m.length = cutK m M by omega] at this
    omega
  obtain ⟨s', a, b, c, d⟩ := last_play h.toMrg0 j _ l c0
  obtain ⟨g1, g2, g3, g4⟩ := gM_ch h.toMrg0 (s := s') (by omega)
  rw [b, show cs (mpl m) s' j = cs (mpl m) (cutK m M) j - 1 by omega] at g1
  obtain ⟨y, hy, ey⟩ := m_at (m := m) (i := cutK m M) k
  have t := (h.top _ _ _ hy j hj c1).1
  have u := (h.cut_lt hf M (i := s') (by omega)).mp a
  have v : ¬ M < rv (gM m (cutK m M)) := fun z => by have := (h.cut_lt hf M k).mpr z; omega
  rw [g1] at u
  grind
/-- T is 0 at the rests -/
def Tight (css : Chs) (T : Nat → Nat → Rat) : Prop := ∀ j k, j < css.length → k ≤ lenC css j → (0 < k → k < lenC css j → rv (chC css j k) < rv (chC css j (k - 1))) → T j k = 0
theorem own_best {m : Mg} {css : Chs} {q : Rat} {T : Nat → Nat → Rat} {r : Nat → Nat → Rat} (h : Mrg css m) (hf : Fal css) (T0 : ∀ j, T j 0 = 0) (Ts : ∀ j k, T j (k + 1) = T j k + q ^ k * (rv (chC css j k) - r j k)) (ti : Tight css T) (M : Rat) :
    dsum q (fun j k => rv (chC css j k) - r j k) (mpl m) (cutK m M) = 0 := by
  have l := cutK_le m M
  rw [← pot_eq (val := fun j k => rv (chC css j k) - r j k) T0 Ts h.vl (m := cutK m M) (by rw [mpl_len]; exact l) (fun s j hs hj hn => ?_) (cutK m M) (Nat.le_refl _)]
  · refine sR_zero fun j hj => ?_
    rw [ti j _ hj (h.vl.cs_le j _) fun c0 c1 => rest_cut h hf M hj c0 c1]
    grind
  · refine ti j _ hj (h.vl.cs_le j s) fun c0 c1 => rest_at h.toMrg0 hf (by omega) hj (fun e => ?_) c0 c1
    obtain ⟨_, _, _, g4⟩ := gM_ch h.toMrg0 (s := s) (by omega)
    rw [e] at hn
    exact hn g4
/-- the best plan's worth next to M -/
theorem best_is {m : Mg} {css : Chs} {q : Rat} {T : Nat → Nat → Rat} {r : Nat → Nat → Rat} (h : Mrg css m) (hf : Fal css) (T0 : ∀ j, T j 0 = 0) (Ts : ∀ j k, T j (k + 1) = T j k + q ^ k * (rv (chC css j k) - r j k)) (ti : Tight css T) (M : Rat) :
    dsum q (fun j k => r j k - M) (mpl m) (cutK m M) = fallW q m M := by
  have a := own_best h hf T0 Ts ti M
  rw [dsum_sub (fun j k => rv (chC css j k)) r] at a
  have b := dsum_mpl h.toMrg0 q (fun x => x - M) (cutK_le m M)
  rw [dsum_sub (fun j k => rv (chC css j k)) (fun _ _ => M)] at b
  rw [dsum_sub r (fun _ _ => M)]
  unfold fallW
  grind
/-- no plan is worth more -/
theorem best_most {m : Mg} {css : Chs} {q : Rat} {T : Nat → Nat → Rat} {r : Nat → Nat → Rat} {pl : Pl} (q0 : 0 < q) (q1 : q ≤ 1) (h : Mrg css m) (hf : Fal css) (T0 : ∀ j, T j 0 = 0) (Ts : ∀ j k, T j (k + 1) = T j k + q ^ k * (rv (chC css j k) - r j k))
    (hT : ∀ j k, j < css.length → k ≤ lenC css j → 0 ≤ T j k) (vl : VL css.length (lenC css) pl) (M : Rat) (s : Nat) : dsum q (fun j k => r j k - M) pl s ≤ fallW q m M := by
  have a := no_plan_more q0 q1 h hf vl M s
  have b := waits q0 q1 T0 Ts vl hT s
  rw [dsum_sub (fun j k => rv (chC css j k)) r] at b
  rw [dsum_sub (fun j k => rv (chC css j k)) (fun _ _ => M)] at a
  rw [dsum_sub r (fun _ _ => M)]
  grind
theorem dsum_take (q : Rat) (val : Nat → Nat → Rat) (pl : Pl) {n s : Nat} (h : s ≤ n) : dsum q val (pl.take n) s = dsum q val pl s := sR_congr fun t ht => by
  have e : (pl.take n)[t]? = pl[t]? := by rw [List.getElem?_take, if_pos (by omega)]
  have c : ∀ j, cs (pl.take n) t j = cs pl t j := fun j => by unfold cs; rw [List.take_take, Nat.min_eq_left (by omega)]
  unfold trm
  rw [e]
  split
  · rw [c]
  · rfl
end Tm

namespace Tm
open PySem L2 Tp
/-! ### a company's own charges -/
theorem Dis.q {d : Int × Int} (h : Dis d) : 0 < rv d ∧ rv d < 1 := by
  have a := cast_pos (show 0 < d.1 by have := h.1; omega)
  have b := cast_pos (show 0 < d.2 by have := h.1; have := h.2.1; omega)
  have c : (d.1 : Rat) < (d.2 : Rat) := by exact_mod_cast h.2.1
  unfold rv
  refine ⟨(Rat.lt_div_iff b).mpr (by grind), (Rat.div_lt_iff b).mpr (by grind)⟩
theorem cast_pow (x : Int) : ∀ n : Nat, ((x ^ n : Int) : Rat) = (x : Rat) ^ n
  | 0 => by rw [Int.pow_zero, Rat.pow_zero]; rfl
  | n + 1 => by
    rw [Int.pow_succ, qpow_succ, ← cast_pow x n]
    exact_mod_cast rfl
theorem div_pow {x y : Rat} (hy : y ≠ 0) : ∀ n : Nat, (x / y) ^ n * y ^ n = x ^ n
  | 0 => by rw [Rat.pow_zero, Rat.pow_zero, Rat.pow_zero]; grind
  | n + 1 => by
    have i := div_pow (x := x) hy n
    rw [qpow_succ, qpow_succ, qpow_succ, ← i]
    grind
/-- the weight of a day -/
theorem wt_rat {d : Int × Int} (h : Dis d) {n t : Nat} (ht : t < n) : ((wt d.1 d.2 n t : Int) : Rat) = (d.2 : Rat) ^ (n - 1) * rv d ^ t := by
  have b := cast_pos (show 0 < d.2 by have := h.1; have := h.2.1; omega)
  have e := div_pow (x := (d.1 : Rat)) (y := (d.2 : Rat)) (by grind) t
  unfold wt
  have c : ((d.1 ^ t * d.2 ^ (n - 1 - t) : Int) : Rat) = (d.1 : Rat) ^ t * (d.2 : Rat) ^ (n - 1 - t) := by rw [← cast_pow, ← cast_pow]; exact_mod_cast rfl
  have k : (d.2 : Rat) ^ (n - 1) = (d.2 : Rat) ^ t * (d.2 : Rat) ^ (n - 1 - t) := by rw [← qpow_add]; congr 1; omega
  rw [c, k, ← e]
  unfold rv
  grind
def tR (d : Int × Int) (r : Nat → Int) (c : Nat → Int × Int) (k : Nat) : Rat := sR (fun t => rv d ^ t * (rv (c t) - (r t : Rat))) k
theorem tb_rat {d : Int × Int} (h : Dis d) {n : Nat} {r : Nat → Int} {c : Nat → Int × Int} (hq : ∀ k, 0 < (c k).2) : ∀ k, k ≤ n → ((tbF (wt d.1 d.2 n) r c k).1 : Rat) / ((tbF (wt d.1 d.2 n) r c k).2 : Rat) = (d.2 : Rat) ^ (n - 1) * tR d r c k
  | 0, _ => by show (((0 : Int) : Rat)) / (((1 : Int) : Rat)) = _ * (0 : Rat); grind
  | k + 1, hk => by
    have i := tb_rat h (n := n) (r := r) hq k (by omega)
    have p1 := cast_pos (hq k)
    have p2 := cast_pos (tb_pos (w := wt d.1 d.2 n) (r := r) hq k)
    have w := wt_rat h (n := n) (t := k) (by omega)
    unfold tR at i ⊢
    rw [sR_succ]
    have e1 : (((tbF (wt d.1 d.2 n) r c (k + 1)).1 : Int) : Rat) = ((tbF (wt d.1 d.2 n) r c k).1 : Rat) * ((c k).2 : Rat) + (wt d.1 d.2 n k : Rat) * (((c k).1 : Rat) - (r k : Rat) * ((c k).2 : Rat)) * ((tbF (wt d.1 d.2 n) r c k).2 : Rat) := by
      rw [tbF]; exact_mod_cast rfl
    have e2 : (((tbF (wt d.1 d.2 n) r c (k + 1)).2 : Int) : Rat) = ((tbF (wt d.1 d.2 n) r c k).2 : Rat) * ((c k).2 : Rat) := by rw [tbF]; exact_mod_cast rfl
    rw [e1, e2, w]
    have e3 : rv (c k) = ((c k).1 : Rat) / ((c k).2 : Rat) := rfl
    rw [e3]
    generalize rv d ^ k = qk at *
    generalize (d.2 : Rat) ^ (n - 1) = bb at *
    generalize sR (fun t => rv d ^ t * (rv (c t) - (r t : Rat))) k = S at *
    generalize ((tbF (wt d.1 d.2 n) r c k).1 : Rat) = A at *
    generalize ((tbF (wt d.1 d.2 n) r c k).2 : Rat) = B at *
    generalize ((c k).1 : Rat) = C at *
    generalize ((c k).2 : Rat) = E at *
    have hB : B ≠ 0 := by grind
    have hE : E ≠ 0 := by grind
    have e4 : (A * E + bb * qk * (C - (r k : Rat) * E) * B) / (B * E) = A / B + bb * qk * (C / E - (r k : Rat)) := by grind
    rw [e4, i]
    grind
/-- what is known of the charges of a list -/
structure Crg (d : Int × Int) (rs : List Int) (cs : List (Int × Int)) : Prop where
  len : cs.length = rs.length
  den : ∀ k, 0 < (rdc cs k).2
  isr : ∀ k, isR (rdc cs k) = true
  bd : ∀ k, Bd 700 (rdc cs k).1 ∧ Bd 700 (rdc cs k).2
  fal : ∀ k, k + 1 < rs.length → rv (rdc cs (k + 1)) ≤ rv (rdc cs k)
  nn : ∀ k, k ≤ rs.length → 0 ≤ tR d (rdl rs) (rdc cs) k
  tight : ∀ k, k ≤ rs.length → (0 < k → k < rs.length → rv (rdc cs k) < rv (rdc cs (k - 1))) → tR d (rdl rs) (rdc cs) k = 0
theorem chgs_crg {d : Int × Int} {rs : List Int} (hd : Dis d) (hr : Rws rs) : Crg d rs (chgs d.1 d.2 rs) := by
  obtain ⟨ha, hb, a0, b0⟩ := hd.bd
  have up : Up (ws d.1 d.2 rs.length one) rs.length := fun i j hij _ => ws_one_up a0 b0 _ i j hij
  have rc : Rch (D := ws d.1 d.2 rs.length one) (S := ws d.1 d.2 rs.length (rdl rs)) rs.length 0 _ := rests_ch up
  obtain ⟨q1, q2, q3, q4⟩ := chg_facts ha hb a0 b0 hr rc
  obtain ⟨f1, f2, f3⟩ := tb_all (w := wt d.1 d.2 rs.length) (r := rdl rs) up (fun k _ => ws_one_step _ _ _ k) (fun k _ => ws_step _ _ _ _ k) q1 rc rfl q4
  have bp : ∀ n : Nat, (0 : Rat) < (d.2 : Rat) ^ n := qpow_pos (cast_pos b0)
  have key : ∀ k, k ≤ rs.length → (0 ≤ (tbF (wt d.1 d.2 rs.length) (rdl rs) (rdc (chgs d.1 d.2 rs)) k).1 → 0 ≤ tR d (rdl rs) (rdc (chgs d.1 d.2 rs)) k) ∧ ((tbF (wt d.1 d.2 rs.length) (rdl rs) (rdc (chgs d.1 d.2 rs)) k).1 = 0 → tR d (rdl rs) (rdc (chgs d.1 d.2 rs)) k = 0) := fun k hk => by
    have e := tb_rat hd (n := rs.length) (r := rdl rs) (c := rdc (chgs d.1 d.2 rs)) q1 k hk
    have p2 := cast_pos (tb_pos (w := wt d.1 d.2 rs.length) (r := rdl rs) (c := rdc (chgs d.1 d.2 rs)) q1 k)
    have p3 := bp (rs.length - 1)
    refine ⟨fun h => ?_, fun h => ?_⟩
    · have h' : (0 : Rat) ≤ ((tbF (wt d.1 d.2 rs.length) (rdl rs) (rdc (chgs d.1 d.2 rs)) k).1 : Rat) := by exact_mod_cast h
      have h2 : (0 : Rat) ≤ (d.2 : Rat) ^ (rs.length - 1) * tR d (rdl rs) (rdc (chgs d.1 d.2 rs)) k := by
        rw [← e]
        exact Rat.not_lt.mp fun z => by
          have := (Rat.div_lt_iff p2).mp z
          grind
      exact Rat.not_lt.mp fun z => by
        have := Rat.mul_lt_mul_of_pos_left z p3
        grind
    · rw [h] at e
      have h2 : (d.2 : Rat) ^ (rs.length - 1) * tR d (rdl rs) (rdc (chgs d.1 d.2 rs)) k = 0 := by rw [← e]; grind
      grind
  refine ⟨chgs_len a0 b0 rs, q1, q2, q3, fun k hk => ?_, fun k hk => (key k hk).1 (f2 k (by omega) hk), fun k hk h => (key k hk).2 ?_⟩
  · have a := (f3 (k + 1) (by omega) hk (by omega)).1
    rw [Nat.add_sub_cancel] at a
    exact (rv_le (q1 _) (q1 _)).mpr (by
      show (rdc (chgs d.1 d.2 rs) (k + 1)).1 * (rdc (chgs d.1 d.2 rs) k).2 ≤ (rdc (chgs d.1 d.2 rs) k).1 * (rdc (chgs d.1 d.2 rs) (k + 1)).2
      have a' : (rdc (chgs d.1 d.2 rs) (k + 1)).1 * (rdc (chgs d.1 d.2 rs) k).2 - (rdc (chgs d.1 d.2 rs) k).1 * (rdc (chgs d.1 d.2 rs) (k + 1)).2 ≤ 0 := a
      omega)
  · by_cases k0 : k = 0
    · subst k0; rfl
    · by_cases kn : k = rs.length
      · rw [kn]; exact f1
      · have lt := (rv_lt (q1 _) (q1 _)).mp (h (by omega) (by omega))
        refine (f3 k (by omega) (by omega) (by omega)).2 ?_
        show (rdc (chgs d.1 d.2 rs) k).1 * (rdc (chgs d.1 d.2 rs) (k - 1)).2 - (rdc (chgs d.1 d.2 rs) (k - 1)).1 * (rdc (chgs d.1 d.2 rs) k).2 < 0
        have lt' : (rdc (chgs d.1 d.2 rs) k).1 * (rdc (chgs d.1 d.2 rs) (k - 1)).2 < (rdc (chgs d.1 d.2 rs) (k - 1)).1 * (rdc (chgs d.1 d.2 rs) k).2 := lt
        omega
/-- the same charges for the discount in lowest terms -/
theorem mkR_scale {d : Int × Int} (h : Dis d) : ∃ c, 0 < c ∧ d.1 = c * (mkR d.1 d.2).1 ∧ d.2 = c * (mkR d.1 d.2).2 := by
  have h0 : d.2 ≠ 0 := by have := h.1; have := h.2.1; omega
  obtain ⟨s1, s2, s3⟩ := mkR_spec (n := d.1) h0
  generalize mkR d.1 d.2 = m at s1 s2 s3
  have dv : m.2 ∣ m.1 * d.2 := ⟨d.1, by rw [s3, Int.mul_comm]⟩
  obtain ⟨c, hc⟩ := dvd_cop dv (by rw [Int.gcd_comm]; exact s2)
  refine ⟨c, ?_, ?_, by rw [hc, Int.mul_comm]⟩
  · have := h.1
    have := h.2.1
    refine Int.pos_of_mul_pos_right ?_ s1 |> fun z => z
    rw [← hc]; omega
  · have e : m.2 * d.1 = m.2 * (c * m.1) := by
      rw [Int.mul_comm m.2 d.1, ← s3, hc]
      ac_rfl
    exact Int.eq_of_mul_eq_mul_left (by omega) e
theorem chgs_mkR {d : Int × Int} (h : Dis d) (rs : List Int) : chgs (mkR d.1 d.2).1 (mkR d.1 d.2).2 rs = chgs d.1 d.2 rs := by
  obtain ⟨c, c0, e1, e2⟩ := mkR_scale h
  have hl := (DisL.of h).1.bd
  have s := chg_scale (a := (mkR d.1 d.2).1) (b := (mkR d.1 d.2).2) (rs := rs) hl.2.2.1 hl.2.2.2 c0
  unfold chgs
  rw [← s, ← e1, ← e2]
def certF (d : Int × Int) (ps : List (List Int)) : Chs := ps.map fun rs => chgs d.1 d.2 rs
theorem certF_len (d : Int × Int) (ps : List (List Int)) : (certF d ps).length = ps.length := List.length_map ..
theorem certF_at (d : Int × Int) {ps : List (List Int)} {j : Nat} (h : j < ps.length) : rcl (certF d ps) j = chgs d.1 d.2 (rdp ps j) := by
  unfold rcl certF
  rw [List.getD_eq_getElem?_getD, List.getElem?_map, rdp_at h]; rfl
theorem certF_over (d : Int × Int) {ps : List (List Int)} {j : Nat} (h : ¬ j < ps.length) : rcl (certF d ps) j = [] := by
  unfold rcl certF
  rw [List.getD_eq_getElem?_getD, List.getElem?_eq_none (by rw [List.length_map]; omega)]; rfl
def rwd (ps : List (List Int)) (j k : Nat) : Rat := (rdl (rdp ps j) k : Rat)
def TC (d : Int × Int) (ps : List (List Int)) (css : Chs) (j k : Nat) : Rat := sR (fun t => rv d ^ t * (rv (chC css j t) - rwd ps j t)) k
/-- a certificate without faults -/
structure Cfk (d : Int × Int) (ps : List (List Int)) (css : Chs) : Prop where
  len : css.length = ps.length
  lens : ∀ j, lenC css j = lenP ps j
  den : ∀ j k, 0 < (chC css j k).2
  fal : Fal css
  nn : ∀ j k, j < css.length → k ≤ lenC css j → 0 ≤ TC d ps css j k
structure Cown (d : Int × Int) (ps : List (List Int)) (css : Chs) : Prop extends Cfk d ps css where
  isr : ∀ j k, isR (chC css j k) = true
  bd : ∀ j k, Bd 700 (chC css j k).1 ∧ Bd 700 (chC css j k).2
  tight : Tight css (TC d ps css)
theorem TC_zero (d : Int × Int) (ps : List (List Int)) (css : Chs) (j : Nat) : TC d ps css j 0 = 0 := rfl
theorem TC_succ (d : Int × Int) (ps : List (List Int)) (css : Chs) (j k : Nat) : TC d ps css j (k + 1) = TC d ps css j k + rv d ^ k * (rv (chC css j k) - rwd ps j k) := rfl
theorem rdc_nil (k : Nat) : rdc [] k = (0, 1) := by unfold rdc; simp
theorem cert_own {d : Int × Int} {ps : List (List Int)} (hd : Dis d) (hp : POk ps) : Cown d ps (certF d ps) := by
  have cr : ∀ j, j < ps.length → Crg d (rdp ps j) (rcl (certF d ps) j) := fun j hj => by
    rw [certF_at d hj]; exact chgs_crg hd (hp.rws (rdp_mem hj))
  have lens : ∀ j, lenC (certF d ps) j = lenP ps j := fun j => by
    unfold lenC lenP
    by_cases h : j < ps.length
    · exact (cr j h).len
    · rw [certF_over d h]; unfold rdp; rw [List.getD_eq_getElem?_getD, List.getElem?_eq_none (by omega)]; rfl
  have oth : ∀ j k, ¬ j < ps.length → chC (certF d ps) j k = (0, 1) := fun j k h => by unfold chC; rw [certF_over d h, rdc_nil]
  refine { len := certF_len d ps, lens := lens, den := fun j k => ?_, fal := fun j k hj hk => ?_, nn := fun j k hj hk => ?_, isr := fun j k => ?_, bd := fun j k => ?_, tight := fun j k hj hk h => ?_ }
  · by_cases h : j < ps.length
    · exact (cr j h).den k
    · rw [oth j k h]; decide
  · rw [certF_len] at hj
    rw [lens] at hk
    exact (cr j hj).fal k hk
  · rw [certF_len] at hj
    rw [lens] at hk
    exact (cr j hj).nn k hk
  · by_cases h : j < ps.length
    · exact (cr j h).isr k
    · rw [oth j k h]; decide
  · by_cases h : j < ps.length
    · exact (cr j h).bd k
    · rw [oth j k h]; exact ⟨Bd.zero, Bd.one (by decide)⟩
  · rw [certF_len] at hj
    rw [lens] at hk h
    exact (cr j hj).tight k hk h
theorem totC_cert {d : Int × Int} {ps : List (List Int)} (hd : Dis d) (hp : POk ps) : totC (certF d ps) = tot ps := by
  unfold totC certF tot
  rw [List.map_map]
  congr 1
  refine List.map_congr_left fun rs hrs => ?_
  exact (chgs_crg hd (hp.rws hrs)).len
end Tm

namespace Tm
open PySem L2 Tp
/-! ### the worth of a plan, as the program and as the laws sum it up -/
def twT (d : Int × Int) (ps : List (List Int)) (pl : Pl) (o : Int × Int) (L t : Nat) : Int := match pl[t]? with
  | some (some x) => wt d.1 d.2 L t * (rdl (rdp ps x.toNat) (cs pl t x.toNat) * o.2 - o.1)
  | _ => 0
def twF (d : Int × Int) (ps : List (List Int)) (pl : Pl) (o : Int × Int) (L : Nat) (t : Nat) : Int := sg (twT d ps pl o L) t
theorem twF_succ (d : Int × Int) (ps : List (List Int)) (pl : Pl) (o : Int × Int) (L t : Nat) : twF d ps pl o L (t + 1) = twF d ps pl o L t + twT d ps pl o L t := rfl
theorem twT_some {d : Int × Int} {ps : List (List Int)} {pl : Pl} {o : Int × Int} {L t : Nat} {x : Int} (h : pl[t]? = some (some x)) : twT d ps pl o L t = wt d.1 d.2 L t * (rdl (rdp ps x.toNat) (cs pl t x.toNat) * o.2 - o.1) := by unfold twT; rw [h]
theorem twT_none {d : Int × Int} {ps : List (List Int)} {pl : Pl} {o : Int × Int} {L t : Nat} (h : pl[t]? = some none) : twT d ps pl o L t = 0 := by unfold twT; rw [h]
def gainF (d : Int × Int) (ps : List (List Int)) (pl : Pl) (o : Int × Int) : Int × Int := mkR (twF d ps pl o pl.length pl.length) (o.2 * d.2 ^ (pl.length - 1))
def aloneF (d o : Int × Int) : Int × Int := mkR (o.1 * d.2) (o.2 * (d.2 - d.1))
def addR (a b : Int × Int) : Int × Int := mkR (a.1 * b.2 + b.1 * a.2) (a.2 * b.2)
def pwF (c : Co) (pl : Pl) (o : Int × Int) : Int × Int := addR (gainF c.1 c.2 pl o) (aloneF c.1 o)
theorem rv_add {a b : Int × Int} (ha : 0 < a.2) (hb : 0 < b.2) : rv (addR a b) = rv a + rv b := by
  unfold addR
  rw [rv_mkR (Int.mul_pos ha hb)]
  have x := cast_pos ha
  have y := cast_pos hb
  unfold rv
  have e1 : (((a.1 * b.2 + b.1 * a.2 : Int)) : Rat) = (a.1 : Rat) * (b.2 : Rat) + (b.1 : Rat) * (a.2 : Rat) := by exact_mod_cast rfl
  have e2 : (((a.2 * b.2 : Int)) : Rat) = (a.2 : Rat) * (b.2 : Rat) := by exact_mod_cast rfl
  dsimp only
  rw [e1, e2]
  generalize (a.1 : Rat) = p at *
  generalize (a.2 : Rat) = q at *
  generalize (b.1 : Rat) = r at *
  generalize (b.2 : Rat) = s at *
  grind
theorem tw_rat {d : Int × Int} (h : Dis d) (ps : List (List Int)) (pl : Pl) {o : Int × Int} (ho : 0 < o.2) {L : Nat} : ∀ t, t ≤ L → (twF d ps pl o L t : Rat) = (d.2 : Rat) ^ (L - 1) * (o.2 : Rat) * dsum (rv d) (fun j k => rwd ps j k - rv o) pl t
  | 0, _ => by show (((0 : Int)) : Rat) = _ * (0 : Rat); grind
  | t + 1, ht => by
    have i := tw_rat h ps pl ho (L := L) t (by omega)
    have w := wt_rat h (n := L) (t := t) (by omega)
    have y := cast_pos ho
    unfold dsum at i ⊢
    rw [twF_succ, sR_succ]
    have e0 : ((twF d ps pl o L t + twT d ps pl o L t : Int) : Rat) = (twF d ps pl o L t : Rat) + (twT d ps pl o L t : Rat) := by exact_mod_cast rfl
    rw [e0, i]
    have key : (twT d ps pl o L t : Rat) = (d.2 : Rat) ^ (L - 1) * (o.2 : Rat) * trm (rv d) (fun j k => rwd ps j k - rv o) pl t := by
      cases e : pl[t]? with
      | none => unfold twT trm; rw [e]; show (((0 : Int)) : Rat) = _ * (0 : Rat); grind
      | some v =>
        cases v with
        | none => rw [twT_none e, trm_none e]; show (((0 : Int)) : Rat) = _ * (0 : Rat); grind
        | some x =>
          rw [twT_some e, trm_some e]
          have e1 : ((wt d.1 d.2 L t * (rdl (rdp ps x.toNat) (cs pl t x.toNat) * o.2 - o.1) : Int) : Rat) = (wt d.1 d.2 L t : Rat) * ((rdl (rdp ps x.toNat) (cs pl t x.toNat) : Rat) * (o.2 : Rat) - (o.1 : Rat)) := by exact_mod_cast rfl
          rw [e1, w]
          unfold rwd
          have e2 : rv o = (o.1 : Rat) / (o.2 : Rat) := rfl
          rw [e2]
          generalize (d.2 : Rat) ^ (L - 1) = B at *
          generalize rv d ^ t = Q at *
          generalize (rdl (rdp ps x.toNat) (cs pl t x.toNat) : Rat) = R at *
          generalize (o.2 : Rat) = O at *
          generalize (o.1 : Rat) = P at *
          grind
    rw [key]
    grind
/-- the worth as a rational -/
def worthR (d : Int × Int) (ps : List (List Int)) (pl : Pl) (M : Rat) : Rat := dsum (rv d) (fun j k => rwd ps j k - M) pl pl.length + M / (1 - rv d)
theorem rv_alone {d o : Int × Int} (h : Dis d) (ho : 0 < o.2) : rv (aloneF d o) = rv o / (1 - rv d) := by
  have h1 := h.1
  have h2 := h.2.1
  unfold aloneF
  rw [rv_mkR (Int.mul_pos ho (by omega))]
  have x := cast_pos (show 0 < d.2 by omega)
  have y := cast_pos ho
  have z := h.q
  have w : (d.1 : Rat) < (d.2 : Rat) := by exact_mod_cast h2
  unfold rv at z ⊢
  have e1 : ((o.1 * d.2 : Int) : Rat) = (o.1 : Rat) * (d.2 : Rat) := by exact_mod_cast rfl
  have e2 : ((o.2 * (d.2 - d.1) : Int) : Rat) = (o.2 : Rat) * ((d.2 : Rat) - (d.1 : Rat)) := by exact_mod_cast rfl
  dsimp only
  rw [e1, e2]
  generalize (d.1 : Rat) = A at *
  generalize (d.2 : Rat) = B at *
  generalize (o.1 : Rat) = P at *
  generalize (o.2 : Rat) = O at *
  have n1 : B ≠ 0 := by grind
  have n2 : B - A ≠ 0 := by grind
  have n3 : O ≠ 0 := by grind
  have n4 : 1 - A / B ≠ 0 := by grind
  have e3 : 1 - A / B = (B - A) / B := by grind
  rw [e3]
  grind
theorem rv_gain {d : Int × Int} (h : Dis d) (ps : List (List Int)) (pl : Pl) {o : Int × Int} (ho : 0 < o.2) : rv (gainF d ps pl o) = dsum (rv d) (fun j k => rwd ps j k - rv o) pl pl.length := by
  have b0 : 0 < d.2 := by have := h.1; have := h.2.1; omega
  have t := tw_rat h ps pl ho (L := pl.length) pl.length (Nat.le_refl _)
  unfold gainF
  rw [rv_mkR (Int.mul_pos ho (Int.pow_pos b0))]
  have y := cast_pos ho
  have z := qpow_pos (cast_pos b0) (pl.length - 1)
  have e2 : ((o.2 * d.2 ^ (pl.length - 1) : Int) : Rat) = (o.2 : Rat) * (d.2 : Rat) ^ (pl.length - 1) := by rw [← cast_pow]; exact_mod_cast rfl
  unfold rv at t ⊢
  dsimp only at t ⊢
  rw [t, e2]
  generalize (d.2 : Rat) ^ (pl.length - 1) = B at *
  generalize dsum ((d.1 : Rat) / (d.2 : Rat)) (fun j k => rwd ps j k - (o.1 : Rat) / (o.2 : Rat)) pl pl.length = S at *
  generalize (o.2 : Rat) = O at *
  have n1 : B ≠ 0 := by grind
  have n3 : O ≠ 0 := by grind
  grind
theorem gain_pos {d : Int × Int} (h : Dis d) (ps : List (List Int)) (pl : Pl) {o : Int × Int} (ho : 0 < o.2) : 0 < (gainF d ps pl o).2 := by
  have b0 : 0 < d.2 := by have := h.1; have := h.2.1; omega
  have := (mkR_spec (n := twF d ps pl o pl.length pl.length) (d := o.2 * d.2 ^ (pl.length - 1)) (Int.ne_of_gt (Int.mul_pos ho (Int.pow_pos b0)))).1
  unfold gainF
  omega
theorem alone_pos {d o : Int × Int} (h : Dis d) (ho : 0 < o.2) : 0 < (aloneF d o).2 := by
  have := (mkR_spec (n := o.1 * d.2) (d := o.2 * (d.2 - d.1)) (Int.ne_of_gt (Int.mul_pos ho (by have := h.2.1; omega)))).1
  unfold aloneF
  omega
theorem isR_add {a b : Int × Int} (ha : 0 < a.2) (hb : 0 < b.2) : isR (addR a b) = true := isR_mkR (Int.ne_of_gt (Int.mul_pos ha hb))
theorem pw_ok {c : Co} (h : Dis c.1) (pl : Pl) {o : Int × Int} (ho : 0 < o.2) : isR (pwF c pl o) = true ∧ rv (pwF c pl o) = worthR c.1 c.2 pl (rv o) := by
  unfold pwF worthR
  refine ⟨isR_add (gain_pos h _ _ ho) (alone_pos h ho), ?_⟩
  rw [rv_add (gain_pos h _ _ ho) (alone_pos h ho), rv_gain h _ _ ho, rv_alone h ho]
/-! bounds -/
theorem twF_bd {d : Int × Int} (h : Dis d) {ps : List (List Int)} (hp : POk ps) (pl : Pl) {o : Int × Int} (ho : Offr o) {L t : Nat} (ht : t ≤ L) (hL : L ≤ 210) : Bd (10 * L + 1432 + t) (twF d ps pl o L t) := Bd.sg fun i hi => by
  obtain ⟨ha, hb, _, _⟩ := h.bd
  unfold twT
  split
  · rename_i x e
    refine (Bd.wt ha hb (by omega)).mul ?_
    have rb : Bd 31 (rdl (rdp ps x.toNat) (cs pl i x.toNat)) := by
      by_cases z : x.toNat < ps.length
      · exact (hp.rws (rdp_mem z)).bd _
      · have : rdp ps x.toNat = [] := by unfold rdp; rw [List.getD_eq_getElem?_getD, List.getElem?_eq_none (by omega)]; rfl
        rw [this]; unfold rdl; exact Bd.zero
    exact Bd.sub (n := 1431) (rb.mul ho.2.2.2) (ho.2.2.1.le (by decide))
  · exact Bd.zero
theorem gain_bd {d : Int × Int} (h : Dis d) {ps : List (List Int)} (hp : POk ps) (pl : Pl) {o : Int × Int} (ho : Offr o) (hL : pl.length ≤ 210) : Bd 4000 (gainF d ps pl o).1 ∧ Bd 4000 (gainF d ps pl o).2 := by
  obtain ⟨ha, hb, _, b0⟩ := h.bd
  have n0 : o.2 * d.2 ^ (pl.length - 1) ≠ 0 := Int.ne_of_gt (Int.mul_pos (by have := ho.2.1; omega) (Int.pow_pos b0))
  have b1 := twF_bd h hp pl ho (t := pl.length) (Nat.le_refl _) hL
  have b2 := ho.2.2.2.mul (hb.pow (pl.length - 1))
  exact ⟨(Bd.mkR n0).1 (b1.le (by omega)), (Bd.mkR (x := twF d ps pl o pl.length pl.length) n0).2 (b2.le (by omega))⟩
theorem alone_bd {d o : Int × Int} (h : Dis d) (ho : Offr o) : Bd 1420 (aloneF d o).1 ∧ Bd 1420 (aloneF d o).2 := by
  obtain ⟨ha, hb, _, b0⟩ := h.bd
  have n0 : o.2 * (d.2 - d.1) ≠ 0 := Int.ne_of_gt (Int.mul_pos (by have := ho.2.1; omega) (by have := h.2.1; omega))
  have b1 := ho.2.2.1.mul hb
  have b2 := ho.2.2.2.mul (hb.sub ha)
  exact ⟨(Bd.mkR n0).1 (b1.le (by decide)), (Bd.mkR (x := o.1 * d.2) n0).2 (b2.le (by decide))⟩
theorem add_bd {a b : Int × Int} {n m : Nat} (a0 : 0 < a.2) (b0 : 0 < b.2) (ha : Bd n a.1 ∧ Bd n a.2) (hb : Bd m b.1 ∧ Bd m b.2) : Bd (n + m + 1) (addR a b).1 ∧ Bd (n + m + 1) (addR a b).2 := by
  have n0 : a.2 * b.2 ≠ 0 := Int.ne_of_gt (Int.mul_pos a0 b0)
  have b1 := (ha.1.mul hb.2).add ((hb.1.mul ha.2).le (show m + n ≤ n + m by omega))
  exact ⟨(Bd.mkR n0).1 b1, (Bd.mkR (x := a.1 * b.2 + b.1 * a.2) n0).2 ((ha.2.mul hb.2).le (by omega))⟩
theorem pw_bd {c : Co} (h : Dis c.1) (hp : POk c.2) (pl : Pl) {o : Int × Int} (ho : Offr o) (hL : pl.length ≤ 210) : Bd 5421 (pwF c pl o).1 ∧ Bd 5421 (pwF c pl o).2 := by
  have o1 : 0 < o.2 := by have := ho.2.1; omega
  exact add_bd (gain_pos h _ _ o1) (alone_pos h o1) (gain_bd h hp pl ho hL) (alone_bd h ho)
end Tm

namespace Tm
open PySem L2 Tp
/-! ### a company's best plan and best worth -/
def mgC (c : Co) : Mg := mgF (certF c.1 c.2) (totC (certF c.1 c.2))
theorem cert_mok {c : Co} (ok : COk c) : MOk (certF c.1 c.2) := by
  have o := cert_own ok.d.1 ok.p
  refine ⟨by rw [certF_len]; have := ok.p.1; omega, by rw [totC_cert ok.d.1 ok.p]; have := ok.p.2.1; omega, fun j k => ⟨o.den j k, (o.bd j k).1.le (by decide), (o.bd j k).2.le (by decide)⟩⟩
theorem cert_mrg {c : Co} (ok : COk c) : Mrg (certF c.1 c.2) (mgC c) := mg_full fun j k => (cert_own ok.d.1 ok.p).den j k
theorem mgC_len (c : Co) : (mgC c).length = totC (certF c.1 c.2) := mgF_len _ _
theorem mgC_le {c : Co} (ok : COk c) : (mgC c).length ≤ 60 := by rw [mgC_len, totC_cert ok.d.1 ok.p]; exact ok.p.2.1
theorem mgC_mem {c : Co} (ok : COk c) {e : Int × (Int × Int)} (h : e ∈ mgC c) : (0 < e.2.2 ∧ isR e.2 = true) ∧ Bd 700 e.2.1 ∧ Bd 700 e.2.2 := by
  obtain ⟨i, hi⟩ := List.getElem?_of_mem h
  have g := (cert_mrg ok).ch i e.1 e.2 hi
  have o := cert_own ok.d.1 ok.p
  rw [g]
  exact ⟨⟨o.den _ _, o.isr _ _⟩, o.bd _ _⟩
/-- the best plan's entries -/
def bpF (c : Co) (o : Int × Int) : List Int := ((mgC c).take (cutK (mgC c) (rv o))).map (·.1)
theorem bpF_eq {c : Co} (ok : COk c) {o : Int × Int} (o1 : 0 < o.2) : ((mgC c).filter fun e => decide (0 < cmpR e.2 o)).map (fun e => e.1) = bpF c o := by
  unfold bpF
  rw [← (cert_mrg ok).cut (cert_own ok.d.1 ok.p).fal (rv o)]
  congr 1
  refine List.filter_congr fun e he => ?_
  have p := (mgC_mem ok he).1.1
  unfold abv
  rw [Bool.eq_iff_iff, decide_eq_true_eq, decide_eq_true_eq]
  exact cmpR_pos p o1
theorem bpF_pl (c : Co) (o : Int × Int) : (bpF c o).map some = (mpl (mgC c)).take (cutK (mgC c) (rv o)) := by
  unfold bpF mpl
  rw [List.map_take, List.map_take, List.map_map]; rfl
theorem bpF_len (c : Co) (o : Int × Int) : (bpF c o).length = cutK (mgC c) (rv o) := by
  unfold bpF
  rw [List.length_map, List.length_take]
  have := cutK_le (mgC c) (rv o)
  omega
theorem VL.take {n : Nat} {len : Nat → Nat} {pl : Pl} (h : VL n len pl) (k : Nat) : VL n len (pl.take k) := fun i x e => by
  by_cases q : i < k
  · rw [List.getElem?_take, if_pos q] at e
    have c : cs (pl.take k) i x.toNat = cs pl i x.toNat := by unfold cs; rw [List.take_take, Nat.min_eq_left (by omega)]
    rw [c]
    exact h i x e
  · rw [List.getElem?_take, if_neg q] at e; cases e
theorem VL.of {n : Nat} {len len' : Nat → Nat} {pl : Pl} (h : VL n len pl) (e : ∀ j, len j = len' j) : VL n len' pl := fun i x hx => by rw [← e]; exact h i x hx
theorem cert_vl {c : Co} (ok : COk c) {pl : Pl} : VL (certF c.1 c.2).length (lenC (certF c.1 c.2)) pl ↔ VP c.2 pl := by
  have o := cert_own ok.d.1 ok.p
  constructor
  · intro h
    rw [o.len] at h
    exact (h.of o.lens).vp
  · intro h
    rw [o.len]
    exact h.vl.of fun j => (o.lens j).symm
theorem bpF_ok {c : Co} (ok : COk c) {o : Int × Int} (_ : Offr o) : VP c.2 ((bpF c o).map some) ∧ (bpF c o).length ≤ 60 := by
  refine ⟨?_, by rw [bpF_len]; have := cutK_le (mgC c) (rv o); have := mgC_le ok; omega⟩
  rw [bpF_pl]
  exact (cert_vl ok).mp ((cert_mrg ok).vl.take _)
def bwF (c : Co) (o : Int × Int) : Int × Int := pwF c ((bpF c o).map some) o
/-- the best worth as a rational -/
def bestR (c : Co) (M : Rat) : Rat := fallW (rv c.1) (mgC c) M + M / (1 - rv c.1)
theorem bp_worth {c : Co} (ok : COk c) (o : Int × Int) : worthR c.1 c.2 ((bpF c o).map some) (rv o) = bestR c (rv o) := by
  have w := cert_own ok.d.1 ok.p
  have b := best_is (cert_mrg ok) w.fal (q := rv c.1) (T := TC c.1 c.2 (certF c.1 c.2)) (r := rwd c.2) (TC_zero _ _ _) (TC_succ _ _ _) w.tight (rv o)
  unfold worthR bestR
  rw [List.length_map, bpF_len, bpF_pl, dsum_take _ _ _ (Nat.le_refl _), b]
theorem bw_ok {c : Co} (ok : COk c) {o : Int × Int} (ho : 0 < o.2) : isR (bwF c o) = true ∧ rv (bwF c o) = bestR c (rv o) := by
  have p := pw_ok (c := c) ok.d.1 ((bpF c o).map some) ho
  unfold bwF
  rw [← bp_worth ok]
  exact p
theorem bw_bd {c : Co} (ok : COk c) {o : Int × Int} (ho : Offr o) : Bd 5421 (bwF c o).1 ∧ Bd 5421 (bwF c o).2 := pw_bd ok.d.1 ok.p _ ho (by rw [List.length_map]; have := (bpF_ok ok ho).2; omega)
/-- no valid plan is worth more -/
theorem plan_le {c : Co} (ok : COk c) {pl : Pl} (vp : VP c.2 pl) (M : Rat) : worthR c.1 c.2 pl M ≤ bestR c M := by
  have w := cert_own ok.d.1 ok.p
  have z := ok.d.1.q
  have b := best_most z.1 (Rat.le_of_lt z.2) (cert_mrg ok) w.fal (T := TC c.1 c.2 (certF c.1 c.2)) (r := rwd c.2) (TC_zero _ _ _) (TC_succ _ _ _) w.nn ((cert_vl ok).mpr vp) M pl.length
  unfold worthR bestR
  grind
end Tm

namespace Tm
open PySem L2 Tp
/-! ### sums from the last day backwards -/
def hb (q : Rat) (e : Nat → Rat) (M : Rat) (L : Nat) : Nat → Rat
  | 0 => M / (1 - q)
  | k + 1 => e (L - 1 - k) + q * hb q e M L k
theorem hb_eq {q : Rat} (h : q < 1) (e : Nat → Rat) (M : Rat) (L : Nat) : ∀ k, k ≤ L → hb q e M L k = sR (fun t => q ^ t * (e (L - k + t) - M)) k + M / (1 - q)
  | 0, _ => by show M / (1 - q) = 0 + _; grind
  | k + 1, hk => by
    have i := hb_eq h e M L k (by omega)
    rw [hb, i, sR_first, Rat.pow_zero]
    have e1 : sR (fun i => q ^ (i + 1) * (e (L - (k + 1) + (i + 1)) - M)) k = q * sR (fun t => q ^ t * (e (L - k + t) - M)) k := by
      rw [← sR_mul]
      refine sR_congr fun t _ => ?_
      rw [qpow_succ, show L - (k + 1) + (t + 1) = L - k + t by omega]
      grind
    rw [e1, show L - (k + 1) + 0 = L - 1 - k by omega]
    have n1 : 1 - q ≠ 0 := by grind
    generalize sR (fun t => q ^ t * (e (L - k + t) - M)) k = S
    generalize e (L - 1 - k) = E
    grind
theorem hb_full {q : Rat} (h : q < 1) (e : Nat → Rat) (M : Rat) (L : Nat) : hb q e M L L = sR (fun t => q ^ t * (e t - M)) L + M / (1 - q) := by
  rw [hb_eq h e M L L (Nat.le_refl _)]
  congr 1
  exact sR_congr fun t _ => by rw [show L - L + t = t by omega]
/-- what a day earns, None on a day off -/
def erF (ps : List (List Int)) (pl : Pl) (t : Nat) : Option Int := match pl[t]? with
  | some (some x) => some (rdl (rdp ps x.toNat) (cs pl t x.toNat))
  | _ => none
theorem erF_some {ps : List (List Int)} {pl : Pl} {t : Nat} {x : Int} (h : pl[t]? = some (some x)) : erF ps pl t = some (rdl (rdp ps x.toNat) (cs pl t x.toNat)) := by unfold erF; rw [h]
theorem erF_none {ps : List (List Int)} {pl : Pl} {t : Nat} (h : pl[t]? = some none) : erF ps pl t = none := by unfold erF; rw [h]
def todF (o : Int × Int) (b : Int) : Option Int → Int
  | none => o.1 * b.fdiv o.2
  | some r => r * b
/-- top and bottom after k days from the end -/
def hwF (d o : Int × Int) (er : Nat → Option Int) (L : Nat) : Nat → Int × Int
  | 0 => (o.1 * d.2, o.2 * (d.2 - d.1))
  | k + 1 => (todF o (hwF d o er L k).2 (er (L - 1 - k)) * d.2 + d.1 * (hwF d o er L k).1, (hwF d o er L k).2 * d.2)
theorem hw_bot (d o : Int × Int) (er : Nat → Option Int) (L : Nat) : ∀ k, (hwF d o er L k).2 = o.2 * ((d.2 - d.1) * d.2 ^ k)
  | 0 => by show o.2 * (d.2 - d.1) = _; rw [Int.pow_zero, Int.mul_one]
  | k + 1 => by rw [hwF]; dsimp only; rw [hw_bot d o er L k, Int.pow_succ]; ac_rfl
theorem tod_none {d o : Int × Int} (ho : 0 < o.2) (er : Nat → Option Int) (L k : Nat) : (hwF d o er L k).2.fdiv o.2 = (d.2 - d.1) * d.2 ^ k := by
  rw [hw_bot, Int.mul_comm, Int.mul_fdiv_cancel _ (by omega)]
def erM (M : Rat) : Option Int → Rat
  | none => M
  | some r => (r : Rat)
theorem hw_pos {d o : Int × Int} (h : Dis d) (ho : 0 < o.2) (er : Nat → Option Int) (L k : Nat) : 0 < (hwF d o er L k).2 := by
  have := h.1
  have := h.2.1
  rw [hw_bot]
  exact Int.mul_pos ho (Int.mul_pos (by omega) (Int.pow_pos (by omega)))
theorem hw_rat {d o : Int × Int} (h : Dis d) (ho : 0 < o.2) (er : Nat → Option Int) (L : Nat) : ∀ k, rv (hwF d o er L k) = hb (rv d) (fun t => erM (rv o) (er t)) (rv o) L k
  | 0 => by
    have a := rv_alone (o := o) h ho
    unfold aloneF at a
    rw [rv_mkR (Int.mul_pos ho (by have := h.2.1; omega))] at a
    exact a
  | k + 1 => by
    have i := hw_rat h ho er L k
    have p := cast_pos (hw_pos h ho er L k)
    have b := cast_pos (show 0 < d.2 by have := h.1; have := h.2.1; omega)
    have oo := cast_pos ho
    rw [hb, ← i, hwF]
    have key : (todF o (hwF d o er L k).2 (er (L - 1 - k)) : Rat) = erM (rv o) (er (L - 1 - k)) * ((hwF d o er L k).2 : Rat) := by
      cases er (L - 1 - k) with
      | some r => show ((r * (hwF d o er L k).2 : Int) : Rat) = (r : Rat) * _; exact_mod_cast rfl
      | none =>
        show ((o.1 * (hwF d o er L k).2.fdiv o.2 : Int) : Rat) = rv o * _
        rw [tod_none ho, hw_bot]
        have e1 : ((o.1 * ((d.2 - d.1) * d.2 ^ k) : Int) : Rat) = (o.1 : Rat) * (((d.2 - d.1) * d.2 ^ k : Int) : Rat) := by exact_mod_cast rfl
        have e2 : ((o.2 * ((d.2 - d.1) * d.2 ^ k) : Int) : Rat) = (o.2 : Rat) * (((d.2 - d.1) * d.2 ^ k : Int) : Rat) := by exact_mod_cast rfl
        rw [e1, e2]
        unfold rv
        grind
    unfold rv at i ⊢
    dsimp only at i ⊢
    have e1 : ((todF o (hwF d o er L k).2 (er (L - 1 - k)) * d.2 + d.1 * (hwF d o er L k).1 : Int) : Rat) = (todF o (hwF d o er L k).2 (er (L - 1 - k)) : Rat) * (d.2 : Rat) + (d.1 : Rat) * ((hwF d o er L k).1 : Rat) := by exact_mod_cast rfl
    have e2 : (((hwF d o er L k).2 * d.2 : Int) : Rat) = ((hwF d o er L k).2 : Rat) * (d.2 : Rat) := by exact_mod_cast rfl
    rw [e1, e2, key]
    unfold rv
    generalize ((hwF d o er L k).2 : Rat) = B at *
    generalize ((hwF d o er L k).1 : Rat) = T at *
    generalize (d.2 : Rat) = D at *
    generalize (d.1 : Rat) = A at *
    generalize erM ((o.1 : Rat) / (o.2 : Rat)) (er (L - 1 - k)) = E
    have n1 : B ≠ 0 := by grind
    have n2 : D ≠ 0 := by grind
    grind
/-- the worth of a plan, as the laws sum it up -/
def lwF (d : Int × Int) (ps : List (List Int)) (pl : Pl) (o : Int × Int) : Int × Int := hwF d o (erF ps pl) pl.length pl.length
theorem lw_ok {d : Int × Int} (h : Dis d) (ps : List (List Int)) (pl : Pl) {o : Int × Int} (ho : 0 < o.2) : 0 < (lwF d ps pl o).2 ∧ rv (lwF d ps pl o) = worthR d ps pl (rv o) := by
  refine ⟨hw_pos h ho _ _ _, ?_⟩
  unfold lwF worthR
  rw [hw_rat h ho, hb_full h.q.2]
  congr 1
  refine sR_congr fun t ht => ?_
  obtain ⟨v, e⟩ : ∃ v, pl[t]? = some v := ⟨_, List.getElem?_eq_getElem ht⟩
  cases v with
  | none => rw [erF_none e, trm_none e]; show _ * (rv o - rv o) = 0; grind
  | some x => rw [erF_some e, trm_some e]; rfl
theorem hw_bd {d o : Int × Int} (h : Dis d) (ho : Offr o) {er : Nat → Option Int} (he : ∀ t r, er t = some r → Bd 31 r) (L : Nat) : ∀ k, Bd (2822 + 11 * k) (hwF d o er L k).1 ∧ Bd (1411 + 10 * k) (hwF d o er L k).2 ∧ Bd (2811 + 10 * k) (todF o (hwF d o er L k).2 (er (L - 1 - k))) := by
  obtain ⟨ha, hb, _, _⟩ := h.bd
  have o1 : 0 < o.2 := by have := ho.2.1; omega
  have bot : ∀ k, Bd (1411 + 10 * k) (hwF d o er L k).2 := fun k => by
    induction k with
    | zero => exact (ho.2.2.2.mul (hb.sub ha)).le (by decide)
    | succ k ih => rw [hwF]; exact (ih.mul hb).le (by omega)
  have tod : ∀ k, Bd (2811 + 10 * k) (todF o (hwF d o er L k).2 (er (L - 1 - k))) := fun k => by
    cases e : er (L - 1 - k) with
    | some r => exact ((he _ _ e).mul (bot k)).le (by omega)
    | none =>
      have : Bd (1411 + 10 * k) ((hwF d o er L k).2.fdiv o.2) := by
        refine (bot k).of ?_
        rw [tod_none o1, hw_bot, Int.natAbs_mul o.2]
        exact Nat.le_mul_of_pos_left _ (show 0 < o.2.natAbs by omega)
      exact (ho.2.2.1.mul this).le (by omega)
  intro k
  refine ⟨?_, bot k, tod k⟩
  induction k with
  | zero => exact (ho.2.2.1.mul hb).le (by decide)
  | succ k ih => rw [hwF]; exact (Bd.add (n := 2822 + 11 * k + 10) (((tod k).mul hb).le (by omega)) ((ha.mul ih).le (by omega))).le (by omega)
theorem er_bd {ps : List (List Int)} (hp : POk ps) (pl : Pl) (t : Nat) (r : Int) (h : erF ps pl t = some r) : Bd 31 r := by
  unfold erF at h
  split at h
  · rename_i x e
    cases h
    by_cases z : x.toNat < ps.length
    · exact (hp.rws (rdp_mem z)).bd _
    · have : rdp ps x.toNat = [] := by unfold rdp; rw [List.getD_eq_getElem?_getD, List.getElem?_eq_none (by omega)]; rfl
      rw [this]; unfold rdl; exact Bd.zero
  · cases h
/-! ### what the laws ask of two ratios of one value -/
theorem eq_cross {s t : Int × Int} (hs : 0 < s.2) (ht : 0 < t.2) (e : rv s = rv t) : s.1 * t.2 = t.1 * s.2 := (rv_eq hs ht).mp e
theorem rv_dis {d : Int × Int} (h : Dis d) : rv (mkR d.1 d.2) = rv d := rv_mkR (by have := h.1; have := h.2.1; omega)
theorem worth_mkR {d : Int × Int} (h : Dis d) (ps : List (List Int)) (pl : Pl) (M : Rat) : worthR (mkR d.1 d.2) ps pl M = worthR d ps pl M := by unfold worthR; rw [rv_dis h]
theorem cert_mkR {d : Int × Int} (h : Dis d) (ps : List (List Int)) : certF (mkR d.1 d.2) ps = certF d ps := by
  unfold certF
  exact List.map_congr_left fun rs _ => chgs_mkR h rs
/-! ### all charges in falling order -/
def geB (x y : Int × Int) : Bool := decide (x.1 * y.2 ≤ y.1 * x.2)
def insF (l : List (Int × Int)) (x : Int × Int) : List (Int × Int) := l.takeWhile (geB x) ++ [x] ++ l.dropWhile (geB x)
def falF (css : Chs) : List (Int × Int) := css.flatten.foldl insF []
theorem insF_perm (l : List (Int × Int)) (x : Int × Int) : (insF l x).Perm (x :: l) := by
  unfold insF
  have e : l.takeWhile (geB x) ++ l.dropWhile (geB x) = l := List.takeWhile_append_dropWhile
  have := List.perm_middle (a := x) (l₁ := l.takeWhile (geB x)) (l₂ := l.dropWhile (geB x))
  rw [e] at this
  simpa using this
theorem foldl_ins_perm : ∀ (xs l : List (Int × Int)), (xs.foldl insF l).Perm (xs ++ l)
  | [], l => List.Perm.refl _
  | x :: xs, l => by
    rw [List.foldl_cons]
    refine (foldl_ins_perm xs (insF l x)).trans ?_
    refine ((insF_perm l x).append_left xs).trans ?_
    exact List.perm_middle
theorem falF_perm (css : Chs) : (falF css).Perm css.flatten := by
  have := foldl_ins_perm css.flatten []
  rwa [List.append_nil] at this
def Sorted (l : List (Int × Int)) : Prop := l.Pairwise fun a b => rv b ≤ rv a
theorem ge_iff {x y : Int × Int} (hx : 0 < x.2) (hy : 0 < y.2) : geB x y = true ↔ rv x ≤ rv y := by
  unfold geB
  rw [decide_eq_true_eq, rv_le hx hy]
theorem insF_sorted {x : Int × Int} (hx : 0 < x.2) : ∀ {l : List (Int × Int)}, (∀ y ∈ l, 0 < y.2) → Sorted l → Sorted (insF l x)
  | [], _, _ => by unfold insF Sorted; simp
  | y :: l, hl, h => by
    have y0 := hl y (by simp)
    unfold Sorted at h
    rw [List.pairwise_cons] at h
    have ih := insF_sorted hx (l := l) (fun z hz => hl z (by simp [hz])) h.2
    by_cases g : geB x y = true
    · have e : insF (y :: l) x = y :: insF l x := by unfold insF; rw [List.takeWhile_cons_of_pos g, List.dropWhile_cons_of_pos g]; rfl
      rw [e]
      unfold Sorted
      rw [List.pairwise_cons]
      refine ⟨fun z hz => ?_, ih⟩
      rcases List.mem_cons.mp ((insF_perm l x).subset hz) with rfl | hz
      · exact (ge_iff hx y0).mp g
      · exact h.1 z hz
    · have e : insF (y :: l) x = x :: y :: l := by unfold insF; rw [List.takeWhile_cons_of_neg g, List.dropWhile_cons_of_neg g]; rfl
      have lt : rv y < rv x := Rat.not_le.mp fun k => g ((ge_iff hx y0).mpr k)
      rw [e]
      unfold Sorted
      rw [List.pairwise_cons, List.pairwise_cons]
      refine ⟨fun z hz => ?_, h⟩
      rcases List.mem_cons.mp hz with rfl | hz
      · grind
      · have := h.1 z hz; grind
theorem foldl_ins_sorted : ∀ {xs l : List (Int × Int)}, (∀ y ∈ xs, 0 < y.2) → (∀ y ∈ l, 0 < y.2) → Sorted l → Sorted (xs.foldl insF l)
  | [], l, _, _, h => h
  | x :: xs, l, hx, hl, h => by
    rw [List.foldl_cons]
    have x0 := hx x (by simp)
    refine foldl_ins_sorted (fun y hy => hx y (by simp [hy])) (fun y hy => ?_) (insF_sorted x0 hl h)
    rcases List.mem_cons.mp ((insF_perm l x).subset hy) with rfl | hy
    · exact x0
    · exact hl y hy
theorem sorted_eq {l l' : List (Int × Int)} (hp : l.Perm l') (h : Sorted l) (h' : Sorted l') (hr : ∀ x ∈ l, isR x = true) : l = l' :=
  List.Perm.eq_of_pairwise (le := fun a b => rv b ≤ rv a) (fun a b ha hb h1 h2 => rv_inj (hr a ha) (hr b (hp.symm.subset hb)) (by grind)) h h' hp
theorem count_sR (a : Int × Int) : ∀ l : List (Int × Int), (l.count a : Rat) = sR (fun i => if rdc l i = a then 1 else 0) l.length
  | [] => rfl
  | x :: l => by
    have ih := count_sR a l
    rw [List.count_cons, List.length_cons, sR_first]
    have e : ((l.count a + if (x == a) = true then 1 else 0 : Nat) : Rat) = (l.count a : Rat) + if x = a then 1 else 0 := by
      by_cases z : x = a
      · subst z; simp
      · simp [z]; grind
    rw [e, ih]
    show _ = (if x = a then (1 : Rat) else 0) + sR (fun i => if rdc l i = a then 1 else 0) l.length
    grind
theorem mg_perm {css : Chs} {m : Mg} (h : Mrg css m) : (m.map (·.2)).Perm css.flatten := by
  rw [List.perm_iff_count]
  intro a
  have e1 : (((m.map (·.2)).count a : Nat) : Rat) = dsum 1 (fun j k => if chC css j k = a then 1 else 0) (mpl m) m.length := by
    rw [count_sR, List.length_map]
    refine sR_congr fun i hi => ?_
    obtain ⟨x, hx, ex⟩ := m_at (m := m) hi
    have : rdc (m.map (·.2)) i = gM m i := rdc_of (by rw [List.getElem?_map, hx]; rfl)
    rw [trm_some (mpl_at hx), pow_one, ← h.ch _ _ _ hx, this]; grind
  have e2 : ((css.flatten.count a : Nat) : Rat) = sR (fun j => sR (fun k => if chC css j k = a then 1 else 0) (lenC css j)) css.length := by
    rw [List.count_flatten, sum_getD (fun l => l.count a) []]
    exact sR_congr fun j _ => count_sR a _
  have e3 := psum h.vl (fun j k => if chC css j k = a then 1 else 0) m.length
  have e4 : (((m.map (·.2)).count a : Nat) : Rat) = ((css.flatten.count a : Nat) : Rat) := by
    rw [e1, e2, e3]
    exact sR_congr fun j hj => by rw [h.full j hj]
  exact_mod_cast e4
theorem Mrg0.sorted {css : Chs} {m : Mg} (h : Mrg0 css m) (hf : Fal css) : Sorted (m.map (·.2)) := by
  unfold Sorted
  rw [List.pairwise_iff_getElem]
  intro i j hi hj hij
  rw [List.length_map] at hi hj
  have f := h.falls hf (i := i) (j - i) (by omega)
  rw [show i + (j - i) = j by omega] at f
  rw [List.getElem_map, List.getElem_map]
  rwa [gM_of (List.getElem?_eq_getElem hi), gM_of (List.getElem?_eq_getElem hj)] at f
theorem fal_eq {c : Co} (ok : COk c) : falF (certF c.1 c.2) = (mgC c).map (·.2) := by
  have hm := cert_mrg ok
  have o := cert_own ok.d.1 ok.p
  have mem : ∀ x ∈ (certF c.1 c.2).flatten, 0 < x.2 ∧ isR x = true := fun x hx => by
    obtain ⟨e, he, rfl⟩ := List.mem_map.mp ((mg_perm hm).symm.subset hx)
    exact (mgC_mem ok he).1
  refine sorted_eq ((falF_perm _).trans (mg_perm hm).symm) (foldl_ins_sorted (fun y hy => (mem y hy).1) (fun y hy => by cases hy) (by unfold Sorted; simp)) (hm.sorted o.fal) fun x hx => (mem x ((falF_perm _).subset hx)).2
theorem tw_split {α : Type} (p : α → Bool) : ∀ l : List α, l.takeWhile p = l.take (l.takeWhile p).length ∧ l.dropWhile p = l.drop (l.takeWhile p).length ∧ (l.takeWhile p).length ≤ l.length ∧ (∀ (i : Nat) (a : α), l[i]? = some a → i < (l.takeWhile p).length → p a = true) ∧ ∀ a : α, l[(l.takeWhile p).length]? = some a → p a = false
  | [] => ⟨rfl, rfl, Nat.le_refl _, fun i a e => by simp at e, fun a e => by simp at e⟩
  | x :: l => by
    obtain ⟨h1, h2, h3, h4, h5⟩ := tw_split p l
    cases e : p x with
    | true =>
      rw [List.takeWhile_cons_of_pos e, List.dropWhile_cons_of_pos e, List.length_cons]
      refine ⟨by rw [List.take_succ_cons, ← h1], by rw [List.drop_succ_cons, ← h2], by rw [List.length_cons]; omega, fun i a ea hi => ?_, fun a ea => ?_⟩
      · cases i with
        | zero => simp at ea; subst ea; exact e
        | succ i => exact h4 i a (by simpa using ea) (by omega)
      · exact h5 a (by simpa using ea)
    | false =>
      rw [List.takeWhile_cons_of_neg (by simp [e]), List.dropWhile_cons_of_neg (by simp [e])]
      refine ⟨rfl, rfl, by simp, fun i a ea hi => absurd hi (by simp), fun a ea => ?_⟩
      simp at ea; subst ea; exact e
theorem insF_cut (l : List (Int × Int)) (x : Int × Int) : l.take (l.takeWhile (geB x)).length ++ [x] ++ l.drop (l.takeWhile (geB x)).length = insF l x := by
  obtain ⟨h1, h2, _⟩ := tw_split (geB x) l
  unfold insF
  rw [← h1, ← h2]
theorem flat_take {css : Chs} {i : Nat} {row : List (Int × Int)} (h : css[i]? = some row) : (css.take (i + 1)).flatten = (css.take i).flatten ++ row := by
  rw [take_snoc h, List.flatten_append]; simp
theorem fold_len (xs l : List (Int × Int)) : (xs.foldl insF l).length = xs.length + l.length := by rw [(foldl_ins_perm xs l).length_eq, List.length_append]
theorem flat_len (css : Chs) : css.flatten.length = totC css := by unfold totC; rw [List.length_flatten]
def FOk (css : Chs) : Prop := css.length ≤ 1000 ∧ totC css ≤ 1000 ∧ ∀ x ∈ css.flatten, Bd 9000 x.1 ∧ Bd 9000 x.2
theorem eq_law {t v : Int × Int} (ht : isR t = true) (hv : 0 < v.2) (e : rv t = rv v) : (isR t && decide (t.1 * v.2 = v.1 * t.2)) = true := by
  have h := (isR_iff.mp ht).1
  rw [ht, decide_eq_true (eq_cross (by omega) hv e)]
  rfl
theorem lw_bd {d : Int × Int} (h : Dis d) {ps : List (List Int)} (hp : POk ps) (pl : Pl) {o : Int × Int} (ho : Offr o) (hL : pl.length ≤ 210) : Bd 9000 (lwF d ps pl o).1 ∧ Bd 9000 (lwF d ps pl o).2 := by
  obtain ⟨a, b, _⟩ := hw_bd h ho (er_bd hp pl) pl.length pl.length
  exact ⟨a.le (by omega), b.le (by omega)⟩
/-- a company made of the discount d -/
structure Made (d : Int × Int) (c : Co) : Prop where
  dis : Dis d
  ok : COk c
  eq : c.1 = mkR d.1 d.2
theorem Made.q {d : Int × Int} {c : Co} (h : Made d c) : rv c.1 = rv d := by rw [h.eq, rv_dis h.dis]
theorem Made.cert {d : Int × Int} {c : Co} (h : Made d c) : certF c.1 c.2 = certF d c.2 := by rw [h.eq, cert_mkR h.dis]
theorem Made.worth {d : Int × Int} {c : Co} (h : Made d c) (pl : Pl) (M : Rat) : worthR d c.2 pl M = worthR c.1 c.2 pl M := by unfold worthR; rw [h.q]
theorem Made.lw {d : Int × Int} {c : Co} (h : Made d c) (pl : Pl) {o : Int × Int} (ho : 0 < o.2) : 0 < (lwF d c.2 pl o).2 ∧ rv (lwF d c.2 pl o) = worthR c.1 c.2 pl (rv o) := by
  have := lw_ok h.dis c.2 pl ho
  rwa [h.worth] at this
/-- plan_worth and the laws' sum -/
theorem Made.pw_eq {d : Int × Int} {c : Co} (h : Made d c) (pl : Pl) {o : Int × Int} (ho : 0 < o.2) : (isR (pwF c pl o) && decide ((pwF c pl o).1 * (lwF d c.2 pl o).2 = (lwF d c.2 pl o).1 * (pwF c pl o).2)) = true := by
  have a := pw_ok h.ok.d.1 pl ho
  have b := h.lw pl ho
  exact eq_law a.1 b.1 (by rw [a.2, b.2])
theorem Made.bw_eq {d : Int × Int} {c : Co} (h : Made d c) {o : Int × Int} (ho : 0 < o.2) : (isR (bwF c o) && decide ((bwF c o).1 * (lwF d c.2 ((bpF c o).map some) o).2 = (lwF d c.2 ((bpF c o).map some) o).1 * (bwF c o).2)) = true := h.pw_eq _ ho
theorem alone_pos' {d o : Int × Int} (h : Dis d) (ho : 0 < o.2) : 0 < o.2 * (d.2 - d.1) := Int.mul_pos ho (by have := h.2.1; omega)
theorem Made.alone {d : Int × Int} {c : Co} (h : Made d c) {o : Int × Int} (ho : 0 < o.2) : (isR (pwF c [] o) && decide ((pwF c [] o).1 * (o.2 * (d.2 - d.1)) = o.1 * d.2 * (pwF c [] o).2)) = true := by
  have a := pw_ok h.ok.d.1 [] ho
  refine eq_law (v := (o.1 * d.2, o.2 * (d.2 - d.1))) a.1 (alone_pos' h.dis ho) ?_
  have b := rv_alone (o := o) h.dis ho
  unfold aloneF at b
  rw [rv_mkR (alone_pos' h.dis ho)] at b
  rw [a.2, b, ← h.q]
  unfold worthR
  show (0 : Rat) + _ = _
  grind
theorem alone_le {c : Co} (ok : COk c) {o : Int × Int} (ho : 0 < o.2) : (pwF c [] o).1 * (bwF c o).2 ≤ (bwF c o).1 * (pwF c [] o).2 := by
  have a := pw_ok ok.d.1 [] ho
  have b := bw_ok ok ho
  have p1 := (isR_iff.mp a.1).1
  have p2 := (isR_iff.mp b.1).1
  refine (rv_le (by omega) (by omega)).mp ?_
  rw [a.2, b.2]
  exact plan_le ok (fun i x e => by simp at e) _
theorem zero_offr : Offr (0, 1) := ⟨by decide, by decide, Bd.zero, Bd.one (by decide)⟩
theorem choice_offr {c : Co} (ok : COk c) {x : Int × Int} (h : x ∈ falF (certF c.1 c.2)) (h0 : 0 ≤ x.1) : Offr x := by
  rw [fal_eq ok] at h
  obtain ⟨e, he, rfl⟩ := List.mem_map.mp h
  obtain ⟨a, b⟩ := mgC_mem ok he
  exact ⟨h0, by have := a.1; omega, b.1.le (by decide), b.2.le (by decide)⟩
theorem cert_fok {c : Co} (ok : COk c) : FOk (certF c.1 c.2) := by
  have m := cert_mok ok
  refine ⟨m.1, m.2.1, fun x hx => ?_⟩
  obtain ⟨e, he, rfl⟩ := List.mem_map.mp ((mg_perm (cert_mrg ok)).symm.subset hx)
  obtain ⟨a, b⟩ := mgC_mem ok he
  exact ⟨b.1.le (by decide), b.2.le (by decide)⟩
/-! ### the sum of falling charges, from the last one backwards -/
def fhF (d o : Int × Int) (c : Nat → Int × Int) (L : Nat) : Nat → Int × Int
  | 0 => (o.1 * d.2, o.2 * (d.2 - d.1))
  | k + 1 => ((c (L - 1 - k)).1 * d.2 * (fhF d o c L k).2 + (c (L - 1 - k)).2 * d.1 * (fhF d o c L k).1, (c (L - 1 - k)).2 * d.2 * (fhF d o c L k).2)
def fwF (d o : Int × Int) (es : List (Int × Int)) : Int × Int := fhF d o (rdc es) es.length es.length
def abvL (fl : List (Int × Int)) (o : Int × Int) : List (Int × Int) := fl.filter fun t => decide (o.1 * t.2 < t.1 * o.2)
def FlOk (fl : List (Int × Int)) : Prop := fl.length ≤ 72 ∧ ∀ x ∈ fl, 0 < x.2 ∧ Bd 1400 x.1 ∧ Bd 1400 x.2
theorem rdc_bd {n : Nat} {es : List (Int × Int)} (h : ∀ x ∈ es, 0 < x.2 ∧ Bd (n + 1) x.1 ∧ Bd (n + 1) x.2) (t : Nat) : 0 < (rdc es t).2 ∧ Bd (n + 1) (rdc es t).1 ∧ Bd (n + 1) (rdc es t).2 := by
  by_cases z : t < es.length
  · have e : es[t]? = some es[t] := List.getElem?_eq_getElem z
    rw [rdc_of e]
    exact h _ (List.getElem_mem z)
  · have e : rdc es t = (0, 1) := by unfold rdc; rw [List.getD_eq_getElem?_getD, List.getElem?_eq_none (by omega)]; rfl
    rw [e]
    exact ⟨by decide, Bd.zero, Bd.one (by omega)⟩
theorem fh_pos {d o : Int × Int} (h : Dis d) (ho : 0 < o.2) {c : Nat → Int × Int} (hc : ∀ t, 0 < (c t).2) (L : Nat) : ∀ k, 0 < (fhF d o c L k).2
  | 0 => alone_pos' h ho
  | k + 1 => Int.mul_pos (Int.mul_pos (hc _) (by have := h.1; have := h.2.1; omega)) (fh_pos h ho hc L k)
theorem fh_rat {d o : Int × Int} (h : Dis d) (ho : 0 < o.2) {c : Nat → Int × Int} (hc : ∀ t, 0 < (c t).2) (L : Nat) : ∀ k, rv (fhF d o c L k) = hb (rv d) (fun t => rv (c t)) (rv o) L k
  | 0 => by
    have a := rv_alone (o := o) h ho
    unfold aloneF at a
    rw [rv_mkR (alone_pos' h ho)] at a
    exact a
  | k + 1 => by
    have i := fh_rat h ho hc L k
    have p := cast_pos (fh_pos h ho hc L k)
    have b := cast_pos (show 0 < d.2 by have := h.1; have := h.2.1; omega)
    have cc := cast_pos (hc (L - 1 - k))
    rw [hb, ← i, fhF]
    unfold rv at i ⊢
    dsimp only at i ⊢
    have e1 : (((c (L - 1 - k)).1 * d.2 * (fhF d o c L k).2 + (c (L - 1 - k)).2 * d.1 * (fhF d o c L k).1 : Int) : Rat) = ((c (L - 1 - k)).1 : Rat) * (d.2 : Rat) * ((fhF d o c L k).2 : Rat) + ((c (L - 1 - k)).2 : Rat) * (d.1 : Rat) * ((fhF d o c L k).1 : Rat) := by exact_mod_cast rfl
    have e2 : (((c (L - 1 - k)).2 * d.2 * (fhF d o c L k).2 : Int) : Rat) = ((c (L - 1 - k)).2 : Rat) * (d.2 : Rat) * ((fhF d o c L k).2 : Rat) := by exact_mod_cast rfl
    rw [e1, e2]
    generalize ((fhF d o c L k).2 : Rat) = B at *
    generalize ((fhF d o c L k).1 : Rat) = T at *
    generalize (d.2 : Rat) = D at *
    generalize (d.1 : Rat) = A at *
    generalize ((c (L - 1 - k)).1 : Rat) = X at *
    generalize ((c (L - 1 - k)).2 : Rat) = Y at *
    have n1 : B ≠ 0 := by grind
    have n2 : D ≠ 0 := by grind
    have n3 : Y ≠ 0 := by grind
    grind
theorem fh_bd {d o : Int × Int} (h : Dis d) (ho : Offr o) {n : Nat} {c : Nat → Int × Int} (hc : ∀ t, 0 < (c t).2 ∧ Bd n (c t).1 ∧ Bd n (c t).2) (L : Nat) : ∀ k, Bd (1411 + (n + 11) * k) (fhF d o c L k).1 ∧ Bd (1411 + (n + 11) * k) (fhF d o c L k).2 := by
  obtain ⟨ha, hb, _, _⟩ := h.bd
  intro k
  induction k with
  | zero => exact ⟨(ho.2.2.1.mul hb).le (by omega), (ho.2.2.2.mul (hb.sub ha)).le (by omega)⟩
  | succ k ih =>
    rw [fhF]
    obtain ⟨_, c1, c2⟩ := hc (L - 1 - k)
    have e : 1411 + (n + 11) * (k + 1) = 1411 + (n + 11) * k + n + 11 := by rw [Nat.mul_succ]; omega
    exact ⟨(Bd.add (n := n + 10 + (1411 + (n + 11) * k)) ((c1.mul hb).mul ih.2) ((c2.mul ha).mul ih.1)).le (by omega), ((c2.mul hb).mul ih.2).le (by omega)⟩
theorem fw_ok {d : Int × Int} (h : Dis d) {o : Int × Int} (ho : 0 < o.2) {es : List (Int × Int)} (he : ∀ x ∈ es, 0 < x.2) : 0 < (fwF d o es).2 ∧ rv (fwF d o es) = sR (fun k => rv d ^ k * (rv (rdc es k) - rv o)) es.length + rv o / (1 - rv d) := by
  have hc : ∀ t, 0 < (rdc es t).2 := fun t => by
    by_cases z : t < es.length
    · have e : es[t]? = some es[t] := List.getElem?_eq_getElem z
      rw [rdc_of e]; exact he _ (List.getElem_mem z)
    · have e : rdc es t = (0, 1) := by unfold rdc; rw [List.getD_eq_getElem?_getD, List.getElem?_eq_none (by omega)]; rfl
      rw [e]; decide
  refine ⟨fh_pos h ho hc _ _, ?_⟩
  unfold fwF
  rw [fh_rat h ho hc, hb_full h.q.2]
theorem fal_fl {c : Co} (ok : COk c) : FlOk (falF (certF c.1 c.2)) := by
  rw [fal_eq ok]
  refine ⟨by rw [List.length_map]; have := mgC_le ok; omega, fun x hx => ?_⟩
  obtain ⟨e, he, rfl⟩ := List.mem_map.mp hx
  obtain ⟨a, b⟩ := mgC_mem ok he
  exact ⟨a.1, b.1.le (by decide), b.2.le (by decide)⟩
theorem abv_eq {c : Co} (ok : COk c) {o : Int × Int} (ho : 0 < o.2) : abvL (falF (certF c.1 c.2)) o = ((mgC c).take (cutK (mgC c) (rv o))).map (·.2) := by
  rw [fal_eq ok, ← (cert_mrg ok).cut (cert_own ok.d.1 ok.p).fal (rv o)]
  unfold abvL
  rw [List.filter_map]
  congr 1
  refine List.filter_congr fun e he => ?_
  have p := (mgC_mem ok he).1.1
  unfold abv
  rw [Bool.eq_iff_iff]
  show decide (o.1 * e.2.2 < e.2.1 * o.2) = true ↔ _
  rw [decide_eq_true_eq, decide_eq_true_eq, rv_lt ho p]
theorem fw_best {c : Co} (ok : COk c) {d o : Int × Int} (hd : Dis d) (hq : rv c.1 = rv d) (ho : 0 < o.2) : 0 < (fwF d o (abvL (falF (certF c.1 c.2)) o)).2 ∧ rv (fwF d o (abvL (falF (certF c.1 c.2)) o)) = bestR c (rv o) := by
  have al : ∀ x ∈ abvL (falF (certF c.1 c.2)) o, 0 < x.2 := fun x hx => ((fal_fl ok).2 x (List.mem_filter.mp hx).1).1
  obtain ⟨h1, h2⟩ := fw_ok hd ho al
  refine ⟨h1, ?_⟩
  rw [h2, abv_eq ok ho]
  unfold bestR fallW
  rw [hq]
  have l := cutK_le (mgC c) (rv o)
  rw [List.length_map, List.length_take, Nat.min_eq_left l]
  congr 1
  refine sR_congr fun k hk => ?_
  have e : rdc (((mgC c).take (cutK (mgC c) (rv o))).map (·.2)) k = gM (mgC c) k := by
    obtain ⟨x, hx, _⟩ := m_at (m := mgC c) (i := k) (by omega)
    refine rdc_of ?_
    rw [List.getElem?_map, List.getElem?_take, if_pos hk, hx]; rfl
  rw [e]
end Tm

namespace Tm
open PySem L2 Tp
/-! ### plans changed -/
theorem cnt_take (pl : Pl) (s j : Nat) : cs pl s j ≤ cntP pl j := by
  unfold cs cntP
  exact (List.take_sublist s pl).count_le _
theorem VPc {ps : List (List Int)} {pl : Pl} : VP ps pl ↔ (∀ x, some x ∈ pl → 0 ≤ x ∧ x.toNat < ps.length) ∧ ∀ j, j < ps.length → cntP pl j ≤ lenP ps j := by
  constructor
  · intro h
    refine ⟨fun x hx => ?_, fun j _ => ?_⟩
    · obtain ⟨i, hi⟩ := List.getElem?_of_mem hx
      obtain ⟨a, b, _⟩ := h.vl i x hi
      exact ⟨a, b⟩
    · have := h.vl.cs_le j pl.length
      rwa [cs_over (Nat.le_refl _)] at this
  · intro ⟨h1, h2⟩
    refine VL.vp fun i x e => ?_
    obtain ⟨a, b⟩ := h1 x (List.mem_of_getElem? e)
    refine ⟨a, b, ?_⟩
    have c := cs_some e a x.toNat
    rw [if_pos rfl] at c
    have d := cnt_take pl (i + 1) x.toNat
    have f := h2 _ b
    omega
theorem VP.of_perm {ps : List (List Int)} {pl pl' : Pl} (h : VP ps pl) (h1 : ∀ x, some x ∈ pl' → some x ∈ pl) (h2 : ∀ j, cntP pl' j ≤ cntP pl j) : VP ps pl' := by
  rw [VPc] at h ⊢
  exact ⟨fun x hx => h.1 x (h1 x hx), fun j hj => Nat.le_trans (h2 j) (h.2 j hj)⟩
def swapL {α : Type} (l : List α) (i j : Nat) (a b : α) : List α := (l.set i b).set j a
theorem cnt_set {pl : Pl} {i : Nat} {a : Option Int} (h : i < pl.length) (o : Option Int) (j : Nat) (e : pl[i]? = some o) : cntP (pl.set i a) j + (if o = some (j : Int) then 1 else 0) = cntP pl j + (if a = some (j : Int) then 1 else 0) := by
  unfold cntP
  have e' : pl[i] = o := by rw [List.getElem?_eq_getElem h] at e; exact Option.some.inj e
  rw [List.count_set h, e']
  have pos : o = some (j : Int) → 0 < pl.count (some (j : Int)) := fun z => List.count_pos_iff.mpr (by rw [← z]; exact List.mem_of_getElem? e)
  by_cases z1 : o = some (j : Int)
  · have := pos z1
    subst z1
    by_cases z2 : a = some (j : Int) <;> simp [z2] <;> omega
  · have b : (o == some (j : Int)) = false := by simpa using z1
    by_cases z2 : a = some (j : Int)
    · simp [z1, z2, b]
    · have b2 : (a == some (j : Int)) = false := by simpa using z2
      simp [z1, z2, b, b2]
theorem swap_ok {ps : List (List Int)} {pl : Pl} (h : VP ps pl) {i j : Nat} {a b : Option Int} (hi : pl[i]? = some a) (hj : pl[j]? = some b) : VP ps ((pl.set i b).set j a) := by
  have li := (List.getElem?_eq_some_iff.mp hi).1
  have lj := (List.getElem?_eq_some_iff.mp hj).1
  refine h.of_perm (fun x hx => ?_) fun k => ?_
  · rcases List.mem_or_eq_of_mem_set hx with hx | hx
    · rcases List.mem_or_eq_of_mem_set hx with hx | hx
      · exact hx
      · rw [hx]; exact List.mem_of_getElem? hj
    · rw [hx]; exact List.mem_of_getElem? hi
  · have c1 := cnt_set (pl := pl) (a := b) li a k hi
    by_cases q : i = j
    · subst q
      have e : (pl.set i b)[i]? = some b := List.getElem?_set_self li
      have c2 := cnt_set (pl := pl.set i b) (a := a) (by rw [List.length_set]; exact li) b k e
      omega
    · have e : (pl.set i b)[j]? = some b := by rw [List.getElem?_set_ne q]; exact hj
      have c2 := cnt_set (pl := pl.set i b) (a := a) (by rw [List.length_set]; exact lj) b k e
      omega
theorem erase_ok {ps : List (List Int)} {pl : Pl} (h : VP ps pl) (i : Nat) : VP ps (pl.take i ++ pl.drop (i + 1)) := by
  have s : (pl.take i ++ pl.drop (i + 1)).Sublist pl := by
    have e : pl = pl.take i ++ pl.drop i := (List.take_append_drop i pl).symm
    conv => rhs; rw [e]
    refine List.Sublist.append (List.Sublist.refl _) ?_
    rw [show pl.drop (i + 1) = (pl.drop i).drop 1 by rw [List.drop_drop]]
    exact List.drop_sublist 1 _
  exact h.of_perm (fun x hx => s.subset hx) fun j => s.count_le _
theorem off_ok {ps : List (List Int)} {pl : Pl} (h : VP ps pl) (i : Nat) : VP ps (pl.take i ++ [none] ++ pl.drop i) := by
  refine h.of_perm (fun x hx => ?_) fun j => ?_
  · rcases List.mem_append.mp hx with hx | hx
    · rcases List.mem_append.mp hx with hx | hx
      · exact List.mem_of_mem_take hx
      · simp at hx
    · exact List.mem_of_mem_drop hx
  · unfold cntP
    rw [List.count_append, List.count_append]
    have e := congrArg (List.count (some (j : Int))) (List.take_append_drop i pl)
    rw [List.count_append] at e
    simp
    omega
theorem VP.snocN {ps : List (List Int)} {pl : Pl} (h : VP ps pl) : VP ps (pl ++ [none]) := h.snoc_none
def chaF (pl : Pl) (row : List Int) (kind : Int) : Pl :=
  if pl.length = 0 then pl else
    let a := (rdl row 1 % (pl.length : Int)).toNat
    let b := (rdl row 2 % (pl.length : Int)).toNat
    if kind = 2 then (pl.set a (pl.getD b none)).set b (pl.getD a none) else if kind = 3 then pl.take a ++ pl.drop (a + 1) else pl.take a ++ [none] ++ pl.drop a
theorem chaF_ok {ps : List (List Int)} {pl : Pl} (h : VP ps pl) (row : List Int) (kind : Int) : VP ps (chaF pl row kind) ∧ (chaF pl row kind).length ≤ pl.length + 1 := by
  unfold chaF
  by_cases z : pl.length = 0
  · rw [if_pos z]; exact ⟨h, by omega⟩
  · rw [if_neg z]
    dsimp only
    have a0 := Int.emod_nonneg (rdl row 1) (show (pl.length : Int) ≠ 0 by omega)
    have a1 := Int.emod_lt_of_pos (rdl row 1) (show (0 : Int) < pl.length by omega)
    have b0 := Int.emod_nonneg (rdl row 2) (show (pl.length : Int) ≠ 0 by omega)
    have b1 := Int.emod_lt_of_pos (rdl row 2) (show (0 : Int) < pl.length by omega)
    have at_ : ∀ i, i < pl.length → pl[i]? = some (pl.getD i none) := fun i hi => by rw [List.getD_eq_getElem?_getD, List.getElem?_eq_getElem hi]; rfl
    split
    · exact ⟨swap_ok h (at_ _ (by omega)) (at_ _ (by omega)), by simp⟩
    · split
      · refine ⟨erase_ok h _, ?_⟩
        rw [List.length_append, List.length_take, List.length_drop]; omega
      · refine ⟨off_ok h _, ?_⟩
        rw [List.length_append, List.length_append, List.length_take, List.length_drop, List.length_singleton]; omega
end Tm

namespace Tm
open PySem L2 Tp
/-! ### the best stop and the charges above the offer -/
theorem Crg.falls {d : Int × Int} {rs : List Int} {cs : List (Int × Int)} (h : Crg d rs cs) {i : Nat} : ∀ k, i + k < rs.length → rv (rdc cs (i + k)) ≤ rv (rdc cs i)
  | 0, _ => Rat.le_refl
  | k + 1, hk => by
    have a := h.falls (i := i) k (by omega)
    have b := h.fal (i + k) (by omega)
    rw [show i + (k + 1) = i + k + 1 by omega]
    grind
theorem Crg.abv {d : Int × Int} {rs : List Int} {cs : List (Int × Int)} (h : Crg d rs cs) {o : Int × Int} (ho : 0 < o.2) : ∀ i, i < rs.length → (i < (abvL cs o).length ↔ rv o < rv (rdc cs i)) := by
  have at_ : ∀ {i : Nat} {a : Int × Int}, cs[i]? = some a → a = rdc cs i ∧ i < rs.length := fun {i a} e => ⟨(rdc_of e).symm, by rw [← h.len]; exact (List.getElem?_eq_some_iff.mp e).1⟩
  have pi : ∀ i, decide (o.1 * (rdc cs i).2 < (rdc cs i).1 * o.2) = true ↔ rv o < rv (rdc cs i) := fun i => by rw [decide_eq_true_eq, rv_lt ho (h.den i)]
  have e := filter_take (fun t : Int × Int => decide (o.1 * t.2 < t.1 * o.2)) cs fun i j a b hij ha hb hp => by
    obtain ⟨ea, la⟩ := at_ ha
    obtain ⟨eb, lb⟩ := at_ hb
    have f := h.falls (i := i) (j - i) (by omega)
    rw [show i + (j - i) = j by omega] at f
    rw [eb] at hp
    rw [ea]
    exact (pi i).mpr (by have := (pi j).mp hp; grind)
  intro i hi
  have hi' : i < cs.length := by rw [h.len]; exact hi
  have ei : cs[i]? = some (rdc cs i) := by rw [List.getElem?_eq_getElem hi', (rdc_of (List.getElem?_eq_getElem hi')).symm]
  have fl : (abvL cs o).length ≤ cs.length := List.length_filter_le _ _
  constructor
  · intro k
    have mem : rdc cs i ∈ cs.filter (fun t => decide (o.1 * t.2 < t.1 * o.2)) := by
      rw [e]
      refine List.mem_of_getElem? (i := i) ?_
      rw [List.getElem?_take, if_pos (show i < (cs.filter (fun t => decide (o.1 * t.2 < t.1 * o.2))).length from k), ei]
    exact (pi i).mp (List.mem_filter.mp mem).2
  · intro k
    refine Classical.byContradiction fun no => ?_
    have s : cs.filter (fun t => decide (o.1 * t.2 < t.1 * o.2)) = (cs.take (abvL cs o).length).filter (fun t => decide (o.1 * t.2 < t.1 * o.2)) ++ (cs.drop (abvL cs o).length).filter (fun t => decide (o.1 * t.2 < t.1 * o.2)) := by rw [← List.filter_append, List.take_append_drop]
    have t : (cs.take (abvL cs o).length).filter (fun t => decide (o.1 * t.2 < t.1 * o.2)) = cs.take (abvL cs o).length := by
      rw [show cs.take (abvL cs o).length = cs.filter (fun t => decide (o.1 * t.2 < t.1 * o.2)) from e.symm, List.filter_filter]; simp
    have c := congrArg List.length s
    rw [List.length_append, t, List.length_take] at c
    have z : ((cs.drop (abvL cs o).length).filter (fun t => decide (o.1 * t.2 < t.1 * o.2))).length = 0 := by
      have : (cs.filter (fun t => decide (o.1 * t.2 < t.1 * o.2))).length = (abvL cs o).length := rfl
      omega
    have mem : rdc cs i ∈ (cs.drop (abvL cs o).length).filter (fun t => decide (o.1 * t.2 < t.1 * o.2)) := List.mem_filter.mpr ⟨by
      refine List.mem_of_getElem? (i := i - (abvL cs o).length) ?_
      rw [List.getElem?_drop, show (abvL cs o).length + (i - (abvL cs o).length) = i by omega, ei], (pi i).mpr k⟩
    rw [List.length_eq_zero_iff.mp z] at mem
    cases mem
theorem ws_rat {d : Int × Int} (h : Dis d) {n : Nat} (r : Nat → Int) : ∀ k, k ≤ n → (ws d.1 d.2 n r k : Rat) = (d.2 : Rat) ^ (n - 1) * sR (fun t => rv d ^ t * (r t : Rat)) k
  | 0, _ => by show (((0 : Int)) : Rat) = _ * (0 : Rat); grind
  | k + 1, hk => by
    have i := ws_rat h (n := n) r k (by omega)
    have w := wt_rat h (n := n) (t := k) (by omega)
    rw [ws_step, sR_succ]
    have e : ((ws d.1 d.2 n r k + wt d.1 d.2 n k * r k : Int) : Rat) = (ws d.1 d.2 n r k : Rat) + (wt d.1 d.2 n k : Rat) * (r k : Rat) := by exact_mod_cast rfl
    rw [e, i, w]
    grind
theorem gn_rat {d : Int × Int} (h : Dis d) {n : Nat} (r : Nat → Int) {o : Int × Int} (ho : 0 < o.2) {k : Nat} (hk : k ≤ n) : (gnF (ws d.1 d.2 n one) (ws d.1 d.2 n r) o k : Rat) = (d.2 : Rat) ^ (n - 1) * (o.2 : Rat) * sR (fun t => rv d ^ t * ((r t : Rat) - rv o)) k := by
  have a := ws_rat h (n := n) r k hk
  have b := ws_rat h (n := n) one k hk
  have y := cast_pos ho
  unfold gnF
  have e : ((ws d.1 d.2 n r k * o.2 - o.1 * ws d.1 d.2 n one k : Int) : Rat) = (ws d.1 d.2 n r k : Rat) * (o.2 : Rat) - (o.1 : Rat) * (ws d.1 d.2 n one k : Rat) := by exact_mod_cast rfl
  rw [e, a, b]
  have s : sR (fun t => rv d ^ t * ((r t : Rat) - rv o)) k = sR (fun t => rv d ^ t * (r t : Rat)) k - rv o * sR (fun t => rv d ^ t * ((one t : Int) : Rat)) k := by
    rw [← sR_mul, ← sR_sub]
    refine sR_congr fun t _ => ?_
    have : ((one t : Int) : Rat) = 1 := rfl
    rw [this]; grind
  rw [s]
  have eo : rv o = (o.1 : Rat) / (o.2 : Rat) := rfl
  rw [eo]
  generalize (o.1 : Rat) = P at *
  generalize (o.2 : Rat) = O at *
  grind
theorem stop_is {d : Int × Int} (h : Dis d) {rs : List Int} {cs : List (Int × Int)} (hc : Crg d rs cs) {o : Int × Int} (ho : 0 < o.2) :
    (bsF (ws d.1 d.2 rs.length one) (ws d.1 d.2 rs.length (rdl rs)) o rs.length).2 = (abvL cs o).length := by
  obtain ⟨b1, b2, b3, b4⟩ := bs_ok (D := ws d.1 d.2 rs.length one) (S := ws d.1 d.2 rs.length (rdl rs)) (o := o) rfl rfl rs.length
  have Kl : (abvL cs o).length ≤ rs.length := by rw [← hc.len]; exact List.length_filter_le _ _
  have q := h.q
  have bp : 0 < (d.2 : Rat) ^ (rs.length - 1) * (o.2 : Rat) := Rat.mul_pos (qpow_pos (cast_pos (by have := h.1; have := h.2.1; omega)) _) (cast_pos ho)
  have g : ∀ k, sR (fun t => rv d ^ t * ((rdl rs t : Rat) - rv o)) k = sR (fun t => rv d ^ t * (rv (rdc cs t) - rv o)) k - tR d (rdl rs) (rdc cs) k := fun k => by
    unfold tR
    rw [← sR_sub]
    exact sR_congr fun t _ => by grind
  have TK : tR d (rdl rs) (rdc cs) (abvL cs o).length = 0 := hc.tight _ Kl fun k0 kn => by
    have a := (hc.abv ho ((abvL cs o).length - 1) (by omega)).mp (by omega)
    have b : ¬ rv o < rv (rdc cs (abvL cs o).length) := fun z => by have := (hc.abv ho _ kn).mpr z; omega
    grind
  have up : ∀ k, k ≤ rs.length → sR (fun t => rv d ^ t * (rv (rdc cs t) - rv o)) k ≤ sR (fun t => rv d ^ t * (rv (rdc cs t) - rv o)) (abvL cs o).length := fun k hk => by
    by_cases z : k ≤ (abvL cs o).length
    · refine sR_mono z fun i _ hi => Rat.mul_nonneg (Rat.le_of_lt (qpow_pos q.1 i)) ?_
      have := (hc.abv ho i (by omega)).mp hi
      grind
    · obtain ⟨j, rfl⟩ := Nat.le.dest (show (abvL cs o).length ≤ k by omega)
      rw [sR_split]
      have : sR (fun t => rv d ^ ((abvL cs o).length + t) * (rv (rdc cs ((abvL cs o).length + t)) - rv o)) j ≤ sR (fun _ => 0) j := sR_le fun i hi => by
        have n := (hc.abv ho ((abvL cs o).length + i) (by omega))
        have : ¬ rv o < rv (rdc cs ((abvL cs o).length + i)) := fun z => by have := n.mpr z; omega
        have p := qpow_pos q.1 ((abvL cs o).length + i)
        have m := Rat.mul_nonneg (Rat.le_of_lt p) (show 0 ≤ rv o - rv (rdc cs ((abvL cs o).length + i)) by grind)
        grind
      rw [sR_zero (f := fun _ => 0) fun _ _ => rfl] at this
      grind
  have cmp : ∀ k, k ≤ rs.length → gnF (ws d.1 d.2 rs.length one) (ws d.1 d.2 rs.length (rdl rs)) o k ≤ gnF (ws d.1 d.2 rs.length one) (ws d.1 d.2 rs.length (rdl rs)) o (abvL cs o).length ∧ (k < (abvL cs o).length → gnF (ws d.1 d.2 rs.length one) (ws d.1 d.2 rs.length (rdl rs)) o k < gnF (ws d.1 d.2 rs.length one) (ws d.1 d.2 rs.length (rdl rs)) o (abvL cs o).length) := fun k hk => by
    have e1 := gn_rat h (n := rs.length) (rdl rs) ho hk
    have e2 := gn_rat h (n := rs.length) (rdl rs) ho Kl
    have t := hc.nn k hk
    have u := up k hk
    have g1 := g k
    have g2 := g (abvL cs o).length
    rw [TK] at g2
    constructor
    · have : (gnF (ws d.1 d.2 rs.length one) (ws d.1 d.2 rs.length (rdl rs)) o k : Rat) ≤ (gnF (ws d.1 d.2 rs.length one) (ws d.1 d.2 rs.length (rdl rs)) o (abvL cs o).length : Rat) := by
        rw [e1, e2]
        exact Rat.mul_le_mul_of_nonneg_left (by grind) (Rat.le_of_lt bp)
      exact_mod_cast this
    · intro kl
      have st : sR (fun t => rv d ^ t * (rv (rdc cs t) - rv o)) (k + 1) ≤ sR (fun t => rv d ^ t * (rv (rdc cs t) - rv o)) (abvL cs o).length := up (k + 1) (by omega)
      rw [sR_succ] at st
      have m : 0 < rv d ^ k * (rv (rdc cs k) - rv o) := Rat.mul_pos (qpow_pos q.1 k) (by have := (hc.abv ho k (by omega)).mp kl; grind)
      have : (gnF (ws d.1 d.2 rs.length one) (ws d.1 d.2 rs.length (rdl rs)) o k : Rat) < (gnF (ws d.1 d.2 rs.length one) (ws d.1 d.2 rs.length (rdl rs)) o (abvL cs o).length : Rat) := by
        rw [e1, e2]
        exact Rat.mul_lt_mul_of_pos_left (by grind) bp
      exact_mod_cast this
  generalize (bsF (ws d.1 d.2 rs.length one) (ws d.1 d.2 rs.length (rdl rs)) o rs.length) = B at b1 b2 b3 b4
  have c1 := cmp B.2 b1
  have c2 := b3 _ Kl
  by_cases z : B.2 < (abvL cs o).length
  · have := c1.2 z; omega
  · by_cases y : (abvL cs o).length < B.2
    · have := b4 _ y; have := c1.1; omega
    · omega
end Tm

namespace Tm
open PySem L2 Tp
/-! ### rewards lowered by a number -/
section
variable {D S S' : Nat → Int} {m : Int}
theorem nx_shift (h : ∀ k, S' k = S k - m * D k) (s : Nat) : ∀ i, nx D S' s i = nx D S s i
  | 0 => rfl
  | i + 1 => by
    have ih := nx_shift h s i
    unfold nx
    rw [ih]
    have e : (S' (nx D S s i) - S' s) * (D (s + 2 + i) - D s) < (S' (s + 2 + i) - S' s) * (D (nx D S s i) - D s) ↔ (S (nx D S s i) - S s) * (D (s + 2 + i) - D s) < (S (s + 2 + i) - S s) * (D (nx D S s i) - D s) := by
      have e1 : (S' (nx D S s i) - S' s) * (D (s + 2 + i) - D s) = (S (nx D S s i) - S s) * (D (s + 2 + i) - D s) - m * ((D (nx D S s i) - D s) * (D (s + 2 + i) - D s)) := by rw [h, h]; grind
      have e2 : (S' (s + 2 + i) - S' s) * (D (nx D S s i) - D s) = (S (s + 2 + i) - S s) * (D (nx D S s i) - D s) - m * ((D (nx D S s i) - D s) * (D (s + 2 + i) - D s)) := by rw [h, h]; grind
      rw [e1, e2]; omega
    by_cases z : (S (nx D S s i) - S s) * (D (s + 2 + i) - D s) < (S (s + 2 + i) - S s) * (D (nx D S s i) - D s)
    · rw [if_pos z, if_pos (e.mpr z)]
    · rw [if_neg z, if_neg fun w => z (e.mp w)]
theorem rsF_shift (h : ∀ k, S' k = S k - m * D k) (n : Nat) : ∀ f s, rsF D S' n f s = rsF D S n f s
  | 0, s => rfl
  | f + 1, s => by
    unfold rsF nextF
    rw [nx_shift h]
    split
    · rw [rsF_shift h n f]
    · rfl
def shR (m : Int) (t : Int × Int) : Int × Int := mkR (t.1 - m * t.2) t.2
theorem sh_mkR {x y : Int} (hy : 0 < y) : mkR (x - m * y) y = shR m (mkR x y) := by
  obtain ⟨s1, s2, s3⟩ := mkR_spec (n := x) (d := y) (by omega)
  unfold shR
  refine mkR_eq (by omega) (by omega) ?_
  generalize mkR x y = t at s1 s3
  have : (x - m * y) * t.2 = x * t.2 - m * y * t.2 := Int.sub_mul ..
  rw [this, ← s3]
  grind
theorem strL_shift (h : ∀ k, S' k = S k - m * D k) {n : Nat} (up : Up D n) : ∀ (l : List Nat) (s : Nat), Rch (D := D) (S := S) n s l → chgOf (strL D S' s l) = (chgOf (strL D S s l)).map (shR m)
  | [], s, _ => rfl
  | e :: l, s, hc => by
    cases hc with
    | cons q rch =>
      rw [chg_cons, chg_cons, List.map_append, strL_shift h up l e rch, List.map_replicate]
      congr 2
      have lt := up s e q.lt q.le
      rw [h, h, ← sh_mkR (by omega)]
      congr 1
      grind
end
theorem ws_shift (a b : Int) (n : Nat) (r : Nat → Int) (m : Int) : ∀ k, ws a b n (fun t => r t - m) k = ws a b n r k - m * ws a b n one k
  | 0 => by show (0 : Int) = 0 - m * 0; omega
  | k + 1 => by
    rw [ws_step, ws_step, ws_one_step, ws_shift a b n r m k]
    grind
theorem chgs_shift {a b : Int} (a0 : 0 < a) (b0 : 0 < b) (rs : List Int) (m : Int) : chgs a b (rs.map fun r => r - m) = (chgs a b rs).map (shR m) := by
  have up : Up (ws a b rs.length one) rs.length := fun i j hij _ => ws_one_up a0 b0 _ i j hij
  have hl : (rs.map fun r => r - m).length = rs.length := List.length_map ..
  have rd : ∀ t, t < rs.length → rdl (rs.map fun r => r - m) t = rdl rs t - m := fun t ht => by
    unfold rdl
    rw [List.getD_eq_getElem?_getD, List.getD_eq_getElem?_getD, List.getElem?_map, List.getElem?_eq_getElem ht]; rfl
  have key : ∀ k, k ≤ rs.length → ws a b rs.length (rdl (rs.map fun r => r - m)) k = ws a b rs.length (rdl rs) k - m * ws a b rs.length one k := fun k hk => by
    rw [← ws_shift]
    exact ws_congr fun i hi => rd i (by omega)
  have rc : Rch (D := ws a b rs.length one) (S := ws a b rs.length (rdl rs)) rs.length 0 _ := rests_ch up
  have rc' : Rch (D := ws a b rs.length one) (S := ws a b rs.length (rdl (rs.map fun r => r - m))) rs.length 0 _ := rests_ch up
  have rc2 : Rch (D := ws a b rs.length one) (S := fun k => ws a b rs.length (rdl rs) k - m * ws a b rs.length one k) rs.length 0 (rsF (ws a b rs.length one) (ws a b rs.length (rdl (rs.map fun r => r - m))) rs.length rs.length 0) := rc'.map fun x y nr => nr.congr (fun _ _ => rfl) key
  have e1 : rsF (ws a b rs.length one) (ws a b rs.length (rdl (rs.map fun r => r - m))) rs.length rs.length 0 = rsF (ws a b rs.length one) (ws a b rs.length (rdl rs)) rs.length rs.length 0 := by
    refine rc2.uniq ?_
    have := rests_ch (D := ws a b rs.length one) (S := fun k => ws a b rs.length (rdl rs) k - m * ws a b rs.length one k) up
    rwa [rsF_shift (S := ws a b rs.length (rdl rs)) (fun _ => rfl)] at this
  have e2 := strL_shift (S := ws a b rs.length (rdl rs)) (S' := fun k => ws a b rs.length (rdl rs) k - m * ws a b rs.length one k) (m := m) (fun _ => rfl) up _ 0 rc
  unfold chgs
  rw [hl, e1, ← e2]
  congr 1
  exact strL_congr (n := rs.length) (by rw [← e1]; exact rc') fun x y nr => by rw [key y (by exact nr.le), key x (by have := nr.lt; have := nr.le; omega)]
def lowP (ps : List (List Int)) (m : Int) : List (List Int) := ps.map fun rs => rs.map fun r => r - m
theorem rv_sh {m : Int} {t : Int × Int} (h : 0 < t.2) : rv (shR m t) = rv t - (m : Rat) ∧ 0 < (shR m t).2 := by
  have s := (mkR_spec (n := t.1 - m * t.2) (d := t.2) (by omega)).1
  unfold shR
  refine ⟨?_, by omega⟩
  rw [rv_mkR h]
  have p := cast_pos h
  unfold rv
  have e : ((t.1 - m * t.2 : Int) : Rat) = (t.1 : Rat) - (m : Rat) * (t.2 : Rat) := by exact_mod_cast rfl
  dsimp only
  rw [e]
  generalize (t.1 : Rat) = A at *
  generalize (t.2 : Rat) = B at *
  have : B ≠ 0 := by grind
  grind
theorem cert_low {d : Int × Int} (hd : Dis d) (ps : List (List Int)) (m : Int) : certF d (lowP ps m) = (certF d ps).map (List.map (shR m)) := by
  obtain ⟨_, _, a0, b0⟩ := hd.bd
  unfold certF lowP
  rw [List.map_map, List.map_map]
  exact List.map_congr_left fun rs _ => chgs_shift a0 b0 rs m
theorem lenC_map {css : Chs} (f : Int × Int → Int × Int) (j : Nat) : lenC (css.map (List.map f)) j = lenC css j := by
  unfold lenC rcl
  rw [List.getD_eq_getElem?_getD, List.getD_eq_getElem?_getD, List.getElem?_map]
  cases css[j]? with
  | none => rfl
  | some r => exact List.length_map ..
theorem chC_map {css : Chs} (f : Int × Int → Int × Int) {j k : Nat} (h : k < lenC css j) : chC (css.map (List.map f)) j k = f (chC css j k) := by
  unfold lenC at h
  unfold chC rcl rdc at *
  rw [List.getD_eq_getElem?_getD] at h
  rw [List.getD_eq_getElem?_getD, List.getD_eq_getElem?_getD, List.getD_eq_getElem?_getD, List.getD_eq_getElem?_getD, List.getElem?_map]
  cases e : css[j]? with
  | none => rw [e] at h; simp at h
  | some r =>
    rw [e] at h
    simp at h
    simp [h]
theorem totC_map (css : Chs) (f : Int × Int → Int × Int) : totC (css.map (List.map f)) = totC css := by
  unfold totC
  rw [List.map_map]
  congr 1
  exact List.map_congr_left fun r _ => List.length_map ..
theorem bst_sh {css : Chs} (hq : ∀ j k, 0 < (chC css j k).2) (m : Int) (pos : Nat → Nat) : ∀ n, bstF (css.map (List.map (shR m))) pos n = bstF css pos n
  | 0 => rfl
  | n + 1 => by
    have ih := bst_sh hq m pos n
    have ok := bst_ok (css := css) (pos := pos) hq n
    unfold bstF
    rw [ih, lenC_map]
    by_cases z : pos n < lenC css n
    · rw [if_pos z, if_pos z]
      cases e : bstF css pos n with
      | none => rfl
      | some b =>
        rw [e] at ok
        obtain ⟨_, b2, _⟩ := ok
        dsimp only
        rw [chC_map _ z, chC_map _ b2]
        have e1 := rv_sh (m := m) (hq n (pos n))
        have e2 := rv_sh (m := m) (hq b (pos b))
        have c1 := cmpR_pos e1.2 e2.2
        have c2 := cmpR_pos (hq n (pos n)) (hq b (pos b))
        rw [e1.1, e2.1] at c1
        by_cases w : 0 < cmpR (chC css n (pos n)) (chC css b (pos b))
        · rw [if_pos w, if_pos (c1.mpr (by have := c2.mp w; grind))]
        · rw [if_neg w, if_neg fun k => w (c2.mpr (by have := c1.mp k; grind))]
    · rw [if_neg z, if_neg z]
theorem mpl_map (m : Mg) (f : Int × Int → Int × Int) : mpl (m.map fun e => (e.1, f e.2)) = mpl m := by
  unfold mpl
  rw [List.map_map]; rfl
theorem mgF_sh {css : Chs} (hq : ∀ j k, 0 < (chC css j k).2) (m : Int) : ∀ k, k ≤ totC css → mgF (css.map (List.map (shR m))) k = (mgF css k).map fun e => (e.1, shR m e.2)
  | 0, _ => rfl
  | k + 1, hk => by
    have ih := mgF_sh hq m k (by omega)
    obtain ⟨b, e, b1, b2, b3⟩ := mgF_step hq (mgF_ok hq k (by omega)) (by omega)
    rw [b3, mgF, ih, mpl_map, List.length_map, bst_sh hq, e, List.map_append]
    dsimp only
    rw [chC_map _ b2]
    rfl
/-- a company and the same with lowered rewards -/
structure Low (c c' : Co) (m : Int) : Prop where
  ok : COk c
  ok' : COk c'
  d : c'.1 = c.1
  ps : c'.2 = lowP c.2 m
theorem Low.cert {c c' : Co} {m : Int} (h : Low c c' m) : certF c'.1 c'.2 = (certF c.1 c.2).map (List.map (shR m)) := by rw [h.d, h.ps]; exact cert_low h.ok.d.1 _ _
theorem Low.mg {c c' : Co} {m : Int} (h : Low c c' m) : mgC c' = (mgC c).map fun e => (e.1, shR m e.2) := by
  unfold mgC
  rw [h.cert, totC_map]
  exact mgF_sh (fun j k => (cert_own h.ok.d.1 h.ok.p).den j k) m _ (Nat.le_refl _)
theorem Low.cut {c c' : Co} {m : Int} (h : Low c c' m) (M : Rat) : cutK (mgC c') (M - (m : Rat)) = cutK (mgC c) M := by
  unfold cutK
  rw [h.mg, List.filter_map, List.length_map]
  congr 1
  refine List.filter_congr fun e he => ?_
  have p := (mgC_mem h.ok he).1.1
  show decide (M - (m : Rat) < rv (shR m e.2)) = decide (M < rv e.2)
  rw [(rv_sh p).1, Bool.eq_iff_iff, decide_eq_true_eq, decide_eq_true_eq]
  constructor <;> intro k <;> grind
theorem rv_int (m : Int) : rv (m, 1) = (m : Rat) := by
  unfold rv
  show (m : Rat) / ((1 : Int) : Rat) = (m : Rat)
  have : ((1 : Int) : Rat) = 1 := rfl
  rw [this]; grind
theorem Low.plan {c c' : Co} {m : Int} (h : Low c c' m) : bpF c' (0, 1) = bpF c (m, 1) := by
  have e := h.cut (m : Rat)
  unfold bpF
  rw [rv_int, rv_int, show ((0 : Int) : Rat) = (m : Rat) - (m : Rat) by have : ((0 : Int) : Rat) = 0 := rfl; rw [this]; grind, e, h.mg, ← List.map_take, List.map_map]
  rfl
theorem Low.worth {c c' : Co} {m : Int} (h : Low c c' m) : bestR c (m : Rat) = bestR c' 0 + (m : Rat) / (1 - rv c.1) := by
  have e := h.cut (m : Rat)
  rw [show (m : Rat) - (m : Rat) = 0 by grind] at e
  unfold bestR fallW
  rw [h.d, e]
  have s : sR (fun k => rv c.1 ^ k * (rv (gM (mgC c') k) - 0)) (cutK (mgC c) (m : Rat)) = sR (fun k => rv c.1 ^ k * (rv (gM (mgC c) k) - (m : Rat))) (cutK (mgC c) (m : Rat)) := sR_congr fun k hk => by
    have l := cutK_le (mgC c) (m : Rat)
    obtain ⟨x, hx, _⟩ := m_at (m := mgC c) (i := k) (by omega)
    have p := (mgC_mem h.ok (List.mem_of_getElem? hx)).1.1
    have : gM (mgC c') k = shR m (gM (mgC c) k) := by
      rw [h.mg]
      exact gM_of (e := (x, shR m (gM (mgC c) k))) (by rw [List.getElem?_map, hx]; rfl)
    rw [this, (rv_sh p).1]; grind
  rw [s]
  grind
def leastF (ps : List (List Int)) : Int := ps.flatten.foldl (fun l x => if x < l then x else l) 0
theorem least_ok : ∀ (xs : List Int) (l : Int), xs.foldl (fun l x => if x < l then x else l) l ≤ l ∧ (∀ x ∈ xs, xs.foldl (fun l x => if x < l then x else l) l ≤ x) ∧ ((∀ x ∈ xs, -1000000000 ≤ x) → -1000000000 ≤ l → -1000000000 ≤ xs.foldl (fun l x => if x < l then x else l) l)
  | [], l => ⟨Int.le_refl _, fun x h => absurd h (by simp), fun _ h => h⟩
  | y :: xs, l => by
    rw [List.foldl_cons]
    obtain ⟨h1, h2, h3⟩ := least_ok xs (if y < l then y else l)
    have e1 : (if y < l then y else l) ≤ l ∧ (if y < l then y else l) ≤ y := by split <;> omega
    refine ⟨by omega, fun x hx => ?_, fun hx hl => h3 (fun x h => hx x (by simp [h])) ?_⟩
    · rcases List.mem_cons.mp hx with rfl | hx
      · omega
      · exact h2 x hx
    · have := hx y (by simp)
      split <;> omega
theorem leastF_ok {ps : List (List Int)} (h : POk ps) : leastF ps ≤ 0 ∧ -1000000000 ≤ leastF ps ∧ ∀ rs ∈ ps, ∀ x ∈ rs, leastF ps ≤ x := by
  obtain ⟨h1, h2, h3⟩ := least_ok ps.flatten 0
  refine ⟨h1, h3 (fun x hx => ?_) (by omega), fun rs hr x hx => h2 x (List.mem_flatten.mpr ⟨rs, hr, hx⟩)⟩
  obtain ⟨rs, hr, hx⟩ := List.mem_flatten.mp hx
  exact (h.2.2 rs hr x hx).1
theorem lowP_ok {ps : List (List Int)} (h : POk ps) {m : Int} (m0 : 0 ≤ m) (m1 : m ≤ 1000000000 + leastF ps) : POk (lowP ps m) := by
  refine ⟨by unfold lowP; rw [List.length_map]; exact h.1, ?_, fun rs hr x hx => ?_⟩
  · have e : tot (lowP ps m) = tot ps := by
      unfold tot lowP
      rw [List.map_map]
      congr 1
      exact List.map_congr_left fun r _ => List.length_map ..
    rw [e]; exact h.2.1
  · obtain ⟨r0, hr0, rfl⟩ := List.mem_map.mp hr
    obtain ⟨y, hy, rfl⟩ := List.mem_map.mp hx
    have := h.2.2 r0 hr0 y hy
    have := (leastF_ok h).2.2 r0 hr0 y hy
    omega
theorem Low.value {c c' : Co} {m : Int} (h : Low c c' m) {d : Int × Int} (hd : Dis d) (hq : rv c.1 = rv d) :
    (isR (bwF c (m, 1)) && decide ((bwF c (m, 1)).1 * ((bwF c' (0, 1)).2 * (d.2 - d.1)) = ((bwF c' (0, 1)).1 * (d.2 - d.1) + m * d.2 * (bwF c' (0, 1)).2) * (bwF c (m, 1)).2)) = true := by
  have a := bw_ok h.ok (o := (m, 1)) (show (0 : Int) < 1 by decide)
  have b := bw_ok h.ok' (o := (0, 1)) (by decide)
  have b2 := (isR_iff.mp b.1).1
  have gp : 0 < d.2 - d.1 := by have := hd.2.1; omega
  refine eq_law (v := ((bwF c' (0, 1)).1 * (d.2 - d.1) + m * d.2 * (bwF c' (0, 1)).2, (bwF c' (0, 1)).2 * (d.2 - d.1))) a.1 (Int.mul_pos (by omega) gp) ?_
  rw [a.2, rv_int, h.worth, hq]
  have z0 : rv (0, 1) = 0 := by rw [rv_int]; rfl
  rw [z0] at b
  rw [← b.2]
  have p := cast_pos (show 0 < (bwF c' (0, 1)).2 by omega)
  have g := cast_pos gp
  have d2 := cast_pos (show 0 < d.2 by have := hd.1; have := hd.2.1; omega)
  unfold rv
  have e1 : (((bwF c' (0, 1)).1 * (d.2 - d.1) + m * d.2 * (bwF c' (0, 1)).2 : Int) : Rat) = ((bwF c' (0, 1)).1 : Rat) * ((d.2 : Rat) - (d.1 : Rat)) + (m : Rat) * (d.2 : Rat) * ((bwF c' (0, 1)).2 : Rat) := by exact_mod_cast rfl
  have e2 : (((bwF c' (0, 1)).2 * (d.2 - d.1) : Int) : Rat) = ((bwF c' (0, 1)).2 : Rat) * ((d.2 : Rat) - (d.1 : Rat)) := by exact_mod_cast rfl
  have e3 : ((d.2 - d.1 : Int) : Rat) = (d.2 : Rat) - (d.1 : Rat) := by exact_mod_cast rfl
  rw [e3] at g
  dsimp only
  rw [e1, e2]
  generalize ((bwF c' (0, 1)).1 : Rat) = X at *
  generalize ((bwF c' (0, 1)).2 : Rat) = Y at *
  generalize (d.1 : Rat) = A at *
  generalize (d.2 : Rat) = B at *
  have n1 : Y ≠ 0 := by grind
  have n2 : B - A ≠ 0 := by grind
  have n3 : B ≠ 0 := by grind
  have e4 : 1 - A / B = (B - A) / B := by grind
  rw [e4]
  grind
theorem Low.charge {c c' : Co} {m : Int} (h : Low c c' m) {j k : Nat} (hk : k < lenC (certF c.1 c.2) j) : chC (certF c'.1 c'.2) j k = shR m (chC (certF c.1 c.2) j k) ∧
    (isR (chC (certF c'.1 c'.2) j k) && decide ((chC (certF c'.1 c'.2) j k).1 * (chC (certF c.1 c.2) j k).2 = ((chC (certF c.1 c.2) j k).1 - m * (chC (certF c.1 c.2) j k).2) * (chC (certF c'.1 c'.2) j k).2)) = true := by
  have o := cert_own h.ok.d.1 h.ok.p
  have p := o.den j k
  have e : chC (certF c'.1 c'.2) j k = shR m (chC (certF c.1 c.2) j k) := by rw [h.cert, chC_map _ hk]
  refine ⟨e, ?_⟩
  rw [e]
  have s := rv_sh (m := m) p
  refine eq_law (t := shR m (chC (certF c.1 c.2) j k)) (v := ((chC (certF c.1 c.2) j k).1 - m * (chC (certF c.1 c.2) j k).2, (chC (certF c.1 c.2) j k).2)) (isR_mkR (by omega)) p ?_
  unfold shR
  exact rv_mkR p
end Tm

namespace Tm
open PySem L2 Tp
/-! ### the ratio of a rational -/
def ratOf (x : Rat) : Int × Int := (x.num, (x.den : Int))
theorem rv_ratOf (x : Rat) : rv (ratOf x) = x := by
  unfold rv ratOf
  have h := Rat.num_divInt_den x
  rw [Rat.divInt_eq_div] at h
  exact_mod_cast h
theorem isR_ratOf (x : Rat) : isR (ratOf x) = true := by
  refine isR_iff.mpr ⟨?_, ?_⟩
  · show 1 ≤ (x.den : Int)
    have := x.den_pos
    omega
  · show Int.gcd x.num (x.den : Int) = 1
    have := x.reduced
    unfold Nat.Coprime at this
    rw [Int.gcd]; simpa using this
theorem ratOf_eq {t : Int × Int} (h : isR t = true) {x : Rat} (e : rv t = x) : t = ratOf x := rv_inj h (isR_ratOf x) (by rw [rv_ratOf, e])
/-! ### sums over the least common denominator -/
def aoF (a b : Int × Int) : Int × Int := (a.1 * (b.2 / (Int.gcd a.2 b.2 : Int)) + b.1 * (a.2 / (Int.gcd a.2 b.2 : Int)), a.2 / (Int.gcd a.2 b.2 : Int) * b.2)
theorem ao_ok {a b : Int × Int} (ha : 0 < a.2) (hb : 0 < b.2) : 0 < (aoF a b).2 ∧ rv (aoF a b) = rv a + rv b ∧ ∀ L, a.2 ∣ L → b.2 ∣ L → (aoF a b).2 ∣ L := by
  have g0 : 0 < (Int.gcd a.2 b.2 : Int) := by have := Int.gcd_pos_of_ne_zero_right a.2 (show b.2 ≠ 0 by omega); omega
  obtain ⟨p, hp⟩ := Int.gcd_dvd_left a.2 b.2
  obtain ⟨r, hr⟩ := Int.gcd_dvd_right a.2 b.2
  have dp : a.2 / (Int.gcd a.2 b.2 : Int) = p := by
    conv => lhs; lhs; rw [hp]
    exact Int.mul_ediv_cancel_left _ (by omega)
  have dr : b.2 / (Int.gcd a.2 b.2 : Int) = r := by
    conv => lhs; lhs; rw [hr]
    exact Int.mul_ediv_cancel_left _ (by omega)
  have p0 : 0 < p := Int.pos_of_mul_pos_right (by rw [← hp]; exact ha) (by omega)
  have r0 : 0 < r := Int.pos_of_mul_pos_right (by rw [← hr]; exact hb) (by omega)
  have e2 : (aoF a b).2 = p * b.2 := by unfold aoF; dsimp only; rw [dp]
  have e1 : (aoF a b).1 = a.1 * r + b.1 * p := by unfold aoF; dsimp only; rw [dp, dr]
  refine ⟨by rw [e2]; exact Int.mul_pos p0 hb, ?_, fun L h1 h2 => ?_⟩
  · have x := cast_pos ha
    have y := cast_pos hb
    have gg := cast_pos g0
    have pp := cast_pos p0
    have rr := cast_pos r0
    unfold rv
    rw [e1, e2]
    have f1 : ((a.1 * r + b.1 * p : Int) : Rat) = (a.1 : Rat) * (r : Rat) + (b.1 : Rat) * (p : Rat) := by exact_mod_cast rfl
    have f2 : ((p * b.2 : Int) : Rat) = (p : Rat) * (b.2 : Rat) := by exact_mod_cast rfl
    have f3 : (a.2 : Rat) = ((Int.gcd a.2 b.2 : Int) : Rat) * (p : Rat) := by exact_mod_cast hp
    have f4 : (b.2 : Rat) = ((Int.gcd a.2 b.2 : Int) : Rat) * (r : Rat) := by exact_mod_cast hr
    rw [f1, f2]
    generalize ((Int.gcd a.2 b.2 : Int) : Rat) = G at *
    generalize (p : Rat) = P at *
    generalize (r : Rat) = R at *
    generalize (a.2 : Rat) = A at *
    generalize (b.2 : Rat) = B at *
    subst f3
    subst f4
    have n1 : G ≠ 0 := by grind
    have n2 : P ≠ 0 := by grind
    have n3 : R ≠ 0 := by grind
    grind
  · rw [e2]
    obtain ⟨u, hu⟩ := h1
    obtain ⟨v, hv⟩ := h2
    have cop : Int.gcd p r = 1 := by
      have e := Int.gcd_mul_left (Int.gcd a.2 b.2 : Int) p r
      rw [← hp, ← hr] at e
      have gn : 0 < Int.gcd a.2 b.2 := by omega
      simp at e
      have e' : Int.gcd a.2 b.2 * Int.gcd p r = Int.gcd a.2 b.2 * 1 := by rw [Nat.mul_one]; exact e.symm
      exact Nat.eq_of_mul_eq_mul_left gn e'
    have k : p * u = r * v := by
      have : (Int.gcd a.2 b.2 : Int) * (p * u) = (Int.gcd a.2 b.2 : Int) * (r * v) := by
        rw [← Int.mul_assoc, ← hp, ← hu, ← Int.mul_assoc, ← hr, hv]
      exact Int.eq_of_mul_eq_mul_left (by omega) this
    have dv : p ∣ v := dvd_cop (b := r) ⟨u, by rw [← k]⟩ cop
    obtain ⟨w, hw⟩ := dv
    exact ⟨w, by rw [hv, hw]; ac_rfl⟩
/-! ### a common denominator of a company's charges -/
theorem ws_blk (a b : Int) {n s k : Nat} (h : s + k ≤ n) (r : Nat → Int) : ws a b n r (s + k) - ws a b n r s = a ^ s * b ^ (n - s - k) * ws a b k (fun t => r (s + t)) k := by
  rw [ws_cut a b (p := s) (r' := fun t => r (s + t)) (by omega) (fun _ => rfl) k, ws_pow a b (n := n - s) (k := k) (by omega)]
  have : ∀ X Y : Int, X + Y - X = Y := by intros; omega
  rw [this]
  ac_rfl
theorem ws_one_le {a b : Int} (a0 : 0 < a) (hab : a < b) : ∀ k, (b - a) * ws a b k one k = b ^ k - a ^ k
  | 0 => by rw [Int.pow_zero, Int.pow_zero]; show (b - a) * 0 = 1 - 1; omega
  | k + 1 => by
    have i := ws_one_le a0 hab k
    rw [ws_last]
    show (b - a) * (b * ws a b k one k + a ^ k * 1) = _
    rw [Int.mul_add, show (b - a) * (b * ws a b k one k) = b * ((b - a) * ws a b k one k) by ac_rfl, i, Int.pow_succ, Int.pow_succ]
    grind
theorem mkR_den {x y : Int} (hy : y ≠ 0) : (mkR x y).2 ∣ y := by
  obtain ⟨s1, s2, s3⟩ := mkR_spec (n := x) hy
  exact dvd_cop (a := (mkR x y).2) (b := (mkR x y).1) ⟨x, by rw [s3, Int.mul_comm]⟩ (by rw [Int.gcd_comm]; exact s2)
theorem chg_den {a b : Int} (a0 : 0 < a) (hab : a < b) {n : Nat} (r : Nat → Int) {s : Nat} {l : List Nat} (h : Rch (D := ws a b n one) (S := ws a b n r) n s l) : ∃ C : Int, 0 < C ∧ C ≤ b ^ (n - s) ∧ ∀ t ∈ chgOf (strL (ws a b n one) (ws a b n r) s l), t.2 ∣ C := by
  have b0 : 0 < b := by omega
  induction h with
  | nil => exact ⟨1, by decide, by rw [Nat.sub_self, Int.pow_zero]; omega, fun t ht => by simp [strL, chgOf] at ht⟩
  | @cons s e l q rch ih =>
    obtain ⟨C, c0, c1, c2⟩ := ih
    have lt := q.lt
    have le := q.le
    obtain ⟨k, rfl⟩ := Nat.le.dest (show s ≤ e by omega)
    have hG := ws_one_le a0 hab k
    have Gp : 0 < ws a b k one k := by
      have := ws_one_up a0 b0 k 0 k (by omega)
      exact this
    have Gl : ws a b k one k ≤ b ^ k := by
      have e1 : 1 * ws a b k one k ≤ (b - a) * ws a b k one k := Int.mul_le_mul_of_nonneg_right (by omega) (by omega)
      have e2 : 0 < a ^ k := Int.pow_pos a0
      omega
    have den : (mkR (ws a b n r (s + k) - ws a b n r s) (ws a b n one (s + k) - ws a b n one s)).2 ∣ ws a b k one k := by
      have e1 := ws_blk a b (n := n) (s := s) (k := k) le r
      have e2 := ws_blk a b (n := n) (s := s) (k := k) le one
      have e3 : ws a b k (fun t => one (s + t)) k = ws a b k one k := rfl
      rw [e3] at e2
      have c0 : 0 < a ^ s * b ^ (n - s - k) := Int.mul_pos (Int.pow_pos a0) (Int.pow_pos b0)
      have e4 : mkR (ws a b n r (s + k) - ws a b n r s) (ws a b n one (s + k) - ws a b n one s) = mkR (ws a b k (fun t => r (s + t)) k) (ws a b k one k) := by
        rw [e1, e2]
        refine mkR_eq (by have := Int.mul_pos c0 Gp; omega) (by omega) ?_
        ac_rfl
      rw [e4]
      exact mkR_den (by omega)
    refine ⟨ws a b k one k * C, Int.mul_pos Gp c0, ?_, fun t ht => ?_⟩
    · have e1 : ws a b k one k * C ≤ b ^ k * C := Int.mul_le_mul_of_nonneg_right Gl (by omega)
      have e2 : b ^ k * C ≤ b ^ k * b ^ (n - (s + k)) := Int.mul_le_mul_of_nonneg_left c1 (Int.le_of_lt (Int.pow_pos b0))
      have e3 : b ^ k * b ^ (n - (s + k)) = b ^ (n - s) := by rw [← Int.pow_add]; congr 1; omega
      omega
    · rw [chg_cons] at ht
      rcases List.mem_append.mp ht with ht | ht
      · rw [(List.mem_replicate.mp ht).2]
        exact Int.dvd_trans den (Int.dvd_mul_right _ _)
      · exact Int.dvd_trans (c2 t ht) (Int.dvd_mul_left _ _)
theorem chgs_den {d : Int × Int} (hd : Dis d) (rs : List Int) : ∃ C : Int, 0 < C ∧ C ≤ d.2 ^ rs.length ∧ ∀ t ∈ chgs d.1 d.2 rs, t.2 ∣ C := by
  obtain ⟨_, _, a0, b0⟩ := hd.bd
  have up : Up (ws d.1 d.2 rs.length one) rs.length := fun i j hij _ => ws_one_up a0 b0 _ i j hij
  exact chg_den a0 hd.2.1 (rdl rs) (rests_ch up)
theorem cert_den {d : Int × Int} (hd : Dis d) : ∀ ps : List (List Int), ∃ C : Int, 0 < C ∧ C ≤ d.2 ^ tot ps ∧ ∀ t ∈ (certF d ps).flatten, t.2 ∣ C
  | [] => ⟨1, by decide, by show (1 : Int) ≤ d.2 ^ 0; rw [Int.pow_zero]; omega, fun t ht => by simp [certF] at ht⟩
  | rs :: ps => by
    obtain ⟨_, _, a0, b0⟩ := hd.bd
    obtain ⟨C, c0, c1, c2⟩ := cert_den hd ps
    obtain ⟨E, e0, e1, e2⟩ := chgs_den hd rs
    refine ⟨E * C, Int.mul_pos e0 c0, ?_, fun t ht => ?_⟩
    · have f1 : E * C ≤ d.2 ^ rs.length * C := Int.mul_le_mul_of_nonneg_right e1 (by omega)
      have f2 : d.2 ^ rs.length * C ≤ d.2 ^ rs.length * d.2 ^ tot ps := Int.mul_le_mul_of_nonneg_left c1 (Int.le_of_lt (Int.pow_pos b0))
      have f3 : tot (rs :: ps) = rs.length + tot ps := rfl
      rw [f3, Int.pow_add]
      omega
    · have : (certF d (rs :: ps)).flatten = chgs d.1 d.2 rs ++ (certF d ps).flatten := rfl
      rw [this] at ht
      rcases List.mem_append.mp ht with ht | ht
      · exact Int.dvd_trans (e2 t ht) (Int.dvd_mul_right _ _)
      · exact Int.dvd_trans (c2 t ht) (Int.dvd_mul_left _ _)
theorem own_den {c : Co} (ok : COk c) : ∃ C : Int, 0 < C ∧ Bd 610 C ∧ ∀ t ∈ (certF c.1 c.2).flatten, t.2 ∣ C := by
  obtain ⟨C, c0, c1, c2⟩ := cert_den ok.d.1 c.2
  obtain ⟨_, hb, _, b0⟩ := ok.d.1.bd
  refine ⟨C, c0, ?_, c2⟩
  have := ok.p.2.1
  have b1 := (hb.pow (tot c.2)).le (show 10 * tot c.2 + 1 ≤ 610 by omega)
  exact b1.of (by omega)
/-! ### the worth that falling charges give -/
/-- terms of the sum after k days -/
def ftF (d o : Int × Int) (es : List (Int × Int)) : Nat → Int × Int
  | 0 => (0, 1)
  | k + 1 => aoF (ftF d o es k) (wt d.1 d.2 es.length k * ((rdc es k).1 * o.2 - o.1 * (rdc es k).2), (rdc es k).2 * o.2)
structure Es (o : Int × Int) (es : List (Int × Int)) (L : Int) (n : Nat) : Prop where
  len : es.length ≤ n
  den : ∀ x ∈ es, 0 < x.2 ∧ Bd 1400 x.1 ∧ Bd 1400 x.2
  lcm : 0 < L ∧ Bd 3520 (L * o.2) ∧ ∀ x ∈ es, x.2 ∣ L
theorem ft_ok {d o : Int × Int} (hd : Dis d) (ho : Offr o) {es : List (Int × Int)} {L : Int} {n : Nat} (h : Es o es L n) : ∀ k, k ≤ es.length → 0 < (ftF d o es k).2 ∧ (ftF d o es k).2 ∣ L * o.2 ∧ rv (ftF d o es k) = (d.2 : Rat) ^ (es.length - 1) * sR (fun t => rv d ^ t * (rv (rdc es t) - rv o)) k ∧ Bd (1 + (10 * es.length + 7300) * k) (ftF d o es k).1
  | 0, _ => ⟨by show (0 : Int) < 1; decide, by show (1 : Int) ∣ _; exact ⟨_, (Int.one_mul _).symm⟩, by
      show rv (0, 1) = _ * (0 : Rat)
      have : rv (0, 1) = 0 := by unfold rv; show ((0 : Int) : Rat) / _ = 0; have : ((0 : Int) : Rat) = 0 := rfl; rw [this]; grind
      rw [this]; grind, Bd.zero⟩
  | k + 1, hk => by
    obtain ⟨i1, i2, i3, i4⟩ := ft_ok hd ho h k (by omega)
    have o1 : 0 < o.2 := by have := ho.2.1; omega
    have mem : rdc es k ∈ es := by
      have e : es[k]? = some es[k] := List.getElem?_eq_getElem (by omega)
      rw [rdc_of e]; exact List.getElem_mem _
    obtain ⟨e1, e2, e3⟩ := h.den _ mem
    have tp : 0 < (rdc es k).2 * o.2 := Int.mul_pos e1 o1
    obtain ⟨a1, a2, a3⟩ := ao_ok (a := ftF d o es k) (b := (wt d.1 d.2 es.length k * ((rdc es k).1 * o.2 - o.1 * (rdc es k).2), (rdc es k).2 * o.2)) i1 tp
    refine ⟨a1, a3 _ i2 (Int.mul_dvd_mul (h.lcm.2.2 _ mem) (Int.dvd_refl _)), ?_, ?_⟩
    · show rv (aoF _ _) = _
      rw [a2, i3, sR_succ]
      have w := wt_rat hd (n := es.length) (t := k) (by omega)
      have x := cast_pos e1
      have y := cast_pos o1
      have key : rv (wt d.1 d.2 es.length k * ((rdc es k).1 * o.2 - o.1 * (rdc es k).2), (rdc es k).2 * o.2) = (d.2 : Rat) ^ (es.length - 1) * (rv d ^ k * (rv (rdc es k) - rv o)) := by
        have f1 : ((wt d.1 d.2 es.length k * ((rdc es k).1 * o.2 - o.1 * (rdc es k).2) : Int) : Rat) = (wt d.1 d.2 es.length k : Rat) * (((rdc es k).1 : Rat) * (o.2 : Rat) - (o.1 : Rat) * ((rdc es k).2 : Rat)) := by exact_mod_cast rfl
        have f2 : (((rdc es k).2 * o.2 : Int) : Rat) = ((rdc es k).2 : Rat) * (o.2 : Rat) := by exact_mod_cast rfl
        have g1 : rv (rdc es k) = ((rdc es k).1 : Rat) / ((rdc es k).2 : Rat) := rfl
        have g2 : rv o = (o.1 : Rat) / (o.2 : Rat) := rfl
        show ((wt d.1 d.2 es.length k * ((rdc es k).1 * o.2 - o.1 * (rdc es k).2) : Int) : Rat) / (((rdc es k).2 * o.2 : Int) : Rat) = _
        rw [f1, f2, w, g1, g2]
        generalize (d.2 : Rat) ^ (es.length - 1) = B
        generalize rv d ^ k = Q
        generalize ((rdc es k).1 : Rat) = P at *
        generalize ((rdc es k).2 : Rat) = E at *
        generalize (o.1 : Rat) = O1 at *
        generalize (o.2 : Rat) = O2 at *
        have n1 : E ≠ 0 := by grind
        have n2 : O2 ≠ 0 := by grind
        grind
      rw [key]
      generalize (d.2 : Rat) ^ (es.length - 1) = B
      grind
    · obtain ⟨ha, hb, _, _⟩ := hd.bd
      have gl : ∀ {x y : Int}, 0 ≤ x → (x / (Int.gcd (ftF d o es k).2 y : Int)).natAbs ≤ x.natAbs := fun {x y} hx => by
        have := Int.ediv_le_self (Int.gcd (ftF d o es k).2 y : Int) hx
        have := Int.ediv_nonneg hx (show 0 ≤ (Int.gcd (ftF d o es k).2 y : Int) by omega)
        omega
      have tB : Bd 4400 (ftF d o es k).2 := by
        refine (h.lcm.2.1.le (show 3520 ≤ 4400 by decide)).of ?_
        have p : 0 < L * o.2 := Int.mul_pos h.lcm.1 o1
        have := Int.le_of_dvd p i2
        omega
      have sB : Bd 2800 ((rdc es k).2 * o.2) := e3.mul ho.2.2.2
      have wB : Bd (10 * es.length) (wt d.1 d.2 es.length k) := Bd.wt ha hb (by omega)
      have nB : Bd (10 * es.length + 2801) (wt d.1 d.2 es.length k * ((rdc es k).1 * o.2 - o.1 * (rdc es k).2)) := wB.mul (Bd.sub (n := 2800) (e2.mul ho.2.2.2) (ho.2.2.1.mul e3))
      show Bd _ (aoF _ _).1
      unfold aoF
      dsimp only
      have u1 := i4.mul (sB.of (gl (y := (rdc es k).2 * o.2) (Int.le_of_lt tp)))
      have u2 := nB.mul (tB.of (gl (x := (ftF d o es k).2) (y := (rdc es k).2 * o.2) (by omega)))
      have eq : 1 + (10 * es.length + 7300) * (k + 1) = 1 + (10 * es.length + 7300) * k + (10 * es.length + 7300) := by rw [Nat.mul_succ]; omega
      rw [eq]
      refine (Bd.add (n := 1 + (10 * es.length + 7300) * k + (10 * es.length + 7299)) (u1.le (by omega)) (u2.le ?_)).le (by omega)
      omega
/-- the worth that falling charges es give next to o -/
def faR (d o : Int × Int) (es : List (Int × Int)) : Rat := sR (fun t => rv d ^ t * (rv (rdc es t) - rv o)) es.length + rv o / (1 - rv d)
theorem pow2_cast : ∀ n : Nat, (((2 ^ n : Nat)) : Rat) = (2 : Rat) ^ n
  | 0 => by rw [Nat.pow_zero, Rat.pow_zero]; rfl
  | n + 1 => by
    rw [Nat.pow_succ, qpow_succ, ← pow2_cast n]
    exact_mod_cast rfl
/-- a charge is at most its numerator -/
theorem rv_le_num {n : Nat} {t : Int × Int} (h : 0 < t.2) (hb : Bd n t.1) : rv t ≤ (2 : Rat) ^ n := by
  have p := cast_pos h
  have b : (t.1 : Rat) ≤ (2 : Rat) ^ n := by
    rw [← pow2_cast]
    unfold Bd at hb
    have : t.1 ≤ ((2 ^ n : Nat) : Int) := by omega
    exact_mod_cast this
  have o : (1 : Rat) ≤ (t.2 : Rat) := by
    have : (1 : Int) ≤ t.2 := by omega
    exact_mod_cast this
  have z : (0 : Rat) < (2 : Rat) ^ n := qpow_pos (by decide) n
  have m : (2 : Rat) ^ n * 1 ≤ (2 : Rat) ^ n * (t.2 : Rat) := Rat.mul_le_mul_of_nonneg_left o (Rat.le_of_lt z)
  refine Rat.not_lt.mp fun k => ?_
  unfold rv at k
  have := (Rat.lt_div_iff p).mp k
  grind
/-- the gain, in lowest terms -/
def fgF (d o : Int × Int) (es : List (Int × Int)) : Int × Int := mkR (ftF d o es es.length).1 ((ftF d o es es.length).2 * d.2 ^ (es.length - 1))
theorem fg_ok {d o : Int × Int} (hd : Dis d) (ho : Offr o) {es : List (Int × Int)} {L : Int} {n : Nat} (h : Es o es L n) (hn : n ≤ 72) (habv : ∀ x ∈ es, rv o < rv x) :
    0 < (fgF d o es).2 ∧ rv (fgF d o es) = sR (fun t => rv d ^ t * (rv (rdc es t) - rv o)) es.length ∧ Bd 5650 (fgF d o es).1 ∧ Bd 4240 (fgF d o es).2 ∧ Bd 8999 ((ftF d o es es.length).2 * d.2 ^ (es.length - 1)) := by
  obtain ⟨t1, t2, t3, t4⟩ := ft_ok hd ho h es.length (Nat.le_refl _)
  obtain ⟨_, hb, _, b0⟩ := hd.bd
  have el := h.len
  have pp : 0 < d.2 ^ (es.length - 1) := Int.pow_pos b0
  have o1 : 0 < o.2 := by have := ho.2.1; omega
  have sp := Int.mul_pos t1 pp
  have s := mkR_spec (n := (ftF d o es es.length).1) (d := (ftF d o es es.length).2 * d.2 ^ (es.length - 1)) (by omega)
  have v : rv (fgF d o es) = sR (fun t => rv d ^ t * (rv (rdc es t) - rv o)) es.length := by
    unfold fgF
    rw [rv_mkR sp]
    have bq := qpow_pos (cast_pos b0) (es.length - 1)
    have x := cast_pos t1
    unfold rv at t3 ⊢
    dsimp only
    have f1 : (((ftF d o es es.length).2 * d.2 ^ (es.length - 1) : Int) : Rat) = ((ftF d o es es.length).2 : Rat) * (d.2 : Rat) ^ (es.length - 1) := by rw [← cast_pow]; exact_mod_cast rfl
    rw [f1]
    generalize sR (fun t => ((d.1 : Rat) / (d.2 : Rat)) ^ t * (((rdc es t).1 : Rat) / ((rdc es t).2 : Rat) - (o.1 : Rat) / (o.2 : Rat))) es.length = S at *
    generalize (d.2 : Rat) ^ (es.length - 1) = B at *
    generalize ((ftF d o es es.length).1 : Rat) = P at *
    generalize ((ftF d o es es.length).2 : Rat) = Q at *
    have n1 : Q ≠ 0 := by grind
    have n2 : B ≠ 0 := by grind
    have e : P / (Q * B) = (P / Q) / B := by grind
    rw [e, t3]
    grind
  have dB : Bd 4240 ((ftF d o es es.length).2 * d.2 ^ (es.length - 1)) := by
    have b := h.lcm.2.1.mul (hb.pow (es.length - 1))
    refine Bd.le (n := 3520 + (10 * (es.length - 1) + 1)) ?_ (by omega)
    refine b.of ?_
    have p : 0 < L * o.2 := Int.mul_pos h.lcm.1 o1
    have l1 := Int.le_of_dvd p t2
    have l2 : (ftF d o es es.length).2 * d.2 ^ (es.length - 1) ≤ L * o.2 * d.2 ^ (es.length - 1) := Int.mul_le_mul_of_nonneg_right l1 (by omega)
    omega
  have gB : Bd 4240 (fgF d o es).2 := (Bd.mkR (x := (ftF d o es es.length).1) (by omega)).2 dB
  have g0 : 0 < (fgF d o es).2 := by have := s.1; unfold fgF; omega
  refine ⟨g0, v, ?_, gB.le (by decide), dB.le (by decide)⟩
  have q := hd.q
  have mem : ∀ t, t < es.length → rdc es t ∈ es := fun t ht => by
    have e : es[t]? = some es[t] := List.getElem?_eq_getElem ht
    rw [rdc_of e]; exact List.getElem_mem _
  have o0 : 0 ≤ rv o := by
    have := (rv_le (s := (0, 1)) (t := o) (by decide) o1).mpr (by have := ho.1; show 0 * o.2 ≤ o.1 * 1; omega)
    have z : rv (0, 1) = 0 := by unfold rv; show ((0 : Int) : Rat) / _ = 0; have : ((0 : Int) : Rat) = 0 := rfl; rw [this]; grind
    rwa [z] at this
  have v0 : 0 ≤ rv (fgF d o es) := by
    rw [v]
    exact sR_nn fun t ht => Rat.mul_nonneg (Rat.le_of_lt (qpow_pos q.1 t)) (by have := habv _ (mem t ht); grind)
  have v1 : rv (fgF d o es) ≤ (es.length : Rat) * (2 : Rat) ^ 1400 := by
    rw [v, ← sR_const]
    refine sR_le fun t ht => ?_
    have m := mem t ht
    have c := rv_le_num (h.den _ m).1 (h.den _ m).2.1
    have p1 : rv d ^ t ≤ 1 := by
      have : ∀ t : Nat, rv d ^ t ≤ 1 := fun t => by
        induction t with
        | zero => rw [Rat.pow_zero]; exact Rat.le_refl
        | succ t ih =>
          rw [qpow_succ]
          have := Rat.mul_le_mul_of_nonneg_left (Rat.le_of_lt q.2) (Rat.le_of_lt (qpow_pos q.1 t))
          grind
      exact this t
    have a := habv _ m
    have := Rat.mul_le_mul_of_nonneg_right p1 (show 0 ≤ rv (rdc es t) - rv o by grind)
    grind
  have x := cast_pos g0
  have n1 : (fgF d o es).1 = rv (fgF d o es) * ((fgF d o es).2 : Rat) := by
    unfold rv
    generalize ((fgF d o es).2 : Rat) = Y at *
    grind
  have n0 : 0 ≤ (fgF d o es).1 := by
    have : (0 : Rat) ≤ ((fgF d o es).1 : Rat) := by rw [n1]; exact Rat.mul_nonneg v0 (Rat.le_of_lt x)
    exact_mod_cast this
  have n2 : (fgF d o es).1 ≤ ((es.length * 2 ^ 1400 : Nat) : Int) * (fgF d o es).2 := by
    have : ((fgF d o es).1 : Rat) ≤ ((((es.length * 2 ^ 1400 : Nat) : Int) * (fgF d o es).2 : Int) : Rat) := by
      have e : ((((es.length * 2 ^ 1400 : Nat) : Int) * (fgF d o es).2 : Int) : Rat) = (es.length : Rat) * (2 : Rat) ^ 1400 * ((fgF d o es).2 : Rat) := by
        rw [← pow2_cast]
        generalize 2 ^ 1400 = T
        exact_mod_cast rfl
      rw [e, n1]
      exact Rat.mul_le_mul_of_nonneg_right v1 (Rat.le_of_lt x)
    exact_mod_cast this
  have b6 : Bd 7 ((es.length : Nat) : Int) := by unfold Bd; omega
  have b14 : Bd 1401 (((2 ^ 1400 : Nat)) : Int) := by
    unfold Bd
    rw [Int.natAbs_natCast]
    exact Nat.pow_lt_pow_right (by decide) (by decide)
  have bb := (b6.mul b14).mul gB
  refine Bd.le (n := 7 + 1401 + 4240) ?_ (by decide)
  refine bb.of ?_
  have e : ((es.length : Nat) : Int) * ((2 ^ 1400 : Nat) : Int) = ((es.length * 2 ^ 1400 : Nat) : Int) := by
    generalize 2 ^ 1400 = T
    exact_mod_cast rfl
  rw [e]
  generalize ((es.length * 2 ^ 1400 : Nat) : Int) = T at n2
  omega
theorem fw_val {d o : Int × Int} (hd : Dis d) (ho : Offr o) {es : List (Int × Int)} {L : Int} {n : Nat} (h : Es o es L n) (hn : n ≤ 72) (habv : ∀ x ∈ es, rv o < rv x) : addR (fgF d o es) (aloneF d o) = ratOf (faR d o es) := by
  obtain ⟨g1, g2, _⟩ := fg_ok hd ho h hn habv
  have o1 : 0 < o.2 := by have := ho.2.1; omega
  have a := alone_pos (o := o) hd o1
  refine ratOf_eq (isR_add g1 a) ?_
  rw [rv_add g1 a, g2, rv_alone hd o1]
  rfl
end Tm

namespace Tm
open PySem L2 Tp
/-! ### certificates without faults -/
def stF (d : Int × Int) (n : Nat) (rs : List Int) (row : List (Int × Int)) : Nat → Int × Int
  | 0 => (0, 1)
  | k + 1 => aoF (stF d n rs row k) (wt d.1 d.2 n k * ((rdc row k).1 - rdl rs k * (rdc row k).2), (rdc row k).2)
structure Row (d : Int × Int) (rs : List Int) (row : List (Int × Int)) : Prop where
  len : row.length = rs.length
  den : ∀ x ∈ row, 0 < x.2 ∧ Bd 1400 x.1 ∧ Bd 1400 x.2
  lcm : ∃ L : Int, 0 < L ∧ Bd 2110 L ∧ ∀ x ∈ row, x.2 ∣ L
  fal : ∀ k, k + 1 < row.length → rv (rdc row (k + 1)) ≤ rv (rdc row k)
  slk : ∀ k, k ≤ row.length → 0 ≤ sR (fun t => rv d ^ t * (rv (rdc row t) - (rdl rs t : Rat))) k
theorem rdc_mem {row : List (Int × Int)} {k : Nat} (h : k < row.length) : rdc row k ∈ row := by
  have e : row[k]? = some row[k] := List.getElem?_eq_getElem h
  rw [rdc_of e]; exact List.getElem_mem _
theorem rv_zero1 : rv (0, 1) = 0 := by unfold rv; show ((0 : Int) : Rat) / _ = 0; have : ((0 : Int) : Rat) = 0 := rfl; rw [this]; grind
theorem gcd_div_le {x y : Int} (hx : 0 ≤ x) (u : Int) : (x / (Int.gcd u y : Int)).natAbs ≤ x.natAbs := by
  have := Int.ediv_le_self (Int.gcd u y : Int) hx
  have := Int.ediv_nonneg hx (show 0 ≤ (Int.gcd u y : Int) by omega)
  omega
theorem rv_nn {t : Int × Int} (h : 0 < t.2) (h0 : 0 ≤ rv t) : 0 ≤ t.1 := by
  have p := cast_pos h
  have : (0 : Rat) ≤ (t.1 : Rat) := by
    have e : (t.1 : Rat) = rv t * (t.2 : Rat) := by
      unfold rv
      generalize (t.2 : Rat) = Y at *
      grind
    rw [e]
    exact Rat.mul_nonneg h0 (Rat.le_of_lt p)
  exact_mod_cast this
theorem st_ok {d : Int × Int} (hd : Dis d) {rs : List Int} (hr : Rws rs) {row : List (Int × Int)} (h : Row d rs row) {L : Int} (l0 : 0 < L) (lb : Bd 2110 L) (ld : ∀ x ∈ row, x.2 ∣ L) : ∀ k, k ≤ rs.length → 0 < (stF d rs.length rs row k).2 ∧ (stF d rs.length rs row k).2 ∣ L ∧ rv (stF d rs.length rs row k) = (d.2 : Rat) ^ (rs.length - 1) * sR (fun t => rv d ^ t * (rv (rdc row t) - (rdl rs t : Rat))) k ∧ Bd (1 + 4500 * k) (stF d rs.length rs row k).1
  | 0, _ => ⟨by show (0 : Int) < 1; decide, ⟨L, (Int.one_mul _).symm⟩, by
      show rv (0, 1) = _ * (0 : Rat)
      rw [rv_zero1]; grind, Bd.zero⟩
  | k + 1, hk => by
    obtain ⟨i1, i2, i3, i4⟩ := st_ok hd hr h l0 lb ld k (by omega)
    have mem : rdc row k ∈ row := rdc_mem (by rw [h.len]; omega)
    obtain ⟨e1, e2, e3⟩ := h.den _ mem
    obtain ⟨a1, a2, a3⟩ := ao_ok (a := stF d rs.length rs row k) (b := (wt d.1 d.2 rs.length k * ((rdc row k).1 - rdl rs k * (rdc row k).2), (rdc row k).2)) i1 e1
    refine ⟨a1, a3 _ i2 (ld (rdc row k) mem), ?_, ?_⟩
    · show rv (aoF _ _) = _
      rw [a2, i3, sR_succ]
      have w := wt_rat hd (n := rs.length) (t := k) (by omega)
      have x := cast_pos e1
      have key : rv (wt d.1 d.2 rs.length k * ((rdc row k).1 - rdl rs k * (rdc row k).2), (rdc row k).2) = (d.2 : Rat) ^ (rs.length - 1) * (rv d ^ k * (rv (rdc row k) - (rdl rs k : Rat))) := by
        have f1 : ((wt d.1 d.2 rs.length k * ((rdc row k).1 - rdl rs k * (rdc row k).2) : Int) : Rat) = (wt d.1 d.2 rs.length k : Rat) * (((rdc row k).1 : Rat) - (rdl rs k : Rat) * ((rdc row k).2 : Rat)) := by exact_mod_cast rfl
        have g1 : rv (rdc row k) = ((rdc row k).1 : Rat) / ((rdc row k).2 : Rat) := rfl
        show ((wt d.1 d.2 rs.length k * ((rdc row k).1 - rdl rs k * (rdc row k).2) : Int) : Rat) / ((rdc row k).2 : Rat) = _
        rw [f1, w, g1]
        generalize (d.2 : Rat) ^ (rs.length - 1) = B
        generalize rv d ^ k = Q
        generalize ((rdc row k).1 : Rat) = P at *
        generalize ((rdc row k).2 : Rat) = E at *
        generalize (rdl rs k : Rat) = R at *
        have n1 : E ≠ 0 := by grind
        grind
      rw [key]
      generalize (d.2 : Rat) ^ (rs.length - 1) = B
      grind
    · obtain ⟨ha, hb, _, _⟩ := hd.bd
      have n60 := hr.1
      have tB : Bd 2110 (stF d rs.length rs row k).2 := by
        refine lb.of ?_
        have := Int.le_of_dvd l0 i2
        omega
      have wB : Bd 600 (wt d.1 d.2 rs.length k) := (Bd.wt ha hb (by omega)).le (by omega)
      have nB : Bd 2100 (wt d.1 d.2 rs.length k * ((rdc row k).1 - rdl rs k * (rdc row k).2)) := (wB.mul (Bd.sub (n := 1431) (e2.le (by decide)) ((hr.bd k).mul e3))).le (by decide)
      show Bd _ (aoF _ _).1
      unfold aoF
      dsimp only
      have u1 := i4.mul (e3.of (gcd_div_le (y := (rdc row k).2) (Int.le_of_lt e1) (stF d rs.length rs row k).2))
      have u2 := nB.mul (tB.of (gcd_div_le (x := (stF d rs.length rs row k).2) (y := (rdc row k).2) (by omega) (stF d rs.length rs row k).2))
      exact (Bd.add (n := 4499 + 4500 * k) (u1.le (by omega)) (u2.le (by omega))).le (by omega)
theorem st_nn {d : Int × Int} (hd : Dis d) {rs : List Int} (hr : Rws rs) {row : List (Int × Int)} (h : Row d rs row) {k : Nat} (hk : k ≤ rs.length) : 0 < (stF d rs.length rs row k).2 ∧ Bd 8000 (stF d rs.length rs row k).2 ∧ Bd 600000 (stF d rs.length rs row k).1 ∧ 0 ≤ (stF d rs.length rs row k).1 := by
  obtain ⟨L, l0, lb, ld⟩ := h.lcm
  obtain ⟨i1, i2, i3, i4⟩ := st_ok hd hr h l0 lb ld k hk
  have n60 := hr.1
  have tB : Bd 2110 (stF d rs.length rs row k).2 := by
    refine lb.of ?_
    have := Int.le_of_dvd l0 i2
    omega
  refine ⟨i1, tB.le (by decide), i4.le (by omega), rv_nn i1 ?_⟩
  rw [i3]
  exact Rat.mul_nonneg (Rat.le_of_lt (qpow_pos (cast_pos hd.bd.2.2.2) _)) (h.slk k (by rw [h.len]; exact hk))
/-- a certificate without faults -/
structure Bok (c : Co) (css : Chs) : Prop where
  len : css.length = c.2.length
  rows : ∀ j, j < css.length → Row c.1 (rdp c.2 j) (rcl css j)
  lcm : ∃ L : Int, 0 < L ∧ Bd 2110 L ∧ ∀ x ∈ css.flatten, x.2 ∣ L
theorem Bok.fal {c : Co} {css : Chs} (h : Bok c css) : Fal css := fun j k hj hk => (h.rows j hj).fal k hk
theorem rcl_mem {css : Chs} {j : Nat} (h : j < css.length) : rcl css j ∈ css := List.mem_of_getElem? (rcl_at h)
theorem mem_rcl {css : Chs} {row : List (Int × Int)} (h : row ∈ css) : ∃ j, j < css.length ∧ rcl css j = row := by
  obtain ⟨j, hj, e⟩ := List.mem_iff_getElem.mp h
  refine ⟨j, hj, ?_⟩
  have := rcl_at hj
  rw [List.getElem?_eq_getElem hj, e] at this
  exact (Option.some.inj this).symm
theorem Bok.den {c : Co} {css : Chs} (h : Bok c css) {x : Int × Int} (hx : x ∈ css.flatten) : 0 < x.2 ∧ Bd 1400 x.1 ∧ Bd 1400 x.2 := by
  obtain ⟨row, hr, hm⟩ := List.mem_flatten.mp hx
  obtain ⟨j, hj, e⟩ := mem_rcl hr
  exact (h.rows j hj).den x (by rw [e]; exact hm)
theorem chC_mem {css : Chs} {j k : Nat} (hj : j < css.length) (hk : k < lenC css j) : chC css j k ∈ css.flatten := List.mem_flatten.mpr ⟨_, rcl_mem hj, rdc_mem hk⟩
theorem rcl_over {css : Chs} {j : Nat} (h : ¬ j < css.length) : rcl css j = [] := by unfold rcl; rw [List.getD_eq_getElem?_getD, List.getElem?_eq_none (by omega)]; rfl
theorem rdc_over {row : List (Int × Int)} {k : Nat} (h : ¬ k < row.length) : rdc row k = (0, 1) := by unfold rdc; rw [List.getD_eq_getElem?_getD, List.getElem?_eq_none (by omega)]; rfl
theorem Bok.chd {c : Co} {css : Chs} (h : Bok c css) (j k : Nat) : 0 < (chC css j k).2 ∧ Bd 1400 (chC css j k).1 ∧ Bd 1400 (chC css j k).2 := by
  by_cases hj : j < css.length
  · by_cases hk : k < lenC css j
    · exact h.den (chC_mem hj hk)
    · unfold chC
      rw [rdc_over hk]
      exact ⟨by decide, Bd.zero, Bd.one (by decide)⟩
  · unfold chC
    rw [rcl_over hj, rdc_over (by simp)]
    exact ⟨by decide, Bd.zero, Bd.one (by decide)⟩
theorem Bok.tot {c : Co} {css : Chs} (h : Bok c css) : totC css = tot c.2 := by
  have e : ∀ (css : Chs) (ps : List (List Int)), css.length = ps.length → (∀ j, j < css.length → (rcl css j).length = (rdp ps j).length) → totC css = Tm.tot ps := by
    intro css
    induction css with
    | nil => intro ps hl _; cases ps with
      | nil => rfl
      | cons a l => simp at hl
    | cons r css ih => intro ps hl hr; cases ps with
      | nil => simp at hl
      | cons a l =>
        have h0 := hr 0 (by simp)
        have e := ih l (by simpa using hl) fun j hj => by have := hr (j + 1) (by simpa using hj); exact this
        have h0 : r.length = a.length := h0
        show (List.length r :: css.map List.length).sum = a.length + Tm.tot l
        rw [List.sum_cons, h0]
        show a.length + totC css = _
        rw [e]
  exact e css c.2 h.len fun j hj => (h.rows j hj).len
theorem Bok.mok {c : Co} (ok : COk c) {css : Chs} (h : Bok c css) : MOk css := by
  refine ⟨by rw [h.len]; have := ok.p.1; omega, by rw [h.tot]; have := ok.p.2.1; omega, fun j k => ?_⟩
  obtain ⟨a, b, e⟩ := h.chd j k
  exact ⟨a, b.le (by decide), e.le (by decide)⟩
def mgB (css : Chs) : Mg := mgF css (totC css)
theorem Bok.mrg {c : Co} {css : Chs} (h : Bok c css) : Mrg css (mgB css) := mg_full fun j k => (h.chd j k).1
/-- the charges in falling order -/
def flB (css : Chs) : List (Int × Int) := (mgB css).map (·.2)
theorem flB_len {c : Co} {css : Chs} (h : Bok c css) : (flB css).length = tot c.2 := by unfold flB mgB; rw [List.length_map, mgF_len, h.tot]
theorem flB_mem {c : Co} {css : Chs} (h : Bok c css) {x : Int × Int} : x ∈ flB css ↔ x ∈ css.flatten := (mg_perm h.mrg).mem_iff
def bdF (c : Co) (css : Chs) (o : Int × Int) : Int × Int := ratOf (faR c.1 o (abvL (flB css) o))
structure Fld (fl : List (Int × Int)) : Prop where
  len : fl.length ≤ 72
  den : ∀ x ∈ fl, 0 < x.2 ∧ Bd 1400 x.1 ∧ Bd 1400 x.2
  lcm : ∃ L : Int, 0 < L ∧ Bd 2110 L ∧ ∀ x ∈ fl, x.2 ∣ L
theorem Bok.fld {c : Co} (ok : COk c) {css : Chs} (h : Bok c css) : Fld (flB css) := by
  refine ⟨by rw [flB_len h]; have := ok.p.2.1; omega, fun x hx => h.den ((flB_mem h).mp hx), ?_⟩
  obtain ⟨L, a, b, e⟩ := h.lcm
  exact ⟨L, a, b, fun x hx => e x ((flB_mem h).mp hx)⟩
theorem Fld.es {fl : List (Int × Int)} (h : Fld fl) {o : Int × Int} (ho : Offr o) : (∃ L, Es o (abvL fl o) L 72) ∧ ∀ x ∈ abvL fl o, rv o < rv x := by
  obtain ⟨L, l0, lb, ld⟩ := h.lcm
  have mem : ∀ {x}, x ∈ abvL fl o → x ∈ fl := fun hx => (List.mem_filter.mp hx).1
  refine ⟨⟨L, Nat.le_trans (List.length_filter_le _ _) h.len, fun x hx => h.den x (mem hx), l0, (lb.mul ho.2.2.2).le (by decide), fun x hx => ld x (mem hx)⟩, fun x hx => ?_⟩
  have := (List.mem_filter.mp hx).2
  rw [decide_eq_true_eq] at this
  exact (rv_lt (by have := ho.2.1; omega) (h.den x (mem hx)).1).mpr this
theorem cmp_abv (fl : List (Int × Int)) (o : Int × Int) : (fl.filter fun e => decide (0 < cmpR e o)) = abvL fl o := by
  unfold abvL
  refine List.filter_congr fun e _ => ?_
  unfold cmpR
  by_cases h : o.1 * e.2 < e.1 * o.2
  · rw [decide_eq_true h]
    simp
    omega
  · rw [decide_eq_false h]
    simp
    omega
theorem abv_len {fl : List (Int × Int)} (h : Fld fl) (o : Int × Int) : (abvL fl o).length ≤ 72 := Nat.le_trans (List.length_filter_le _ _) h.len
/-- what the walk of a sum over falling charges needs -/
theorem ft_bd {d o : Int × Int} (hd : Dis d) (ho : Offr o) {fl : List (Int × Int)} (h : Fld fl) {k : Nat} (hk : k ≤ (abvL fl o).length) : 0 < (ftF d o (abvL fl o) k).2 ∧ Bd 8000 (ftF d o (abvL fl o) k).2 ∧ Bd 600000 (ftF d o (abvL fl o) k).1 := by
  obtain ⟨⟨L, es⟩, _⟩ := h.es ho
  obtain ⟨i1, i2, _, i4⟩ := ft_ok hd ho es k hk
  have n60 := abv_len h o
  refine ⟨i1, ?_, i4.le ?_⟩
  · refine (es.lcm.2.1.le (show 3520 ≤ 8000 by decide)).of ?_
    have p : 0 < L * o.2 := Int.mul_pos es.lcm.1 (by have := ho.2.1; omega)
    have := Int.le_of_dvd p i2
    omega
  · have := Nat.mul_le_mul (show 10 * (abvL fl o).length + 7300 ≤ 8020 by omega) (show k ≤ 72 by omega)
    omega
/-! ### the company's own certificate -/
theorem own_bok {c : Co} (ok : COk c) : Bok c (certF c.1 c.2) := by
  have own := cert_own ok.d.1 ok.p
  obtain ⟨L, l0, lb, ld⟩ := own_den ok
  have fal := fal_fl ok
  have bd : ∀ x ∈ (certF c.1 c.2).flatten, 0 < x.2 ∧ Bd 1400 x.1 ∧ Bd 1400 x.2 := fun x hx => fal.2 x ((falF_perm _).mem_iff.mpr hx)
  refine ⟨certF_len _ _, fun j hj => ⟨?_, fun x hx => bd x (List.mem_flatten.mpr ⟨_, rcl_mem hj, hx⟩), ⟨L, l0, lb.le (by decide), fun x hx => ld x (List.mem_flatten.mpr ⟨_, rcl_mem hj, hx⟩)⟩, fun k hk => own.fal j k hj hk, fun k hk => ?_⟩, ⟨L, l0, lb.le (by decide), ld⟩⟩
  · exact own.lens j
  · exact own.nn j k hj hk
theorem own_bound {c : Co} (ok : COk c) {o : Int × Int} (ho : 0 < o.2) : bdF c (certF c.1 c.2) o = bwF c o := by
  obtain ⟨b1, b2⟩ := bw_ok ok ho
  unfold bdF
  refine (ratOf_eq b1 ?_).symm
  rw [b2]
  have e : flB (certF c.1 c.2) = falF (certF c.1 c.2) := (fal_eq ok).symm
  rw [e]
  obtain ⟨_, f2⟩ := fw_best ok ok.d.1 rfl ho
  have al : ∀ x ∈ abvL (falF (certF c.1 c.2)) o, 0 < x.2 := fun x hx => ((fal_fl ok).2 x (List.mem_filter.mp hx).1).1
  obtain ⟨_, g2⟩ := fw_ok ok.d.1 ho al
  rw [← f2, g2]
  rfl
end Tm

namespace Tm
open PySem L2 Tp
/-! ### what a certificate bounds -/
theorem flB_gM {css : Chs} {k : Nat} (h : k < (mgB css).length) : (flB css)[k]? = some (gM (mgB css) k) := by
  obtain ⟨x, hx, _⟩ := m_at (m := mgB css) h
  unfold flB
  rw [List.getElem?_map, hx]; rfl
theorem abvB {c : Co} {css : Chs} (h : Bok c css) {o : Int × Int} (ho : 0 < o.2) : abvL (flB css) o = ((mgB css).take (cutK (mgB css) (rv o))).map (·.2) := by
  rw [← h.mrg.cut h.fal (rv o)]
  unfold abvL flB
  rw [List.filter_map]
  congr 1
  refine List.filter_congr fun e he => ?_
  have p := (h.den ((flB_mem h).mp (List.mem_map.mpr ⟨e, he, rfl⟩))).1
  unfold abv
  rw [Bool.eq_iff_iff]
  show decide (o.1 * e.2.2 < e.2.1 * o.2) = true ↔ _
  rw [decide_eq_true_eq, decide_eq_true_eq, rv_lt ho p]
theorem bd_val {c : Co} {css : Chs} (h : Bok c css) {o : Int × Int} (ho : 0 < o.2) : rv (bdF c css o) = fallW (rv c.1) (mgB css) (rv o) + rv o / (1 - rv c.1) := by
  unfold bdF
  rw [rv_ratOf, abvB h ho]
  unfold faR fallW
  have l := cutK_le (mgB css) (rv o)
  rw [List.length_map, List.length_take, Nat.min_eq_left l]
  congr 1
  refine sR_congr fun k hk => ?_
  have e : rdc (((mgB css).take (cutK (mgB css) (rv o))).map (·.2)) k = gM (mgB css) k := by
    obtain ⟨x, hx, _⟩ := m_at (m := mgB css) (i := k) (by omega)
    refine rdc_of ?_
    rw [List.getElem?_map, List.getElem?_take, if_pos hk, hx]; rfl
  rw [e]
theorem Bok.vl {c : Co} {css : Chs} (h : Bok c css) {pl : Pl} (vp : VP c.2 pl) : VL css.length (lenC css) pl := by
  have e := (VP.vl vp).of (len' := lenC css) fun j => by
    by_cases z : j < css.length
    · exact (h.rows j z).len.symm
    · unfold lenP lenC
      rw [rcl_over z]
      unfold rdp
      rw [List.getD_eq_getElem?_getD, List.getElem?_eq_none (by have := h.len; omega)]; rfl
  rw [h.len]; exact e
theorem bd_plan {c : Co} (ok : COk c) {css : Chs} (h : Bok c css) {pl : Pl} (vp : VP c.2 pl) {o : Int × Int} (ho : 0 < o.2) : worthR c.1 c.2 pl (rv o) ≤ rv (bdF c css o) := by
  have q := ok.d.1.q
  have vl := h.vl vp
  rw [bd_val h ho]
  unfold worthR
  have a := no_plan_more q.1 (Rat.le_of_lt q.2) h.mrg h.fal vl (rv o) pl.length
  have w := waits (T := TC c.1 c.2 css) (val := fun j k => rv (chC css j k) - rwd c.2 j k) q.1 (Rat.le_of_lt q.2) (TC_zero _ _ _) (TC_succ _ _ _) vl (fun j k hj hk => (h.rows j hj).slk k hk) pl.length
  have s := dsum_sub (q := rv c.1) (pl := pl) (fun j k => rv (chC css j k) - rv o) (fun j k => rv (chC css j k) - rwd c.2 j k) pl.length
  have e : dsum (rv c.1) (fun j k => rv (chC css j k) - rv o - (rv (chC css j k) - rwd c.2 j k)) pl pl.length = dsum (rv c.1) (fun j k => rwd c.2 j k - rv o) pl pl.length := dsum_congr vl (fun j k _ _ => by grind) pl.length
  rw [e] at s
  grind
/-- two falling lists of the same charges have the same values -/
theorem sorted_rv {l l' : List (Int × Int)} (hp : l.Perm l') (h : Sorted l) (h' : Sorted l') : l.map rv = l'.map rv :=
  List.Perm.eq_of_pairwise (le := fun a b : Rat => b ≤ a) (fun a b _ _ h1 h2 => by grind) (List.pairwise_map.mpr h) (List.pairwise_map.mpr h') (hp.map rv)
theorem rdc_rv {l l' : List (Int × Int)} (h : l.map rv = l'.map rv) (k : Nat) : rv (rdc l k) = rv (rdc l' k) := by
  have e := congrArg (fun l : List Rat => l[k]?) h
  simp only [List.getElem?_map] at e
  unfold rdc
  rw [List.getD_eq_getElem?_getD, List.getD_eq_getElem?_getD]
  cases a : l[k]? with
  | none => rw [a] at e; cases b : l'[k]? with
    | none => rfl
    | some y => rw [b] at e; cases e
  | some x => rw [a] at e; cases b : l'[k]? with
    | none => rw [b] at e; cases e
    | some y => rw [b] at e; exact Option.some.inj e
theorem fa_rv (d o : Int × Int) {l l' : List (Int × Int)} (h : l.map rv = l'.map rv) : faR d o l = faR d o l' := by
  have e := congrArg List.length h
  rw [List.length_map, List.length_map] at e
  unfold faR
  rw [e]
  congr 1
  exact sR_congr fun k _ => by rw [rdc_rv h k]
theorem abv_sorted {l : List (Int × Int)} (h : Sorted l) (o : Int × Int) : Sorted (abvL l o) := List.Pairwise.filter _ h
theorem Bok.same {c : Co} {css : Chs} (h : Bok c css) (o : Int × Int) : (abvL (falF css) o).map rv = (abvL (flB css) o).map rv := by
  have p : (falF css).Perm (flB css) := (falF_perm css).trans (mg_perm h.mrg).symm
  have s1 : Sorted (falF css) := foldl_ins_sorted (fun y hy => (h.den hy).1) (fun y hy => by cases hy) .nil
  exact sorted_rv (p.filter _) (abv_sorted s1 o) (abv_sorted (h.mrg.toMrg0.sorted h.fal) o)
theorem bd_law {c : Co} {css : Chs} (h : Bok c css) {d o : Int × Int} (hd : Dis d) (hq : rv c.1 = rv d) (ho : 0 < o.2) : 0 < (fwF d o (abvL (falF css) o)).2 ∧ rv (fwF d o (abvL (falF css) o)) = rv (bdF c css o) := by
  obtain ⟨h1, h2⟩ := fw_ok hd ho (es := abvL (falF css) o) fun x hx => (h.den ((falF_perm css).mem_iff.mp (List.mem_filter.mp hx).1)).1
  refine ⟨h1, ?_⟩
  unfold bdF
  rw [rv_ratOf, ← fa_rv c.1 o (h.same o), h2]
  unfold faR
  rw [hq]
theorem bd_isR (c : Co) (css : Chs) (o : Int × Int) : isR (bdF c css o) = true := isR_ratOf _
theorem bd_bd {c : Co} (ok : COk c) {css : Chs} (h : Bok c css) {o : Int × Int} (ho : Offr o) : Bd 7100 (bdF c css o).1 ∧ Bd 7100 (bdF c css o).2 := by
  have hfl := h.fld ok
  obtain ⟨⟨L, esS⟩, hab⟩ := hfl.es ho
  obtain ⟨g1, _, g3, g4, _⟩ := fg_ok ok.d.1 ho esS (Nat.le_refl _) hab
  have fv := fw_val ok.d.1 ho esS (Nat.le_refl _) hab
  have aB := alone_bd ok.d.1 ho
  have a0 := alone_pos (o := o) ok.d.1 (by have := ho.2.1; omega)
  have b := add_bd (n := 5650) (m := 1420) g1 a0 ⟨g3, g4.le (by decide)⟩ aB
  unfold bdF
  rw [← fv]
  exact ⟨b.1.le (by decide), b.2.le (by decide)⟩
theorem bd_fok {c : Co} (ok : COk c) {css : Chs} (h : Bok c css) : FOk css ∧ FlOk (falF css) := by
  refine ⟨⟨by rw [h.len]; have := ok.p.1; omega, by rw [h.tot]; have := ok.p.2.1; omega, fun x hx => ⟨(h.den hx).2.1.le (by decide), (h.den hx).2.2.le (by decide)⟩⟩, ?_, fun x hx => h.den ((falF_perm css).mem_iff.mp hx)⟩
  rw [(falF_perm css).length_eq, flat_len, h.tot]; have := ok.p.2.1; omega
/-! ### the greatest reward from each step on -/
def mxL (l : List Int) : Int := l.max?.getD 0
theorem mxL_ok {l : List Int} (h : l ≠ []) : mxL l ∈ l ∧ ∀ y ∈ l, y ≤ mxL l := by
  cases e : l.max? with
  | none => exact absurd (List.max?_eq_none_iff.mp e) h
  | some m =>
    have := List.max?_eq_some_iff.mp e
    unfold mxL
    rw [e]
    exact this
def gtF (rs : List Int) : List (Int × Int) := (List.range rs.length).map fun k => (mxL (rs.drop k), 1)
theorem gt_at {rs : List Int} {k : Nat} (h : k < rs.length) : rdc (gtF rs) k = (mxL (rs.drop k), 1) := by
  refine rdc_of ?_
  unfold gtF
  rw [List.getElem?_map, List.getElem?_range h]; rfl
theorem drop_ne {rs : List Int} {k : Nat} (h : k < rs.length) : rs.drop k ≠ [] := fun e => by
  have := congrArg List.length e
  rw [List.length_drop, List.length_nil] at this
  omega
theorem rv_intC (n : Int) : rv (n, 1) = (n : Rat) := by
  unfold rv
  show (n : Rat) / ((1 : Int) : Rat) = n
  have : ((1 : Int) : Rat) = 1 := rfl
  rw [this]; grind
theorem rdl_dropm {rs : List Int} {k : Nat} (h : k < rs.length) : rdl rs k ∈ rs.drop k := by
  unfold rdl
  rw [List.getD_eq_getElem?_getD, List.getElem?_eq_getElem h]
  rw [List.drop_eq_getElem_cons h]
  exact List.mem_cons_self
theorem gt_row {d : Int × Int} (hd : Dis d) {rs : List Int} (hr : Rws rs) : Row d rs (gtF rs) := by
  have gl : (gtF rs).length = rs.length := by unfold gtF; rw [List.length_map, List.length_range]
  have mem : ∀ k, k < rs.length → mxL (rs.drop k) ∈ rs := fun k hk => List.mem_of_mem_drop (mxL_ok (drop_ne hk)).1
  refine ⟨gl, fun x hx => ?_, ⟨1, by decide, Bd.one (by decide), fun x hx => ?_⟩, fun k hk => ?_, fun k hk => ?_⟩
  · obtain ⟨k, hk, rfl⟩ := List.mem_map.mp hx
    have b := hr.2 _ (mem k (List.mem_range.mp hk))
    refine ⟨by show (0 : Int) < 1; decide, ?_, Bd.one (by decide)⟩
    have : Bd 31 (mxL (rs.drop k)) := by unfold Bd; omega
    exact this.le (by decide)
  · obtain ⟨k, hk, rfl⟩ := List.mem_map.mp hx
    exact Int.dvd_refl 1
  · rw [gl] at hk
    rw [gt_at hk, gt_at (by omega), rv_intC, rv_intC]
    have a := (mxL_ok (drop_ne hk)).1
    have b := (mxL_ok (drop_ne (rs := rs) (k := k) (by omega))).2 (mxL (rs.drop (k + 1))) (by
      rw [List.drop_eq_getElem_cons (show k < rs.length by omega)]
      exact List.mem_cons_of_mem _ a)
    exact_mod_cast b
  · rw [gl] at hk
    refine sR_nn fun t ht => Rat.mul_nonneg (Rat.le_of_lt (qpow_pos hd.q.1 t)) ?_
    rw [gt_at (by omega), rv_intC]
    have b := (mxL_ok (drop_ne (rs := rs) (k := t) (by omega))).2 _ (rdl_dropm (by omega))
    have : (rdl rs t : Rat) ≤ (mxL (rs.drop t) : Rat) := by exact_mod_cast b
    grind
theorem rcl_map {ps : List (List Int)} {f : List Int → List (Int × Int)} {j : Nat} (h : j < ps.length) : rcl (ps.map f) j = f (rdp ps j) := by
  unfold rcl rdp
  rw [List.getD_eq_getElem?_getD, List.getD_eq_getElem?_getD, List.getElem?_map, List.getElem?_eq_getElem h]; rfl
theorem gt_bok {c : Co} (ok : COk c) : Bok c (c.2.map gtF) := by
  refine ⟨List.length_map .., fun j hj => ?_, ⟨1, by decide, Bd.one (by decide), fun x hx => ?_⟩⟩
  · rw [List.length_map] at hj
    rw [rcl_map hj]
    exact gt_row ok.d.1 (ok.p.rws (rdp_mem hj))
  · obtain ⟨row, hr, hm⟩ := List.mem_flatten.mp hx
    obtain ⟨rs, _, rfl⟩ := List.mem_map.mp hr
    obtain ⟨k, hk, rfl⟩ := List.mem_map.mp hm
    exact Int.dvd_refl 1
/-! ### the own charges with something added -/
def adF (css : Chs) (row : List Int) : Chs := (List.range css.length).map fun k => (rcl css k).map fun t => (t.1 + rdl row (4 + k) % 5 * t.2, t.2)
theorem ad_at {css : Chs} {row : List Int} {j : Nat} (h : j < css.length) : rcl (adF css row) j = (rcl css j).map fun t => (t.1 + rdl row (4 + j) % 5 * t.2, t.2) := by
  unfold rcl adF
  rw [List.getD_eq_getElem?_getD, List.getElem?_map, List.getElem?_range h]; rfl
theorem rv_addi {t : Int × Int} (h : 0 < t.2) (m : Int) : rv (t.1 + m * t.2, t.2) = rv t + (m : Rat) := by
  have p := cast_pos h
  unfold rv
  show ((t.1 + m * t.2 : Int) : Rat) / _ = _
  have f : ((t.1 + m * t.2 : Int) : Rat) = (t.1 : Rat) + (m : Rat) * (t.2 : Rat) := by exact_mod_cast rfl
  rw [f]
  generalize (t.2 : Rat) = Y at *
  grind
theorem rdc_map {l : List (Int × Int)} {f : Int × Int → Int × Int} {k : Nat} (h : k < l.length) : rdc (l.map f) k = f (rdc l k) := by
  unfold rdc
  rw [List.getD_eq_getElem?_getD, List.getD_eq_getElem?_getD, List.getElem?_map, List.getElem?_eq_getElem h]; rfl
theorem ad_bok {c : Co} (ok : COk c) (row : List Int) : Bok c (adF (certF c.1 c.2) row) := by
  have own := cert_own ok.d.1 ok.p
  have B := own_bok ok
  have al : (adF (certF c.1 c.2) row).length = (certF c.1 c.2).length := by unfold adF; rw [List.length_map, List.length_range]
  have dn : ∀ {t : Int × Int}, t ∈ (certF c.1 c.2).flatten → 0 < t.2 ∧ Bd 700 t.1 ∧ Bd 700 t.2 := fun {t} ht => by
    obtain ⟨r, hr, hm⟩ := List.mem_flatten.mp ht
    obtain ⟨j, hj, e⟩ := mem_rcl hr
    obtain ⟨k, hk, e'⟩ := List.mem_iff_getElem.mp hm
    have : chC (certF c.1 c.2) j k = t := by
      unfold chC
      rw [e]
      exact rdc_of (by rw [List.getElem?_eq_getElem hk, e'])
    rw [← this]
    exact ⟨own.den j k, own.bd j k⟩
  obtain ⟨L, l0, lb, ld⟩ := B.lcm
  refine ⟨by rw [al, B.len], fun j hj => ?_, ⟨L, l0, lb, fun x hx => ?_⟩⟩
  · rw [al] at hj
    have R := B.rows j hj
    rw [ad_at hj]
    have m0 := Int.emod_nonneg (rdl row (4 + j)) (show (5 : Int) ≠ 0 by decide)
    have m1 := Int.emod_lt_of_pos (rdl row (4 + j)) (show (0 : Int) < 5 by decide)
    have mB : Bd 3 (rdl row (4 + j) % 5) := by unfold Bd; omega
    generalize rdl row (4 + j) % 5 = m at m0 mB ⊢
    have mq : (0 : Rat) ≤ (m : Rat) := by exact_mod_cast m0
    have pos : ∀ k, k < (rcl (certF c.1 c.2) j).length → 0 < (rdc (rcl (certF c.1 c.2) j) k).2 := fun k hk => (R.den _ (rdc_mem hk)).1
    refine ⟨by rw [List.length_map]; exact R.len, fun x hx => ?_, ⟨L, l0, lb, fun x hx => ?_⟩, fun k hk => ?_, fun k hk => ?_⟩
    · obtain ⟨t, ht, rfl⟩ := List.mem_map.mp hx
      obtain ⟨a, b, e⟩ := dn (List.mem_flatten.mpr ⟨_, rcl_mem hj, ht⟩)
      exact ⟨a, (Bd.add (n := 703) (b.le (by decide)) ((mB.mul e).le (by decide))).le (by decide), e.le (by decide)⟩
    · obtain ⟨t, ht, rfl⟩ := List.mem_map.mp hx
      exact ld t (List.mem_flatten.mpr ⟨_, rcl_mem hj, ht⟩)
    · rw [List.length_map] at hk
      rw [rdc_map hk, rdc_map (by omega), rv_addi (pos _ hk), rv_addi (pos _ (by omega))]
      have := R.fal k hk
      grind
    · rw [List.length_map] at hk
      refine Rat.le_trans (R.slk k hk) (sR_le fun t ht => ?_)
      rw [rdc_map (by omega), rv_addi (pos _ (by omega))]
      exact Rat.mul_le_mul_of_nonneg_left (by grind) (Rat.le_of_lt (qpow_pos ok.d.1.q.1 t))
  · obtain ⟨r, hr, hm⟩ := List.mem_flatten.mp hx
    obtain ⟨j, hj, rfl⟩ := List.mem_map.mp hr
    obtain ⟨t, ht, rfl⟩ := List.mem_map.mp hm
    exact ld t (List.mem_flatten.mpr ⟨_, rcl_mem (List.mem_range.mp hj), ht⟩)
end Tm

namespace Tm
open PySem L2 Tp
/-! ### drawn charges, raised until they bound -/
def wnF (d : Int × Int) (rs tops : List Int) (b : Int) (k : Nat) : Int := sg (fun i => wt d.1 d.2 rs.length i * (rdl rs i * b - rdl tops i)) k
def dyF (d : Int × Int) (rs : List Int) (b : Int) (k : Nat) : Int := sg (fun i => wt d.1 d.2 rs.length i * b) k
def lfF (d : Int × Int) (rs tops : List Int) (b : Int) : Nat → Int
  | 0 => 0
  | k + 1 => if -((-wnF d rs tops b (k + 1)).fdiv (dyF d rs b (k + 1))) > lfF d rs tops b k then -((-wnF d rs tops b (k + 1)).fdiv (dyF d rs b (k + 1))) else lfF d rs tops b k
def raF (d : Int × Int) (rs tops : List Int) (b more : Int) : List (Int × Int) := tops.map fun t => (t + (lfF d rs tops b rs.length + more) * b, b)
theorem ceil_ok {w y : Int} (h : 0 < y) : w ≤ -((-w).fdiv y) * y ∧ (0 ≤ -((-w).fdiv y) → (-((-w).fdiv y)).natAbs ≤ w.natAbs) := by
  rw [Int.fdiv_eq_ediv_of_nonneg _ (by omega)]
  have a := Int.ediv_mul_le (-w) (show y ≠ 0 by omega)
  refine ⟨by rw [Int.neg_mul]; omega, fun k => ?_⟩
  by_cases z : w ≤ 0
  · have := Int.ediv_nonneg (show 0 ≤ -w by omega) (show 0 ≤ y by omega)
    omega
  · have : -w ≤ -w / y := Int.le_ediv_of_mul_le h (by
      have := Int.mul_le_mul_of_nonneg_left (show 1 ≤ y by omega) (show 0 ≤ w by omega)
      rw [Int.neg_mul]; omega)
    omega
theorem wtd_pos {d : Int × Int} (hd : Dis d) {n i : Nat} : 0 < wt d.1 d.2 n i := by
  obtain ⟨_, _, a0, b0⟩ := hd.bd
  exact Int.mul_pos (Int.pow_pos a0) (Int.pow_pos b0)
theorem dy_pos {d : Int × Int} (hd : Dis d) (rs : List Int) {b : Int} (hb : 0 < b) : ∀ k, 0 < dyF d rs b (k + 1)
  | 0 => by
    have := Int.mul_pos (wtd_pos hd (n := rs.length) (i := 0)) hb
    show 0 < (0 : Int) + wt d.1 d.2 rs.length 0 * b
    omega
  | k + 1 => by
    have i := dy_pos hd rs hb k
    have := Int.mul_pos (wtd_pos hd (n := rs.length) (i := k + 1)) hb
    show 0 < dyF d rs b (k + 1) + wt d.1 d.2 rs.length (k + 1) * b
    omega
theorem lf_ok {d : Int × Int} (hd : Dis d) {rs tops : List Int} {b : Int} (hb : 0 < b) {m : Nat} (hB : ∀ k, k ≤ rs.length → Bd m (wnF d rs tops b k)) : ∀ k, k ≤ rs.length → 0 ≤ lfF d rs tops b k ∧ Bd m (lfF d rs tops b k) ∧ (∀ j, j ≤ k → wnF d rs tops b j ≤ lfF d rs tops b k * dyF d rs b j)
  | 0, _ => ⟨Int.le_refl _, Bd.zero, fun j hj => by
    have : j = 0 := by omega
    subst this
    show (0 : Int) ≤ 0 * _
    omega⟩
  | k + 1, hk => by
    obtain ⟨i1, i2, i3⟩ := lf_ok hd hb hB k (by omega)
    obtain ⟨c1, c2⟩ := ceil_ok (w := wnF d rs tops b (k + 1)) (dy_pos hd rs hb k)
    have dn : ∀ j, 0 ≤ dyF d rs b j := fun j => by
      cases j with
      | zero => exact Int.le_refl _
      | succ j => exact Int.le_of_lt (dy_pos hd rs hb j)
    rw [lfF]
    generalize -((-wnF d rs tops b (k + 1)).fdiv (dyF d rs b (k + 1))) = c at c1 c2 ⊢
    split
    · rename_i h
      refine ⟨by omega, (hB (k + 1) hk).of (c2 (by omega)), fun j hj => ?_⟩
      by_cases z : j = k + 1
      · subst z; exact c1
      · refine Int.le_trans (i3 j (by omega)) (Int.mul_le_mul_of_nonneg_right (by omega) (dn j))
    · rename_i h
      refine ⟨i1, i2, fun j hj => ?_⟩
      by_cases z : j = k + 1
      · subst z; exact Int.le_trans c1 (Int.mul_le_mul_of_nonneg_right (by omega) (dn _))
      · exact i3 j (by omega)
/-- numbers that are to be raised -/
structure Tps (rs tops : List Int) : Prop where
  len : tops.length = rs.length
  fal : ∀ k, k + 1 < rs.length → rdl tops (k + 1) ≤ rdl tops k
  bd : ∀ k, Bd 41 (rdl tops k)
theorem wn_bd {d : Int × Int} (hd : Dis d) {rs tops : List Int} (hr : Rws rs) (ht : Tps rs tops) {b : Int} (hb : Bd 6 b) {k : Nat} (hk : k ≤ rs.length) : Bd 710 (wnF d rs tops b k) := by
  obtain ⟨ha, hb', _, _⟩ := hd.bd
  have n60 := hr.1
  have : Bd (642 + k) (wnF d rs tops b k) := Bd.sg fun i hi => by
    have w : Bd 600 (wt d.1 d.2 rs.length i) := (Bd.wt ha hb' (by omega)).le (by omega)
    exact w.mul (Bd.sub (n := 41) (((hr.bd i).mul hb).le (by decide)) (ht.bd i))
  exact this.le (by omega)
theorem dy_bd {d : Int × Int} (hd : Dis d) {rs : List Int} (hr : Rws rs) {b : Int} (hb : Bd 6 b) {k : Nat} (hk : k ≤ rs.length) : Bd 710 (dyF d rs b k) := by
  obtain ⟨ha, hb', _, _⟩ := hd.bd
  have n60 := hr.1
  have : Bd (606 + k) (dyF d rs b k) := Bd.sg fun i hi => by
    have w : Bd 600 (wt d.1 d.2 rs.length i) := (Bd.wt ha hb' (by omega)).le (by omega)
    exact w.mul hb
  exact this.le (by omega)
theorem ra_sum {d : Int × Int} (hd : Dis d) (rs tops : List Int) {b l : Int} (hb : 0 < b) : ∀ k, k ≤ rs.length → (b : Rat) * ((d.2 : Rat) ^ (rs.length - 1) * sR (fun t => rv d ^ t * (rv (rdl tops t + l * b, b) - (rdl rs t : Rat))) k) = (l : Rat) * (dyF d rs b k : Rat) - (wnF d rs tops b k : Rat)
  | 0, _ => by
    show (b : Rat) * (_ * (0 : Rat)) = (l : Rat) * ((0 : Int) : Rat) - ((0 : Int) : Rat)
    have z : ((0 : Int) : Rat) = 0 := rfl
    rw [z]; grind
  | k + 1, hk => by
    have i := ra_sum hd rs tops (l := l) hb k (by omega)
    rw [sR_succ]
    have e1 : (dyF d rs b (k + 1) : Rat) = (dyF d rs b k : Rat) + (wt d.1 d.2 rs.length k : Rat) * (b : Rat) := by
      show ((dyF d rs b k + wt d.1 d.2 rs.length k * b : Int) : Rat) = _
      exact_mod_cast rfl
    have e2 : (wnF d rs tops b (k + 1) : Rat) = (wnF d rs tops b k : Rat) + (wt d.1 d.2 rs.length k : Rat) * ((rdl rs k : Rat) * (b : Rat) - (rdl tops k : Rat)) := by
      show ((wnF d rs tops b k + wt d.1 d.2 rs.length k * (rdl rs k * b - rdl tops k) : Int) : Rat) = _
      exact_mod_cast rfl
    have w := wt_rat hd (n := rs.length) (t := k) (by omega)
    rw [e1, e2, w]
    have a := rv_addi (t := (rdl tops k, b)) hb l
    have a' : rv (rdl tops k + l * b, b) = rv (rdl tops k, b) + (l : Rat) := a
    have a2 : rv (rdl tops k, b) = (rdl tops k : Rat) / (b : Rat) := rfl
    rw [a', a2]
    have p := cast_pos hb
    generalize (d.2 : Rat) ^ (rs.length - 1) = B at *
    generalize rv d ^ k = Q at *
    generalize sR _ k = S at *
    generalize (dyF d rs b k : Rat) = Y at *
    generalize (wnF d rs tops b k : Rat) = W at *
    generalize (rdl tops k : Rat) = T at *
    generalize (rdl rs k : Rat) = R at *
    generalize (b : Rat) = b at *
    generalize (l : Rat) = l at *
    have n0 : b ≠ 0 := by grind
    have f : b * (T / b) = T := by grind
    have g : b * (B * (S + Q * (T / b + l - R))) = b * (B * S) + B * Q * (b * (T / b) + l * b - R * b) := by grind
    rw [g, f, i]
    grind
theorem lcm60 : ∃ N : Int, 0 < N ∧ Bd 200 N ∧ ∀ b : Int, 1 ≤ b → b ≤ 60 → b ∣ N := by
  refine ⟨9690712164777231700912800, by decide, by unfold Bd; decide +kernel, fun b h1 h2 => ?_⟩
  have key : ∀ n : Fin 61, 0 < n.val → 9690712164777231700912800 % n.val = 0 := by decide +kernel
  obtain ⟨n, rfl⟩ : ∃ n : Nat, b = (n : Int) := ⟨b.toNat, by omega⟩
  have := key ⟨n, by omega⟩ (show 0 < n by omega)
  exact Int.ofNat_dvd.mpr (Nat.dvd_of_mod_eq_zero this)
theorem ra_row {d c1 : Int × Int} (hd : Dis d) (hq : rv c1 = rv d) {rs tops : List Int} (hr : Rws rs) (ht : Tps rs tops) {b more : Int} (b1 : 1 ≤ b) (b2 : b ≤ 60) (m0 : 0 ≤ more) (m1 : more ≤ 2) : Row c1 rs (raF d rs tops b more) := by
  have bB : Bd 6 b := by unfold Bd; omega
  have bp : 0 < b := by omega
  obtain ⟨l0, lB, ll⟩ := lf_ok hd (tops := tops) bp (fun k hk => wn_bd hd hr ht bB hk) rs.length (Nat.le_refl _)
  have rl : (raF d rs tops b more).length = rs.length := by unfold raF; rw [List.length_map, ht.len]
  have at_ : ∀ k, k < rs.length → rdc (raF d rs tops b more) k = (rdl tops k + (lfF d rs tops b rs.length + more) * b, b) := fun k hk => by
    refine rdc_of ?_
    unfold raF
    rw [List.getElem?_map, List.getElem?_eq_getElem (by rw [ht.len]; exact hk)]
    unfold rdl
    rw [List.getD_eq_getElem?_getD, List.getElem?_eq_getElem (by rw [ht.len]; exact hk)]
    rfl
  obtain ⟨N, n0, nB, nd⟩ := lcm60
  have moB : Bd 2 more := by unfold Bd; omega
  refine ⟨rl, fun x hx => ?_, ⟨N, n0, nB.le (by decide), fun x hx => ?_⟩, fun k hk => ?_, fun k hk => ?_⟩
  · obtain ⟨k, hk, e⟩ := List.mem_iff_getElem.mp hx
    have e' : rdc (raF d rs tops b more) k = x := rdc_of (by rw [List.getElem?_eq_getElem hk, e])
    rw [← e', at_ k (by omega)]
    refine ⟨bp, (Bd.add (n := 720) ((ht.bd k).le (by decide)) (((Bd.add (n := 710) lB (moB.le (by decide))).mul bB).le (by decide))).le (by decide), bB.le (by decide)⟩
  · obtain ⟨t, _, rfl⟩ := List.mem_map.mp hx
    exact nd b b1 b2
  · rw [rl] at hk
    rw [at_ _ hk, at_ _ (by omega)]
    have f := ht.fal k hk
    refine (rv_le (s := (rdl tops (k + 1) + (lfF d rs tops b rs.length + more) * b, b)) (t := (rdl tops k + (lfF d rs tops b rs.length + more) * b, b)) bp bp).mpr ?_
    exact Int.mul_le_mul_of_nonneg_right (by omega) (by omega)
  · rw [rl] at hk
    rw [hq, sR_congr (n := k) (g := fun t => rv d ^ t * (rv (rdl tops t + (lfF d rs tops b rs.length + more) * b, b) - (rdl rs t : Rat))) fun t h => by rw [at_ t (by omega)]]
    have s := ra_sum hd rs tops (l := lfF d rs tops b rs.length + more) bp k hk
    have w := ll k hk
    have dn : 0 ≤ dyF d rs b k := by
      cases k with
      | zero => exact Int.le_refl _
      | succ j => exact Int.le_of_lt (dy_pos hd rs bp j)
    have nn : (0 : Rat) ≤ ((lfF d rs tops b rs.length + more : Int) : Rat) * (dyF d rs b k : Rat) - (wnF d rs tops b k : Rat) := by
      have : wnF d rs tops b k ≤ (lfF d rs tops b rs.length + more) * dyF d rs b k := by
        rw [Int.add_mul]
        have := Int.mul_nonneg m0 dn
        omega
      have : (wnF d rs tops b k : Rat) ≤ (((lfF d rs tops b rs.length + more) * dyF d rs b k : Int) : Rat) := by exact_mod_cast this
      have e : (((lfF d rs tops b rs.length + more) * dyF d rs b k : Int) : Rat) = ((lfF d rs tops b rs.length + more : Int) : Rat) * (dyF d rs b k : Rat) := by exact_mod_cast rfl
      grind
    rw [← s] at nn
    have p := cast_pos bp
    have bq := qpow_pos (cast_pos hd.bd.2.2.2) (rs.length - 1)
    generalize sR _ k = S at nn ⊢
    have pp : 0 < (b : Rat) * (d.2 : Rat) ^ (rs.length - 1) := Rat.mul_pos p bq
    refine Rat.not_lt.mp fun h => ?_
    have := Rat.mul_lt_mul_of_pos_left h pp
    grind
/-! ### the drawn numbers -/
def tpF (row : List Int) (m : Int) (a : Nat) (t0 : Int) : Nat → Int
  | 0 => t0
  | j + 1 => tpF row m a t0 j - rdl row (a + j) % m
def t0F (row : List Int) (k : Nat) : Int := sgn (rdl row (24 + k)) (if rdl row 1 % 2 = 0 then 2000 else 4000000000)
def spF (row : List Int) : Int := if rdl row 2 % 3 = 0 then 3 else if rdl row 2 % 3 = 1 then 40 else 10000000000
def tsF (ps : List (List Int)) (row : List Int) (k : Nat) (n : Nat) : List Int := (List.range n).map (tpF row (spF row) (34 + tot (ps.take k)) (t0F row k))
def dlF (d : Int × Int) (ps : List (List Int)) (row : List Int) (n : Nat) : Chs := (List.range n).map fun k => raF d (rdp ps k) (tsF ps row k (rdp ps k).length) (1 + rdl row (14 + k) % 60) (rdl row 3 % 3)
theorem sp_ok (row : List Int) : 0 < spF row ∧ spF row ≤ 10000000000 := by unfold spF; split <;> (try split) <;> omega
theorem tp_bd (row : List Int) {m : Int} (m0 : 0 < m) (m1 : m ≤ 10000000000) (a : Nat) (t0 : Int) : ∀ j, tpF row m a t0 j ≤ t0 ∧ t0 - 10000000000 * (j : Int) ≤ tpF row m a t0 j ∧ tpF row m a t0 (j + 1) ≤ tpF row m a t0 j
  | 0 => by
    have x := Int.emod_nonneg (rdl row (a + 0)) (show m ≠ 0 by omega)
    refine ⟨Int.le_refl _, by show t0 - _ ≤ t0; omega, ?_⟩
    show t0 - rdl row (a + 0) % m ≤ t0
    omega
  | j + 1 => by
    obtain ⟨i1, i2, i3⟩ := tp_bd row m0 m1 a t0 j
    have x := Int.emod_nonneg (rdl row (a + j)) (show m ≠ 0 by omega)
    have x' := Int.emod_nonneg (rdl row (a + (j + 1))) (show m ≠ 0 by omega)
    have y := Int.emod_lt_of_pos (rdl row (a + j)) m0
    have e : tpF row m a t0 (j + 1) = tpF row m a t0 j - rdl row (a + j) % m := rfl
    have e' : tpF row m a t0 (j + 1 + 1) = tpF row m a t0 (j + 1) - rdl row (a + (j + 1)) % m := rfl
    exact ⟨by omega, by omega, by omega⟩
theorem ts_tps {ps : List (List Int)} (row : List Int) (k : Nat) {rs : List Int} (hr : Rws rs) : Tps rs (tsF ps row k rs.length) := by
  have n60 := hr.1
  obtain ⟨s0, s1⟩ := sp_ok row
  have at_ : ∀ j, j < rs.length → rdl (tsF ps row k rs.length) j = tpF row (spF row) (34 + tot (ps.take k)) (t0F row k) j := fun j hj => by
    unfold rdl tsF
    rw [List.getD_eq_getElem?_getD, List.getElem?_map, List.getElem?_range hj]; rfl
  have tl : (tsF ps row k rs.length).length = rs.length := by unfold tsF; rw [List.length_map, List.length_range]
  refine ⟨tl, fun j hj => ?_, fun j => ?_⟩
  · rw [at_ _ hj, at_ _ (by omega)]
    exact (tp_bd row s0 s1 _ _ j).2.2
  · by_cases h : j < rs.length
    · rw [at_ j h]
      obtain ⟨a, b, _⟩ := tp_bd row s0 s1 (34 + tot (ps.take k)) (t0F row k) j
      have t := sgn_le (c := rdl row (24 + k)) (l := if rdl row 1 % 2 = 0 then 2000 else 4000000000) (by split <;> omega)
      have t' : (t0F row k).natAbs ≤ 4000000000 := by
        unfold t0F
        refine Nat.le_trans t ?_
        split <;> decide
      unfold Bd
      omega
    · have : rdl (tsF ps row k rs.length) j = 0 := by
        unfold rdl
        rw [List.getD_eq_getElem?_getD, List.getElem?_eq_none (by omega)]; rfl
      rw [this]; exact Bd.zero
theorem dl_bok {c : Co} (ok : COk c) {d : Int × Int} (hd : Dis d) (hq : rv c.1 = rv d) (row : List Int) : Bok c (dlF d c.2 row c.2.length) := by
  have dl : (dlF d c.2 row c.2.length).length = c.2.length := by unfold dlF; rw [List.length_map, List.length_range]
  have at_ : ∀ j, j < c.2.length → rcl (dlF d c.2 row c.2.length) j = raF d (rdp c.2 j) (tsF c.2 row j (rdp c.2 j).length) (1 + rdl row (14 + j) % 60) (rdl row 3 % 3) := fun j hj => by
    unfold rcl dlF
    rw [List.getD_eq_getElem?_getD, List.getElem?_map, List.getElem?_range hj]; rfl
  obtain ⟨N, n0, nB, nd⟩ := lcm60
  refine ⟨dl, fun j hj => ?_, ⟨N, n0, nB.le (by decide), fun x hx => ?_⟩⟩
  · rw [dl] at hj
    rw [at_ j hj]
    have hr := ok.p.rws (rdp_mem hj)
    exact ra_row hd hq hr (ts_tps row j hr) (by omega) (by omega) (by omega) (by omega)
  · obtain ⟨r, hr, hm⟩ := List.mem_flatten.mp hx
    obtain ⟨j, _, rfl⟩ := List.mem_map.mp hr
    obtain ⟨t, _, rfl⟩ := List.mem_map.mp hm
    exact nd _ (by show 1 ≤ 1 + _ % 60; omega) (by show 1 + _ % 60 ≤ 60; omega)
end Tm

namespace Tm
open PySem L2 Tp
/-! ### what a plan leaves -/
def remP (ps : List (List Int)) (pl : Pl) : List (List Int) := (List.range ps.length).map fun j => (rdp ps j).drop (cntP pl j)
def remC (c : Co) (pl : Pl) : Co := (c.1, remP c.2 pl)
theorem remP_len (ps : List (List Int)) (pl : Pl) : (remP ps pl).length = ps.length := by unfold remP; rw [List.length_map, List.length_range]
theorem remP_at {ps : List (List Int)} (pl : Pl) {j : Nat} (h : j < ps.length) : (remP ps pl)[j]? = some ((rdp ps j).drop (cntP pl j)) := by unfold remP; rw [List.getElem?_map, List.getElem?_range h]; rfl
theorem remP_rdp {ps : List (List Int)} (pl : Pl) (j : Nat) : rdp (remP ps pl) j = (rdp ps j).drop (cntP pl j) := by
  by_cases h : j < ps.length
  · have e := remP_at pl h
    unfold rdp at e ⊢
    rw [List.getD_eq_getElem?_getD, e]; rfl
  · unfold rdp
    rw [List.getD_eq_getElem?_getD, List.getD_eq_getElem?_getD, List.getElem?_eq_none (by rw [remP_len]; omega), List.getElem?_eq_none (by omega)]
    simp
theorem rdp_ext {ps qs : List (List Int)} (hl : ps.length = qs.length) (h : ∀ j, j < ps.length → rdp ps j = rdp qs j) : ps = qs := by
  refine List.ext_getElem hl fun j h1 h2 => ?_
  have e := h j h1
  unfold rdp at e
  rw [List.getD_eq_getElem?_getD, List.getD_eq_getElem?_getD, List.getElem?_eq_getElem h1, List.getElem?_eq_getElem h2] at e
  exact e
theorem tot_le : ∀ (qs ps : List (List Int)), qs.length = ps.length → (∀ j, j < qs.length → (rdp qs j).length ≤ (rdp ps j).length) → tot qs ≤ tot ps
  | [], [], _, _ => Nat.le_refl _
  | [], a :: l, h, _ => by simp at h
  | a :: l, [], h, _ => by simp at h
  | b :: qs, a :: ps, h, hj => by
    have h0 : b.length ≤ a.length := hj 0 (by simp)
    have r := tot_le qs ps (by simpa using h) fun j h' => hj (j + 1) (by simpa using h')
    show b.length + tot qs ≤ a.length + tot ps
    omega
theorem rem_pok {ps : List (List Int)} (h : POk ps) (pl : Pl) : POk (remP ps pl) := by
  refine ⟨by rw [remP_len]; exact h.1, Nat.le_trans (tot_le _ _ (remP_len ps pl) fun j _ => ?_) h.2.1, fun rs hr x hx => ?_⟩
  · rw [remP_rdp, List.length_drop]; omega
  · obtain ⟨j, hj, rfl⟩ := List.mem_map.mp hr
    exact h.2.2 _ (rdp_mem (List.mem_range.mp hj)) x (List.mem_of_mem_drop hx)
theorem rem_ok {c : Co} (ok : COk c) (pl : Pl) : COk (remC c pl) := ⟨ok.d, rem_pok ok.p pl⟩
theorem mkR_low {d : Int × Int} (h : DisL d) : mkR d.1 d.2 = d := by
  have d0 : 0 < d.2 := by have := h.1.1; have := h.1.2.1; omega
  exact rv_inj (isR_mkR (by omega)) h.2 (by rw [rv_mkR d0])
theorem zip_rem (ps : List (List Int)) (pl : Pl) : ((ps.zip (tkF ps.length pl)).map fun t => t.1.drop t.2.toNat) = remP ps pl := by
  refine List.ext_getElem? fun j => ?_
  by_cases h : j < ps.length
  · have e : (ps.zip (tkF ps.length pl))[j]? = some (rdp ps j, (cntP pl j : Int)) := List.getElem?_zip_eq_some.mpr ⟨rdp_at h, tkF_get pl h⟩
    rw [remP_at pl h, List.getElem?_map, e]
    show some ((rdp ps j).drop ((cntP pl j : Int)).toNat) = _
    rw [Int.toNat_natCast]
  · rw [List.getElem?_eq_none (by rw [List.length_map, List.length_zip]; omega), List.getElem?_eq_none (by rw [remP_len]; omega)]
theorem cntP_app (p q : Pl) (j : Nat) : cntP (p ++ q) j = cntP p j + cntP q j := by unfold cntP; exact List.count_append
theorem VP.take' {ps : List (List Int)} {pl : Pl} (h : VP ps pl) (k : Nat) : VP ps (pl.take k) := fun i x e => by
  rw [List.getElem?_take] at e
  split at e
  · rename_i hi
    have := h i x e
    rw [List.take_take, Nat.min_eq_left (by omega)]
    exact this
  · cases e
theorem VP.drop' {ps : List (List Int)} {pl : Pl} (h : VP ps pl) (k : Nat) : VP (remP ps (pl.take k)) (pl.drop k) := fun i x e => by
  rw [List.getElem?_drop] at e
  obtain ⟨x0, rs, hrs, hc⟩ := h (k + i) x e
  have xl : x.toNat < ps.length := (List.getElem?_eq_some_iff.mp hrs).1
  have er : rdp ps x.toNat = rs := by unfold rdp; rw [List.getD_eq_getElem?_getD, hrs]; rfl
  refine ⟨x0, _, remP_at (pl.take k) xl, ?_⟩
  have t : pl.take (k + i) = pl.take k ++ (pl.drop k).take i := by
    rw [List.take_add]
  rw [t, cntP_app] at hc
  rw [List.length_drop, er]
  omega
theorem rem_rem (ps : List (List Int)) (pl : Pl) (k : Nat) : remP (remP ps (pl.take k)) (pl.drop k) = remP ps pl := by
  refine rdp_ext (by rw [remP_len, remP_len, remP_len]) fun j _ => ?_
  rw [remP_rdp, remP_rdp, remP_rdp, List.drop_drop, ← cntP_app, List.take_append_drop]
theorem rem_nil (ps : List (List Int)) : remP ps [] = ps := by
  refine rdp_ext (remP_len ps []) fun j _ => ?_
  rw [remP_rdp]
  show (rdp ps j).drop 0 = _
  rw [List.drop_zero]
end Tm

namespace Tm
open PySem L2 Tp
/-! ### plans that begin with a project -/
theorem cs_cons (k : Nat) (pl : Pl) (t j : Nat) : cs (some (k : Int) :: pl) (t + 1) j = cs pl t j + if j = k then 1 else 0 := by
  unfold cs cntP
  rw [List.take_succ_cons, List.count_cons]
  congr 1
  by_cases h : j = k
  · subst h; simp
  · rw [if_neg h]
    have : ¬ (k : Int) = (j : Int) := by omega
    simp [this]
theorem cntP_one (k j : Nat) : cntP [some (k : Int)] j = if j = k then 1 else 0 := by
  have e := cs_cons k [] 0 j
  rw [cs_zero] at e
  unfold cs at e
  rw [show ([some (k : Int)] : Pl).take (0 + 1) = [some (k : Int)] from rfl] at e
  omega
theorem dsum_cons (q : Rat) (val : Nat → Nat → Rat) (k : Nat) (pl : Pl) (n : Nat) : dsum q val (some (k : Int) :: pl) (n + 1) = val k 0 + q * dsum q (fun j i => val j (i + if j = k then 1 else 0)) pl n := by
  unfold dsum
  rw [sR_first, ← sR_mul]
  have e0 : trm q val (some (k : Int) :: pl) 0 = val k 0 := by
    rw [trm_some (x := (k : Int)) rfl, cs_zero, Rat.pow_zero, Int.toNat_natCast]; grind
  rw [e0]
  congr 1
  refine sR_congr fun t _ => ?_
  cases e : pl[t]? with
  | none =>
    rw [trm_over (by rw [List.length_cons]; have := List.getElem?_eq_none_iff.mp e; omega), trm_over (List.getElem?_eq_none_iff.mp e)]
    grind
  | some o =>
    cases o with
    | none =>
      rw [trm_none (by rw [List.getElem?_cons_succ]; exact e), trm_none e]
      grind
    | some x =>
      rw [trm_some (x := x) (by rw [List.getElem?_cons_succ]; exact e), trm_some e, qpow_succ, cs_cons]
      grind
theorem rwd_rem (ps : List (List Int)) (pl : Pl) (j i : Nat) : rwd (remP ps pl) j i = rwd ps j (i + cntP pl j) := by
  unfold rwd
  rw [remP_rdp, ← rdl_drop, Nat.add_comm]
theorem worth_cons (d : Int × Int) (ps : List (List Int)) (k : Nat) (pl : Pl) : worthR d ps (some (k : Int) :: pl) 0 = rwd ps k 0 + rv d * worthR d (remP ps [some (k : Int)]) pl 0 := by
  unfold worthR
  rw [List.length_cons, dsum_cons]
  have e : (fun j i => rwd ps j (i + if j = k then 1 else 0) - 0) = fun j i => rwd (remP ps [some (k : Int)]) j i - 0 := by
    funext j i
    rw [rwd_rem, cntP_one]
  rw [e]
  have z : (0 : Rat) / (1 - rv d) = 0 := by rw [Rat.div_def]; grind
  rw [z]
  grind
/-- the worth of the best plan that begins with project k -/
def fsR (c : Co) (k : Nat) : Rat := rwd c.2 k 0 + rv c.1 * bestR (remC c [some (k : Int)]) 0
theorem vp_one {ps : List (List Int)} {k : Nat} (h : k < ps.length) (h0 : 0 < (rdp ps k).length) : VP ps [some (k : Int)] := fun i x e => by
  cases i with
  | zero =>
    cases e
    exact ⟨Int.natCast_nonneg k, rdp ps k, by rw [Int.toNat_natCast]; exact rdp_at h, by show 0 < _; exact h0⟩
  | succ i => simp at e
theorem vp_cons {ps : List (List Int)} {k : Nat} (h : k < ps.length) (h0 : 0 < (rdp ps k).length) {pl : Pl} (vp : VP (remP ps [some (k : Int)]) pl) : VP ps (some (k : Int) :: pl) := fun i x e => by
  cases i with
  | zero =>
    cases e
    exact ⟨Int.natCast_nonneg k, rdp ps k, by rw [Int.toNat_natCast]; exact rdp_at h, by show 0 < _; exact h0⟩
  | succ i =>
    rw [List.getElem?_cons_succ] at e
    obtain ⟨x0, rs, hrs, hc⟩ := vp i x e
    have xl : x.toNat < ps.length := by
      have := (List.getElem?_eq_some_iff.mp hrs).1
      rwa [remP_len] at this
    refine ⟨x0, rdp ps x.toNat, rdp_at xl, ?_⟩
    have er : rs = (rdp ps x.toNat).drop (cntP [some (k : Int)] x.toNat) := by
      rw [remP_at _ xl] at hrs
      exact (Option.some.inj hrs).symm
    rw [er, List.length_drop] at hc
    have a : cntP ((some (k : Int) :: pl).take (i + 1)) x.toNat = cntP [some (k : Int)] x.toNat + cntP (pl.take i) x.toNat := by
      rw [List.take_succ_cons, ← cntP_app]; rfl
    rw [a]
    omega
theorem vp_tail {ps : List (List Int)} {k : Nat} {pl : Pl} (vp : VP ps (some (k : Int) :: pl)) : VP (remP ps [some (k : Int)]) pl := by
  have := vp.drop' 1
  exact this
/-- the plan that the program tells has that worth -/
theorem fs_plan {c : Co} (ok : COk c) (k : Nat) : worthR c.1 c.2 (some (k : Int) :: (bpF (remC c [some (k : Int)]) (0, 1)).map some) 0 = fsR c k := by
  rw [worth_cons]
  have e := bp_worth (rem_ok ok [some (k : Int)]) (0, 1)
  rw [rv_zero1] at e
  unfold fsR
  rw [← e]
  rfl
/-- no plan that begins with k is worth more -/
theorem fs_most {c : Co} (ok : COk c) {k : Nat} {pl : Pl} (vp : VP c.2 (some (k : Int) :: pl)) : worthR c.1 c.2 (some (k : Int) :: pl) 0 ≤ fsR c k := by
  rw [worth_cons]
  have e := plan_le (rem_ok ok [some (k : Int)]) (vp_tail vp) 0
  have q := ok.d.1.q
  have m := Rat.mul_le_mul_of_nonneg_left e (Rat.le_of_lt q.1)
  unfold fsR
  show rwd c.2 k 0 + rv c.1 * worthR c.1 (remP c.2 [some (k : Int)]) pl 0 ≤ _
  have m' : rv c.1 * worthR c.1 (remP c.2 [some (k : Int)]) pl 0 ≤ rv c.1 * bestR (remC c [some (k : Int)]) 0 := m
  grind
/-- a first step is never worth more than the best worth -/
theorem fs_le {c : Co} (ok : COk c) {k : Nat} (h : k < c.2.length) (h0 : 0 < (rdp c.2 k).length) : fsR c k ≤ bestR c 0 := by
  rw [← fs_plan ok k]
  exact plan_le ok (vp_cons h h0 (bpF_ok (rem_ok ok _) zero_offr).1) 0
/-- the best worth is nothing, or that of a first step -/
theorem best_first {c : Co} (ok : COk c) : bestR c 0 = 0 ∨ ∃ k, k < c.2.length ∧ 0 < (rdp c.2 k).length ∧ bestR c 0 ≤ fsR c k := by
  have e := bp_worth ok (0, 1)
  rw [rv_zero1] at e
  have vp := (bpF_ok ok zero_offr).1
  cases h : bpF c (0, 1) with
  | nil =>
    left
    rw [← e, h]
    show worthR c.1 c.2 [] 0 = 0
    unfold worthR
    show (0 : Rat) + 0 / (1 - rv c.1) = 0
    rw [Rat.div_def]; grind
  | cons x l =>
    right
    rw [h] at e vp
    obtain ⟨x0, rs, hrs, hc⟩ := vp 0 x rfl
    obtain ⟨k, rfl⟩ : ∃ k : Nat, x = (k : Int) := ⟨x.toNat, by omega⟩
    rw [Int.toNat_natCast] at hrs hc
    have hk : k < c.2.length := (List.getElem?_eq_some_iff.mp hrs).1
    have er : rdp c.2 k = rs := by unfold rdp; rw [List.getD_eq_getElem?_getD, hrs]; rfl
    have hc : 0 < rs.length := Nat.lt_of_le_of_lt (Nat.zero_le _) hc
    refine ⟨k, hk, by rw [er]; exact hc, ?_⟩
    rw [← e]
    exact fs_most ok vp
end Tm
namespace Tm
open PySem L2 Tp
def fsF (c : Co) (k : Nat) : Int × Int := mkR (rdl (rdp c.2 k) 0 * (mkR (c.1.1 * (bwF (remC c [some (k : Int)]) (0, 1)).1) (c.1.2 * (bwF (remC c [some (k : Int)]) (0, 1)).2)).2 + (mkR (c.1.1 * (bwF (remC c [some (k : Int)]) (0, 1)).1) (c.1.2 * (bwF (remC c [some (k : Int)]) (0, 1)).2)).1 * 1) (1 * (mkR (c.1.1 * (bwF (remC c [some (k : Int)]) (0, 1)).1) (c.1.2 * (bwF (remC c [some (k : Int)]) (0, 1)).2)).2)
theorem fs_ok {c : Co} (ok : COk c) (k : Nat) : isR (fsF c k) = true ∧ rv (fsF c k) = fsR c k := by
  obtain ⟨b1, b2⟩ := bw_ok (rem_ok ok [some (k : Int)]) (o := (0, 1)) (show (0 : Int) < 1 by decide)
  rw [rv_zero1] at b2
  have p1 := (isR_iff.mp b1).1
  have c2 := ok.d.1.bd.2.2.2
  unfold fsF fsR
  generalize bwF (remC c [some (k : Int)]) (0, 1) = w at *
  have wp : 0 < w.2 := by omega
  have mp : 0 < c.1.2 * w.2 := Int.mul_pos c2 wp
  have M0 := (mkR_spec (n := c.1.1 * w.1) (d := c.1.2 * w.2) (by omega)).1
  have mv : rv (mkR (c.1.1 * w.1) (c.1.2 * w.2)) = rv c.1 * rv w := by
    rw [rv_mkR mp]
    have f1 : ((c.1.1 * w.1 : Int) : Rat) = (c.1.1 : Rat) * (w.1 : Rat) := by exact_mod_cast rfl
    have f2 : ((c.1.2 * w.2 : Int) : Rat) = (c.1.2 : Rat) * (w.2 : Rat) := by exact_mod_cast rfl
    have x := cast_pos c2
    have y := cast_pos wp
    unfold rv
    dsimp only
    rw [f1, f2]
    generalize (c.1.2 : Rat) = X at *
    generalize (w.2 : Rat) = Y at *
    have n1 : X ≠ 0 := by grind
    have n2 : Y ≠ 0 := by grind
    grind
  generalize mkR (c.1.1 * w.1) (c.1.2 * w.2) = u at *
  have up : 0 < u.2 := by omega
  have e : mkR (rdl (rdp c.2 k) 0 * u.2 + u.1 * 1) (1 * u.2) = addR (rdl (rdp c.2 k) 0, 1) u := rfl
  rw [e]
  refine ⟨isR_add (show (0 : Int) < 1 by decide) up, ?_⟩
  rw [rv_add (show (0 : Int) < 1 by decide) up, rv_intC, mv, b2]
  rfl
end Tm
namespace Tm
open PySem L2 Tp
theorem fs_bd {c : Co} (ok : COk c) {k : Nat} (hk : k < c.2.length) : Bd 5500 (fsF c k).1 ∧ Bd 5500 (fsF c k).2 := by
  have B := bw_bd (rem_ok ok [some (k : Int)]) zero_offr
  have b1 := (bw_ok (rem_ok ok [some (k : Int)]) (o := (0, 1)) (show (0 : Int) < 1 by decide)).1
  have p1 := (isR_iff.mp b1).1
  obtain ⟨ha, hb, a0, b0⟩ := ok.d.1.bd
  have rb : Bd 31 (rdl (rdp c.2 k) 0) := (ok.p.rws (rdp_mem hk)).bd _
  unfold fsF
  generalize bwF (remC c [some (k : Int)]) (0, 1) = w at *
  have mp : 0 < c.1.2 * w.2 := Int.mul_pos b0 (by omega)
  have M1 := (Bd.mkR (x := c.1.1 * w.1) (y := c.1.2 * w.2) (n := 5431) (by omega)).1 (ha.mul B.1)
  have M2 := (Bd.mkR (x := c.1.1 * w.1) (y := c.1.2 * w.2) (n := 5431) (by omega)).2 (hb.mul B.2)
  have M0 := (mkR_spec (n := c.1.1 * w.1) (d := c.1.2 * w.2) (by omega)).1
  generalize mkR (c.1.1 * w.1) (c.1.2 * w.2) = u at *
  rw [Int.one_mul, Int.mul_one]
  have n0 : u.2 ≠ 0 := by omega
  exact ⟨(Bd.mkR n0).1 ((Bd.add (n := 5462) ((rb.mul M2).le (by decide)) (M1.le (by decide))).le (by decide)), (Bd.mkR n0).2 (M2.le (by decide))⟩
def grF (c : Co) : Nat → Int × Int
  | 0 => (0, 1)
  | k + 1 => if 0 < (rdp c.2 k).length then (if (fsF c k).1 * (grF c k).2 > (grF c k).1 * (fsF c k).2 then fsF c k else grF c k) else grF c k
theorem gr_ok {c : Co} (ok : COk c) : ∀ n, n ≤ c.2.length → 0 < (grF c n).2 ∧ 0 ≤ rv (grF c n) ∧ rv (grF c n) ≤ bestR c 0 ∧ (∀ k, k < n → 0 < (rdp c.2 k).length → fsR c k ≤ rv (grF c n)) ∧ Bd 5500 (grF c n).1 ∧ Bd 5500 (grF c n).2
  | 0, _ => by
    refine ⟨by show (0 : Int) < 1; decide, by show 0 ≤ rv (0, 1); rw [rv_zero1]; exact Rat.le_refl, ?_, fun k h => absurd h (Nat.not_lt_zero _), Bd.zero, Bd.one (by decide)⟩
    show rv (0, 1) ≤ _
    rw [rv_zero1]
    have e := plan_le ok (pl := []) (fun i x e => by simp at e) 0
    have z : worthR c.1 c.2 [] 0 = 0 := by
      unfold worthR
      show (0 : Rat) + 0 / (1 - rv c.1) = 0
      rw [Rat.div_def]; grind
    rwa [z] at e
  | n + 1, h => by
    obtain ⟨i1, i2, i3, i4, i5, i6⟩ := gr_ok ok n (by omega)
    rw [grF]
    by_cases h0 : 0 < (rdp c.2 n).length
    · rw [if_pos h0]
      obtain ⟨f1, f2⟩ := fs_ok ok n
      have fp := (isR_iff.mp f1).1
      have fl := fs_le ok (by omega) h0
      have fb := fs_bd ok (k := n) (by omega)
      have lt := rv_lt (s := grF c n) (t := fsF c n) i1 (by omega)
      by_cases g : (fsF c n).1 * (grF c n).2 > (grF c n).1 * (fsF c n).2
      · rw [if_pos g]
        have l := lt.mpr g
        rw [f2] at l ⊢
        refine ⟨by omega, by grind, fl, fun k hk h0' => ?_, fb.1, fb.2⟩
        by_cases z : k = n
        · rw [z]; exact Rat.le_refl
        · have := i4 k (by omega) h0'
          grind
      · rw [if_neg g]
        refine ⟨i1, i2, i3, fun k hk h0' => ?_, i5, i6⟩
        by_cases z : k = n
        · have : ¬ rv (grF c n) < rv (fsF c n) := fun y => g (lt.mp y)
          rw [z, ← f2]
          exact Rat.not_lt.mp this
        · exact i4 k (by omega) h0'
    · rw [if_neg h0]
      exact ⟨i1, i2, i3, fun k hk h0' => by
        by_cases z : k = n
        · rw [z] at h0'; exact absurd h0' h0
        · exact i4 k (by omega) h0', i5, i6⟩
theorem gr_best {c : Co} (ok : COk c) : rv (grF c c.2.length) = bestR c 0 := by
  obtain ⟨_, i2, i3, i4, _⟩ := gr_ok ok c.2.length (Nat.le_refl _)
  rcases best_first ok with z | ⟨k, hk, h0, hb⟩
  · rw [z] at i3 ⊢
    exact Rat.le_antisymm i3 i2
  · have := i4 k hk h0
    grind
theorem set_rem {ps : List (List Int)} {k : Nat} (h : k < ps.length) : ps.set k ((rdp ps k).drop 1) = remP ps [some (k : Int)] := by
  refine rdp_ext (by rw [List.length_set, remP_len]) fun j hj => ?_
  rw [remP_rdp, cntP_one]
  rw [List.length_set] at hj
  by_cases z : j = k
  · subst z
    rw [if_pos rfl]
    unfold rdp
    rw [List.getD_eq_getElem?_getD, List.getElem?_set_self h]; rfl
  · rw [if_neg z, List.drop_zero]
    unfold rdp
    rw [List.getD_eq_getElem?_getD, List.getElem?_set_ne (Ne.symm z), ← List.getD_eq_getElem?_getD]
/-- what the law asks of the told worth -/
theorem fs_law {c : Co} {d : Int × Int} (mde : Made d c) (k : Nat) : (isR (fsF c k) && decide ((fsF c k).1 * (d.2 * (bwF (remC c [some (k : Int)]) (0, 1)).2) = (rdl (rdp c.2 k) 0 * (d.2 * (bwF (remC c [some (k : Int)]) (0, 1)).2) + d.1 * (bwF (remC c [some (k : Int)]) (0, 1)).1) * (fsF c k).2)) = true := by
  have ok := mde.ok
  obtain ⟨f1, f2⟩ := fs_ok ok k
  obtain ⟨b1, b2⟩ := bw_ok (rem_ok ok [some (k : Int)]) (o := (0, 1)) (show (0 : Int) < 1 by decide)
  rw [rv_zero1] at b2
  have p1 := (isR_iff.mp b1).1
  have d2 := mde.dis.bd.2.2.2
  have q := mde.q
  unfold fsR at f2
  generalize bwF (remC c [some (k : Int)]) (0, 1) = w at *
  refine eq_law (v := (rdl (rdp c.2 k) 0 * (d.2 * w.2) + d.1 * w.1, d.2 * w.2)) f1 (Int.mul_pos d2 (by omega)) ?_
  rw [f2, q, ← b2]
  have x := cast_pos d2
  have y := cast_pos (show 0 < w.2 by omega)
  unfold rwd rv
  dsimp only
  have e1 : ((rdl (rdp c.2 k) 0 * (d.2 * w.2) + d.1 * w.1 : Int) : Rat) = (rdl (rdp c.2 k) 0 : Rat) * ((d.2 : Rat) * (w.2 : Rat)) + (d.1 : Rat) * (w.1 : Rat) := by exact_mod_cast rfl
  have e2 : ((d.2 * w.2 : Int) : Rat) = (d.2 : Rat) * (w.2 : Rat) := by exact_mod_cast rfl
  rw [e1, e2]
  generalize (d.2 : Rat) = X at *
  generalize (w.2 : Rat) = Y at *
  have n1 : X ≠ 0 := by grind
  have n2 : Y ≠ 0 := by grind
  grind
end Tm

namespace Tp
open PySem PySem.Spec PyProof.Rows L2
open Evl (Ex)
/-! ### mutable lists that are read in a call and written later -/
/-- with slot i kept still meanwhile: a pair of ints -/
theorem e_tmpT {Γ : List SA} {α : Type} {A : Rp α} {te : TE} {i : Nat} {as : List α} {c : Int × Int} (K : PySem.W.Frag) (h : Γ[i]? = some (.mu A as)) (he : Ev te (Γ.set i (.im (rLst K A) as)) (rT2 K rInt rInt) c) : Ev te Γ (rT2 K rInt rInt) c := fun H0 H F σ e g Q q => by
  obtain ⟨l, xs, hv, h0, hl, hF, a⟩ := g.mut h
  have g' := g.frz K h hv hF a
  refine he H0 H _ σ (fun b u hb => ?_) g' Q fun v H' F' o r => ?_
  · by_cases z : b = l
    · subst z; rw [upd_same] at hb; rw [hl]; exact hb
    · rw [upd_ne z] at hb; exact e b u hb
  · obtain ⟨p, x, y, rfl, s, rx, ry⟩ := r
    have fl : F' l = some (.lst xs) := o.f l _ upd_same
    have ff : ∀ b u, F b = some u → F' b = some u := fun b u hb => o.f b u (by rw [upd_ne (fun z => by rw [z, hF] at hb; cases hb)]; exact hb)
    have oh : Ok H F H' F := ⟨o.h, Ex.refl F, e.trans o.h, fun _ _ z => .inl z⟩
    have fin : p ≠ l → SqT K (fun b => if b = p then F' p else F b) p [x, y] → Q (.ref p) H' := fun pl s2 => by
      refine q _ H' (fun b => if b = p then F' p else F b) ⟨o.h, fun b u hb => ?_, fun b u hb => ?_, fun b u hb => ?_⟩ ⟨p, x, y, rfl, s2, rx, ry⟩
      · try dsimp only
        by_cases z : b = p
        · rw [if_pos z, ← z]; exact ff b u hb
        · rw [if_neg z]; exact hb
      · try dsimp only at hb
        by_cases z : b = p
        · rw [if_pos z] at hb; rw [z]; exact o.i p u hb
        · rw [if_neg z] at hb; exact o.h b u (e b u hb)
      · try dsimp only at hb
        by_cases z : b = p
        · rw [if_pos z] at hb
          rcases o.r p u hb with y | y
          · rw [upd_ne pl] at y; exact .inl (by rw [z]; exact y)
          · exact .inr (by rw [z]; exact y)
        · rw [if_neg z] at hb; exact .inl hb
    rcases s with s | s
    · rcases s with s | ⟨ob, s⟩
      · exact fin (fun z => by rw [z, fl] at s; cases s) (.inl (.inl (by show (if p = p then F' p else F p) = _; rw [if_pos rfl]; exact s)))
      · exact fin (fun z => by rw [z, fl] at s; cases s) (.inl (.inr ⟨ob, by show (if p = p then F' p else F p) = _; rw [if_pos rfl]; exact s⟩))
    · exact q _ H' F oh ⟨p, x, y, rfl, .inr s, rx, ry⟩
/-- a test with slot i kept still meanwhile -/
theorem eb_tmp {Γ : List SA} {α : Type} {A : Rp α} {tt : TT} {i : Nat} {as : List α} {k : Bool} (K : PySem.W.Frag) (h : Γ[i]? = some (.mu A as)) (he : Eb tt (Γ.set i (.im (rLst K A) as)) k) : Eb tt Γ k := fun H0 H F σ e g Q q => by
  obtain ⟨l, xs, hv, h0, hl, hF, a⟩ := g.mut h
  have g' := g.frz K h hv hF a
  refine he H0 H _ σ (fun b u hb => ?_) g' Q fun H' F' o => ?_
  · by_cases z : b = l
    · subst z; rw [upd_same] at hb; rw [hl]; exact hb
    · rw [upd_ne z] at hb; exact e b u hb
  · exact q H' F ⟨o.h, Ex.refl F, e.trans o.h, fun _ _ z => .inl z⟩
/-- the items of a mutable list read otherwise -/
theorem S.asM {B : Bs} {Γ : List SA} {t : TS} {D : Ends} {α β : Type} {A : Rp α} {C : Rp β} {as : List α} {cs : List β} {i : Nat} (h : Γ[i]? = some (.mu A as)) (hc : ∀ F xs, A2 (A.r F) xs as → A2 (C.r F) xs cs) (k : S B t (Γ.set i (.mu C cs)) D) : S B t Γ D := k.sub fun H0 H F σ g => by
  obtain ⟨l, xs, hv, h0, hl, hF, a⟩ := g.mut h
  have w := g.wr (ys := xs) h hv h0 hF (hc F xs a)
  have e : upd H l (.lst xs) = H := by
    funext b
    by_cases z : b = l
    · rw [z, upd_same, hl]
    · rw [upd_ne z]
  rwa [e] at w
theorem S.asO {B : Bs} {Γ : List SA} {t : TS} {D : Ends} {α : Type} {A : Rp α} {as : List α} {i : Nat} (h : Γ[i]? = some (.mu A as)) (k : S B t (Γ.set i (.mu (rOpt A) (as.map some))) D) : S B t Γ D :=
  S.asM h (fun F xs a => A2.mapr (R' := (rOpt A).r F) (fun _ _ z => z) a) k
theorem en_lstO {Γ : List SA} {α : Type} {A : Rp α} {as : List α} {te : TE} (h : EvN te Γ A as) : EvN te Γ (rOpt A) (as.map some) := fun H0 H F σ e g Q q => h H0 H F σ e g Q fun p xs H' F' o hp hF hl a => q p xs H' F' o hp hF hl (A2.mapr (R' := (rOpt A).r F') (fun _ _ z => z) a)
end Tp

namespace Tm
open PySem L2 Tp
/-! ### a company without a project -/
def wtoP {α : Type} (ps : List α) (j : Nat) : List α := ps.take j ++ ps.drop (j + 1)
def wtoC (c : Co) (j : Nat) : Co := (c.1, wtoP c.2 j)
theorem wtoP_len {α : Type} {ps : List α} {j : Nat} (h : j < ps.length) : (wtoP ps j).length = ps.length - 1 := by
  unfold wtoP
  rw [List.length_append, List.length_take, List.length_drop]
  omega
theorem wtoP_mem {α : Type} {ps : List α} {j : Nat} {x : α} (h : x ∈ wtoP ps j) : x ∈ ps := by
  rcases List.mem_append.mp h with z | z
  · exact List.mem_of_mem_take z
  · exact List.mem_of_mem_drop z
theorem tot_app (ps qs : List (List Int)) : tot (ps ++ qs) = tot ps + tot qs := by
  induction ps with
  | nil => simp [tot]
  | cons a l ih =>
    show a.length + tot (l ++ qs) = a.length + tot l + tot qs
    omega
theorem tot_drop_le (ps : List (List Int)) (j : Nat) : tot (ps.take j) + tot (ps.drop j) = tot ps := by
  rw [← tot_app, List.take_append_drop]
theorem wto_pok {ps : List (List Int)} (h : POk ps) (j : Nat) : POk (wtoP ps j) := by
  refine ⟨?_, ?_, fun rs m => h.2.2 rs (wtoP_mem m)⟩
  · have := h.1
    unfold wtoP
    rw [List.length_append, List.length_take, List.length_drop]
    omega
  · have h1 := h.2.1
    unfold wtoP
    rw [tot_app]
    have h2 := tot_drop_le ps j
    have h3 := tot_drop_le (ps.drop j) 1
    rw [List.drop_drop] at h3
    omega
theorem wto_ok {c : Co} (ok : COk c) (j : Nat) : COk (wtoC c j) := ⟨ok.d, wto_pok ok.p j⟩
end Tm

namespace Tm
open PySem L2 Tp
/-! ### the best worth between two offers; a project's worth shrinks in company -/
def gq (q : Rat) (n : Nat) : Rat := sR (fun k => q ^ k) n
theorem gq_eq (q : Rat) : ∀ n : Nat, gq q n * (1 - q) = 1 - q ^ n
  | 0 => by unfold gq sR; grind
  | n + 1 => by
    have ih := gq_eq q n
    unfold gq at ih ⊢
    rw [sR_succ, qpow_succ]
    grind
theorem fall_step {css : Chs} {m : Mg} (h : Mrg0 css m) (hf : Fal css) (q : Rat) {s t : Rat} (hst : s ≤ t) (hn : ∀ i, i < m.length → ¬ (s < rv (gM m i) ∧ rv (gM m i) < t)) : fallW q m s = fallW q m t + (t - s) * gq q (cutK m s) := by
  have k1 : cutK m t ≤ cutK m s := by
    by_cases z : cutK m t ≤ cutK m s
    · exact z
    · exfalso
      have l1 : cutK m s < m.length := Nat.lt_of_lt_of_le (by omega) (cutK_le m t)
      have a1 := (h.cut_lt hf t l1).mp (by omega)
      exact Nat.lt_irrefl _ ((h.cut_lt hf s l1).mpr (by grind))
  have e1 : sR (fun k => q ^ k * (rv (gM m k) - t)) (cutK m s) = fallW q m t := by
    unfold fallW
    refine sR_stop k1 fun i h1 h2 => ?_
    have l1 : i < m.length := Nat.lt_of_lt_of_le h2 (cutK_le m s)
    have a1 := (h.cut_lt hf s l1).mp h2
    have a2 : ¬ t < rv (gM m i) := fun z => by have := (h.cut_lt hf t l1).mpr z; omega
    have a3 := hn i l1
    have a4 : rv (gM m i) = t := by grind
    rw [a4]; grind
  rw [← e1]
  unfold fallW gq
  rw [← sR_mul, ← sR_add]
  exact sR_congr fun i _ => by grind
/-- from one threshold to the next -/
theorem thr_ind (V : List Rat) (P : Rat → Prop) (base : ∀ M, (∀ v ∈ V, v ≤ M) → P M) (step : ∀ s t, s < t → (∀ v ∈ V, ¬ (s < v ∧ v < t)) → P t → P s) : ∀ (n : Nat) (M : Rat), (V.filter fun v => decide (M < v)).length ≤ n → P M := by
  intro n
  induction n with
  | zero =>
    intro M h
    refine base M fun v hv => ?_
    have e : (V.filter fun v => decide (M < v)) = [] := List.length_eq_zero_iff.mp (by omega)
    have := List.filter_eq_nil_iff.mp e v hv
    simp only [decide_eq_true_eq] at this
    grind
  | succ n ih =>
    intro M h
    by_cases hz : ∀ v ∈ V, v ≤ M
    · exact base M hz
    · have hex : ∃ v, v ∈ V ∧ M < v := by
        by_cases z : ∃ v, v ∈ V ∧ M < v
        · exact z
        · exact absurd (fun v hv => by by_cases y : v ≤ M; · exact y
                                       · exact absurd ⟨v, hv, by grind⟩ z) hz
      -- the least one above M
      have hmin : ∀ (l : List Rat), (∃ v, v ∈ l ∧ M < v) → ∃ t, t ∈ l ∧ M < t ∧ ∀ v ∈ l, ¬ (M < v ∧ v < t) := by
        intro l
        induction l with
        | nil => rintro ⟨v, hv, _⟩; cases hv
        | cons a l ihl =>
          rintro ⟨v, hv, hm⟩
          by_cases hl : ∃ v, v ∈ l ∧ M < v
          · obtain ⟨t, ht, htm, hno⟩ := ihl hl
            by_cases ha : M < a ∧ a < t
            · refine ⟨a, by simp, ha.1, fun w hw => ?_⟩
              rcases List.mem_cons.mp hw with rfl | hw
              · grind
              · have := hno w hw; grind
            · refine ⟨t, by simp [ht], htm, fun w hw => ?_⟩
              rcases List.mem_cons.mp hw with rfl | hw
              · exact ha
              · exact hno w hw
          · rcases List.mem_cons.mp hv with rfl | hv
            · refine ⟨v, by simp, hm, fun w hw => ?_⟩
              rcases List.mem_cons.mp hw with rfl | hw
              · grind
              · intro z; exact hl ⟨w, hw, z.1⟩
            · exact absurd ⟨v, hv, hm⟩ hl
      obtain ⟨t, ht, htm, hno⟩ := hmin V hex
      refine step M t htm hno (ih t ?_)
      -- t itself is above M, not above t
      have key : ∀ l : List Rat, t ∈ l → (l.filter fun v => decide (t < v)).length + 1 ≤ (l.filter fun v => decide (M < v)).length := by
        have le : ∀ l : List Rat, (l.filter fun v => decide (t < v)).length ≤ (l.filter fun v => decide (M < v)).length := by
          intro l
          induction l with
          | nil => simp
          | cons a l il =>
            rw [List.filter_cons, List.filter_cons]
            by_cases a1 : t < a
            · rw [if_pos (decide_eq_true a1), if_pos (decide_eq_true (show M < a by grind)), List.length_cons, List.length_cons]; omega
            · rw [if_neg (by simp [a1])]
              split
              · rw [List.length_cons]; omega
              · exact il
        intro l
        induction l with
        | nil => intro z; cases z
        | cons a l il =>
          intro z
          rw [List.filter_cons, List.filter_cons]
          by_cases e : a = t
          · rw [e, if_neg (by simp), if_pos (decide_eq_true htm), List.length_cons]
            have := le l; omega
          · have zl : t ∈ l := by rcases List.mem_cons.mp z with z | z; · exact absurd z.symm e
                                  · exact z
            have := il zl
            by_cases a1 : t < a
            · rw [if_pos (decide_eq_true a1), if_pos (decide_eq_true (show M < a by grind)), List.length_cons, List.length_cons]; omega
            · rw [if_neg (by simp [a1])]
              split
              · rw [List.length_cons]; omega
              · exact this
      have := key V ht
      omega
/-! counts -/
def cntV (l : List (Int × Int)) (M : Rat) : Nat := (l.filter fun e => decide (M < rv e)).length
theorem cntV_app (a b : List (Int × Int)) (M : Rat) : cntV (a ++ b) M = cntV a M + cntV b M := by unfold cntV; rw [List.filter_append, List.length_append]
theorem cut_cnt {c : Co} (ok : COk c) (M : Rat) : cutK (mgC c) M = cntV (certF c.1 c.2).flatten M := by
  have p := mg_perm (cert_mrg ok)
  unfold cntV
  rw [← (p.filter _).length_eq]
  unfold cutK
  rw [List.filter_map, List.length_map]
  rfl
theorem gM_flat {c : Co} (ok : COk c) {i : Nat} (hi : i < (mgC c).length) : gM (mgC c) i ∈ (certF c.1 c.2).flatten := by
  have p := mg_perm (cert_mrg ok)
  refine p.mem_iff.mp ?_
  have e : gM (mgC c) i = ((mgC c)[i]'hi).2 := gM_of (List.getElem?_eq_getElem hi)
  rw [e]
  exact List.mem_map.mpr ⟨_, List.getElem_mem hi, rfl⟩
def valsC (c : Co) : List Rat := (certF c.1 c.2).flatten.map rv
theorem best_step {c : Co} (ok : COk c) {s t : Rat} (hst : s ≤ t) (hn : ∀ v ∈ valsC c, ¬ (s < v ∧ v < t)) : bestR c s = bestR c t - (t - s) * (rv c.1) ^ (cntV (certF c.1 c.2).flatten s) / (1 - rv c.1) := by
  have hq := ok.d.1.q
  unfold bestR
  rw [fall_step (cert_mrg ok).toMrg0 (cert_own ok.d.1 ok.p).toCfk.fal (rv c.1) hst (fun i hi => hn _ (List.mem_map.mpr ⟨_, gM_flat ok hi, rfl⟩)), cut_cnt ok]
  have g := gq_eq (rv c.1) (cntV (certF c.1 c.2).flatten s)
  have n1 : 1 - rv c.1 ≠ 0 := by grind
  generalize gq (rv c.1) (cntV (certF c.1 c.2).flatten s) = G at g ⊢
  generalize (rv c.1) ^ (cntV (certF c.1 c.2).flatten s) = Q at g ⊢
  have : G = (1 - Q) / (1 - rv c.1) := by rw [← g]; grind
  rw [this]
  grind
theorem best_top {c : Co} (ok : COk c) {M : Rat} (h : ∀ v ∈ valsC c, v ≤ M) : bestR c M = M / (1 - rv c.1) := by
  unfold bestR
  have e : cutK (mgC c) M = 0 := by
    rw [cut_cnt ok]
    unfold cntV
    rw [List.length_eq_zero_iff, List.filter_eq_nil_iff]
    intro a ha
    have := h (rv a) (List.mem_map.mpr ⟨a, ha, rfl⟩)
    simp only [decide_eq_true_eq]
    grind
  unfold fallW
  rw [e]
  show (0 : Rat) + _ = _
  grind
theorem qpow_le {q : Rat} (q0 : 0 < q) (q1 : q ≤ 1) {m n : Nat} (h : m ≤ n) : q ^ n ≤ q ^ m := by
  obtain ⟨k, rfl⟩ : ∃ k, n = m + k := ⟨n - m, by omega⟩
  rw [qpow_add]
  have a := qpow_pos q0 m
  have b : q ^ k ≤ 1 := by
    induction k with
    | zero => grind
    | succ k ih =>
      have ih := ih (by omega)
      rw [qpow_succ]
      have p := qpow_pos q0 k
      have : q ^ k * q ≤ q ^ k * 1 := Rat.mul_le_mul_of_nonneg_left q1 (Rat.le_of_lt p)
      grind
  have := Rat.mul_le_mul_of_nonneg_left b (Rat.le_of_lt a)
  grind
theorem div_nn {x y : Rat} (hx : 0 ≤ x) (hy : 0 < y) : 0 ≤ x / y := by
  rw [Rat.div_def]
  exact Rat.mul_nonneg hx (Rat.le_of_lt (Rat.inv_pos.mpr hy))
/-- fewer projects, less worth -/
theorem best_mono {A B : Co} (a : COk A) (b : COk B) (e : A.1 = B.1) (hV : ∀ v ∈ valsC B, v ∈ valsC A) (hN : ∀ M, cntV (certF B.1 B.2).flatten M ≤ cntV (certF A.1 A.2).flatten M) (M : Rat) : bestR B M ≤ bestR A M := by
  have hq := a.d.1.q
  refine thr_ind (valsC A) (fun M => bestR B M ≤ bestR A M) (fun M h => ?_) (fun s t hst hn ih => ?_) _ M (Nat.le_refl _)
  · rw [best_top a h, best_top b fun v hv => h v (hV v hv), e]
    exact Rat.le_refl
  · rw [best_step a (by grind) hn, best_step b (by grind) fun v hv => hn v (hV v hv), ← e]
    have p := qpow_le (q := rv A.1) hq.1 (Rat.le_of_lt hq.2) (hN s)
    rw [← e] at p
    have n := div_nn (x := (t - s) * ((rv A.1) ^ (cntV (certF A.1 B.2).flatten s) - (rv A.1) ^ (cntV (certF A.1 A.2).flatten s))) (y := 1 - rv A.1) (Rat.mul_nonneg (by grind) (by grind)) (by grind)
    generalize (rv A.1) ^ (cntV (certF A.1 B.2).flatten s) = Qb at n ⊢
    generalize (rv A.1) ^ (cntV (certF A.1 A.2).flatten s) = Qa at n ⊢
    have n1 : 1 - rv A.1 ≠ 0 := by grind
    have : (t - s) * (Qb - Qa) / (1 - rv A.1) = (t - s) * Qb / (1 - rv A.1) - (t - s) * Qa / (1 - rv A.1) := by grind
    grind
/-- what a project adds shrinks in company -/
theorem best_sub {A B C D : Co} (a : COk A) (b : COk B) (c : COk C) (d : COk D) (eb : A.1 = B.1) (ec : A.1 = C.1) (ed : A.1 = D.1) (hB : ∀ v ∈ valsC B, v ∈ valsC A) (hC : ∀ v ∈ valsC C, v ∈ valsC A) (hD : ∀ v ∈ valsC D, v ∈ valsC A)
    (hN : ∀ M, ∃ x y, cntV (certF B.1 B.2).flatten M = cntV (certF D.1 D.2).flatten M + x ∧ cntV (certF C.1 C.2).flatten M = cntV (certF D.1 D.2).flatten M + y ∧ cntV (certF A.1 A.2).flatten M = cntV (certF D.1 D.2).flatten M + x + y) (M : Rat) :
    bestR A M - bestR B M ≤ bestR C M - bestR D M := by
  have hq := a.d.1.q
  refine thr_ind (valsC A) (fun M => bestR A M - bestR B M ≤ bestR C M - bestR D M) (fun M h => ?_) (fun s t hst hn ih => ?_) _ M (Nat.le_refl _)
  · rw [best_top a h, best_top b fun v hv => h v (hB v hv), best_top c fun v hv => h v (hC v hv), best_top d fun v hv => h v (hD v hv), ← eb, ← ec, ← ed]
    exact Rat.le_refl
  · rw [best_step a (by grind) hn, best_step b (by grind) fun v hv => hn v (hB v hv), best_step c (by grind) fun v hv => hn v (hC v hv), best_step d (by grind) fun v hv => hn v (hD v hv)]
    obtain ⟨x, y, e1, e2, e3⟩ := hN s
    rw [e1, e2, e3, ← eb, ← ec, ← ed]
    generalize cntV (certF A.1 D.2).flatten s = N
    have q1 : (rv A.1) ^ x ≤ 1 := by have := qpow_le (q := rv A.1) hq.1 (Rat.le_of_lt hq.2) (Nat.zero_le x); grind
    have q2 : (rv A.1) ^ y ≤ 1 := by have := qpow_le (q := rv A.1) hq.1 (Rat.le_of_lt hq.2) (Nat.zero_le y); grind
    have qN := qpow_pos hq.1 N
    rw [qpow_add, qpow_add, qpow_add]
    have n := div_nn (x := (t - s) * ((rv A.1) ^ N * ((1 - (rv A.1) ^ x) * (1 - (rv A.1) ^ y)))) (y := 1 - rv A.1) (Rat.mul_nonneg (by grind) (Rat.mul_nonneg (Rat.le_of_lt qN) (Rat.mul_nonneg (by grind) (by grind)))) (by grind)
    generalize (rv A.1) ^ N = QN at n ⊢
    generalize (rv A.1) ^ x = Qx at n ⊢
    generalize (rv A.1) ^ y = Qy at n ⊢
    have n1 : 1 - rv A.1 ≠ 0 := by grind
    have : (t - s) * (QN * ((1 - Qx) * (1 - Qy))) / (1 - rv A.1) = (t - s) * QN / (1 - rv A.1) - (t - s) * (QN * Qx) / (1 - rv A.1) - (t - s) * (QN * Qy) / (1 - rv A.1) + (t - s) * (QN * Qx * Qy) / (1 - rv A.1) := by grind
    grind
/-! without a project -/
theorem cert_wto (d : Int × Int) (ps : List (List Int)) (j : Nat) : certF d (wtoP ps j) = wtoP (certF d ps) j := by
  unfold certF wtoP
  rw [List.map_append, List.map_take, List.map_drop]
theorem flat_wto {css : Chs} {j : Nat} (h : j < css.length) : css.flatten = (css.take j).flatten ++ (rcl css j ++ (css.drop (j + 1)).flatten) := by
  have e : css = css.take j ++ (rcl css j :: css.drop (j + 1)) := by
    have e1 : css.drop j = rcl css j :: css.drop (j + 1) := by
      have := List.drop_eq_getElem_cons h
      have e2 : css[j] = rcl css j := Option.some.inj ((List.getElem?_eq_getElem h).symm.trans (rcl_at h))
      rw [this, e2]
    rw [← e1, List.take_append_drop]
  have e2 := congrArg List.flatten e
  rw [List.flatten_append, List.flatten_cons] at e2
  exact e2
theorem cnt_wto (d : Int × Int) {ps : List (List Int)} {j : Nat} (h : j < ps.length) (M : Rat) : cntV (certF d ps).flatten M = cntV (certF d (wtoP ps j)).flatten M + cntV (chgs d.1 d.2 (rdp ps j)) M := by
  have hl : j < (certF d ps).length := by rw [certF_len]; exact h
  rw [flat_wto hl, cert_wto, certF_at d h]
  unfold wtoP
  rw [List.flatten_append, cntV_app, cntV_app, cntV_app]
  omega
theorem vals_wto {c : Co} {j : Nat} {v : Rat} (h : v ∈ valsC (wtoC c j)) : v ∈ valsC c := by
  obtain ⟨e, he, rfl⟩ := List.mem_map.mp h
  refine List.mem_map.mpr ⟨e, ?_, rfl⟩
  obtain ⟨l, hl, hm⟩ := List.mem_flatten.mp he
  refine List.mem_flatten.mpr ⟨l, ?_, hm⟩
  have e2 : certF (wtoC c j).1 (wtoC c j).2 = wtoP (certF c.1 c.2) j := cert_wto _ _ _
  rw [e2] at hl
  exact wtoP_mem hl
/-- the place of a project when another one is left out -/
def plc (p o : Nat) : Nat := if o < p then p - 1 else p
theorem rdp_wto {ps : List (List Int)} {p o : Nat} (hp : p < ps.length) (ho : o < ps.length) (hn : p ≠ o) : plc p o < (wtoP ps o).length ∧ rdp (wtoP ps o) (plc p o) = rdp ps p := by
  have l := wtoP_len ho
  unfold plc
  refine ⟨by rw [l]; split <;> omega, ?_⟩
  unfold rdp wtoP
  rw [List.getD_eq_getElem?_getD, List.getD_eq_getElem?_getD]
  congr 1
  split
  · rw [List.getElem?_append_right (by rw [List.length_take]; omega), List.length_take, List.getElem?_drop]
    congr 1
    omega
  · rw [List.getElem?_append_left (by rw [List.length_take]; omega), List.getElem?_take_of_lt (by omega)]
theorem worth_nn {c : Co} (ok : COk c) {j : Nat} (h : j < c.2.length) (M : Rat) : bestR (wtoC c j) M ≤ bestR c M :=
  best_mono ok (wto_ok ok j) rfl (fun _ => vals_wto) (fun M => by have := cnt_wto c.1 h M; show cntV (certF c.1 (wtoP c.2 j)).flatten M ≤ _; omega) M
theorem worth_sub {c : Co} (ok : COk c) {p o : Nat} (hp : p < c.2.length) (ho : o < c.2.length) (hn : p ≠ o) (M : Rat) : bestR c M - bestR (wtoC c p) M ≤ bestR (wtoC c o) M - bestR (wtoC (wtoC c o) (plc p o)) M := by
  obtain ⟨h1, h2⟩ := rdp_wto hp ho hn
  refine best_sub ok (wto_ok ok p) (wto_ok ok o) (wto_ok (wto_ok ok o) _) rfl rfl rfl (fun _ => vals_wto) (fun _ => vals_wto) (fun _ h => vals_wto (vals_wto h)) (fun M => ?_) M
  have a1 := cnt_wto c.1 hp M
  have a2 := cnt_wto c.1 ho M
  have a3 := cnt_wto c.1 (ps := wtoP c.2 o) h1 M
  rw [h2] at a3
  have a4 : cntV (chgs c.1.1 c.1.2 (rdp c.2 o)) M + cntV (certF c.1 (wtoP (wtoP c.2 o) (plc p o))).flatten M = cntV (certF c.1 (wtoP c.2 p)).flatten M := by omega
  refine ⟨cntV (chgs c.1.1 c.1.2 (rdp c.2 o)) M, cntV (chgs c.1.1 c.1.2 (rdp c.2 p)) M, ?_, ?_, ?_⟩
  · show cntV (certF c.1 (wtoP c.2 p)).flatten M = cntV (certF c.1 (wtoP (wtoP c.2 o) (plc p o))).flatten M + _
    omega
  · show cntV (certF c.1 (wtoP c.2 o)).flatten M = cntV (certF c.1 (wtoP (wtoP c.2 o) (plc p o))).flatten M + _
    omega
  · show _ = cntV (certF c.1 (wtoP (wtoP c.2 o) (plc p o))).flatten M + _ + _
    omega
/-! bounds of the best worth, sharper -/
theorem bw_bd2 {c : Co} (ok : COk c) {o : Int × Int} (ho : Offr o) : Bd 3520 (bwF c o).1 ∧ Bd 3520 (bwF c o).2 := by
  have o1 : 0 < o.2 := by have := ho.2.1; omega
  have hl : ((bpF c o).map some).length ≤ 60 := by rw [List.length_map]; exact (bpF_ok ok ho).2
  obtain ⟨ha, hb, _, b0⟩ := ok.d.1.bd
  have n0 : o.2 * c.1.2 ^ (((bpF c o).map some).length - 1) ≠ 0 := Int.ne_of_gt (Int.mul_pos (by omega) (Int.pow_pos b0))
  have b1 := twF_bd ok.d.1 ok.p ((bpF c o).map some) ho (t := ((bpF c o).map some).length) (Nat.le_refl _) (by omega)
  have b2 := ho.2.2.2.mul (hb.pow (((bpF c o).map some).length - 1))
  have g : Bd 2095 (gainF c.1 c.2 ((bpF c o).map some) o).1 ∧ Bd 2095 (gainF c.1 c.2 ((bpF c o).map some) o).2 := ⟨(Bd.mkR n0).1 (b1.le (by omega)), (Bd.mkR (x := twF c.1 c.2 ((bpF c o).map some) o ((bpF c o).map some).length ((bpF c o).map some).length) n0).2 (b2.le (by omega))⟩
  have := add_bd (gain_pos ok.d.1 c.2 ((bpF c o).map some) o1) (alone_pos ok.d.1 o1) g (alone_bd ok.d.1 ho)
  exact ⟨this.1.le (by decide), this.2.le (by decide)⟩
end Tm
namespace Tm
open PySem L2 Tp
/-- what a project adds -/
def pjF (c : Co) (j : Nat) (o : Int × Int) : Int × Int := mkR ((bwF c o).1 * (bwF (wtoC c j) o).2 - (bwF (wtoC c j) o).1 * (bwF c o).2) ((bwF c o).2 * (bwF (wtoC c j) o).2)
theorem pj_ok {c : Co} (ok : COk c) (j : Nat) {o : Int × Int} (ho : Offr o) : isR (pjF c j o) = true ∧ rv (pjF c j o) = bestR c (rv o) - bestR (wtoC c j) (rv o) ∧
    ((bwF c o).2 * (bwF (wtoC c j) o).2 ≠ 0 ∧ (pjF c j o).1 * ((bwF c o).2 * (bwF (wtoC c j) o).2) = ((bwF c o).1 * (bwF (wtoC c j) o).2 - (bwF (wtoC c j) o).1 * (bwF c o).2) * (pjF c j o).2) ∧
    Bd 7050 (pjF c j o).1 ∧ Bd 7050 (pjF c j o).2 ∧ Bd 7050 ((bwF c o).1 * (bwF (wtoC c j) o).2 - (bwF (wtoC c j) o).1 * (bwF c o).2) ∧ Bd 7050 ((bwF c o).2 * (bwF (wtoC c j) o).2) := by
  have o1 : 0 < o.2 := by have := ho.2.1; omega
  have okw := wto_ok ok j
  obtain ⟨a1, a2⟩ := bw_ok ok o1
  obtain ⟨b1, b2⟩ := bw_ok okw o1
  obtain ⟨a3, a4⟩ := bw_bd2 ok ho
  obtain ⟨b3, b4⟩ := bw_bd2 okw ho
  unfold pjF
  generalize bwF c o = a at *
  generalize bwF (wtoC c j) o = b at *
  have p1 := (isR_iff.mp a1).1
  have p2 := (isR_iff.mp b1).1
  have n0 : 0 < a.2 * b.2 := Int.mul_pos (by omega) (by omega)
  have n1 : a.2 * b.2 ≠ 0 := by omega
  have B1 : Bd 7050 (a.1 * b.2 - b.1 * a.2) := Bd.le (n := 7041) (Bd.sub (n := 7040) (a3.mul b4) (b3.mul a4)) (by decide)
  have B2 : Bd 7050 (a.2 * b.2) := (a4.mul b4).le (by decide)
  refine ⟨isR_mkR n1, ?_, ⟨n1, (mkR_spec n1).2.2⟩, (Bd.mkR n1).1 B1, (Bd.mkR (x := a.1 * b.2 - b.1 * a.2) n1).2 B2, B1, B2⟩
  rw [rv_mkR n0, ← a2, ← b2]
  unfold rv
  have h1 : (a.2 : Rat) ≠ 0 := by have := cast_pos (show 0 < a.2 by omega); grind
  have h2 : (b.2 : Rat) ≠ 0 := by have := cast_pos (show 0 < b.2 by omega); grind
  show (((a.1 * b.2 - b.1 * a.2 : Int) : Rat)) / ((a.2 * b.2 : Int) : Rat) = _
  rw [show ((a.1 * b.2 - b.1 * a.2 : Int) : Rat) = (a.1 : Rat) * b.2 - b.1 * a.2 by push_cast; rfl, show ((a.2 * b.2 : Int) : Rat) = (a.2 : Rat) * b.2 by push_cast; rfl]
  grind
theorem pj_nn {c : Co} (ok : COk c) {j : Nat} (h : j < c.2.length) {o : Int × Int} (ho : Offr o) : 0 ≤ (pjF c j o).1 := by
  obtain ⟨h1, h2, _⟩ := pj_ok ok j ho
  have := worth_nn ok h (rv o)
  exact rv_nn (by have := (isR_iff.mp h1).1; omega) (by rw [h2]; grind)
theorem pj_sub {c : Co} (ok : COk c) {p q : Nat} (hp : p < c.2.length) (hq : q < c.2.length) (hn : p ≠ q) {o : Int × Int} (ho : Offr o) : (pjF c p o).1 * (pjF (wtoC c q) (plc p q) o).2 ≤ (pjF (wtoC c q) (plc p q) o).1 * (pjF c p o).2 := by
  obtain ⟨h1, h2, _⟩ := pj_ok ok p ho
  obtain ⟨g1, g2, _⟩ := pj_ok (wto_ok ok q) (plc p q) ho
  refine (rv_le (by have := (isR_iff.mp h1).1; omega) (by have := (isR_iff.mp g1).1; omega)).mp ?_
  rw [h2, g2]
  exact worth_sub ok hp hq hn (rv o)
theorem filt_wto (ps : List (List Int)) {x : Nat} (h : x < ps.length) : ((rng 0 (ps.length : Int)).filter fun k => !decide (k = (x : Int))).map (fun k => rdp ps k.toNat) = wtoP ps x := by
  unfold rng wtoP
  rw [show ((ps.length : Int) - 0).toNat = x + 1 + (ps.length - x - 1) by omega, List.range_add, List.range_succ, List.map_append, List.map_append, List.filter_append, List.filter_append, List.map_append, List.map_append]
  have e1 : (((List.range x).map fun i : Nat => (0 : Int) + (i : Int)).filter fun k => !decide (k = (x : Int))) = (List.range x).map fun i : Nat => (0 : Int) + (i : Int) := List.filter_eq_self.mpr fun a ha => by
    obtain ⟨i, hi, rfl⟩ := List.mem_map.mp ha
    have := List.mem_range.mp hi
    simp only [Bool.not_eq_true', decide_eq_false_iff_not]; omega
  have e2 : (([x].map fun i : Nat => (0 : Int) + (i : Int)).filter fun k => !decide (k = (x : Int))) = [] := by simp
  have e3 : ((((List.range (ps.length - x - 1)).map (x + 1 + ·)).map fun i : Nat => (0 : Int) + (i : Int)).filter fun k => !decide (k = (x : Int))) = ((List.range (ps.length - x - 1)).map (x + 1 + ·)).map fun i : Nat => (0 : Int) + (i : Int) := List.filter_eq_self.mpr fun a ha => by
    obtain ⟨i, hi, rfl⟩ := List.mem_map.mp ha
    obtain ⟨j, _, rfl⟩ := List.mem_map.mp hi
    simp only [Bool.not_eq_true', decide_eq_false_iff_not]; omega
  rw [e1, e2, e3, List.map_nil, List.append_nil, List.map_map, List.map_map, List.map_map]
  congr 1
  · refine List.ext_getElem (by rw [List.length_map, List.length_range, List.length_take]; omega) fun i h1 h2 => ?_
    rw [List.getElem_map, List.getElem_range, List.getElem_take]
    rw [List.length_map, List.length_range] at h1
    have := rdp_at (ps := ps) (j := i) (by omega)
    rw [List.getElem?_eq_getElem (by omega)] at this
    show rdp ps (0 + (i : Int)).toNat = _
    rw [show (0 + (i : Int)).toNat = i by omega]
    exact (Option.some.inj this).symm
  · refine List.ext_getElem (by rw [List.length_map, List.length_range, List.length_drop]; omega) fun i h1 h2 => ?_
    rw [List.getElem_map, List.getElem_range, List.getElem_drop]
    rw [List.length_map, List.length_range] at h1
    have := rdp_at (ps := ps) (j := x + 1 + i) (by omega)
    rw [List.getElem?_eq_getElem (by omega)] at this
    show rdp ps (0 + ((x + 1 + i : Nat) : Int)).toNat = _
    rw [show (0 + ((x + 1 + i : Nat) : Int)).toNat = x + 1 + i by omega]
    exact (Option.some.inj this).symm
end Tm

namespace Tm
open PySem L2 Tp
/-! ### curves: the offers of the corners, the corners -/
abbrev Rt := Int × Int
def lastD (acc : List Rt) : Rt := acc.getLastD (0, 1)
def ofS (acc : List Rt) (x : Rt) : List Rt := if x = lastD acc then acc else acc ++ [x]
def ofR : List Rt → List Rt
  | [] => [(0, 1)]
  | x :: l => ofS (ofR l) x
def cnF (d : Rt) (fl : List Rt) (o : Rt) : Rt × Rt × Int := (o, ratOf (faR d o (abvL fl o)), ((abvL fl o).length : Int))
def crF (d : Rt) (fl : List Rt) : List (Rt × Rt × Int) := (ofR fl).map (cnF d fl)
theorem lastD_snoc (acc : List Rt) (x : Rt) : lastD (acc ++ [x]) = x := by unfold lastD; simp
/-- what the falling list of a curve is -/
structure Cfl (fl : List Rt) : Prop extends Fld fl where
  pos : ∀ x ∈ fl, 0 < x.1 ∧ isR x = true
  fal : fl.Pairwise fun a b => rv b ≤ rv a
theorem Cfl.offr {fl : List Rt} (h : Cfl fl) {x : Rt} (hx : x ∈ fl) : Offr x := by
  obtain ⟨a, b, c⟩ := h.den x hx
  exact ⟨by have := (h.pos x hx).1; omega, by omega, b, c⟩
structure OfOk (fl l : List Rt) : Prop where
  asc : l.Pairwise fun a b => rv a < rv b
  all : ∀ x ∈ fl, x ∈ l
  own : ∀ x ∈ l, x = (0, 1) ∨ x ∈ fl
  hd : ∃ t, l = (0, 1) :: t
  top : ∀ x ∈ l, rv x ≤ rv (lastD l)
  lst : lastD l ∈ l
theorem isR01 : isR (0, 1) = true := by decide
theorem rv_pos {x : Rt} (h : 0 < x.1) (h2 : 0 < x.2) : 0 < rv x := by
  have := (rv_lt (s := (0, 1)) (t := x) (by decide) h2).mpr (by simp; omega)
  rwa [rv_zero1] at this
theorem of_ok : ∀ (fl : List Rt), (∀ x ∈ fl, 0 < x.1 ∧ isR x = true) → (fl.Pairwise fun a b => rv b ≤ rv a) → OfOk fl (ofR fl)
  | [], _, _ => ⟨by unfold ofR; simp, fun x h => by simp at h, fun x h => by unfold ofR at h; simp at h; exact .inl h, ⟨[], rfl⟩, fun x h => by unfold ofR at h; simp at h; subst h; exact Rat.le_refl, by unfold ofR; simp [lastD]⟩
  | x :: l, hp, hf => by
    have ih := of_ok l (fun y hy => hp y (by simp [hy])) (List.pairwise_cons.mp hf).2
    have hx := hp x (by simp)
    have x2 : 0 < x.2 := by have := (isR_iff.mp hx.2).1; omega
    have le : rv (lastD (ofR l)) ≤ rv x := by
      rcases ih.own _ ih.lst with z | z
      · rw [z, rv_zero1]
        have := rv_pos hx.1 x2
        grind
      · exact (List.pairwise_cons.mp hf).1 _ z
    show OfOk (x :: l) (ofS (ofR l) x)
    unfold ofS
    by_cases z : x = lastD (ofR l)
    · rw [if_pos z]
      refine ⟨ih.asc, fun y hy => ?_, fun y hy => ?_, ih.hd, ih.top, ih.lst⟩
      · rcases List.mem_cons.mp hy with rfl | hy
        · rw [z]; exact ih.lst
        · exact ih.all y hy
      · rcases ih.own y hy with e | e
        · exact .inl e
        · exact .inr (by simp [e])
    · rw [if_neg z]
      have lr : isR (lastD (ofR l)) = true := by
        rcases ih.own _ ih.lst with y | y
        · rw [y]; exact isR01
        · exact (hp _ (by simp [y])).2
      have lt : rv (lastD (ofR l)) < rv x := by
        by_cases y : rv (lastD (ofR l)) < rv x
        · exact y
        · exact absurd (rv_inj hx.2 lr (by grind)) z
      refine ⟨List.pairwise_append.mpr ⟨ih.asc, by simp, fun a ha b hb => ?_⟩, fun y hy => ?_, fun y hy => ?_, ?_, fun y hy => ?_, ?_⟩
      · have : b = x := by simpa using hb
        subst this
        have := ih.top a ha
        grind
      · rcases List.mem_cons.mp hy with rfl | hy
        · simp
        · exact List.mem_append_left _ (ih.all y hy)
      · rcases List.mem_append.mp hy with hy | hy
        · rcases ih.own y hy with e | e
          · exact .inl e
          · exact .inr (by simp [e])
        · have : y = x := by simpa using hy
          subst this
          exact .inr (by simp)
      · obtain ⟨t, e⟩ := ih.hd
        exact ⟨t ++ [x], by rw [e]; rfl⟩
      · rw [lastD_snoc]
        rcases List.mem_append.mp hy with hy | hy
        · have := ih.top y hy; grind
        · have : y = x := by simpa using hy
          rw [this]; exact Rat.le_refl
      · rw [lastD_snoc]; simp
theorem Cfl.ofok {fl : List Rt} (h : Cfl fl) : OfOk fl (ofR fl) := of_ok fl h.pos h.fal
theorem OfOk.offr {fl : List Rt} (h : Cfl fl) {x : Rt} (hx : x ∈ ofR fl) : Offr x ∧ isR x = true := by
  rcases h.ofok.own x hx with z | z
  · rw [z]; exact ⟨zero_offr, isR01⟩
  · exact ⟨h.offr z, (h.pos x z).2⟩
theorem ofR_len : ∀ fl : List Rt, 1 ≤ (ofR fl).length ∧ (ofR fl).length ≤ fl.length + 1
  | [] => by unfold ofR; simp
  | x :: l => by
    have ih := ofR_len l
    show 1 ≤ (ofS (ofR l) x).length ∧ (ofS (ofR l) x).length ≤ (x :: l).length + 1
    unfold ofS
    split
    · simp; omega
    · rw [List.length_append]; simp; omega
theorem drop_cons' {α : Type} {l : List α} {i : Nat} (h : i < l.length) {x : α} (e : l.reverse[i]? = some x) : l.drop (l.length - (i + 1)) = x :: l.drop (l.length - i) := by
  rw [List.getElem?_reverse h] at e
  have h2 : l.length - 1 - i < l.length := by omega
  have := List.drop_eq_getElem_cons h2
  rw [List.getElem?_eq_getElem h2] at e
  rw [show l.length - (i + 1) = l.length - 1 - i by omega, this, Option.some.inj e, show l.length - 1 - i + 1 = l.length - i by omega]
/-- the last corner so far -/
theorem last_at {d : Rt} {fl acc : List Rt} (h : acc ≠ []) : atI (acc.map (cnF d fl)) (-1) = some (cnF d fl (lastD acc)) := by
  have hl : 0 < acc.length := List.length_pos_iff.mpr h
  have e : atI (acc.map (cnF d fl)) (-1) = (acc.map (cnF d fl))[acc.length - 1]? := by
    unfold atI ixN
    rw [if_neg (by decide), List.length_map, if_pos (by omega)]
    show (acc.map (cnF d fl))[(-1 + (acc.length : Int)).toNat]? = _
    rw [show (-1 + (acc.length : Int)).toNat = acc.length - 1 by omega]
  rw [e, List.getElem?_map]
  unfold lastD
  rw [List.getLastD_eq_getLast?, List.getLast?_eq_getElem?]
  rw [List.getElem?_eq_getElem (by omega)]
  rfl
/-! the curve of a company -/
def posL (c : Co) : List Rt := (flB (certF c.1 c.2)).filter fun x => decide (0 < x.1)
def cuF (c : Co) : Rt × List Rt × List (Rt × Rt × Int) := (c.1, posL c, crF c.1 (posL c))
theorem flB_own {c : Co} (ok : COk c) : flB (certF c.1 c.2) = (mgC c).map (·.2) := rfl
theorem fl_fal {c : Co} (ok : COk c) : (flB (certF c.1 c.2)).Pairwise fun a b => rv b ≤ rv a := by
  have hm := (cert_mrg ok).toMrg0
  have hf := (cert_own ok.d.1 ok.p).toCfk.fal
  rw [flB_own ok, List.pairwise_iff_getElem]
  intro i j hi hj hij
  rw [List.getElem_map, List.getElem_map]
  rw [List.length_map] at hi hj
  have e1 : gM (mgC c) i = ((mgC c)[i]).2 := gM_of (List.getElem?_eq_getElem hi)
  have e2 : gM (mgC c) j = ((mgC c)[j]).2 := gM_of (List.getElem?_eq_getElem hj)
  have := hm.falls hf (i := i) (j - i) (by omega)
  rw [show i + (j - i) = j by omega, e1, e2] at this
  exact this
theorem pos_cfl {c : Co} (ok : COk c) : Cfl (posL c) := by
  have F := (own_bok ok).fld ok
  have mem : ∀ {x}, x ∈ posL c → x ∈ flB (certF c.1 c.2) := fun hx => (List.mem_filter.mp hx).1
  refine ⟨⟨Nat.le_trans (List.length_filter_le _ _) F.len, fun x hx => F.den x (mem hx), ?_⟩, fun x hx => ⟨of_decide_eq_true (List.mem_filter.mp hx).2, ?_⟩, (fl_fal ok).filter _⟩
  · obtain ⟨L, a, b, e⟩ := F.lcm
    exact ⟨L, a, b, fun x hx => e x (mem hx)⟩
  · have := mem hx
    rw [flB_own ok] at this
    obtain ⟨e, he, rfl⟩ := List.mem_map.mp this
    exact (mgC_mem ok he).1.2
theorem abv_pos {c : Co} (ok : COk c) {o : Rt} (ho : Offr o) : abvL (posL c) o = abvL (flB (certF c.1 c.2)) o := by
  unfold posL abvL
  rw [List.filter_filter]
  refine List.filter_congr fun x hx => ?_
  by_cases z : o.1 * x.2 < x.1 * o.2
  · rw [decide_eq_true z]
    by_cases y : 0 < x.1
    · rw [decide_eq_true y]; rfl
    · exfalso
      have h1 : x.1 * o.2 ≤ 0 := by
        have := Int.mul_le_mul_of_nonneg_right (show x.1 ≤ 0 by omega) (show (0 : Int) ≤ o.2 by have := ho.2.1; omega)
        rwa [Int.zero_mul] at this
      have w : 0 < x.2 := (((own_bok ok).fld ok).den x hx).1
      have := Int.mul_nonneg ho.1 (show 0 ≤ x.2 by omega)
      omega
  · rw [decide_eq_false z]; rfl
theorem cu_worth {c : Co} (ok : COk c) {o : Rt} (ho : Offr o) : ratOf (faR c.1 o (abvL (posL c) o)) = bwF c o := by
  rw [abv_pos ok ho]
  exact own_bound ok (by have := ho.2.1; omega)
theorem cu_cnt {c : Co} (ok : COk c) {o : Rt} (ho : Offr o) : (abvL (posL c) o).length = cntV (certF c.1 c.2).flatten (rv o) := by
  rw [abv_pos ok ho]
  have p := mg_perm (cert_mrg ok)
  have o1 : 0 < o.2 := by have := ho.2.1; omega
  unfold cntV abvL
  rw [← (p.filter _).length_eq, flB_own ok]
  congr 1
  refine List.filter_congr fun x hx => ?_
  have x2 : 0 < x.2 := (((own_bok ok).fld ok).den x (by rw [flB_own ok]; exact hx)).1
  exact decide_eq_decide.mpr (rv_lt o1 x2).symm
/-- the place of the last corner that is not above an offer -/
def atF (cs : List (Rt × Rt × Int)) (o : Rt) : Nat → Nat
  | 0 => 0
  | k + 1 => match cs[k]? with
    | some x => if x.1.1 * o.2 ≤ o.1 * x.1.2 then k else atF cs o k
    | none => atF cs o k
theorem atF_spec (cs : List (Rt × Rt × Int)) (o : Rt) (h0 : ∀ x, cs[0]? = some x → x.1.1 * o.2 ≤ o.1 * x.1.2) : ∀ n, 0 < n → n ≤ cs.length → atF cs o n < n ∧ (∀ x, cs[atF cs o n]? = some x → x.1.1 * o.2 ≤ o.1 * x.1.2) ∧ ∀ j, atF cs o n < j → j < n → ∀ x, cs[j]? = some x → ¬ x.1.1 * o.2 ≤ o.1 * x.1.2
  | 0, h, _ => absurd h (by decide)
  | n + 1, _, hl => by
    have e : cs[n]? = some cs[n] := List.getElem?_eq_getElem (by omega)
    show (match cs[n]? with | some x => if x.1.1 * o.2 ≤ o.1 * x.1.2 then n else atF cs o n | none => atF cs o n) < n + 1 ∧ _
    by_cases z : (cs[n]).1.1 * o.2 ≤ o.1 * (cs[n]).1.2
    · have ea : atF cs o (n + 1) = n := by
        show (match cs[n]? with | some x => if x.1.1 * o.2 ≤ o.1 * x.1.2 then n else atF cs o n | none => atF cs o n) = n
        rw [e]; exact if_pos z
      rw [e]
      show (if _ then n else _) < n + 1 ∧ _
      rw [if_pos z, ea]
      refine ⟨by omega, fun x hx => ?_, fun j h1 h2 => by omega⟩
      rw [e] at hx; cases hx; exact z
    · have ea : atF cs o (n + 1) = atF cs o n := by
        show (match cs[n]? with | some x => if x.1.1 * o.2 ≤ o.1 * x.1.2 then n else atF cs o n | none => atF cs o n) = atF cs o n
        rw [e]; exact if_neg z
      rw [e]
      show (if _ then n else atF cs o n) < n + 1 ∧ _
      rw [if_neg z, ea]
      cases n with
      | zero => exact absurd (h0 _ e) z
      | succ n =>
        obtain ⟨i1, i2, i3⟩ := atF_spec cs o h0 (n + 1) (by omega) (by omega)
        refine ⟨by omega, i2, fun j h1 h2 x hx => ?_⟩
        by_cases y : j = n + 1
        · subst y
          rw [e] at hx; cases hx; exact z
        · exact i3 j h1 (by omega) x hx
/-- the worth on the line through the corner -/
theorem on_line {c : Co} (ok : COk c) {o : Rt} (ho : Offr o) {j : Nat} {s : Rt} (hs : (ofR (posL c))[j]? = some s) (hle : rv s ≤ rv o) (hno : ∀ i, j < i → ∀ x, (ofR (posL c))[i]? = some x → rv o < rv x) :
    bestR c (rv o) = bestR c (rv s) + (rv o - rv s) * (rv c.1) ^ (abvL (posL c) s).length / (1 - rv c.1) := by
  have F := pos_cfl ok
  have O := F.ofok
  have hso := (OfOk.offr F (List.mem_of_getElem? hs)).1
  have st := best_step ok hle (fun v hv z => ?_)
  · rw [cu_cnt ok hso, st]
    grind
  · obtain ⟨x, hx, rfl⟩ := List.mem_map.mp hv
    have x2 : 0 < x.2 := (((own_bok ok).fld ok).den x ((flB_mem (own_bok ok)).mpr hx)).1
    have p0 : 0 < rv x := by
      have := (rv_le (s := (0, 1)) (t := s) (by decide) (by have := hso.2.1; omega)).mpr (by simp; exact hso.1)
      rw [rv_zero1] at this
      grind
    have p1 : 0 < x.1 := by
      have := (rv_lt (s := (0, 1)) (t := x) (by decide) x2).mp (by rw [rv_zero1]; exact p0)
      simpa using this
    have xm : x ∈ ofR (posL c) := O.all x (List.mem_filter.mpr ⟨(flB_mem (own_bok ok)).mpr hx, decide_eq_true p1⟩)
    obtain ⟨i, hi⟩ := List.mem_iff_getElem?.mp xm
    have hij : j < i := by
      have hi' := (List.getElem?_eq_some_iff.mp hi).1
      have hj' := (List.getElem?_eq_some_iff.mp hs).1
      by_cases y : j < i
      · exact y
      · exfalso
        have le : rv x ≤ rv s := by
          by_cases w : i = j
          · subst w; rw [hi] at hs; cases hs; exact Rat.le_refl
          · have := List.pairwise_iff_getElem.mp O.asc i j hi' hj' (by omega)
            rw [(List.getElem?_eq_some_iff.mp hi).2, (List.getElem?_eq_some_iff.mp hs).2] at this
            grind
        grind
    have := hno i hij x hi
    grind
/-- from the last corner on -/
theorem on_last {c : Co} (ok : COk c) {o : Rt} (hno : ∀ x ∈ ofR (posL c), rv x ≤ rv o) : bestR c (rv o) = rv o / (1 - rv c.1) := by
  have F := pos_cfl ok
  refine best_top ok fun v hv => ?_
  obtain ⟨x, hx, rfl⟩ := List.mem_map.mp hv
  have x2 : 0 < x.2 := (((own_bok ok).fld ok).den x ((flB_mem (own_bok ok)).mpr hx)).1
  obtain ⟨t, e⟩ := F.ofok.hd
  have z0 := hno (0, 1) (by rw [e]; simp)
  rw [rv_zero1] at z0
  by_cases p1 : 0 < x.1
  · exact hno x (F.ofok.all x (List.mem_filter.mpr ⟨(flB_mem (own_bok ok)).mpr hx, decide_eq_true p1⟩))
  · have := (rv_le (s := x) (t := (0, 1)) x2 (by decide)).mpr (by simp; omega)
    rw [rv_zero1] at this
    grind
/-- the best worth never bends downwards -/
theorem bends {c : Co} (ok : COk c) {a d : Rat} {o : Rt} (ho : Offr o) {b : Rat} (hb : b = rv o) (h1 : a ≤ b) (h2 : b ≤ d) : (bestR c b - bestR c a) * (d - b) ≤ (bestR c d - bestR c b) * (b - a) := by
  -- the best plan next to b
  have key : ∃ pl u v, VP c.2 pl ∧ bestR c b = u + v * b ∧ ∀ M, worthR c.1 c.2 pl M = u + v * M := by
    have lin : ∀ (pl : Pl) (M : Rat), worthR c.1 c.2 pl M = dsum (rv c.1) (rwd c.2) pl pl.length + (1 / (1 - rv c.1) - dsum (rv c.1) (fun _ _ => 1) pl pl.length) * M := fun pl M => by
      unfold worthR
      have e1 := dsum_sub (q := rv c.1) (pl := pl) (rwd c.2) (fun _ _ => M) pl.length
      have e2 := dsum_mul (q := rv c.1) (pl := pl) M (fun _ _ => 1) pl.length
      have e3 : dsum (rv c.1) (fun _ _ => M) pl pl.length = dsum (rv c.1) (fun _ _ => M * 1) pl pl.length := by
        congr 1; funext _ _; grind
      rw [e1, e3, e2]
      have hq := ok.d.1.q
      have n1 : 1 - rv c.1 ≠ 0 := by grind
      grind
    refine ⟨(bpF c o).map some, _, _, (bpF_ok ok ho).1, ?_, lin _⟩
    rw [hb, ← bp_worth ok o, lin]
  obtain ⟨pl, u, v, vp, e, w⟩ := key
  have p1 := plan_le ok vp a
  have p2 := plan_le ok vp d
  rw [w] at p1 p2
  rw [e]
  have q1 : (u + v * b - bestR c a) ≤ v * (b - a) := by grind
  have q2 : v * (d - b) ≤ bestR c d - (u + v * b) := by grind
  have r1 := Rat.mul_le_mul_of_nonneg_right q1 (show 0 ≤ d - b by grind)
  have r2 := Rat.mul_le_mul_of_nonneg_right q2 (show 0 ≤ b - a by grind)
  grind
theorem posL_eq {c : Co} (ok : COk c) : ((mgC c).filter (fun e => decide (0 < e.2.1))).map (fun e => e.2) = posL c := by
  unfold posL
  rw [flB_own ok, List.filter_map]; rfl
end Tm

namespace Tm
open L2 Tp
/-! the corners of a curve, as a law asks for them -/
abbrev Cr := Rt × Rt × Int
structure CrOk (cs : List Cr) : Prop where
  hd : ∃ x t, cs = x :: t ∧ x.1 = (0, 1)
  all : ∀ x ∈ cs, isR x.1 = true ∧ Offr x.1 ∧ isR x.2.1 = true ∧ Bd 3520 x.2.1.1 ∧ Bd 3520 x.2.1.2 ∧ 0 ≤ x.2.2 ∧ x.2.2 ≤ 60
  len : cs.length ≤ 61
theorem cr_mem {c : Co} (ok : COk c) {x : Cr} (h : x ∈ crF c.1 (posL c)) : x.1 ∈ ofR (posL c) ∧ Offr x.1 ∧ isR x.1 = true ∧ x = cnF c.1 (posL c) x.1 ∧ x.2.1 = bwF c x.1 := by
  obtain ⟨o, ho, rfl⟩ := List.mem_map.mp h
  have F := pos_cfl ok
  obtain ⟨a, b⟩ := OfOk.offr F ho
  exact ⟨ho, a, b, rfl, cu_worth ok a⟩
theorem cr_len (c : Co) : (crF c.1 (posL c)).length = (ofR (posL c)).length := List.length_map _
theorem posL_60 {c : Co} (ok : COk c) : (posL c).length ≤ 60 := by
  refine Nat.le_trans (List.length_filter_le _ _) ?_
  rw [flB_len (own_bok ok)]
  exact ok.p.2.1
theorem cr_ok {c : Co} (ok : COk c) : CrOk (crF c.1 (posL c)) := by
  have F := pos_cfl ok
  obtain ⟨t, e⟩ := F.ofok.hd
  refine ⟨⟨_, _, by unfold crF; rw [e, List.map_cons], rfl⟩, fun x hx => ?_, ?_⟩
  · obtain ⟨_, b, d, e1, e2⟩ := cr_mem ok hx
    have w := bw_ok ok (o := x.1) (by have := b.2.1; omega)
    have wb := bw_bd2 ok b
    refine ⟨d, b, by rw [e2]; exact w.1, by rw [e2]; exact wb.1, by rw [e2]; exact wb.2, ?_, ?_⟩
    · rw [e1]; show (0 : Int) ≤ ((abvL (posL c) x.1).length : Int); omega
    · rw [e1]; show ((abvL (posL c) x.1).length : Int) ≤ 60
      have : (abvL (posL c) x.1).length ≤ (posL c).length := List.length_filter_le _ _
      have l := posL_60 ok
      omega
  · rw [cr_len]
    have := (ofR_len (posL c)).2
    have := posL_60 ok
    omega
theorem alg_add {a b c : Rat} : a / c + b / c = (a + b) / c := by grind
theorem alg_1 {a : Rat} {b k : Rat} (hb : b ≠ 0) (hk : k ≠ 0) : a / b = a * k / (b * k) := by grind
theorem alg_2 {u v R g e P w : Rat} (hv : v ≠ 0) (hg : g ≠ 0) (he : e ≠ 0) (hP : P ≠ 0) (hw : w ≠ 0) : u / v * R / (g / e) = u * (R * P) * e * w / (w * (v * P * g)) := by
  have e1 : u / v * R / (g / e) = u * R * e / (v * g) := by grind
  have n1 : v * g ≠ 0 := by grind
  have n2 : P * w ≠ 0 := by grind
  rw [e1, alg_1 n1 n2]
  congr 1 <;> grind
theorem line_alg {w1 w2 o1 o2 s1 s2 d1 d2 P N R : Rat} (hw : w2 ≠ 0) (ho : o2 ≠ 0) (hs : s2 ≠ 0) (hd : d2 ≠ 0) (hP : P ≠ 0) (hg : d2 - d1 ≠ 0) (e : R * P = N) :
    w1 / w2 + (o1 / o2 - s1 / s2) * R / (1 - d1 / d2) = (w1 * (o2 * s2 * P * (d2 - d1)) + (o1 * s2 - s1 * o2) * N * d2 * w2) / (w2 * (o2 * s2 * P * (d2 - d1))) := by
  have e1 : 1 - d1 / d2 = (d2 - d1) / d2 := by grind
  have e2 : o1 / o2 - s1 / s2 = (o1 * s2 - s1 * o2) / (o2 * s2) := by grind
  have n1 : o2 * s2 ≠ 0 := by grind
  have n3 : o2 * s2 * P * (d2 - d1) ≠ 0 := by
    have : o2 * s2 * P ≠ 0 := by grind
    grind
  rw [e1, e2, alg_2 n1 hg hd hP hw, alg_1 (a := w1) hw n3, alg_add, e]
theorem rv_def (t : Rt) : rv t = (t.1 : Rat) / (t.2 : Rat) := rfl
/-- the worth of an offer, as the corner says it -/
theorem line_ok {d : Rt} {c : Co} (h : Made d c) {o : Rt} (ho : Offr o) {k : Nat} (hk : k = atF (crF c.1 (posL c)) o (crF c.1 (posL c)).length) :
    ∃ x, (crF c.1 (posL c))[k]? = some x ∧ k < (crF c.1 (posL c)).length
      ∧ ((k : Int) = (crF c.1 (posL c)).length - 1 → (isR (bwF c o) && decide ((bwF c o).1 * (o.2 * (d.2 - d.1)) = o.1 * d.2 * (bwF c o).2)) = true)
      ∧ (isR (bwF c o) && decide ((bwF c o).1 * (x.2.1.2 * (o.2 * x.1.2 * d.2 ^ x.2.2.toNat * (d.2 - d.1))) = (x.2.1.1 * (o.2 * x.1.2 * d.2 ^ x.2.2.toNat * (d.2 - d.1)) + (o.1 * x.1.2 - x.1.1 * o.2) * d.1 ^ x.2.2.toNat * d.2 * x.2.1.2) * (bwF c o).2)) = true := by
  have ok := h.ok
  have F := pos_cfl ok
  have C := cr_ok ok
  obtain ⟨y, t, e, e0⟩ := C.hd
  have o2 : 0 < o.2 := by have := ho.2.1; omega
  have n0 : 0 < (crF c.1 (posL c)).length := by rw [e]; simp
  obtain ⟨a1, a2, a3⟩ := atF_spec (crF c.1 (posL c)) o (fun x hx => by
    rw [e] at hx; simp at hx; subst hx; rw [e0]; have := ho.1; simp; omega) _ n0 (Nat.le_refl _)
  rw [← hk] at a1 a2 a3
  obtain ⟨x, hx⟩ : ∃ x, (crF c.1 (posL c))[k]? = some x := ⟨_, List.getElem?_eq_getElem a1⟩
  have xm := List.mem_of_getElem? hx
  obtain ⟨m1, m2, m3, m4, m5⟩ := cr_mem ok xm
  have x2 : 0 < x.1.2 := by have := m2.2.1; omega
  have hw := bw_ok ok o2
  have hwx := bw_ok ok x2
  have hd := h.dis.bd
  have q1 := h.ok.d.1.q
  rw [h.q] at q1
  have d2 : 0 < d.2 := hd.2.2.2
  have gap : 0 < d.2 - d.1 := by
    have := (rv_lt (s := d) (t := (1, 1)) d2 (by decide)).mp (by
      rw [show rv ((1 : Int), (1 : Int)) = 1 by unfold rv; simp; grind]; exact q1.2)
    simp at this; omega
  have oat : ∀ i, (ofR (posL c))[i]? = ((crF c.1 (posL c))[i]?).map (fun z : Cr => z.1) := fun i => by
    unfold crF
    rw [List.getElem?_map, Option.map_map]
    cases (ofR (posL c))[i]? <;> rfl
  have lt_of : ∀ i, k < i → ∀ z, (ofR (posL c))[i]? = some z → rv o < rv z := fun i hi z hz => by
    rw [oat] at hz
    obtain ⟨u, hu, rfl⟩ := Option.map_eq_some_iff.mp hz
    have il := (List.getElem?_eq_some_iff.mp hu).1
    have := a3 i hi il u hu
    have u2 := (cr_mem ok (List.mem_of_getElem? hu)).2.1.2.1
    exact (rv_lt o2 (by omega)).mpr (by omega)
  have hs : (ofR (posL c))[k]? = some x.1 := by rw [oat, hx]; rfl
  have le := (rv_le x2 o2).mpr (a2 x hx)
  have L := on_line ok ho hs le lt_of
  refine ⟨x, hx, a1, fun hl => ?_, ?_⟩
  · have T := on_last (o := o) ok (fun z hz => by
      obtain ⟨i, hi⟩ := List.getElem?_of_mem hz
      have il := (List.getElem?_eq_some_iff.mp hi).1
      rw [← cr_len] at il
      rcases Nat.lt_or_ge i k with g | g
      · have asc := List.pairwise_iff_getElem.mp F.ofok.asc
        have ki := (List.getElem?_eq_some_iff.mp hs)
        have ii := (List.getElem?_eq_some_iff.mp hi)
        obtain ⟨k1, k2⟩ := ki
        obtain ⟨i1, i2⟩ := ii
        have := asc i k i1 k1 g
        rw [i2, k2] at this
        grind
      · have : i = k := by omega
        rw [this, hs] at hi
        cases hi
        exact le)
    refine eq_law (v := (o.1 * d.2, o.2 * (d.2 - d.1))) hw.1 (Int.mul_pos o2 gap) ?_
    rw [hw.2, T, h.q, rv_def o, rv_def d, rv_def]
    have o2' : (o.2 : Rat) ≠ 0 := by exact_mod_cast (show o.2 ≠ 0 by omega)
    have d2' : (d.2 : Rat) ≠ 0 := by exact_mod_cast (show d.2 ≠ 0 by omega)
    have g2' : (d.2 : Rat) - (d.1 : Rat) ≠ 0 := by
      have : ((d.2 - d.1 : Int) : Rat) ≠ 0 := by exact_mod_cast (show d.2 - d.1 ≠ 0 by omega)
      rwa [Rat.intCast_sub] at this
    show _ = ((o.1 * d.2 : Int) : Rat) / ((o.2 * (d.2 - d.1) : Int) : Rat)
    rw [Rat.intCast_mul, Rat.intCast_mul, Rat.intCast_sub]
    grind
  · have wm : x.2.1 = bwF c x.1 := m5
    have w2 : 0 < x.2.1.2 := by rw [wm]; have := (isR_iff.mp hwx.1).1; omega
    have cn : x.2.2.toNat = (abvL (posL c) x.1).length := by rw [m4]; exact Int.toNat_natCast _
    rw [← cn] at L
    have rw_ : rv x.2.1 = bestR c (rv x.1) := by rw [wm]; exact hwx.2
    generalize x.2.2.toNat = n at L ⊢
    have p0 : 0 < d.2 ^ n := Int.pow_pos d2
    refine eq_law (v := (x.2.1.1 * (o.2 * x.1.2 * d.2 ^ n * (d.2 - d.1)) + (o.1 * x.1.2 - x.1.1 * o.2) * d.1 ^ n * d.2 * x.2.1.2, x.2.1.2 * (o.2 * x.1.2 * d.2 ^ n * (d.2 - d.1)))) hw.1 (Int.mul_pos w2 (Int.mul_pos (Int.mul_pos (Int.mul_pos o2 x2) p0) gap)) ?_
    rw [hw.2, L, ← rw_, h.q, rv_def o, rv_def d, rv_def x.1, rv_def x.2.1, rv_def]
    have o2' : (o.2 : Rat) ≠ 0 := by exact_mod_cast (show o.2 ≠ 0 by omega)
    have d2' : (d.2 : Rat) ≠ 0 := by exact_mod_cast (show d.2 ≠ 0 by omega)
    have x2' : (x.1.2 : Rat) ≠ 0 := by exact_mod_cast (show x.1.2 ≠ 0 by omega)
    have w2' : (x.2.1.2 : Rat) ≠ 0 := by exact_mod_cast (show x.2.1.2 ≠ 0 by omega)
    have p0' : (d.2 : Rat) ^ n ≠ 0 := by
      have : ((d.2 ^ n : Int) : Rat) ≠ 0 := by exact_mod_cast (show d.2 ^ n ≠ 0 by omega)
      rwa [Rat.intCast_pow] at this
    have g2' : (d.2 : Rat) - (d.1 : Rat) ≠ 0 := by
      have : ((d.2 - d.1 : Int) : Rat) ≠ 0 := by exact_mod_cast (show d.2 - d.1 ≠ 0 by omega)
      rwa [Rat.intCast_sub] at this
    show _ = ((x.2.1.1 * (o.2 * x.1.2 * d.2 ^ n * (d.2 - d.1)) + (o.1 * x.1.2 - x.1.1 * o.2) * d.1 ^ n * d.2 * x.2.1.2 : Int) : Rat) / ((x.2.1.2 * (o.2 * x.1.2 * d.2 ^ n * (d.2 - d.1)) : Int) : Rat)
    simp only [Rat.intCast_mul, Rat.intCast_sub, Rat.intCast_add, Rat.intCast_pow]
    refine line_alg w2' o2' x2' d2' p0' g2' (div_pow d2' n)
/-! three worths, in the order of their offers -/
abbrev Pr := Rt × Rt
def leA (x y : Pr) : Bool := decide (y.1.1 * x.1.2 ≤ x.1.1 * y.1.2)
def insA (l : List Pr) (x : Pr) : List Pr := l.takeWhile (leA x) ++ [x] ++ l.dropWhile (leA x)
def ascF (ps : List Pr) : List Pr := ps.foldl insA []
theorem insA_perm (l : List Pr) (x : Pr) : (insA l x).Perm (x :: l) := by
  unfold insA
  have e : l.takeWhile (leA x) ++ l.dropWhile (leA x) = l := List.takeWhile_append_dropWhile
  have := List.perm_middle (a := x) (l₁ := l.takeWhile (leA x)) (l₂ := l.dropWhile (leA x))
  rw [e] at this
  simpa using this
theorem foldl_insA_perm : ∀ (xs l : List Pr), (xs.foldl insA l).Perm (xs ++ l)
  | [], l => List.Perm.refl _
  | x :: xs, l => by
    rw [List.foldl_cons]
    refine (foldl_insA_perm xs (insA l x)).trans ?_
    refine ((insA_perm l x).append_left xs).trans ?_
    exact List.perm_middle
def SortA (l : List Pr) : Prop := l.Pairwise fun a b => rv a.1 ≤ rv b.1
theorem leA_iff {x y : Pr} (hx : 0 < x.1.2) (hy : 0 < y.1.2) : leA x y = true ↔ rv y.1 ≤ rv x.1 := by
  unfold leA
  rw [decide_eq_true_eq, rv_le hy hx]
theorem insA_sorted {x : Pr} (hx : 0 < x.1.2) : ∀ {l : List Pr}, (∀ y ∈ l, 0 < y.1.2) → SortA l → SortA (insA l x)
  | [], _, _ => by unfold insA SortA; simp
  | y :: l, hl, h => by
    have y0 := hl y (by simp)
    unfold SortA at h
    rw [List.pairwise_cons] at h
    have ih := insA_sorted hx (l := l) (fun z hz => hl z (by simp [hz])) h.2
    by_cases g : leA x y = true
    · have e : insA (y :: l) x = y :: insA l x := by unfold insA; rw [List.takeWhile_cons_of_pos g, List.dropWhile_cons_of_pos g]; rfl
      rw [e]
      unfold SortA
      rw [List.pairwise_cons]
      refine ⟨fun z hz => ?_, ih⟩
      rcases List.mem_cons.mp ((insA_perm l x).subset hz) with rfl | hz
      · exact (leA_iff hx y0).mp g
      · exact h.1 z hz
    · have e : insA (y :: l) x = x :: y :: l := by unfold insA; rw [List.takeWhile_cons_of_neg g, List.dropWhile_cons_of_neg g]; rfl
      have lt : rv x.1 < rv y.1 := Rat.not_le.mp fun k => g ((leA_iff hx y0).mpr k)
      rw [e]
      unfold SortA
      rw [List.pairwise_cons, List.pairwise_cons]
      refine ⟨fun z hz => ?_, h⟩
      rcases List.mem_cons.mp hz with rfl | hz
      · grind
      · have := h.1 z hz; grind
theorem foldl_insA_sorted : ∀ {xs l : List Pr}, (∀ y ∈ xs, 0 < y.1.2) → (∀ y ∈ l, 0 < y.1.2) → SortA l → SortA (xs.foldl insA l)
  | [], l, _, _, h => h
  | x :: xs, l, hx, hl, h => by
    rw [List.foldl_cons]
    have x0 := hx x (by simp)
    refine foldl_insA_sorted (fun y hy => hx y (by simp [hy])) (fun y hy => ?_) (insA_sorted x0 hl h)
    rcases List.mem_cons.mp ((insA_perm l x).subset hy) with rfl | hy
    · exact x0
    · exact hl y hy
theorem insA_cut (l : List Pr) (x : Pr) : l.take (l.takeWhile (leA x)).length ++ [x] ++ l.drop (l.takeWhile (leA x)).length = insA l x := by
  obtain ⟨h1, h2, _⟩ := tw_split (leA x) l
  unfold insA
  rw [← h1, ← h2]
theorem foldA_len (xs l : List Pr) : (xs.foldl insA l).length = xs.length + l.length := by rw [(foldl_insA_perm xs l).length_eq, List.length_append]
def minF (a b : Rt) : Rt := (a.1 * b.2 - b.1 * a.2, a.2 * b.2)
theorem rv_minF {a b : Rt} (ha : 0 < a.2) (hb : 0 < b.2) : rv (minF a b) = rv a - rv b := by
  have a' : (a.2 : Rat) ≠ 0 := by exact_mod_cast (show a.2 ≠ 0 by omega)
  have b' : (b.2 : Rat) ≠ 0 := by exact_mod_cast (show b.2 ≠ 0 by omega)
  show ((a.1 * b.2 - b.1 * a.2 : Int) : Rat) / ((a.2 * b.2 : Int) : Rat) = _
  rw [rv_def, rv_def, Rat.intCast_sub, Rat.intCast_mul, Rat.intCast_mul, Rat.intCast_mul]
  grind
/-- the law's last question: three pairs of an offer and its worth -/
def upP (c : Co) (ps : List Pr) : Prop := ps.length = 3 ∧ ∀ x ∈ ps, Offr x.1 ∧ x.2 = bwF c x.1
theorem up_ok {c : Co} (ok : COk c) {ps : List Pr} (h : upP c ps) : ∃ x y z, ascF ps = [x, y, z] ∧ upP c [x, y, z] ∧
    (minF y.2 x.2).1 * (minF z.1 y.1).1 * (minF z.2 y.2).2 * (minF y.1 x.1).2 ≤ (minF z.2 y.2).1 * (minF y.1 x.1).1 * (minF y.2 x.2).2 * (minF z.1 y.1).2 := by
  obtain ⟨h3, hm⟩ := h
  have p := foldl_insA_perm ps []
  rw [List.append_nil] at p
  have pos : ∀ y ∈ ps, 0 < y.1.2 := fun y hy => by have := (hm y hy).1.2.1; omega
  have s := foldl_insA_sorted (l := []) pos (fun y hy => by simp at hy) (by unfold SortA; simp)
  have l3 : (ascF ps).length = 3 := by unfold ascF; rw [p.length_eq, h3]
  show ∃ x y z, ascF ps = [x, y, z] ∧ _
  have p' : (ascF ps).Perm ps := p
  have s' : SortA (ascF ps) := s
  clear p s
  match e : ascF ps, l3 with
  | [x, y, z], _ =>
    rw [e] at p' s'
    have mm : ∀ u ∈ [x, y, z], Offr u.1 ∧ u.2 = bwF c u.1 := fun u hu => hm u (p'.subset hu)
    refine ⟨x, y, z, rfl, ⟨rfl, mm⟩, ?_⟩
    obtain ⟨x1, x2⟩ := mm x (by simp)
    obtain ⟨y1, y2⟩ := mm y (by simp)
    obtain ⟨z1, z2⟩ := mm z (by simp)
    unfold SortA at s'
    simp at s'
    have x0 : 0 < x.1.2 := by have := x1.2.1; omega
    have y0 : 0 < y.1.2 := by have := y1.2.1; omega
    have z0 : 0 < z.1.2 := by have := z1.2.1; omega
    have B := bends ok y1 rfl s'.1.1 s'.2
    have wx := bw_ok ok x0
    have wy := bw_ok ok y0
    have wz := bw_ok ok z0
    rw [← x2] at wx
    rw [← y2] at wy
    rw [← z2] at wz
    have vx : 0 < x.2.2 := by have := (isR_iff.mp wx.1).1; omega
    have vy : 0 < y.2.2 := by have := (isR_iff.mp wy.1).1; omega
    have vz : 0 < z.2.2 := by have := (isR_iff.mp wz.1).1; omega
    rw [← wx.2, ← wy.2, ← wz.2, ← rv_minF vy vx, ← rv_minF z0 y0, ← rv_minF vz vy, ← rv_minF y0 x0] at B
    have q1 : 0 < (minF y.2 x.2).2 := Int.mul_pos vy vx
    have q2 : 0 < (minF z.1 y.1).2 := Int.mul_pos z0 y0
    have q3 : 0 < (minF z.2 y.2).2 := Int.mul_pos vz vy
    have q4 : 0 < (minF y.1 x.1).2 := Int.mul_pos y0 x0
    generalize minF y.2 x.2 = a at B q1 ⊢
    generalize minF z.1 y.1 = b at B q2 ⊢
    generalize minF z.2 y.2 = d at B q3 ⊢
    generalize minF y.1 x.1 = g at B q4 ⊢
    have r : ∀ {s t : Rt}, rv s * rv t = rv (s.1 * t.1, s.2 * t.2) := fun {s t} => by
      rw [rv_def, rv_def, rv_def, Rat.intCast_mul, Rat.intCast_mul]
      grind
    rw [r, r, rv_le (Int.mul_pos q1 q2) (Int.mul_pos q3 q4)] at B
    have e1 : a.1 * b.1 * d.2 * g.2 = a.1 * b.1 * (d.2 * g.2) := Int.mul_assoc _ _ _
    have e2 : d.1 * g.1 * a.2 * b.2 = d.1 * g.1 * (a.2 * b.2) := Int.mul_assoc _ _ _
    rw [e1, e2]
    exact B
theorem fal_pos {c : Co} (ok : COk c) : (falF (certF c.1 c.2)).filter (fun t => decide (0 < t.1)) = posL c := by
  rw [fal_eq ok]; rfl
theorem fw_pos {c : Co} (ok : COk c) {d o : Rt} (ho : Offr o) : fwF d o (abvL (posL c) o) = fwF d o (abvL (falF (certF c.1 c.2)) o) := by
  rw [abv_pos ok ho, fal_eq ok]; rfl
theorem pos_flok {c : Co} (ok : COk c) : FlOk (posL c) := ⟨by have := posL_60 ok; omega, fun x hx => by
  obtain ⟨a, b, d⟩ := (pos_cfl ok).den x hx
  exact ⟨a, b, d⟩⟩
theorem lastD_at {acc : List Rt} (h : acc ≠ []) : atI acc ((acc.length : Int) - 1) = some (lastD acc) := by
  obtain ⟨l, x, rfl⟩ : ∃ l x, acc = l ++ [x] := ⟨acc.dropLast, acc.getLast h, (List.dropLast_concat_getLast h).symm⟩
  rw [lastD_snoc, List.length_append]
  have e : (((l.length + [x].length : Nat) : Int) - 1) = (l.length : Int) := by simp
  rw [e]
  exact atI_nat (by simp)
end Tm

namespace Tm
open PySem L2 Tp
/-! ### which first steps are best -/
theorem dsum_nn {q : Rat} (q0 : 0 < q) {f : Nat → Nat → Rat} (hf : ∀ j i, 0 ≤ f j i) (pl : Pl) (s : Nat) : 0 ≤ dsum q f pl s := sR_nn fun t _ => by
  rcases trm_cases (pl := pl) t with ⟨x, e⟩ | z
  · rw [trm_some e]
    exact Rat.mul_nonneg (Rat.le_of_lt (qpow_pos q0 t)) (hf _ _)
  · rw [z]; exact Rat.le_refl
theorem qpow_one {q : Rat} (q0 : 0 < q) (q1 : q ≤ 1) (t : Nat) : q ^ t ≤ 1 := by
  have := qpow_le q0 q1 (Nat.zero_le t)
  rwa [Rat.pow_zero] at this
theorem dsum_small {q : Rat} (q0 : 0 < q) (q1 : q ≤ 1) {f : Nat → Nat → Rat} {e : Rat} (e0 : 0 ≤ e) (hf : ∀ j i, 0 ≤ f j i ∧ f j i ≤ e) (pl : Pl) : ∀ s : Nat, dsum q f pl s ≤ (s : Rat) * e
  | 0 => by show (0 : Rat) ≤ ((0 : Nat) : Rat) * e; simp
  | s + 1 => by
    have ih := dsum_small q0 q1 e0 hf pl s
    show dsum q f pl s + trm q f pl s ≤ _
    have t : trm q f pl s ≤ e := by
      rcases trm_cases (pl := pl) s with ⟨x, e'⟩ | z
      · rw [trm_some e']
        obtain ⟨a, b⟩ := hf x.toNat (cs pl s x.toNat)
        have m := Rat.mul_le_mul_of_nonneg_right (qpow_one q0 q1 s) a
        grind
      · rw [z]; exact e0
    have c : ((s + 1 : Nat) : Rat) = (s : Rat) + 1 := by exact_mod_cast rfl
    rw [c]
    grind
theorem one_play {q : Rat} (q0 : 0 < q) (q1 : q ≤ 1) {D : Nat → Nat → Rat} {k : Nat} {δ : Rat} (d0 : 0 ≤ δ) (hD : ∀ j i, D j i = if j = k ∧ i = 0 then δ else 0) {pl : Pl} {n : Nat} {len : Nat → Nat} (vl : VL n len pl) (hne : pl[0]? ≠ some (some (k : Int))) :
    ∀ s : Nat, (cs pl s k = 0 → dsum q D pl s = 0) ∧ dsum q D pl s ≤ q * δ
  | 0 => ⟨fun _ => rfl, by show (0 : Rat) ≤ q * δ; exact Rat.mul_nonneg (Rat.le_of_lt q0) d0⟩
  | s + 1 => by
    obtain ⟨a, b⟩ := one_play q0 q1 d0 hD vl hne s
    have st : dsum q D pl (s + 1) = dsum q D pl s + trm q D pl s := rfl
    rw [st]
    rcases trm_cases (pl := pl) s with ⟨x, e⟩ | z
    · obtain ⟨x0, _, _⟩ := vl s x e
      have cc := cs_some e x0 k
      rw [trm_some e, hD]
      by_cases h : x.toNat = k ∧ cs pl s x.toNat = 0
      · rw [if_pos h]
        have c0 : cs pl s k = 0 := by rw [← h.1]; exact h.2
        rw [a c0]
        rw [if_pos h.1.symm] at cc
        refine ⟨fun w => by omega, ?_⟩
        have s0 : 1 ≤ s := by
          refine Nat.pos_of_ne_zero fun w => ?_
          subst w
          refine hne ?_
          rw [e, ← h.1]
          congr 2; omega
        have p := qpow_le q0 q1 s0
        have p1 : q ^ 1 = q := by rw [qpow_succ, Rat.pow_zero]; grind
        rw [p1] at p
        have := Rat.mul_le_mul_of_nonneg_right p d0
        grind
      · rw [if_neg h]
        refine ⟨fun w => ?_, by grind⟩
        rw [a (by omega)]; grind
    · rw [z]
      refine ⟨fun w => ?_, by grind⟩
      have : cs pl s k ≤ cs pl (s + 1) k := by
        unfold cs cntP
        exact List.Sublist.count_le _ (List.take_sublist_take_left (Nat.le_succ s))
      rw [a (by omega)]; grind
section
variable {css : Chs} {k : Nat} {p : Nat → Bool} {x : Int × Int}
def upC (css : Chs) (k : Nat) (p : Nat → Bool) (x : Int × Int) : Chs := css.set k ((List.range (lenC css k)).map fun i => if p i then x else chC css k i)
theorem up_len : (upC css k p x).length = css.length := List.length_set
theorem rcl_up (hk : k < css.length) (j : Nat) : rcl (upC css k p x) j = if j = k then (List.range (lenC css k)).map (fun i => if p i then x else chC css k i) else rcl css j := by
  unfold rcl upC
  by_cases z : j = k
  · subst z; rw [if_pos rfl, List.getD_eq_getElem?_getD, List.getElem?_set_self hk]; rfl
  · rw [if_neg z, List.getD_eq_getElem?_getD, List.getElem?_set_ne (Ne.symm z), ← List.getD_eq_getElem?_getD]
theorem up_lenC (hk : k < css.length) (j : Nat) : lenC (upC css k p x) j = lenC css j := by
  show (rcl (upC css k p x) j).length = _
  rw [rcl_up hk]
  by_cases z : j = k
  · subst z; rw [if_pos rfl, List.length_map, List.length_range]
  · rw [if_neg z]; rfl
theorem up_ch (hk : k < css.length) (j i : Nat) : chC (upC css k p x) j i = if j = k ∧ i < lenC css k ∧ p i = true then x else chC css j i := by
  unfold chC
  rw [rcl_up hk]
  by_cases z : j = k
  · subst z
    rw [if_pos rfl]
    by_cases hi : i < lenC css j
    · have e : ((List.range (lenC css j)).map fun i => if p i then x else chC css j i)[i]? = some (if p i then x else chC css j i) := by
        rw [List.getElem?_map, List.getElem?_range hi]; rfl
      rw [rdc_of e]
      by_cases w : p i = true
      · rw [if_pos w, if_pos ⟨rfl, hi, w⟩]
      · rw [if_neg w, if_neg (fun h => w h.2.2)]; rfl
    · rw [if_neg (fun h => hi h.2.1)]
      unfold rdc
      rw [List.getD_eq_getElem?_getD, List.getElem?_eq_none (by rw [List.length_map, List.length_range]; omega), List.getD_eq_getElem?_getD, List.getElem?_eq_none (by show (rcl css j).length ≤ i; have : (rcl css j).length = lenC css j := rfl; omega)]
  · rw [if_neg z, if_neg (fun h => z h.1)]
theorem up_den (hk : k < css.length) (hx : 0 < x.2) (hd : ∀ j i, 0 < (chC css j i).2) (j i : Nat) : 0 < (chC (upC css k p x) j i).2 := by
  rw [up_ch hk]; split
  · exact hx
  · exact hd j i
theorem up_fal (hk : k < css.length) (hf : Fal css) (h : ∀ i, i + 1 < lenC css k → (p (i + 1) = true → p i = true) ∧ (p i = true → rv (chC css k i) ≤ rv x)) : Fal (upC css k p x) := fun j i hj hi => by
  rw [up_len] at hj
  rw [up_lenC hk] at hi
  have o := hf j i hj hi
  rw [up_ch hk, up_ch hk]
  by_cases z : j = k
  · subst z
    obtain ⟨a, b⟩ := h i hi
    by_cases w : p (i + 1) = true
    · rw [if_pos ⟨rfl, hi, w⟩, if_pos ⟨rfl, by omega, a w⟩]; exact Rat.le_refl
    · rw [if_neg (fun y => w y.2.2)]
      by_cases u : p i = true
      · rw [if_pos ⟨rfl, by omega, u⟩]
        have := b u
        grind
      · rw [if_neg (fun y => u y.2.2)]; exact o
  · rw [if_neg (fun y => z y.1), if_neg (fun y => z y.1)]; exact o
theorem up_tot (hk : k < css.length) : totC (upC css k p x) = totC css := by
  unfold totC upC
  rw [List.map_set]
  congr 1
  rw [List.length_map, List.length_range]
  have e : lenC css k = (css.map List.length)[k]'(by rw [List.length_map]; exact hk) := by
    rw [List.getElem_map]
    unfold lenC rcl
    rw [List.getD_eq_getElem?_getD, List.getElem?_eq_getElem hk]; rfl
  rw [e]
  exact List.set_getElem_self _
theorem fal_head (hf : Fal css) (hk : k < css.length) : ∀ i, i < lenC css k → rv (chC css k i) ≤ rv (chC css k 0)
  | 0, _ => Rat.le_refl
  | i + 1, h => Rat.le_trans (hf k i hk h) (fal_head hf hk i (by omega))
end
theorem worth_zero (d : Int × Int) (ps : List (List Int)) (pl : Pl) : worthR d ps pl 0 = dsum (rv d) (fun j i => rwd ps j i - 0) pl pl.length := by
  unfold worthR
  rw [Rat.div_def]; grind
theorem best_zero (c : Co) : bestR c 0 = fallW (rv c.1) (mgC c) 0 := by
  unfold bestR
  rw [Rat.div_def]; grind
/-- a project whose first charge is not the greatest is no best first step -/
theorem first_lt {c : Co} (ok : COk c) {k : Nat} (hk : k < c.2.length) (h0 : 0 < (rdp c.2 k).length) {V : Rat}
    (hV : (∃ j, j < c.2.length ∧ 0 < (rdp c.2 j).length ∧ V = rv (chC (certF c.1 c.2) j 0)) ∨ V = 0) (hlt : rv (chC (certF c.1 c.2) k 0) < V) : fsR c k < bestR c 0 := by
  have w := cert_own ok.d.1 ok.p
  have z := ok.d.1.q
  have q0 := z.1
  have q1 := Rat.le_of_lt z.2
  have CM := cert_mrg ok
  have vlOf : ∀ {pl : Pl}, VP c.2 pl → VL (certF c.1 c.2).length (lenC (certF c.1 c.2)) pl := fun vp => (cert_vl ok).mpr vp
  have pv := fs_plan ok k
  have vp := vp_cons hk h0 (bpF_ok (rem_ok ok [some (k : Int)]) zero_offr).1
  rw [best_zero]
  have wl := w.len
  have wls := w.lens
  have fal := w.fal
  have nn := w.nn
  have den := w.den
  have TS := TC_succ c.1 c.2 (certF c.1 c.2)
  have TZ := TC_zero c.1 c.2 (certF c.1 c.2)
  generalize TC c.1 c.2 (certF c.1 c.2) = T at nn TS TZ
  clear w
  generalize certF c.1 c.2 = css at *
  have hk' : k < css.length := by omega
  have hl : 0 < lenC css k := by rw [wls]; exact h0
  obtain ⟨X, hX1, hX2⟩ : ∃ X : Rat, rv (chC css k 0) < X ∧ X < V := ⟨(rv (chC css k 0) + V) / 2, by grind, by grind⟩
  have xv := rv_ratOf X
  have xd : 0 < (ratOf X).2 := by unfold ratOf; have := X.den_pos; show (0 : Int) < (X.den : Int); omega
  generalize ratOf X = x at xv xd
  have H := mg_full (css := upC css k (fun i => i == 0) x) (up_den hk' xd den)
  generalize mgF (upC css k (fun i => i == 0) x) (totC (upC css k (fun i => i == 0) x)) = m at H
  have falU : Fal (upC css k (fun i => i == 0) x) := up_fal hk' fal fun i hi => ⟨fun e => by simp at e, fun e => by
    have : i = 0 := by simpa using e
    subst this; rw [xv]; exact Rat.le_of_lt hX1⟩
  have cU : ∀ j i, chC (upC css k (fun i => i == 0) x) j i = if j = k ∧ i = 0 then x else chC css j i := fun j i => by
    rw [up_ch hk']
    by_cases h : j = k ∧ i = 0
    · rw [if_pos h, if_pos ⟨h.1, by omega, by simp [h.2]⟩]
    · rw [if_neg h, if_neg fun y => h ⟨y.1, by simpa using y.2.2⟩]
  obtain ⟨δ, hδ⟩ : ∃ δ, δ = X - rv (chC css k 0) := ⟨_, rfl⟩
  have d0 : 0 < δ := by grind
  obtain ⟨D, hDD⟩ : ∃ D : Nat → Nat → Rat, D = fun j i => if j = k ∧ i = 0 then δ else 0 := ⟨_, rfl⟩
  have hD : ∀ j i, D j i = if j = k ∧ i = 0 then δ else 0 := fun j i => by rw [hDD]
  have rU : ∀ j i, rv (chC (upC css k (fun i => i == 0) x) j i) = rv (chC css j i) + D j i := fun j i => by
    rw [cU, hD]
    by_cases h : j = k ∧ i = 0
    · rw [if_pos h, if_pos h, xv, hδ, h.1, h.2]; grind
    · rw [if_neg h, if_neg h]; grind
  have Dn : ∀ j i, 0 ≤ D j i := fun j i => by rw [hD]; split <;> grind
  -- the plan that begins with k, its first reward raised
  have A := best_most q0 q1 H falU (T := T) (r := fun j i => rwd c.2 j i + D j i) TZ (fun j i => by rw [TS, rU]; grind) (fun j i hj hi => nn j i (by rwa [up_len] at hj) (by rwa [up_lenC hk'] at hi))
    (pl := some (k : Int) :: (bpF (remC c [some (k : Int)]) (0, 1)).map some) (by rw [up_len]; exact (vlOf vp).of fun j => (up_lenC hk' j).symm) 0 (some (k : Int) :: (bpF (remC c [some (k : Int)]) (0, 1)).map some).length
  rw [worth_zero] at pv
  generalize (bpF (remC c [some (k : Int)]) (0, 1)).map some = pl at A pv
  have eA : (fun j i => rwd c.2 j i + D j i - 0) = fun j i => (rwd c.2 j i - 0) + D j i := by funext j i; grind
  rw [eA, dsum_add (fun j i => rwd c.2 j i - 0) D, pv] at A
  have first : δ ≤ dsum (rv c.1) D (some (k : Int) :: pl) (some (k : Int) :: pl).length := by
    rw [List.length_cons, dsum_cons]
    have e : D k 0 = δ := by rw [hD, if_pos ⟨rfl, rfl⟩]
    have n := Rat.mul_nonneg (Rat.le_of_lt q0) (dsum_nn q0 (f := fun j i => D j (i + if j = k then 1 else 0)) (fun j i => Dn _ _) pl pl.length)
    rw [e]; grind
  -- the best order of the raised charges
  have B := dsum_mpl H.toMrg0 (rv c.1) (fun x => x - 0) (cutK_le m 0)
  have eB : (fun j i => rv (chC (upC css k (fun i => i == 0) x) j i) - 0) = fun j i => (rv (chC css j i) - 0) + D j i := by funext j i; rw [rU]; grind
  have eF : fallW (rv c.1) m 0 = sR (fun k => rv c.1 ^ k * (rv (gM m k) - 0)) (cutK m 0) := rfl
  rw [← eF, eB, dsum_add (fun j i => rv (chC css j i) - 0) D] at B
  have vlm : VL css.length (lenC css) (mpl m) := by
    have := H.vl
    rw [up_len] at this
    exact this.of fun j => up_lenC hk' j
  have C := no_plan_more q0 q1 CM fal vlm 0 (cutK m 0)
  have E : dsum (rv c.1) D (mpl m) (cutK m 0) ≤ rv c.1 * δ := by
    by_cases N : cutK m 0 = 0
    · rw [N]
      show (0 : Rat) ≤ _
      exact Rat.mul_nonneg (Rat.le_of_lt q0) (Rat.le_of_lt d0)
    · refine (one_play q0 q1 (Rat.le_of_lt d0) hD vlm (fun hne => ?_) _).2
      obtain ⟨y, g, e1, e2⟩ := mpl_of hne
      cases e1
      have ml : 0 < m.length := by have := cutK_le m 0; omega
      have g0 := H.ch 0 (k : Int) g e2
      rw [Int.toNat_natCast, cs_zero, cU, if_pos ⟨rfl, rfl⟩] at g0
      have gm : gM m 0 = g := by unfold gM; rw [List.getD_eq_getElem?_getD, e2]; rfl
      have pos := (H.cut_lt falU 0 ml).mp (by omega)
      rw [gm, g0, xv] at pos
      rcases hV with ⟨j, hj, hj0, rfl⟩ | rfl
      · have jk : j ≠ k := fun e => by rw [e] at hlt; grind
        have t := (H.top 0 (k : Int) g e2 j (by rw [up_len]; omega) (by rw [cs_zero, up_lenC hk', wls]; exact hj0)).1
        rw [cs_zero, cU, if_neg (fun y => jk y.1), g0, xv] at t
        grind
      · grind
  have s1 : rv c.1 * δ < δ := by
    have := Rat.mul_lt_mul_of_pos_right z.2 d0
    grind
  grind
/-- a project whose first charge is the greatest, and not below 0, is a best first step -/
theorem first_ge {c : Co} (ok : COk c) {k : Nat} (hk : k < c.2.length) (h0 : 0 < (rdp c.2 k).length)
    (hp : 0 ≤ rv (chC (certF c.1 c.2) k 0)) (hmax : ∀ j, j < c.2.length → 0 < (rdp c.2 j).length → rv (chC (certF c.1 c.2) j 0) ≤ rv (chC (certF c.1 c.2) k 0)) : bestR c 0 ≤ fsR c k := by
  refine Classical.byContradiction fun no => ?_
  have gap : fsR c k < bestR c 0 := Rat.not_le.mp no
  clear no
  have w := cert_own ok.d.1 ok.p
  have z := ok.d.1.q
  have q0 := z.1
  have q1 := Rat.le_of_lt z.2
  have CM := cert_mrg ok
  have CV : ∀ {pl : Pl}, VL (certF c.1 c.2).length (lenC (certF c.1 c.2)) pl → VP c.2 pl := fun vl => (cert_vl ok).mp vl
  have FM : ∀ {pl : Pl}, VP c.2 (some (k : Int) :: pl) → worthR c.1 c.2 (some (k : Int) :: pl) 0 ≤ fsR c k := fun vp => fs_most ok vp
  have t60 : totC (certF c.1 c.2) ≤ 60 := by rw [totC_cert ok.d.1 ok.p]; exact ok.p.2.1
  rw [best_zero] at gap
  have wl := w.len
  have wls := w.lens
  have fal := w.fal
  have den := w.den
  have TS := TC_succ c.1 c.2 (certF c.1 c.2)
  have TZ := TC_zero c.1 c.2 (certF c.1 c.2)
  have tight := w.tight
  generalize TC c.1 c.2 (certF c.1 c.2) = T at tight TS TZ
  clear w
  generalize certF c.1 c.2 = css at *
  have hk' : k < css.length := by omega
  have hl : 0 < lenC css k := by rw [wls]; exact h0
  have FH := fal_head fal hk'
  obtain ⟨v, hv⟩ : ∃ v, v = rv (chC css k 0) := ⟨_, rfl⟩
  rw [← hv] at hp hmax FH
  obtain ⟨ε, e0, e1⟩ : ∃ ε : Rat, 0 < ε ∧ 60 * ε < fallW (rv c.1) (mgC c) 0 - fsR c k := ⟨(fallW (rv c.1) (mgC c) 0 - fsR c k) / 100, by grind, by grind⟩
  have xv := rv_ratOf (v + ε)
  have xd : 0 < (ratOf (v + ε)).2 := by unfold ratOf; have := (v + ε).den_pos; show (0 : Int) < ((v + ε).den : Int); omega
  generalize ratOf (v + ε) = x at xv xd
  obtain ⟨p, hpp⟩ : ∃ p : Nat → Bool, p = fun i => decide (v ≤ rv (chC css k i)) := ⟨_, rfl⟩
  have pI : ∀ i, p i = true ↔ v ≤ rv (chC css k i) := fun i => by rw [hpp]; simp
  have p0 : p 0 = true := (pI 0).mpr (by rw [hv]; exact Rat.le_refl)
  have stp : ∀ i, i + 1 < lenC css k → p (i + 1) = true → p i = true := fun i hi h => (pI i).mpr (by have := (pI _).mp h; have := fal k i hk' hi; grind)
  have tot := up_tot (css := css) (p := p) (x := x) hk'
  have H := mg_full (css := upC css k p x) (up_den hk' xd den)
  have ml : (mgF (upC css k p x) (totC (upC css k p x))).length ≤ 60 := by rw [mgF_len, tot]; exact t60
  generalize mgF (upC css k p x) (totC (upC css k p x)) = m at H ml
  have falU : Fal (upC css k p x) := up_fal hk' fal fun i hi => ⟨stp i hi, fun e => by rw [xv]; have := FH i (by omega); grind⟩
  have cU := up_ch (css := css) (p := p) (x := x) hk'
  obtain ⟨D, hDD⟩ : ∃ D : Nat → Nat → Rat, D = fun j i => rv (chC (upC css k p x) j i) - rv (chC css j i) := ⟨_, rfl⟩
  have hD : ∀ j i, D j i = rv (chC (upC css k p x) j i) - rv (chC css j i) := fun j i => by rw [hDD]
  have DB : ∀ j i, 0 ≤ D j i ∧ D j i ≤ ε := fun j i => by
    rw [hD, cU]
    by_cases h : j = k ∧ i < lenC css k ∧ p i = true
    · rw [if_pos h, xv, h.1]
      have a := (pI i).mp h.2.2
      have b := FH i h.2.1
      grind
    · rw [if_neg h]; grind
  have ti : Tight (upC css k p x) T := fun j i hj hi h => by
    rw [up_len] at hj
    rw [up_lenC hk'] at hi
    refine tight j i hj hi fun i0 il => ?_
    have o := h i0 (by rw [up_lenC hk']; exact il)
    rw [cU, cU] at o
    by_cases e : j = k
    · subst e
      have s := stp (i - 1) (by omega)
      rw [show i - 1 + 1 = i by omega] at s
      by_cases a : p i = true
      · rw [if_pos ⟨rfl, il, a⟩, if_pos ⟨rfl, by omega, s a⟩] at o; grind
      · rw [if_neg (fun y => a y.2.2)] at o
        by_cases b : p (i - 1) = true
        · have b' := (pI _).mp b
          have a' : ¬ v ≤ rv (chC css j i) := fun y => a ((pI _).mpr y)
          grind
        · rwa [if_neg (fun y => b y.2.2)] at o
    · rwa [if_neg (fun y => e y.1), if_neg (fun y => e y.1)] at o
  have A := best_is H falU (q := rv c.1) (T := T) (r := fun j i => rwd c.2 j i + D j i) TZ (fun j i => by rw [TS, hD]; grind) ti 0
  have eA : (fun j i => rwd c.2 j i + D j i - 0) = fun j i => (rwd c.2 j i - 0) + D j i := by funext j i; grind
  rw [eA, dsum_add (fun j i => rwd c.2 j i - 0) D] at A
  -- the old best order under the raised charges
  have vl0 := CM.vl
  have B := no_plan_more q0 q1 H falU (pl := mpl (mgC c)) (by rw [up_len]; exact vl0.of fun j => (up_lenC hk' j).symm) 0 (cutK (mgC c) 0)
  have B1 := dsum_le (f := fun j i => rv (chC css j i) - 0) (g := fun j i => rv (chC (upC css k p x) j i) - 0) q0 vl0 (fun j i _ _ => by have := (DB j i).1; rw [hD] at this; grind) (cutK (mgC c) 0)
  have B2 := dsum_mpl CM.toMrg0 (rv c.1) (fun x => x - 0) (cutK_le (mgC c) 0)
  have eF : fallW (rv c.1) (mgC c) 0 = sR (fun k => rv c.1 ^ k * (rv (gM (mgC c) k) - 0)) (cutK (mgC c) 0) := rfl
  rw [← eF] at B2
  -- it begins with k
  have full := H.full k (by rw [up_len]; exact hk')
  rw [up_lenC hk'] at full
  have m0 : 0 < m.length := by
    refine Nat.pos_of_ne_zero fun e => ?_
    rw [e, cs_zero] at full; omega
  obtain ⟨y, hy, ey⟩ := m_at m0
  obtain ⟨y0, y1, y2⟩ := H.vl 0 y (mpl_at hy)
  have g0 := H.ch 0 y _ hy
  have top := (H.top 0 y _ hy k (by rw [up_len]; exact hk') (by rw [cs_zero, up_lenC hk']; exact hl)).1
  rw [cs_zero] at g0 top y2
  rw [up_lenC hk', wls] at y2
  rw [up_len] at y1
  rw [cU, if_pos ⟨rfl, hl, p0⟩, xv] at top
  have yk : y.toNat = k := by
    refine Classical.byContradiction fun ne => ?_
    rw [cU, if_neg (fun h => ne h.1)] at g0
    have := hmax y.toNat (by omega) y2
    rw [g0] at top
    grind
  have yk' : y = (k : Int) := by omega
  have N0 := (H.cut_lt falU 0 m0).mpr (by grind)
  have N1 := cutK_le m 0
  have vpm : VP c.2 ((mpl m).take (cutK m 0)) := CV (by
    have := H.vl.take (cutK m 0)
    rw [up_len] at this
    exact this.of fun j => up_lenC hk' j)
  have ln : ((mpl m).take (cutK m 0)).length = cutK m 0 := by rw [List.length_take, mpl_len]; omega
  have W := worth_zero c.1 c.2 ((mpl m).take (cutK m 0))
  rw [ln, dsum_take _ _ _ (Nat.le_refl _)] at W
  have S := dsum_small q0 q1 (Rat.le_of_lt e0) DB (mpl m) (cutK m 0)
  have c60 : ((cutK m 0 : Nat) : Rat) ≤ 60 := by exact_mod_cast (show cutK m 0 ≤ 60 by omega)
  have S2 := Rat.mul_le_mul_of_nonneg_right c60 (Rat.le_of_lt e0)
  obtain ⟨t, ht⟩ : ∃ t, (mpl m).take (cutK m 0) = some (k : Int) :: t := by
    have e := mpl_at hy
    rw [yk'] at e
    cases hm : (mpl m).take (cutK m 0) with
    | nil => rw [hm] at ln; simp at ln; omega
    | cons a t =>
      have : ((mpl m).take (cutK m 0))[0]? = some (some (k : Int)) := by rw [List.getElem?_take, if_pos N0]; exact e
      rw [hm] at this
      simp at this
      exact ⟨t, by rw [this]⟩
  rw [ht] at vpm W
  have F := FM vpm
  rw [W] at F
  grind
end Tm

namespace Tm
open PySem L2 Tp
/-! ### the best first steps, told from the charges -/
def gsF (css : Chs) : Nat → Int × Int
  | 0 => (0, 1)
  | n + 1 => if 0 < lenC css n ∧ 0 < cmpR (chC css n 0) (gsF css n) then chC css n 0 else gsF css n
def grB (css : Chs) (k : Nat) : Nat → Bool
  | 0 => true
  | n + 1 => if 0 < lenC css n ∧ (chC css k 0).1 * (chC css n 0).2 < (chC css n 0).1 * (chC css k 0).2 then false else grB css k n
def fstB (css : Chs) (k : Nat) : Bool := decide (0 < lenC css k) && decide (0 ≤ (chC css k 0).1) && grB css k css.length
def dueN (css : Chs) (n : Nat) : List Int := ((List.range n).filter (fstB css)).map fun k : Nat => (k : Int)
def dueF (css : Chs) : List Int := dueN css css.length
/-- lists of charges in lowest terms -/
structure Chk (css : Chs) : Prop where
  den : ∀ j k, 0 < (chC css j k).2
  isr : ∀ j k, isR (chC css j k) = true
  bd : ∀ j k, Bd 700 (chC css j k).1 ∧ Bd 700 (chC css j k).2
  len : css.length ≤ 10
theorem cert_chk {c : Co} (ok : COk c) : Chk (certF c.1 c.2) := by
  have w := cert_own ok.d.1 ok.p
  exact ⟨w.den, w.isr, w.bd, by rw [w.len]; exact ok.p.1⟩
theorem dueN_succ (css : Chs) (n : Nat) : dueN css (n + 1) = if fstB css n = true then dueN css n ++ [(n : Int)] else dueN css n := by
  unfold dueN
  rw [List.range_succ, List.filter_append, List.map_append]
  by_cases h : fstB css n = true
  · rw [if_pos h, List.filter_cons_of_pos h]; rfl
  · rw [if_neg h, List.filter_cons_of_neg h]; simp
theorem dueN_len (css : Chs) (n : Nat) : (dueN css n).length ≤ n := by
  unfold dueN
  rw [List.length_map]
  have := List.length_filter_le (fstB css) (List.range n)
  rwa [List.length_range] at this
theorem due_mem {css : Chs} {k : Nat} (hk : k < css.length) : (k : Int) ∈ dueF css ↔ fstB css k = true := by
  unfold dueF dueN
  rw [List.mem_map]
  constructor
  · rintro ⟨a, ha, e⟩
    have : a = k := by omega
    rw [← this]
    exact (List.mem_filter.mp ha).2
  · intro h
    exact ⟨k, List.mem_filter.mpr ⟨List.mem_range.mpr hk, h⟩, rfl⟩
theorem rv_nn3 {t : Int × Int} (h : 0 < t.2) : 0 ≤ rv t ↔ 0 ≤ t.1 := by
  have := rv_le (s := (0, 1)) (t := t) (by decide) h
  rw [rv_zero1] at this
  rw [this]
  simp
theorem gr_iff {css : Chs} (h : Chk css) (k : Nat) : ∀ n, grB css k n = true ↔ ∀ j, j < n → 0 < lenC css j → rv (chC css j 0) ≤ rv (chC css k 0)
  | 0 => ⟨fun _ j hj => absurd hj (Nat.not_lt_zero _), fun _ => rfl⟩
  | n + 1 => by
    have ih := gr_iff h k n
    have lt := rv_lt (h.den k 0) (h.den n 0)
    show (if 0 < lenC css n ∧ (chC css k 0).1 * (chC css n 0).2 < (chC css n 0).1 * (chC css k 0).2 then false else grB css k n) = true ↔ _
    by_cases z : 0 < lenC css n ∧ (chC css k 0).1 * (chC css n 0).2 < (chC css n 0).1 * (chC css k 0).2
    · rw [if_pos z]
      refine ⟨fun e => (nomatch e), fun H => ?_⟩
      have a := H n (Nat.lt_succ_self n) z.1
      have b := lt.mpr z.2
      exact absurd a (Rat.not_le.mpr b)
    · rw [if_neg z, ih]
      constructor
      · intro H j hj hl
        by_cases e : j = n
        · subst e
          exact Rat.not_lt.mp fun y => z ⟨hl, lt.mp y⟩
        · exact H j (by omega) hl
      · exact fun H j hj => H j (by omega)
theorem fst_iff {css : Chs} (h : Chk css) (k : Nat) : fstB css k = true ↔ 0 < lenC css k ∧ 0 ≤ rv (chC css k 0) ∧ ∀ j, j < css.length → 0 < lenC css j → rv (chC css j 0) ≤ rv (chC css k 0) := by
  unfold fstB
  rw [Bool.and_eq_true, Bool.and_eq_true, decide_eq_true_eq, decide_eq_true_eq, gr_iff h, rv_nn3 (h.den k 0), and_assoc]
theorem gs_ok {css : Chs} (h : Chk css) : ∀ n, isR (gsF css n) = true ∧ (Bd 700 (gsF css n).1 ∧ Bd 700 (gsF css n).2) ∧ 0 ≤ rv (gsF css n) ∧ (∀ j, j < n → 0 < lenC css j → rv (chC css j 0) ≤ rv (gsF css n)) ∧ (gsF css n = (0, 1) ∨ ∃ j, j < n ∧ 0 < lenC css j ∧ gsF css n = chC css j 0)
  | 0 => ⟨by show isR (0, 1) = true; decide, ⟨Bd.zero, Bd.one (by decide)⟩, by show 0 ≤ rv (0, 1); rw [rv_zero1]; exact Rat.le_refl, fun j hj => absurd hj (Nat.not_lt_zero _), .inl rfl⟩
  | n + 1 => by
    obtain ⟨i1, i2, i3, i4, i5⟩ := gs_ok h n
    have ip := (isR_iff.mp i1).1
    have cp := cmpR_pos (h.den n 0) (b := gsF css n) (by omega)
    have e : gsF css (n + 1) = if 0 < lenC css n ∧ 0 < cmpR (chC css n 0) (gsF css n) then chC css n 0 else gsF css n := rfl
    rw [e]
    by_cases z : 0 < lenC css n ∧ 0 < cmpR (chC css n 0) (gsF css n)
    · rw [if_pos z]
      have l := cp.mp z.2
      refine ⟨h.isr n 0, h.bd n 0, by grind, fun j hj hl => ?_, .inr ⟨n, Nat.lt_succ_self n, z.1, rfl⟩⟩
      by_cases w : j = n
      · rw [w]; exact Rat.le_refl
      · have := i4 j (by omega) hl
        grind
    · rw [if_neg z]
      refine ⟨i1, i2, i3, fun j hj hl => ?_, ?_⟩
      · by_cases w : j = n
        · subst w
          exact Rat.not_lt.mp fun y => z ⟨hl, cp.mpr y⟩
        · exact i4 j (by omega) hl
      · rcases i5 with i5 | ⟨j, a, b, d⟩
        · exact .inl i5
        · exact .inr ⟨j, by omega, b, d⟩
theorem fst_gs {css : Chs} (h : Chk css) {k : Nat} (hk : k < css.length) : ((rcl css k).take 1 = [gsF css css.length]) ↔ fstB css k = true := by
  rw [fst_iff h]
  obtain ⟨i1, i2, i3, i4, i5⟩ := gs_ok h css.length
  have tk : (rcl css k).take 1 = [gsF css css.length] ↔ 0 < lenC css k ∧ chC css k 0 = gsF css css.length := by
    unfold lenC chC rdc
    cases rcl css k with
    | nil => simp
    | cons a l => simp
  rw [tk]
  constructor
  · rintro ⟨a, b⟩
    rw [b]
    exact ⟨a, i3, i4⟩
  · rintro ⟨a, b, d⟩
    refine ⟨a, rv_inj (h.isr k 0) i1 ?_⟩
    have u := i4 k hk a
    rcases i5 with e | ⟨j, hj, hl, e⟩
    · rw [e, rv_zero1] at u ⊢; grind
    · have := d j hj hl
      rw [e] at u ⊢; grind
/-- a first step earns the best worth just where its charge is the greatest -/
theorem fs_iff {c : Co} (ok : COk c) {k : Nat} (hk : k < c.2.length) (h0 : 0 < (rdp c.2 k).length) : fsF c k = bwF c (0, 1) ↔ fstB (certF c.1 c.2) k = true := by
  have w := cert_own ok.d.1 ok.p
  have b := bw_ok ok (o := (0, 1)) (by decide)
  rw [rv_zero1] at b
  have f := fs_ok ok k
  have le := fs_le ok hk h0
  have lens : ∀ j, lenC (certF c.1 c.2) j = (rdp c.2 j).length := w.lens
  rw [fst_iff (cert_chk ok), lens, w.len]
  constructor
  · intro e
    have eq : fsR c k = bestR c 0 := by rw [← f.2, ← b.2, e]
    refine ⟨h0, Rat.not_lt.mp fun y => ?_, fun j hj hl => Rat.not_lt.mp fun y => ?_⟩
    · have := first_lt ok hk h0 (V := 0) (.inr rfl) y
      grind
    · rw [lens] at hl
      have := first_lt ok hk h0 (.inl ⟨j, hj, hl, rfl⟩) y
      grind
  · rintro ⟨_, p, m⟩
    refine rv_inj f.1 b.1 ?_
    rw [f.2, b.2]
    have := first_ge ok hk h0 p fun j hj hl => m j hj (by rw [lens]; exact hl)
    grind
end Tm

namespace Tm
open PySem L2 Tp
/-! ### the first charge is the greatest average of the first rewards; the least bonus (for k56) -/
theorem ws_ratB {d : Int × Int} (h : Dis d) {n : Nat} (r : Nat → Int) : ∀ k, k ≤ n → ((ws d.1 d.2 n r k : Int) : Rat) = (d.2 : Rat) ^ (n - 1) * sR (fun t => rv d ^ t * (r t : Rat)) k
  | 0, _ => by show ((0 : Int) : Rat) = _ * (0 : Rat); grind
  | k + 1, hk => by
    have i := ws_ratB h (n := n) r k (by omega)
    have w := wt_rat h (n := n) (t := k) (by omega)
    rw [sR_succ]
    have e : ((ws d.1 d.2 n r (k + 1) : Int) : Rat) = (ws d.1 d.2 n r k : Rat) + (wt d.1 d.2 n k : Rat) * (r k : Rat) := by
      show ((ws d.1 d.2 n r k + wt d.1 d.2 n k * r k : Int) : Rat) = _
      rw [Rat.intCast_add, Rat.intCast_mul]
    rw [e, w, i]
    grind
/-- the first charge is at least each average, and is one of them -/
theorem crg_avg {d : Int × Int} (hd : Dis d) {rs : List Int} {cs : List (Int × Int)} (h : Crg d rs cs) :
    (∀ k, k ≤ rs.length → sR (fun t => rv d ^ t * (rdl rs t : Rat)) k ≤ rv (rdc cs 0) * sR (fun t => rv d ^ t) k)
    ∧ (0 < rs.length → ∃ k, 0 < k ∧ k ≤ rs.length ∧ sR (fun t => rv d ^ t * (rdl rs t : Rat)) k = rv (rdc cs 0) * sR (fun t => rv d ^ t) k) := by
  have q := hd.q
  have fal : ∀ i, i < rs.length → rv (rdc cs i) ≤ rv (rdc cs 0) := by
    intro i
    induction i with
    | zero => exact fun _ => Rat.le_refl
    | succ i ih => exact fun hi => Rat.le_trans (h.fal i hi) (ih (by omega))
  have split : ∀ k, tR d (rdl rs) (rdc cs) k = sR (fun t => rv d ^ t * rv (rdc cs t)) k - sR (fun t => rv d ^ t * (rdl rs t : Rat)) k := fun k => by
    unfold tR
    rw [← sR_sub]
    exact sR_congr fun t _ => by grind
  have scale : ∀ k, rv (rdc cs 0) * sR (fun t => rv d ^ t) k = sR (fun t => rv d ^ t * rv (rdc cs 0)) k := fun k => by
    rw [← sR_mul]
    exact sR_congr fun t _ => by grind
  constructor
  · intro k hk
    have a := h.nn k hk
    rw [split] at a
    rw [scale]
    have b : sR (fun t => rv d ^ t * rv (rdc cs t)) k ≤ sR (fun t => rv d ^ t * rv (rdc cs 0)) k := sR_le fun i hi => Rat.mul_le_mul_of_nonneg_left (fal i (by omega)) (Rat.le_of_lt (qpow_pos q.1 i))
    grind
  · intro hn
    -- the end of the first stretch
    have ex : ∀ m, m ≤ rs.length → 0 < m → ∃ k, 0 < k ∧ k ≤ m ∧ (∀ i, i < k → rv (rdc cs i) = rv (rdc cs 0)) ∧ (k < m → rv (rdc cs k) < rv (rdc cs 0)) := by
      intro m
      induction m with
      | zero => intro _ z; omega
      | succ m ih =>
        intro hm _
        by_cases m0 : m = 0
        · subst m0
          exact ⟨1, by omega, by omega, fun i hi => by rw [show i = 0 by omega], fun z => by omega⟩
        · obtain ⟨k, k0, k1, k2, k3⟩ := ih (by omega) (by omega)
          by_cases z : k < m
          · exact ⟨k, k0, by omega, k2, fun _ => k3 z⟩
          · have km : k = m := by omega
            subst km
            by_cases e : rv (rdc cs k) = rv (rdc cs 0)
            · exact ⟨k + 1, by omega, by omega, fun i hi => by
                by_cases y : i = k
                · rw [y]; exact e
                · exact k2 i (by omega), fun z => by omega⟩
            · refine ⟨k, k0, by omega, k2, fun _ => ?_⟩
              have := fal k (by omega)
              grind
    obtain ⟨k, k0, k1, k2, k3⟩ := ex rs.length (Nat.le_refl _) hn
    refine ⟨k, k0, k1, ?_⟩
    have t := h.tight k k1 fun _ hk => by rw [k2 (k - 1) (by omega)]; exact k3 hk
    rw [split] at t
    rw [scale]
    have b : sR (fun t => rv d ^ t * rv (rdc cs t)) k = sR (fun t => rv d ^ t * rv (rdc cs 0)) k := sR_congr fun i hi => by rw [k2 i hi]
    grind
/-- a bound is not above the first charge just where some sum reaches it -/
theorem crg_reach {d : Int × Int} (hd : Dis d) {rs : List Int} {cs : List (Int × Int)} (h : Crg d rs cs) (hn : 0 < rs.length) {B : Int × Int} (hB : 0 < B.2) :
    rv B ≤ rv (rdc cs 0) ↔ ∃ k, 0 < k ∧ k ≤ rs.length ∧ B.1 * ws d.1 d.2 rs.length one k ≤ B.2 * ws d.1 d.2 rs.length (rdl rs) k := by
  have q := hd.q
  obtain ⟨av, ae⟩ := crg_avg hd h
  have b := cast_pos (show 0 < d.2 by have := hd.1; have := hd.2.1; omega)
  have bp := qpow_pos b (rs.length - 1)
  have B2 := cast_pos hB
  have pos : ∀ k, 0 < k → 0 < sR (fun t => rv d ^ t) k := fun k hk => by
    obtain ⟨k, rfl⟩ : ∃ j, k = j + 1 := ⟨k - 1, by omega⟩
    rw [sR_succ]
    have := sR_nn (f := fun t => rv d ^ t) (n := k) fun i _ => Rat.le_of_lt (qpow_pos q.1 i)
    have := qpow_pos q.1 k
    grind
  have key : ∀ k, k ≤ rs.length → (B.1 * ws d.1 d.2 rs.length one k ≤ B.2 * ws d.1 d.2 rs.length (rdl rs) k ↔ rv B * sR (fun t => rv d ^ t) k ≤ sR (fun t => rv d ^ t * (rdl rs t : Rat)) k) := fun k hk => by
    have e1 := ws_ratB hd (n := rs.length) one k hk
    have e2 := ws_ratB hd (n := rs.length) (rdl rs) k hk
    have e3 : sR (fun t => rv d ^ t * ((one t : Int) : Rat)) k = sR (fun t => rv d ^ t) k := sR_congr fun t _ => by
      show rv d ^ t * ((1 : Int) : Rat) = _
      grind
    rw [e3] at e1
    have c : B.1 * ws d.1 d.2 rs.length one k ≤ B.2 * ws d.1 d.2 rs.length (rdl rs) k ↔ ((B.1 * ws d.1 d.2 rs.length one k : Int) : Rat) ≤ ((B.2 * ws d.1 d.2 rs.length (rdl rs) k : Int) : Rat) := by
      exact_mod_cast Iff.rfl
    rw [c, Rat.intCast_mul, Rat.intCast_mul, e1, e2]
    have rb : (B.1 : Rat) = rv B * (B.2 : Rat) := by
      show (B.1 : Rat) = (B.1 : Rat) / (B.2 : Rat) * (B.2 : Rat)
      grind
    rw [rb]
    generalize sR (fun t => rv d ^ t) k = X
    generalize sR (fun t => rv d ^ t * (rdl rs t : Rat)) k = Y
    generalize (d.2 : Rat) ^ (rs.length - 1) = S at bp
    generalize (B.2 : Rat) = E at B2
    have p := Rat.mul_pos B2 bp
    have l : rv B * E * (S * X) = (E * S) * (rv B * X) := by grind
    have r : E * (S * Y) = (E * S) * Y := by grind
    rw [l, r]
    constructor
    · intro hh
      exact Rat.not_lt.mp fun z => absurd hh (Rat.not_le.mpr (Rat.mul_lt_mul_of_pos_left z p))
    · intro hh
      exact Rat.mul_le_mul_of_nonneg_left hh (Rat.le_of_lt p)
  constructor
  · intro hv
    obtain ⟨k, k0, k1, e⟩ := ae hn
    refine ⟨k, k0, k1, (key k k1).mpr ?_⟩
    rw [e]
    exact Rat.mul_le_mul_of_nonneg_right hv (Rat.le_of_lt (pos k k0))
  · rintro ⟨k, k0, k1, hk⟩
    have a := (key k k1).mp hk
    have b := av k k1
    have p := pos k k0
    refine Rat.not_lt.mp fun z => ?_
    have := Rat.mul_lt_mul_of_pos_right z p
    grind
/-! ### the company whose project p has a first reward greater by x -/
def upRow (rs : List Int) (x : Int) : List Int := rs.set 0 (rdl rs 0 + x)
def upPB (ps : List (List Int)) (p : Nat) (x : Int) : List (List Int) := ps.set p (upRow (rdp ps p) x)
def upCo (c : Co) (p : Nat) (x : Int) : Co := (c.1, upPB c.2 p x)
theorem upRow_len (rs : List Int) (x : Int) : (upRow rs x).length = rs.length := List.length_set
theorem rdl_up {rs : List Int} (h : 0 < rs.length) (x : Int) (t : Nat) : rdl (upRow rs x) t = rdl rs t + if t = 0 then x else 0 := by
  unfold upRow rdl
  by_cases z : t = 0
  · subst z
    rw [if_pos rfl, List.getD_eq_getElem?_getD, List.getElem?_set_self h]; rfl
  · rw [if_neg z, List.getD_eq_getElem?_getD, List.getElem?_set_ne (Ne.symm z), ← List.getD_eq_getElem?_getD]; omega
theorem ws_upRow {a b : Int} {rs : List Int} (x : Int) : ∀ k, 0 < k → k ≤ rs.length → ws a b rs.length (rdl (upRow rs x)) k = ws a b rs.length (rdl rs) k + b ^ (rs.length - 1) * x := by
  intro k
  induction k with
  | zero => intro z; omega
  | succ k ih =>
    intro _ hk
    have st : ∀ r : Nat → Int, ws a b rs.length r (k + 1) = ws a b rs.length r k + wt a b rs.length k * r k := fun r => rfl
    rw [st, st, rdl_up (by omega)]
    by_cases z : k = 0
    · subst z
      have w : wt a b rs.length 0 = b ^ (rs.length - 1) := by
        obtain ⟨n, hn⟩ : ∃ n, rs.length = n + 1 := ⟨rs.length - 1, by omega⟩
        rw [hn, wt_zero]; rfl
      have w0 : ∀ r : Nat → Int, ws a b rs.length r 0 = 0 := fun r => rfl
      rw [if_pos rfl, w, w0, w0, Int.mul_add]
      omega
    · rw [if_neg z, ih (by omega) (by omega)]
      rw [Int.add_zero]; omega
theorem rdp_up (ps : List (List Int)) {p : Nat} (hp : p < ps.length) (x : Int) (j : Nat) : rdp (upPB ps p x) j = if j = p then upRow (rdp ps p) x else rdp ps j := by
  unfold upPB
  by_cases z : j = p
  · subst z
    rw [if_pos rfl]
    unfold rdp
    rw [List.getD_eq_getElem?_getD, List.getElem?_set_self hp]; rfl
  · rw [if_neg z]
    unfold rdp
    rw [List.getD_eq_getElem?_getD, List.getElem?_set_ne (Ne.symm z), ← List.getD_eq_getElem?_getD]
theorem upP_len (ps : List (List Int)) (p : Nat) (x : Int) : (upPB ps p x).length = ps.length := List.length_set
theorem up_okB {c : Co} (ok : COk c) {p : Nat} (hp : p < c.2.length) (h0 : 0 < (rdp c.2 p).length) {x : Int} (x0 : 0 ≤ x) (x1 : rdl (rdp c.2 p) 0 + x ≤ 1000000000) : COk (upCo c p x) := by
  refine ⟨ok.d, ?_, ?_, ?_⟩
  · show (upPB c.2 p x).length ≤ 10
    rw [upP_len]; exact ok.p.1
  · show tot (upPB c.2 p x) ≤ 60
    have e : tot (upPB c.2 p x) = tot c.2 := by
      unfold tot upPB
      rw [List.map_set, upRow_len]
      congr 1
      have e2 : (rdp c.2 p).length = (c.2.map List.length)[p]'(by rw [List.length_map]; exact hp) := by
        rw [List.getElem_map]
        unfold rdp
        rw [List.getD_eq_getElem?_getD, List.getElem?_eq_getElem hp]; rfl
      rw [e2]
      exact List.set_getElem_self _
    rw [e]; exact ok.p.2.1
  · intro rs hrs y hy
    rcases List.mem_or_eq_of_mem_set hrs with h | h
    · exact ok.p.2.2 rs h y hy
    · subst h
      have hm := ok.p.2.2 (rdp c.2 p) (rdp_mem hp)
      rcases List.mem_or_eq_of_mem_set hy with h | h
      · exact hm y h
      · have := hm (rdl (rdp c.2 p) 0) (rdl_mem h0)
        omega
/-- the greatest first charge, from above -/
theorem gs_le {css : Chs} (h : Chk css) {v : Rat} : rv (gsF css css.length) ≤ v ↔ 0 ≤ v ∧ ∀ j, j < css.length → 0 < lenC css j → rv (chC css j 0) ≤ v := by
  obtain ⟨_, _, i3, i4, i5⟩ := gs_ok h css.length
  constructor
  · intro z
    exact ⟨Rat.le_trans i3 z, fun j hj hl => Rat.le_trans (i4 j hj hl) z⟩
  · rintro ⟨a, b⟩
    rcases i5 with e | ⟨j, hj, hl, e⟩
    · rw [e, rv_zero1]; exact a
    · rw [e]; exact b j hj hl
theorem wto_at {α : Type} {ps : List α} {p : Nat} (hp : p < ps.length) (j : Nat) : (wtoP ps p)[j]? = ps[if j < p then j else j + 1]? := by
  unfold wtoP
  by_cases z : j < p
  · rw [if_pos z, List.getElem?_append_left (by rw [List.length_take]; omega), List.getElem?_take, if_pos z]
  · rw [if_neg z, List.getElem?_append_right (by rw [List.length_take]; omega), List.length_take, List.getElem?_drop, Nat.min_eq_left (by omega)]
    congr 1; omega
theorem chs_at (d : Int × Int) (ps : List (List Int)) (j : Nat) : rcl (certF d ps) j = chgs d.1 d.2 (rdp ps j) ∨ ¬ j < ps.length := by
  by_cases h : j < ps.length
  · exact .inl (certF_at d h)
  · exact .inr h
/-- p is a best first step of the raised company just where the others' greatest first charge is not above p's -/
theorem up_first {c : Co} (ok : COk c) {p : Nat} (hp : p < c.2.length) (h0 : 0 < (rdp c.2 p).length) {x : Int} (x0 : 0 ≤ x) (x1 : rdl (rdp c.2 p) 0 + x ≤ 1000000000) :
    fstB (certF c.1 (upPB c.2 p x)) p = true ↔ rv (gsF (certF c.1 (wtoP c.2 p)) (certF c.1 (wtoP c.2 p)).length) ≤ rv (rdc (chgs c.1.1 c.1.2 (upRow (rdp c.2 p) x)) 0) := by
  have oku := up_okB ok hp h0 x0 x1
  have ck := cert_chk oku
  have cw := cert_chk (wto_ok ok p)
  show fstB (certF (upCo c p x).1 (upCo c p x).2) p = true ↔ rv (gsF (certF (wtoC c p).1 (wtoC c p).2) (certF (wtoC c p).1 (wtoC c p).2).length) ≤ _
  rw [fst_iff ck, gs_le cw]
  have U : ∀ j, j < c.2.length → rcl (certF c.1 (upPB c.2 p x)) j = chgs c.1.1 c.1.2 (rdp (upPB c.2 p x) j) := fun j hj => certF_at c.1 (by rw [upP_len]; exact hj)
  have W : ∀ j, j < (wtoP c.2 p).length → rcl (certF c.1 (wtoP c.2 p)) j = chgs c.1.1 c.1.2 (rdp c.2 (if j < p then j else j + 1)) := fun j hj => by
    rw [certF_at c.1 hj]
    congr 1
    unfold rdp
    rw [List.getD_eq_getElem?_getD, wto_at hp, ← List.getD_eq_getElem?_getD]
  have lw := wtoP_len (ps := c.2) hp
  have ep : rcl (certF c.1 (upPB c.2 p x)) p = chgs c.1.1 c.1.2 (upRow (rdp c.2 p) x) := by rw [U p hp, rdp_up _ hp, if_pos rfl]
  have eo : ∀ j, j < c.2.length → j ≠ p → rcl (certF c.1 (upPB c.2 p x)) j = chgs c.1.1 c.1.2 (rdp c.2 j) := fun j hj hne => by rw [U j hj, rdp_up _ hp, if_neg hne]
  have cl : (certF (upCo c p x).1 (upCo c p x).2).length = c.2.length := by rw [certF_len]; exact upP_len _ _ _
  have cwl : (certF (wtoC c p).1 (wtoC c p).2).length = (wtoP c.2 p).length := certF_len _ _
  have lp : 0 < lenC (certF (upCo c p x).1 (upCo c p x).2) p := by
    have w := cert_own oku.d.1 oku.p
    rw [w.lens]
    show 0 < (rdp (upPB c.2 p x) p).length
    rw [rdp_up _ hp, if_pos rfl, upRow_len]; exact h0
  have hv : chC (certF (upCo c p x).1 (upCo c p x).2) p 0 = rdc (chgs c.1.1 c.1.2 (upRow (rdp c.2 p) x)) 0 := by
    show rdc (rcl (certF c.1 (upPB c.2 p x)) p) 0 = _
    rw [ep]
  rw [hv, cl, cwl]
  have hw : rv (chC (certF (upCo c p x).1 (upCo c p x).2) p 0) = rv (rdc (chgs c.1.1 c.1.2 (upRow (rdp c.2 p) x)) 0) := by rw [hv]
  clear hv
  generalize rv (rdc (chgs c.1.1 c.1.2 (upRow (rdp c.2 p) x)) 0) = v at *
  constructor
  · rintro ⟨_, a, b⟩
    refine ⟨a, fun j hj hl => ?_⟩
    have jl : (if j < p then j else j + 1) < c.2.length := by split <;> omega
    have jn : (if j < p then j else j + 1) ≠ p := by split <;> omega
    have e1 := W j hj
    have e2 := eo _ jl jn
    have same : rcl (certF (wtoC c p).1 (wtoC c p).2) j = rcl (certF (upCo c p x).1 (upCo c p x).2) (if j < p then j else j + 1) := e1.trans e2.symm
    have := b _ jl (by unfold lenC at hl ⊢; rw [← same]; exact hl)
    unfold chC at this ⊢
    rw [same]; exact this
  · rintro ⟨a, b⟩
    refine ⟨lp, a, fun j hj hl => ?_⟩
    by_cases z : j = p
    · rw [z, hw]; exact Rat.le_refl
    · have il : (if j < p then j else j - 1) < (wtoP c.2 p).length := by split <;> omega
      have ii : (if (if j < p then j else j - 1) < p then (if j < p then j else j - 1) else (if j < p then j else j - 1) + 1) = j := by
        by_cases y : j < p
        · rw [if_pos y, if_pos y]
        · rw [if_neg y, if_neg (by omega)]; omega
      have e1 := W _ il
      rw [ii] at e1
      have same : rcl (certF (wtoC c p).1 (wtoC c p).2) (if j < p then j else j - 1) = rcl (certF (upCo c p x).1 (upCo c p x).2) j := e1.trans (eo j hj z).symm
      have := b _ il (by unfold lenC at hl ⊢; rw [same]; exact hl)
      unfold chC at this ⊢
      rw [← same]; exact this
/-- the bonuses of the lengths of the first stretch -/
def bonI (B : Int × Int) (a b : Int) (rs : List Int) (k : Nat) : Int := -((B.2 * ws a b rs.length (rdl rs) k - B.1 * ws a b rs.length one k) / (B.2 * b ^ (rs.length - 1)))
theorem bon_iff {B : Int × Int} (hB : 0 < B.2) {a b : Int} (hb : 0 < b) (rs : List Int) (k : Nat) (x : Int) :
    bonI B a b rs k ≤ x ↔ B.1 * ws a b rs.length one k ≤ B.2 * (ws a b rs.length (rdl rs) k + b ^ (rs.length - 1) * x) := by
  have m : 0 < B.2 * b ^ (rs.length - 1) := Int.mul_pos hB (Int.pow_pos hb)
  unfold bonI
  have e : B.2 * (ws a b rs.length (rdl rs) k + b ^ (rs.length - 1) * x) = B.2 * ws a b rs.length (rdl rs) k + x * (B.2 * b ^ (rs.length - 1)) := by
    rw [Int.mul_add]
    congr 1
    rw [← Int.mul_assoc, Int.mul_comm]
  rw [e]
  generalize B.2 * b ^ (rs.length - 1) = M at m ⊢
  generalize B.2 * ws a b rs.length (rdl rs) k = Y
  generalize B.1 * ws a b rs.length one k = Z
  have h := Int.le_ediv_iff_mul_le (a := -x) (b := Y - Z) m
  have e2 : -x * M = -(x * M) := Int.neg_mul _ _
  rw [e2] at h
  constructor
  · intro z
    have := h.mp (by omega)
    omega
  · intro z
    have := h.mpr (by omega)
    omega
/-- with a bonus x the project is a best first step just where some length asks for no more -/
theorem bon_first {c : Co} (ok : COk c) {p : Nat} (hp : p < c.2.length) (h0 : 0 < (rdp c.2 p).length) {x : Int} (x0 : 0 ≤ x) (x1 : rdl (rdp c.2 p) 0 + x ≤ 1000000000)
    {B : Int × Int} (hB : B = gsF (certF c.1 (wtoP c.2 p)) (certF c.1 (wtoP c.2 p)).length) :
    fstB (certF c.1 (upPB c.2 p x)) p = true ↔ ∃ k, 0 < k ∧ k ≤ (rdp c.2 p).length ∧ bonI B c.1.1 c.1.2 (rdp c.2 p) k ≤ x := by
  have oku := up_okB ok hp h0 x0 x1
  have cw := cert_chk (wto_ok ok p)
  have B2 : 0 < B.2 := by
    have := (isR_iff.mp (gs_ok cw (certF c.1 (wtoP c.2 p)).length).1).1
    rw [hB]
    show 0 < (gsF (certF (wtoC c p).1 (wtoC c p).2) _).2
    omega
  have b0 := ok.d.1.bd.2.2.2
  have rw_ : Rws (upRow (rdp c.2 p) x) := by
    have := oku.p.rws (rdp_mem (show p < (upCo c p x).2.length by show p < (upPB c.2 p x).length; rw [upP_len]; exact hp))
    have e : rdp (upCo c p x).2 p = upRow (rdp c.2 p) x := by show rdp (upPB c.2 p x) p = _; rw [rdp_up _ hp, if_pos rfl]
    rwa [e] at this
  have cr := chgs_crg ok.d.1 rw_
  rw [up_first ok hp h0 x0 x1, ← hB, crg_reach ok.d.1 cr (by rw [upRow_len]; exact h0) B2, upRow_len]
  constructor
  · rintro ⟨k, k0, k1, h⟩
    refine ⟨k, k0, k1, (bon_iff B2 b0 _ _ _).mpr ?_⟩
    rwa [ws_upRow x k k0 k1] at h
  · rintro ⟨k, k0, k1, h⟩
    refine ⟨k, k0, k1, ?_⟩
    rw [ws_upRow x k k0 k1]
    exact (bon_iff B2 b0 _ _ _).mp h
/-! ### the least bonus -/
def bonL (B : Int × Int) (a b : Int) (rs : List Int) : List Int := (List.range rs.length).map fun k => bonI B a b rs (k + 1)
theorem least_in : ∀ {l : List Int}, l ≠ [] → ∃ m, m ∈ l ∧ ∀ y ∈ l, m ≤ y
  | [], h => absurd rfl h
  | [x], _ => ⟨x, by simp, by simp⟩
  | x :: y :: l, _ => by
    obtain ⟨m, a, b⟩ := least_in (l := y :: l) (by simp)
    by_cases h : x ≤ m
    · refine ⟨x, by simp, fun z hz => ?_⟩
      rcases List.mem_cons.mp hz with rfl | hz
      · exact Int.le_refl _
      · exact Int.le_trans h (b z hz)
    · refine ⟨m, by simp [a], fun z hz => ?_⟩
      rcases List.mem_cons.mp hz with rfl | hz
      · omega
      · exact b z hz
/-- no first charge is above 10 ** 9 -/
theorem crg_top {d : Int × Int} (hd : Dis d) {rs : List Int} (hr : Rws rs) {cs : List (Int × Int)} (h : Crg d rs cs) (hn : 0 < rs.length) : rv (rdc cs 0) ≤ 1000000000 := by
  obtain ⟨_, ae⟩ := crg_avg hd h
  obtain ⟨k, k0, k1, e⟩ := ae hn
  have q := hd.q
  have le : sR (fun t => rv d ^ t * (rdl rs t : Rat)) k ≤ sR (fun t => 1000000000 * rv d ^ t) k := sR_le fun i hi => by
    have hm := (hr.2 (rdl rs i) (rdl_mem (by omega))).2
    have hm' : ((rdl rs i : Int) : Rat) ≤ ((1000000000 : Int) : Rat) := Rat.intCast_le_intCast.mpr hm
    rw [show ((1000000000 : Int) : Rat) = 1000000000 from rfl] at hm'
    have := Rat.mul_le_mul_of_nonneg_left hm' (Rat.le_of_lt (qpow_pos q.1 i))
    grind
  rw [sR_mul, e] at le
  have p : 0 < sR (fun t => rv d ^ t) k := by
    obtain ⟨j, rfl⟩ : ∃ j, k = j + 1 := ⟨k - 1, by omega⟩
    rw [sR_succ]
    have := sR_nn (f := fun t => rv d ^ t) (n := j) fun i _ => Rat.le_of_lt (qpow_pos q.1 i)
    have := qpow_pos q.1 j
    grind
  refine Rat.not_lt.mp fun z => ?_
  have := Rat.mul_lt_mul_of_pos_right z p
  grind
theorem gs_top {c : Co} (ok : COk c) : rv (gsF (certF c.1 c.2) (certF c.1 c.2).length) ≤ 1000000000 := by
  refine (gs_le (cert_chk ok)).mpr ⟨by decide, fun j hj hl => ?_⟩
  rw [certF_len] at hj
  have e := certF_at c.1 hj
  unfold lenC at hl
  unfold chC
  rw [e] at hl ⊢
  have hr := ok.p.rws (rdp_mem hj)
  have cr := chgs_crg ok.d.1 hr
  exact crg_top ok.d.1 hr cr (by rw [← cr.len]; exact hl)
/-- what the least bonus is: m the least of the bonuses -/
theorem lb_ok {c : Co} (ok : COk c) {p : Nat} (hp : p < c.2.length) (h0 : 0 < (rdp c.2 p).length) {B : Int × Int} (hB : B = gsF (certF c.1 (wtoP c.2 p)) (certF c.1 (wtoP c.2 p)).length) {m : Int}
    (hm : m ∈ bonL B c.1.1 c.1.2 (rdp c.2 p)) (hl : ∀ y ∈ bonL B c.1.1 c.1.2 (rdp c.2 p), m ≤ y) :
    rdl (rdp c.2 p) 0 + (if m > 0 then m else 0) ≤ 1000000000 ∧ ∀ x, 0 ≤ x → rdl (rdp c.2 p) 0 + x ≤ 1000000000 → (fstB (certF c.1 (upPB c.2 p x)) p = true ↔ (if m > 0 then m else 0) ≤ x) := by
  have cw := cert_chk (wto_ok ok p)
  have okw := wto_ok ok p
  have top := gs_top okw
  have B2 : 0 < B.2 := by
    have := (isR_iff.mp (gs_ok cw (certF c.1 (wtoP c.2 p)).length).1).1
    rw [hB]
    show 0 < (gsF (certF (wtoC c p).1 (wtoC c p).2) _).2
    omega
  have topB : rv B ≤ 1000000000 := by rw [hB]; exact top
  have b0 := ok.d.1.bd.2.2.2
  have hr0 := (ok.p.2.2 (rdp c.2 p) (rdp_mem hp) (rdl (rdp c.2 p) 0) (rdl_mem h0)).2
  have B1 : B.1 ≤ 1000000000 * B.2 := by
    have e : rv (1000000000, 1) = 1000000000 := by show ((1000000000 : Int) : Rat) / ((1 : Int) : Rat) = _; grind
    have h2 : B.1 * 1 ≤ 1000000000 * B.2 := (rv_le (s := B) (t := (1000000000, 1)) B2 (by decide)).mp (by rw [e]; exact topB)
    rw [Int.mul_one] at h2; exact h2
  constructor
  · have one_ : bonI B c.1.1 c.1.2 (rdp c.2 p) 1 ≤ 1000000000 - rdl (rdp c.2 p) 0 := by
      rw [bon_iff B2 b0]
      have w : wt c.1.1 c.1.2 (rdp c.2 p).length 0 = c.1.2 ^ ((rdp c.2 p).length - 1) := by
        obtain ⟨n, hn⟩ : ∃ n, (rdp c.2 p).length = n + 1 := ⟨(rdp c.2 p).length - 1, by omega⟩
        rw [hn, wt_zero]; rfl
      have w1 : ∀ r : Nat → Int, ws c.1.1 c.1.2 (rdp c.2 p).length r 1 = c.1.2 ^ ((rdp c.2 p).length - 1) * r 0 := fun r => by
        show 0 + wt c.1.1 c.1.2 (rdp c.2 p).length 0 * r 0 = _
        rw [w, Int.zero_add]
      rw [w1, w1]
      have S : 0 < c.1.2 ^ ((rdp c.2 p).length - 1) := Int.pow_pos b0
      generalize c.1.2 ^ ((rdp c.2 p).length - 1) = s at S ⊢
      have e2 : B.2 * (s * rdl (rdp c.2 p) 0 + s * (1000000000 - rdl (rdp c.2 p) 0)) = s * (1000000000 * B.2) := by
        rw [← Int.mul_add, show rdl (rdp c.2 p) 0 + (1000000000 - rdl (rdp c.2 p) 0) = 1000000000 by omega]
        ac_rfl
      rw [e2]
      show B.1 * (s * 1) ≤ _
      rw [Int.mul_one, Int.mul_comm]
      exact Int.mul_le_mul_of_nonneg_left B1 (by omega)
    have := hl _ (List.mem_map.mpr ⟨0, List.mem_range.mpr h0, rfl⟩)
    rw [Nat.zero_add] at this
    split <;> omega
  · intro x x0 x1
    rw [bon_first ok hp h0 x0 x1 hB]
    constructor
    · rintro ⟨k, k0, k1, h⟩
      have := hl _ (List.mem_map.mpr ⟨k - 1, List.mem_range.mpr (by omega), rfl⟩)
      rw [show k - 1 + 1 = k by omega] at this
      split <;> omega
    · intro h
      obtain ⟨k, hk, e⟩ := List.mem_map.mp hm
      rw [List.mem_range] at hk
      refine ⟨k + 1, by omega, by omega, ?_⟩
      rw [e]
      split at h <;> omega
end Tm

namespace Tm
open PySem L2 Tp
/-! ### lists of charges compared -/
def pfx (q : Rat) (l : List (Int × Int)) (k : Nat) : Rat := sR (fun t => q ^ t * rv (rdc l t)) k
def gp (q : Rat) (l : List (Int × Int)) (M : Rat) : Rat := sR (fun t => q ^ t * pos (rv (rdc l t) - M)) l.length
def FalL (l : List (Int × Int)) : Prop := ∀ k, k + 1 < l.length → rv (rdc l (k + 1)) ≤ rv (rdc l k)
theorem FalL.falls {l : List (Int × Int)} (h : FalL l) {i : Nat} : ∀ k, i + k < l.length → rv (rdc l (i + k)) ≤ rv (rdc l i)
  | 0, _ => Rat.le_refl
  | k + 1, hk => by
    have a := h.falls (i := i) k (by omega)
    have b := h (i + k) (by omega)
    rw [show i + (k + 1) = i + k + 1 by omega]
    grind
theorem rv_over {l : List (Int × Int)} {t : Nat} (h : l.length ≤ t) : rv (rdc l t) = 0 := by rw [rdc_over (by omega)]; exact rv_zero1
theorem gp_ext {q : Rat} {l : List (Int × Int)} {M : Rat} (hM : 0 ≤ M) {n : Nat} (h : l.length ≤ n) : sR (fun t => q ^ t * pos (rv (rdc l t) - M)) n = gp q l M :=
  sR_stop h fun i hi _ => by rw [rv_over hi, pos_neg (by grind)]; grind
theorem cutM {l : List (Int × Int)} (hf : FalL l) (M : Rat) : ∀ n, n ≤ l.length → ∃ m, m ≤ n ∧ ∀ t, t < n → (t < m ↔ M < rv (rdc l t))
  | 0, _ => ⟨0, Nat.le_refl _, fun t h => by omega⟩
  | n + 1, h => by
    obtain ⟨m, hm, H⟩ := cutM hf M n (by omega)
    by_cases e : m = n
    · by_cases z : M < rv (rdc l n)
      · refine ⟨n + 1, Nat.le_refl _, fun t ht => ⟨fun _ => ?_, fun _ => ht⟩⟩
        by_cases y : t = n
        · rw [y]; exact z
        · exact (H t (by omega)).mp (by omega)
      · refine ⟨n, by omega, fun t ht => ?_⟩
        by_cases y : t = n
        · rw [y]; exact ⟨fun w => by omega, fun w => absurd w z⟩
        · exact ⟨fun w => (H t (by omega)).mp (by omega), fun w => by have := (H t (by omega)).mpr w; omega⟩
    · refine ⟨m, by omega, fun t ht => ?_⟩
      by_cases y : t = n
      · rw [y]
        have a := hf (n - 1) (by omega)
        rw [show n - 1 + 1 = n by omega] at a
        have b : ¬ M < rv (rdc l (n - 1)) := fun w => by have := (H (n - 1) (by omega)).mpr w; omega
        exact ⟨fun w => by omega, fun w => by grind⟩
      · exact H t (by omega)
theorem sR_pos_le {q : Rat} (q0 : 0 < q) (l : List (Int × Int)) {M : Rat} (hM : 0 ≤ M) (k : Nat) : sR (fun t => q ^ t * (rv (rdc l t) - M)) k ≤ gp q l M := by
  have n : ∀ i, 0 ≤ q ^ i * pos (rv (rdc l i) - M) := fun i => Rat.mul_nonneg (Rat.le_of_lt (qpow_pos q0 i)) (pos_nn _)
  have a : sR (fun t => q ^ t * (rv (rdc l t) - M)) k ≤ sR (fun t => q ^ t * pos (rv (rdc l t) - M)) k := sR_le fun t _ => Rat.mul_le_mul_of_nonneg_left (le_pos _) (Rat.le_of_lt (qpow_pos q0 t))
  by_cases h : k ≤ l.length
  · exact Rat.le_trans a (sR_mono h fun i _ _ => n i)
  · rw [gp_ext hM (by omega)] at a
    exact a
theorem pfx_gq (q : Rat) (l : List (Int × Int)) (M : Rat) (k : Nat) : sR (fun t => q ^ t * (rv (rdc l t) - M)) k = pfx q l k - M * gq q k := by
  unfold pfx gq
  rw [← sR_mul, ← sR_sub]
  exact sR_congr fun t _ => by grind
/-- sums nowhere less: gains nowhere less -/
theorem dom_gp {q : Rat} (q0 : 0 < q) {a b : List (Int × Int)} (hb : FalL b) (H : ∀ k, k ≤ b.length → pfx q b k ≤ pfx q a k) {M : Rat} (hM : 0 ≤ M) : gp q b M ≤ gp q a M := by
  obtain ⟨m, hm, hc⟩ := cutM hb M b.length (Nat.le_refl _)
  have e : gp q b M = sR (fun t => q ^ t * (rv (rdc b t) - M)) m := by
    unfold gp
    rw [sR_stop hm fun i h1 h2 => by
      have : ¬ M < rv (rdc b i) := fun w => by have := (hc i h2).mpr w; omega
      rw [pos_neg (by grind)]; grind]
    exact sR_congr fun t ht => by
      have := (hc t (by omega)).mp ht
      rw [pos_of (by grind)]
  rw [e, pfx_gq]
  have g := sR_pos_le q0 a hM m
  rw [pfx_gq] at g
  have := H m hm
  grind
/-- a sum that is less shows an offer -/
theorem beat_gp {q : Rat} (q0 : 0 < q) {a b : List (Int × Int)} (ha : FalL a) (hn : ∀ t, 0 ≤ rv (rdc a t)) {k : Nat} (H : pfx q a k < pfx q b k) : gp q a (rv (rdc a k)) < gp q b (rv (rdc a k)) := by
  have hM := hn k
  have ge : ∀ t, t < k → rv (rdc a k) ≤ rv (rdc a t) := fun t ht => by
    by_cases z : k < a.length
    · have f := ha.falls (i := t) (k - t) (by omega)
      rwa [show t + (k - t) = k by omega] at f
    · rw [rv_over (by omega)]; exact hn t
  have le : ∀ t, k ≤ t → rv (rdc a t) ≤ rv (rdc a k) := fun t ht => by
    by_cases z : t < a.length
    · have f := ha.falls (i := k) (t - k) (by omega)
      rwa [show k + (t - k) = t by omega] at f
    · rw [rv_over (show a.length ≤ t by omega)]; exact hn k
  have e : gp q a (rv (rdc a k)) = sR (fun t => q ^ t * (rv (rdc a t) - rv (rdc a k))) k := by
    rw [← gp_ext hM (show a.length ≤ a.length + k by omega), sR_stop (m := k) (by omega) fun i h1 _ => by rw [pos_neg (by have := le i h1; grind)]; grind]
    exact sR_congr fun t ht => by rw [pos_of (by have := ge t ht; grind)]
  have g := sR_pos_le q0 b hM k
  rw [pfx_gq] at g
  rw [e, pfx_gq]
  grind
/-! ### the positive charges -/
def posQ (l : List (Int × Int)) : List (Int × Int) := l.filter fun t => decide (0 < t.1)
theorem pos_abv (l : List (Int × Int)) : posQ l = abvL l (0, 1) := by
  unfold posQ abvL
  congr 1
  funext t
  rw [decide_eq_decide]
  show 0 < t.1 ↔ 0 * t.2 < t.1 * 1
  rw [Int.zero_mul, Int.mul_one]
theorem rv_neg_iff {t : Int × Int} (h : 0 < t.2) : 0 < t.1 ↔ 0 < rv t := by
  have e := rv_lt (s := (0, 1)) (t := t) (show (0 : Int) < 1 by decide) h
  rw [rv_zero1] at e
  rw [e]
  show 0 < t.1 ↔ 0 * t.2 < t.1 * 1
  rw [Int.zero_mul, Int.mul_one]
section
variable {d : Int × Int} {rs : List Int} {cs : List (Int × Int)}
theorem Crg.fl (h : Crg d rs cs) : FalL cs := fun k hk => h.fal k (by rw [← h.len]; exact hk)
theorem Crg.pos_take (h : Crg d rs cs) : posQ cs = cs.take (posQ cs).length := filter_take _ cs fun i j a b hij ha hb hp => by
  have la := (List.getElem?_eq_some_iff.mp ha).1
  have lb := (List.getElem?_eq_some_iff.mp hb).1
  have f := h.fl.falls (i := i) (j - i) (by omega)
  rw [show i + (j - i) = j by omega, rdc_of ha, rdc_of hb] at f
  rw [decide_eq_true_eq] at hp ⊢
  have da := h.den i
  have db := h.den j
  rw [rdc_of ha] at da
  rw [rdc_of hb] at db
  have p := (rv_neg_iff db).mp hp
  exact (rv_neg_iff da).mpr (by grind)
theorem Crg.pos_lt (h : Crg d rs cs) {t : Nat} (ht : t < cs.length) : t < (posQ cs).length ↔ 0 < rv (rdc cs t) := by
  have e := h.abv (o := (0, 1)) (show (0 : Int) < 1 by decide) t (by rw [← h.len]; exact ht)
  rw [rv_zero1] at e
  rw [pos_abv]; exact e
theorem posQ_len (l : List (Int × Int)) : (posQ l).length ≤ l.length := List.length_filter_le _ _
theorem Crg.pos_at (h : Crg d rs cs) {t : Nat} (ht : t < (posQ cs).length) : rdc (posQ cs) t = rdc cs t := by
  have e := h.pos_take
  have l := posQ_len cs
  have h2 : cs[t]? = some (rdc cs t) := by
    rw [List.getElem?_eq_getElem (by omega)]
    exact congrArg some (rdc_of (List.getElem?_eq_getElem (by omega))).symm
  refine rdc_of ?_
  rw [e, List.getElem?_take_of_lt ht, h2]
theorem Crg.pos_fl (h : Crg d rs cs) : FalL (posQ cs) := fun k hk => by
  have l := posQ_len cs
  rw [h.pos_at hk, h.pos_at (by omega)]
  exact h.fl k (by omega)
theorem Crg.pos_nn (h : Crg d rs cs) (t : Nat) : 0 ≤ rv (rdc (posQ cs) t) := by
  by_cases z : t < (posQ cs).length
  · rw [h.pos_at z]
    exact Rat.le_of_lt ((h.pos_lt (by have := posQ_len cs; omega)).mp z)
  · rw [rv_over (by omega)]; exact Rat.le_refl
theorem Crg.gp_pos (h : Crg d rs cs) (q : Rat) {M : Rat} (hM : 0 ≤ M) : gp q (posQ cs) M = gp q cs M := by
  rw [← gp_ext hM (posQ_len cs)]
  unfold gp
  refine sR_congr fun t ht => ?_
  by_cases z : t < (posQ cs).length
  · rw [h.pos_at z]
  · have a : ¬ 0 < rv (rdc cs t) := fun w => z ((h.pos_lt ht).mpr w)
    rw [rv_over (l := posQ cs) (by omega), pos_neg (show (0 : Rat) - M ≤ 0 by grind), pos_neg (show rv (rdc cs t) - M ≤ 0 by grind)]
theorem Crg.sorted (h : Crg d rs cs) : Sorted cs := List.pairwise_iff_getElem.mpr fun i j hi hj hij => by
  have f := h.fl.falls (i := i) (j - i) (by omega)
  rw [show i + (j - i) = j by omega, rdc_of (List.getElem?_eq_getElem hi), rdc_of (List.getElem?_eq_getElem hj)] at f
  exact f
end
/-! ### companies of one project -/
theorem sum_gp {q : Rat} {l : List (Int × Int)} (hf : FalL l) {M : Rat} {n : Nat} (hn : n ≤ l.length) (h : ∀ t, t < l.length → (t < n ↔ M < rv (rdc l t))) : sR (fun t => q ^ t * (rv (rdc l t) - M)) n = gp q l M := by
  unfold gp
  rw [sR_stop hn fun i h1 h2 => by
    have : ¬ M < rv (rdc l i) := fun w => by have := (h i h2).mpr w; omega
    rw [pos_neg (by grind)]; grind]
  exact sR_congr fun t ht => by
    have := (h t (by omega)).mp ht
    rw [pos_of (by grind)]
theorem one_best {d : Int × Int} {rs : List Int} (ok : COk (d, [rs])) (M : Rat) : bestR (d, [rs]) M = gp (rv d) (chgs d.1 d.2 rs) M + M / (1 - rv d) := by
  have hd : Dis d := ok.d.1
  have hr : Rws rs := ok.p.rws (by simp)
  have C := chgs_crg hd hr
  have eo := rv_ratOf M
  have po : 0 < (ratOf M).2 := (isR_iff.mp (isR_ratOf M)).1
  have fb := (fw_best ok hd rfl po).2
  have ec : (certF d [rs]).flatten = chgs d.1 d.2 rs := by simp [certF]
  have ef : falF (certF d [rs]) = chgs d.1 d.2 rs := sorted_eq (by rw [← ec]; exact falF_perm _) (by rw [show falF (certF d [rs]) = (mgC (d, [rs])).map (·.2) from fal_eq ok]; exact (cert_mrg ok).toMrg0.sorted (cert_own ok.d.1 ok.p).toCfk.fal) C.sorted fun x hx => by
    have hx := (falF_perm _).mem_iff.mp hx
    rw [ec] at hx
    obtain ⟨i, hi⟩ := List.getElem?_of_mem hx
    have := C.isr i
    rwa [rdc_of hi] at this
  rw [show certF ((d, [rs]) : Co).1 ((d, [rs]) : Co).2 = certF d [rs] from rfl, ef] at fb
  have dn : ∀ x ∈ abvL (chgs d.1 d.2 rs) (ratOf M), 0 < x.2 := fun x hx => by
    obtain ⟨i, hi⟩ := List.getElem?_of_mem (List.mem_filter.mp hx).1
    have := C.den i
    rwa [rdc_of hi] at this
  have fo := (fw_ok hd po dn).2
  rw [fb] at fo
  rw [eo] at fo
  rw [fo]
  congr 1
  have K := C.abv po
  rw [eo] at K
  have le : (abvL (chgs d.1 d.2 rs) (ratOf M)).length ≤ (chgs d.1 d.2 rs).length := List.length_filter_le _ _
  have tk : abvL (chgs d.1 d.2 rs) (ratOf M) = (chgs d.1 d.2 rs).take (abvL (chgs d.1 d.2 rs) (ratOf M)).length := filter_take _ _ fun i j a b hij ha hb hp => by
    have la := (List.getElem?_eq_some_iff.mp ha).1
    have lb := (List.getElem?_eq_some_iff.mp hb).1
    have f := C.fl.falls (i := i) (j - i) (by omega)
    have da := C.den i
    have db := C.den j
    rw [show i + (j - i) = j by omega] at f
    rw [rdc_of ha] at f da
    rw [rdc_of hb] at f db
    rw [decide_eq_true_eq] at hp ⊢
    have p := (rv_lt po db).mpr hp
    exact (rv_lt po da).mp (by grind)
  rw [← sum_gp C.fl le fun t ht => K t (by rw [← C.len]; exact ht)]
  refine sR_congr fun t ht => ?_
  have e : rdc (abvL (chgs d.1 d.2 rs) (ratOf M)) t = rdc (chgs d.1 d.2 rs) t := by
    refine rdc_of ?_
    rw [tk, List.getElem?_take_of_lt ht, List.getElem?_eq_getElem (by omega)]
    exact congrArg some (rdc_of (List.getElem?_eq_getElem (by omega))).symm
  rw [e]
/-! ### a better project in every company -/
theorem cntV_mono (l : List (Int × Int)) {s t : Rat} (h : s ≤ t) : cntV l t ≤ cntV l s := by
  unfold cntV
  induction l with
  | nil => exact Nat.le_refl _
  | cons x xs ih =>
    rw [List.filter_cons, List.filter_cons]
    by_cases z : t < rv x
    · rw [if_pos (decide_eq_true z), if_pos (decide_eq_true (show s < rv x by grind))]
      exact Nat.succ_le_succ ih
    · rw [if_neg (by simp [z])]
      split
      · exact Nat.le_succ_of_le ih
      · exact ih
def insP (P Q : List (List Int)) (r : List Int) : List (List Int) := P ++ [r] ++ Q
theorem cnt_ins (d : Int × Int) (P Q : List (List Int)) (r : List Int) (M : Rat) : cntV (certF d (insP P Q r)).flatten M = cntV (certF d (P ++ Q)).flatten M + cntV (certF d [r]).flatten M := by
  unfold insP certF
  simp only [List.map_append, List.flatten_append, cntV_app]
  omega
theorem vals_one {d : Int × Int} {P Q : List (List Int)} {r : List Int} {v : Rat} (h : v ∈ valsC (d, [r])) : v ∈ valsC (d, insP P Q r) := by
  unfold valsC certF insP at *
  simp only [List.map_append, List.flatten_append, List.mem_append, List.map_cons, List.map_nil] at *
  exact .inl (.inr h)
theorem pok_one {P Q : List (List Int)} {r : List Int} (h : POk (insP P Q r)) : POk [r] := by
  obtain ⟨h1, h2, h3⟩ := h
  unfold insP at *
  rw [tot_app, tot_app] at h2
  refine ⟨by simp, by omega, fun rs hrs x hx => h3 rs ?_ x hx⟩
  rw [List.mem_append, List.mem_append]
  exact .inl (.inr hrs)
theorem best_dom {d : Int × Int} {P Q : List (List Int)} {ra rb : List Int} (oa : COk (d, insP P Q ra)) (ob : COk (d, insP P Q rb)) (H : ∀ M, 0 ≤ M → gp (rv d) (chgs d.1 d.2 rb) M ≤ gp (rv d) (chgs d.1 d.2 ra) M) (M : Rat) (hM : 0 ≤ M) :
    bestR (d, insP P Q rb) M ≤ bestR (d, insP P Q ra) M := by
  have a1 : COk (d, [ra]) := ⟨oa.d, pok_one oa.p⟩
  have b1 : COk (d, [rb]) := ⟨ob.d, pok_one ob.p⟩
  have hq := oa.d.1.q
  have hq : 0 < rv d ∧ rv d < 1 := hq
  have G : ∀ M, 0 ≤ M → bestR (d, [rb]) M ≤ bestR (d, [ra]) M := fun M h => by
    rw [one_best a1, one_best b1]
    have := H M h
    grind
  have key : 0 ≤ M → rv d ^ cntV (certF d (P ++ Q)).flatten M * (bestR (d, [ra]) M - bestR (d, [rb]) M) ≤ bestR (d, insP P Q ra) M - bestR (d, insP P Q rb) M := by
    refine thr_ind (valsC (d, insP P Q ra) ++ valsC (d, insP P Q rb)) (fun M => 0 ≤ M → rv d ^ cntV (certF d (P ++ Q)).flatten M * (bestR (d, [ra]) M - bestR (d, [rb]) M) ≤ bestR (d, insP P Q ra) M - bestR (d, insP P Q rb) M) (fun M h _ => ?_) (fun s t hst hn ih s0 => ?_) _ M (Nat.le_refl _)
    · have ha : ∀ v ∈ valsC (d, insP P Q ra), v ≤ M := fun v hv => h v (List.mem_append.mpr (.inl hv))
      have hb : ∀ v ∈ valsC (d, insP P Q rb), v ≤ M := fun v hv => h v (List.mem_append.mpr (.inr hv))
      rw [best_top oa ha, best_top ob hb, best_top a1 fun v hv => ha v (vals_one hv), best_top b1 fun v hv => hb v (vals_one hv)]
      grind
    · have ih := ih (by grind)
      have hst' : s ≤ t := by grind
      have ha : ∀ v ∈ valsC (d, insP P Q ra), ¬ (s < v ∧ v < t) := fun v hv => hn v (List.mem_append.mpr (.inl hv))
      have hb : ∀ v ∈ valsC (d, insP P Q rb), ¬ (s < v ∧ v < t) := fun v hv => hn v (List.mem_append.mpr (.inr hv))
      have g := G t (by grind)
      rw [best_step oa hst' ha, best_step ob hst' hb, best_step a1 hst' fun v hv => ha v (vals_one hv), best_step b1 hst' fun v hv => hb v (vals_one hv)]
      show rv d ^ _ * (bestR (d, [ra]) t - (t - s) * rv d ^ cntV (certF d [ra]).flatten s / (1 - rv d) - (bestR (d, [rb]) t - (t - s) * rv d ^ cntV (certF d [rb]).flatten s / (1 - rv d))) ≤ bestR (d, insP P Q ra) t - (t - s) * rv d ^ cntV (certF d (insP P Q ra)).flatten s / (1 - rv d) - (bestR (d, insP P Q rb) t - (t - s) * rv d ^ cntV (certF d (insP P Q rb)).flatten s / (1 - rv d))
      rw [cnt_ins, cnt_ins, qpow_add, qpow_add]
      have mono := qpow_le hq.1 (Rat.le_of_lt hq.2) (cntV_mono (certF d (P ++ Q)).flatten hst')
      have n1 : 1 - rv d ≠ 0 := by grind
      generalize rv d ^ cntV (certF d (P ++ Q)).flatten s = Ns at *
      generalize rv d ^ cntV (certF d (P ++ Q)).flatten t = Nt at *
      generalize rv d ^ cntV (certF d [ra]).flatten s = Xa at *
      generalize rv d ^ cntV (certF d [rb]).flatten s = Xb at *
      generalize bestR (d, [ra]) t = u at *
      generalize bestR (d, [rb]) t = w at *
      generalize bestR (d, insP P Q ra) t = U at *
      generalize bestR (d, insP P Q rb) t = W at *
      have m2 : Ns * (u - w) ≤ Nt * (u - w) := Rat.mul_le_mul_of_nonneg_right mono (by grind)
      have e1 : (t - s) * (Ns * Xa) / (1 - rv d) = Ns * ((t - s) * Xa / (1 - rv d)) := by grind
      have e2 : (t - s) * (Ns * Xb) / (1 - rv d) = Ns * ((t - s) * Xb / (1 - rv d)) := by grind
      rw [e1, e2]
      generalize (t - s) * Xa / (1 - rv d) = Ya at *
      generalize (t - s) * Xb / (1 - rv d) = Yb at *
      clear e1 e2 mono g
      have e3 : Ns * (u - Ya - (w - Yb)) = Ns * (u - w) - Ns * Ya + Ns * Yb := by grind
      rw [e3]
      grind
  have k := key hM
  have g := G M hM
  have p := Rat.mul_nonneg (Rat.le_of_lt (qpow_pos hq.1 (cntV (certF d (P ++ Q)).flatten M))) (show 0 ≤ bestR (d, [ra]) M - bestR (d, [rb]) M by grind)
  grind
/-! ### the first shortfall -/
def dgA (w : Nat → Int) (a : List (Int × Int)) (x : Int × Int) (k : Nat) : Int × Int := if k < a.length then aoF x (w k * (rdc a k).1, (rdc a k).2) else x
def dgF (w : Nat → Int) (a b : List (Int × Int)) : Nat → Int × Int
  | 0 => (0, 1)
  | k + 1 => aoF (dgA w a (dgF w a b k) k) (-(w k) * (rdc b k).1, (rdc b k).2)
theorem ao_bd {x y : Int × Int} {m n k : Nat} (hx : 0 < x.2) (hy : 0 < y.2) (x1 : Bd m x.1) (y2 : Bd 700 y.2) (y1 : Bd n y.1) (x2 : Bd k x.2) : Bd (max (m + 700) (n + k) + 1) (aoF x y).1 := by
  unfold aoF
  dsimp only
  have u1 := x1.mul (y2.of (gcd_div_le (y := y.2) (Int.le_of_lt hy) x.2))
  have u2 := y1.mul (x2.of (gcd_div_le (x := x.2) (y := y.2) (by omega) x.2))
  exact Bd.add (u1.le (Nat.le_max_left _ _)) (u2.le (Nat.le_max_right _ _))
/-- lists of charges with a common denominator -/
structure Cl (l : List (Int × Int)) : Prop where
  den : ∀ k, 0 < (rdc l k).2
  bd : ∀ k, Bd 700 (rdc l k).1 ∧ Bd 700 (rdc l k).2
  fl : FalL l
  nn : ∀ k, 0 ≤ rv (rdc l k)
  len : l.length ≤ 60
  lcm : ∃ L : Int, 0 < L ∧ Bd 610 L ∧ ∀ k, (rdc l k).2 ∣ L
theorem pos_cl {d : Int × Int} {rs : List Int} (hd : Dis d) (hr : Rws rs) : Cl (posQ (chgs d.1 d.2 rs)) := by
  have C := chgs_crg hd hr
  have pl := posQ_len (chgs d.1 d.2 rs)
  have cl := C.len
  obtain ⟨L, l0, l1, l2⟩ := chgs_den hd rs
  have hc : ∀ k, rdc (posQ (chgs d.1 d.2 rs)) k = rdc (chgs d.1 d.2 rs) k ∨ rdc (posQ (chgs d.1 d.2 rs)) k = (0, 1) := fun k => by
    by_cases z : k < (posQ (chgs d.1 d.2 rs)).length
    · exact .inl (C.pos_at z)
    · exact .inr (rdc_over z)
  refine ⟨fun k => ?_, fun k => ?_, C.pos_fl, C.pos_nn, by have := hr.1; omega, L, l0, ?_, fun k => ?_⟩
  · rcases hc k with e | e <;> rw [e]
    · exact C.den k
    · show (0 : Int) < 1; decide
  · rcases hc k with e | e <;> rw [e]
    · exact C.bd k
    · exact ⟨Bd.zero, Bd.one (by decide)⟩
  · have p : Bd 601 (d.2 ^ rs.length) := (hd.bd.2.1.pow _).le (by have := hr.1; omega)
    refine (p.of ?_).le (by decide)
    omega
  · by_cases z : k < (posQ (chgs d.1 d.2 rs)).length
    · rw [C.pos_at z]
      exact l2 _ (rdc_mem (by omega))
    · rw [rdc_over z]
      exact ⟨L, (Int.one_mul L).symm⟩
theorem wt_val {d : Int × Int} (hd : Dis d) {n k : Nat} (hk : k < n) {x : Int × Int} (hx : 0 < x.2) : rv (wt d.1 d.2 n k * x.1, x.2) = (d.2 : Rat) ^ (n - 1) * (rv d ^ k * rv x) := by
  have w := wt_rat hd hk
  have f1 : ((wt d.1 d.2 n k * x.1 : Int) : Rat) = (wt d.1 d.2 n k : Rat) * (x.1 : Rat) := by exact_mod_cast rfl
  have p := cast_pos hx
  show ((wt d.1 d.2 n k * x.1 : Int) : Rat) / (x.2 : Rat) = _ * (_ * ((x.1 : Rat) / (x.2 : Rat)))
  rw [f1, w]
  generalize (d.2 : Rat) ^ (n - 1) = B
  generalize rv d ^ k = Q
  generalize (x.1 : Rat) = P at *
  generalize (x.2 : Rat) = E at *
  grind
theorem wt_valn {d : Int × Int} (hd : Dis d) {n k : Nat} (hk : k < n) {x : Int × Int} (hx : 0 < x.2) : rv (-(wt d.1 d.2 n k) * x.1, x.2) = -((d.2 : Rat) ^ (n - 1) * (rv d ^ k * rv x)) := by
  rw [← wt_val hd hk hx]
  have f1 : ((-(wt d.1 d.2 n k) * x.1 : Int) : Rat) = -((wt d.1 d.2 n k * x.1 : Int) : Rat) := by rw [Int.neg_mul]; exact_mod_cast rfl
  have p := cast_pos hx
  show ((-(wt d.1 d.2 n k) * x.1 : Int) : Rat) / (x.2 : Rat) = -(((wt d.1 d.2 n k * x.1 : Int) : Rat) / (x.2 : Rat))
  rw [f1]
  generalize ((wt d.1 d.2 n k * x.1 : Int) : Rat) = P at *
  generalize (x.2 : Rat) = E at *
  grind
structure DgO (d : Int × Int) (n : Nat) (L : Int) (v : Rat) (m : Nat) (x : Int × Int) : Prop where
  den : 0 < x.2
  dvd : x.2 ∣ L
  val : rv x = (d.2 : Rat) ^ (n - 1) * v
  bd : Bd m x.1
theorem DgO.b2 {d : Int × Int} {n : Nat} {L : Int} {v : Rat} {m : Nat} {x : Int × Int} (h : DgO d n L v m x) (l0 : 0 < L) (lb : Bd 1220 L) : Bd 1220 x.2 := by
  refine lb.of ?_
  have := Int.le_of_dvd l0 h.dvd
  have := h.den
  omega
section
variable {d : Int × Int} {a b : List (Int × Int)}
theorem dgA_ok (hd : Dis d) (ca : Cl a) {n : Nat} (hn : n ≤ 60) {L : Int} (l0 : 0 < L) (lb : Bd 1220 L) (la : ∀ k, (rdc a k).2 ∣ L) {k m : Nat} (hk : k < n) {v : Rat} {x : Int × Int} (h : DgO d n L v m x) (hm : 1820 ≤ m) :
    DgO d n L (v + rv d ^ k * rv (rdc a k)) (m + 701) (dgA (wt d.1 d.2 n) a x k) := by
  unfold dgA
  split
  · rename_i hk'
    obtain ⟨ha, hb, _, _⟩ := hd.bd
    have wB : Bd 600 (wt d.1 d.2 n k) := (Bd.wt ha hb hk).le (by omega)
    obtain ⟨a1, a2, a3⟩ := ao_ok (a := x) (b := (wt d.1 d.2 n k * (rdc a k).1, (rdc a k).2)) h.den (ca.den k)
    refine ⟨a1, a3 _ h.dvd (la k), ?_, ?_⟩
    · rw [a2, h.val, wt_val hd hk (ca.den k)]
      grind
    · exact (ao_bd (x := x) (y := (wt d.1 d.2 n k * (rdc a k).1, (rdc a k).2)) h.den (ca.den k) h.bd (ca.bd k).2 (wB.mul (ca.bd k).1) (h.b2 l0 lb)).le (by omega)
  · rename_i hk'
    rw [rv_over (by omega)]
    exact ⟨h.den, h.dvd, by rw [h.val]; grind, h.bd.le (by omega)⟩
theorem dg_ok (hd : Dis d) (ca : Cl a) (cb : Cl b) {n : Nat} (hn : n ≤ 60) {L : Int} (l0 : 0 < L) (lb : Bd 1220 L) (la : ∀ k, (rdc a k).2 ∣ L) (lbd : ∀ k, (rdc b k).2 ∣ L) : ∀ k, k ≤ n → DgO d n L (pfx (rv d) a k - pfx (rv d) b k) (2600 + 1500 * k) (dgF (wt d.1 d.2 n) a b k)
  | 0, _ => ⟨by show (0 : Int) < 1; decide, ⟨L, (Int.one_mul _).symm⟩, by
      show rv (0, 1) = _ * ((0 : Rat) - 0)
      rw [rv_zero1]; grind, Bd.zero⟩
  | k + 1, hk => by
    have i := dgA_ok hd ca hn l0 lb la (k := k) (by omega) (dg_ok hd ca cb hn l0 lb la lbd k (by omega)) (by omega)
    obtain ⟨ha, hb, _, _⟩ := hd.bd
    have wB : Bd 600 (wt d.1 d.2 n k) := (Bd.wt ha hb (by omega)).le (by omega)
    obtain ⟨a1, a2, a3⟩ := ao_ok (a := dgA (wt d.1 d.2 n) a (dgF (wt d.1 d.2 n) a b k) k) (b := (-(wt d.1 d.2 n k) * (rdc b k).1, (rdc b k).2)) i.den (cb.den k)
    have nB : Bd 1300 (-(wt d.1 d.2 n k) * (rdc b k).1) := by
      rw [Int.neg_mul]
      exact (wB.mul (cb.bd k).1).of (by rw [Int.natAbs_neg]; exact Nat.le_refl _)
    refine ⟨a1, a3 _ i.dvd (lbd k), ?_, ?_⟩
    · show rv (aoF _ _) = _
      rw [a2, i.val, wt_valn hd (by omega) (cb.den k)]
      unfold pfx
      rw [sR_succ, sR_succ]
      generalize (d.2 : Rat) ^ (n - 1) = B
      grind
    · exact (ao_bd (x := dgA (wt d.1 d.2 n) a (dgF (wt d.1 d.2 n) a b k) k) (y := (-(wt d.1 d.2 n k) * (rdc b k).1, (rdc b k).2)) i.den (cb.den k) i.bd (cb.bd k).2 nB (i.b2 l0 lb)).le (by omega)
theorem cl_lcm (ca : Cl a) (cb : Cl b) : ∃ L : Int, 0 < L ∧ Bd 1220 L ∧ (∀ k, (rdc a k).2 ∣ L) ∧ ∀ k, (rdc b k).2 ∣ L := by
  obtain ⟨La, a0, a1, a2⟩ := ca.lcm
  obtain ⟨Lb, b0, b1, b2⟩ := cb.lcm
  exact ⟨La * Lb, Int.mul_pos a0 b0, a1.mul b1, fun k => Int.dvd_trans (a2 k) ⟨Lb, rfl⟩, fun k => Int.dvd_trans (b2 k) ⟨La, Int.mul_comm _ _⟩⟩
/-- what add_over asks for -/
theorem dg_pre (hd : Dis d) (ca : Cl a) (cb : Cl b) {n : Nat} (hn : n ≤ 60) {k : Nat} (hk : k ≤ n) : 0 < (dgF (wt d.1 d.2 n) a b k).2 ∧ Bd 8000 (dgF (wt d.1 d.2 n) a b k).2 ∧ Bd 600000 (dgF (wt d.1 d.2 n) a b k).1 ∧
    (k < n → 0 < (dgA (wt d.1 d.2 n) a (dgF (wt d.1 d.2 n) a b k) k).2 ∧ Bd 8000 (dgA (wt d.1 d.2 n) a (dgF (wt d.1 d.2 n) a b k) k).2 ∧ Bd 600000 (dgA (wt d.1 d.2 n) a (dgF (wt d.1 d.2 n) a b k) k).1) := by
  obtain ⟨L, l0, lb, la, lbd⟩ := cl_lcm ca cb
  have i := dg_ok hd ca cb hn l0 lb la lbd k hk
  refine ⟨i.den, (i.b2 l0 lb).le (by decide), i.bd.le (by omega), fun hk' => ?_⟩
  have j := dgA_ok hd ca hn l0 lb la hk' i (by omega)
  exact ⟨j.den, (j.b2 l0 lb).le (by decide), j.bd.le (by omega)⟩
theorem dg_sign (hd : Dis d) (ca : Cl a) (cb : Cl b) {n : Nat} (hn : n ≤ 60) {k : Nat} (hk : k ≤ n) : (dgF (wt d.1 d.2 n) a b k).1 < 0 ↔ pfx (rv d) a k < pfx (rv d) b k := by
  obtain ⟨L, l0, lb, la, lbd⟩ := cl_lcm ca cb
  have i := dg_ok hd ca cb hn l0 lb la lbd k hk
  have e := rv_lt (s := dgF (wt d.1 d.2 n) a b k) (t := (0, 1)) i.den (show (0 : Int) < 1 by decide)
  rw [rv_zero1, i.val] at e
  have p : 0 < (d.2 : Rat) ^ (n - 1) := qpow_pos (cast_pos hd.bd.2.2.2) _
  have e2 : (dgF (wt d.1 d.2 n) a b k).1 * (0, (1 : Int)).2 < (0, (1 : Int)).1 * (dgF (wt d.1 d.2 n) a b k).2 ↔ (dgF (wt d.1 d.2 n) a b k).1 < 0 := by
    show _ * 1 < 0 * _ ↔ _
    rw [Int.mul_one, Int.zero_mul]
  rw [← e2]
  refine e.symm.trans ⟨fun h => ?_, fun h => ?_⟩
  · refine Rat.not_le.mp fun z => ?_
    have := Rat.mul_nonneg (Rat.le_of_lt p) (show 0 ≤ pfx (rv d) a k - pfx (rv d) b k by grind)
    grind
  · have := Rat.mul_pos p (show 0 < pfx (rv d) b k - pfx (rv d) a k by grind)
    grind
end
def shF (d : Int × Int) (a b : List (Int × Int)) : Option Int := Option.map (fun k : Nat => (k : Int) + 1) ((List.range b.length).find? fun k : Nat => decide ((dgF (wt d.1 d.2 b.length) a b (k + 1)).1 < 0))
theorem sh_none {d : Int × Int} {a b : List (Int × Int)} (h : ∀ k, k < b.length → ¬ (dgF (wt d.1 d.2 b.length) a b (k + 1)).1 < 0) : shF d a b = none := by
  unfold shF
  rw [Option.map_eq_none_iff, List.find?_eq_none]
  intro k hk
  rw [decide_eq_true_eq]
  exact h k (List.mem_range.mp hk)
theorem find_range {p : Nat → Bool} : ∀ {n i : Nat}, i < n → (∀ j, j < i → p j = false) → p i = true → (List.range n).find? p = some i := fun {n i} hi h e => by
  obtain ⟨m, rfl⟩ : ∃ m, n = i + (m + 1) := ⟨n - i - 1, by omega⟩
  rw [List.range_add, List.find?_append]
  have z : (List.range i).find? p = none := by
    rw [List.find?_eq_none]
    intro j hj
    rw [h j (List.mem_range.mp hj)]
    decide
  rw [z, List.range_succ_eq_map]
  simp [e]
theorem sh_some {d : Int × Int} {a b : List (Int × Int)} {i : Nat} (hi : i < b.length) (h : ∀ k, k < i → ¬ (dgF (wt d.1 d.2 b.length) a b (k + 1)).1 < 0) (e : (dgF (wt d.1 d.2 b.length) a b (i + 1)).1 < 0) : shF d a b = some ((i : Int) + 1) := by
  unfold shF
  rw [find_range hi (fun j hj => decide_eq_false (h j hj)) (decide_eq_true e)]
  rfl
theorem sh_is {d : Int × Int} (hd : Dis d) {a b : List (Int × Int)} (ca : Cl a) (cb : Cl b) : (shF d a b = none ∧ ∀ k, k ≤ b.length → pfx (rv d) b k ≤ pfx (rv d) a k) ∨ ∃ i : Nat, i < b.length ∧ shF d a b = some ((i : Int) + 1) ∧ pfx (rv d) a (i + 1) < pfx (rv d) b (i + 1) := by
  cases e : (List.range b.length).find? fun k => decide ((dgF (wt d.1 d.2 b.length) a b (k + 1)).1 < 0) with
  | none =>
    refine .inl ⟨by unfold shF; rw [e]; rfl, fun k hk => ?_⟩
    rw [List.find?_eq_none] at e
    cases k with
    | zero => exact Rat.le_refl
    | succ k =>
      have h := e k (List.mem_range.mpr (by omega))
      rw [decide_eq_true_eq] at h
      exact Rat.not_lt.mp fun w => h ((dg_sign hd ca cb cb.len hk).mpr w)
  | some i =>
    have h1 := List.mem_range.mp (List.mem_of_find?_eq_some e)
    have h2 : decide ((dgF (wt d.1 d.2 b.length) a b (i + 1)).1 < 0) = true := List.find?_some (p := fun k : Nat => decide ((dgF (wt d.1 d.2 b.length) a b (k + 1)).1 < 0)) e
    replace h2 := of_decide_eq_true h2
    exact .inr ⟨i, h1, by unfold shF; rw [e]; rfl, (dg_sign hd ca cb cb.len (by omega)).mp h2⟩
/-- an offer that shows it, or none -/
def loF (d : Int × Int) (a b : List (Int × Int)) : Option (Int × Int) := (shF d a b).map fun x => rdc a x.toNat
theorem pfx_over {q : Rat} {l : List (Int × Int)} {k : Nat} (h : l.length ≤ k) : pfx q l k = pfx q l l.length := sR_stop h fun i hi _ => by rw [rv_over hi]; grind
theorem sh_all {d : Int × Int} (hd : Dis d) {a b : List (Int × Int)} (ca : Cl a) (cb : Cl b) (h : shF d a b = none) (k : Nat) : pfx (rv d) b k ≤ pfx (rv d) a k := by
  rcases sh_is hd ca cb with ⟨_, H⟩ | ⟨i, _, e, _⟩
  · by_cases z : k ≤ b.length
    · exact H k z
    · rw [pfx_over (l := b) (by omega)]
      exact Rat.le_trans (H _ (Nat.le_refl _)) (sR_mono (by omega) fun i _ _ => Rat.mul_nonneg (Rat.le_of_lt (qpow_pos hd.q.1 i)) (ca.nn i))
  · rw [h] at e; cases e
theorem sh_no {d : Int × Int} (hd : Dis d) {a b : List (Int × Int)} (ca : Cl a) (cb : Cl b) {k : Nat} (h : pfx (rv d) a k < pfx (rv d) b k) : (loF d a b).isNone = false := by
  cases e : shF d a b with
  | none =>
    have := sh_all hd ca cb e k
    grind
  | some x => unfold loF; rw [e]; rfl
theorem sh_yes {d : Int × Int} (hd : Dis d) {a b : List (Int × Int)} (ca : Cl a) (cb : Cl b) (h : ∀ k, k ≤ b.length → ¬ pfx (rv d) a k < pfx (rv d) b k) : (loF d a b).isNone = true := by
  rcases sh_is hd ca cb with ⟨e, _⟩ | ⟨i, hi, _, g⟩
  · unfold loF; rw [e]; rfl
  · exact absurd g (h _ (by omega))
theorem lo_none {d : Int × Int} {a b : List (Int × Int)} (h : (loF d a b).isNone = true) : shF d a b = none := by
  unfold loF at h
  cases e : shF d a b with
  | none => rfl
  | some x => rw [e] at h; cases h
theorem lo_self {d : Int × Int} (hd : Dis d) {a : List (Int × Int)} (ca : Cl a) : loF d a a = none := by
  rcases sh_is hd ca ca with ⟨e, _⟩ | ⟨i, _, _, g⟩
  · unfold loF; rw [e]; rfl
  · exact absurd g (Rat.not_lt.mpr Rat.le_refl)
/-- what the offer shows -/
theorem lo_gp {d : Int × Int} (hd : Dis d) {a b : List (Int × Int)} (ca : Cl a) (cb : Cl b) {o : Int × Int} (h : loF d a b = some o) : 0 < o.2 ∧ 0 ≤ rv o ∧ gp (rv d) a (rv o) < gp (rv d) b (rv o) ∧ (o = (0, 1) ∨ o ∈ a) := by
  rcases sh_is hd ca cb with ⟨e, _⟩ | ⟨i, hi, e, g⟩
  · unfold loF at h; rw [e] at h; cases h
  · unfold loF at h
    rw [e] at h
    have h : some (rdc a (i + 1)) = some o := h
    cases h
    refine ⟨ca.den _, ca.nn _, beat_gp hd.q.1 ca.fl ca.nn g, ?_⟩
    by_cases z : i + 1 < a.length
    · exact .inr (rdc_mem z)
    · exact .inl (rdc_over z)
/-- none is told: the gains are nowhere less -/
theorem lo_dom {d : Int × Int} (hd : Dis d) {a b : List (Int × Int)} (ca : Cl a) (cb : Cl b) (h : (loF d a b).isNone = true) {M : Rat} (hM : 0 ≤ M) : gp (rv d) b M ≤ gp (rv d) a M :=
  dom_gp hd.q.1 cb.fl (fun k _ => sh_all hd ca cb (lo_none h) k) hM
/-! ### the law's own gains, sums -/
theorem gain_is {d : Int × Int} (h : Dis d) {rs : List Int} {cs : List (Int × Int)} (hc : Crg d rs cs) {o : Int × Int} (ho : 0 < o.2) : 0 < o.2 * d.2 ^ (rs.length - 1) ∧ rv ((bsF (ws d.1 d.2 rs.length one) (ws d.1 d.2 rs.length (rdl rs)) o rs.length).1, o.2 * d.2 ^ (rs.length - 1)) = gp (rv d) cs (rv o) := by
  obtain ⟨b1, b2, b3, b4⟩ := bs_ok (D := ws d.1 d.2 rs.length one) (S := ws d.1 d.2 rs.length (rdl rs)) (o := o) rfl rfl rs.length
  have si := stop_is h hc ho
  rw [si] at b2
  have Kl : (abvL cs o).length ≤ rs.length := by rw [← hc.len]; exact List.length_filter_le _ _
  have g : sR (fun t => rv d ^ t * ((rdl rs t : Rat) - rv o)) (abvL cs o).length = sR (fun t => rv d ^ t * (rv (rdc cs t) - rv o)) (abvL cs o).length - tR d (rdl rs) (rdc cs) (abvL cs o).length := by
    unfold tR
    rw [← sR_sub]
    exact sR_congr fun t _ => by grind
  have TK : tR d (rdl rs) (rdc cs) (abvL cs o).length = 0 := hc.tight _ Kl fun k0 kn => by
    have a := (hc.abv ho ((abvL cs o).length - 1) (by omega)).mp (by omega)
    have b : ¬ rv o < rv (rdc cs (abvL cs o).length) := fun z => by have := (hc.abv ho _ kn).mpr z; omega
    grind
  rw [TK] at g
  have gr := gn_rat h (rdl rs) ho Kl
  rw [b2, g, sum_gp hc.fl (by rw [hc.len]; exact Kl) fun t ht => hc.abv ho t (by rw [← hc.len]; exact ht)] at gr
  have d2 := h.bd.2.2.2
  have p : 0 < o.2 * d.2 ^ (rs.length - 1) := Int.mul_pos ho (Int.pow_pos d2)
  refine ⟨p, ?_⟩
  have pr : (0 : Rat) < ((o.2 * d.2 ^ (rs.length - 1) : Int) : Rat) := cast_pos p
  have e : ((o.2 * d.2 ^ (rs.length - 1) : Int) : Rat) = (o.2 : Rat) * (d.2 : Rat) ^ (rs.length - 1) := by
    rw [← cast_pow]; exact_mod_cast rfl
  show ((bsF _ _ o rs.length).1 : Rat) / ((o.2 * d.2 ^ (rs.length - 1) : Int) : Rat) = _
  rw [gr]
  rw [e] at pr ⊢
  generalize (o.2 : Rat) = O at *
  generalize (d.2 : Rat) ^ (rs.length - 1) = B at *
  generalize gp (rv d) cs (rv o) = G at *
  have n1 : O * B ≠ 0 := by grind
  have : B * O * (G - 0) = G * (O * B) := by grind
  grind
theorem gainB_bd {d : Int × Int} (h : Dis d) {rs : List Int} (hr : Rws rs) {o : Int × Int} (ho : Bd 1400 o.1 ∧ Bd 1400 o.2) : Bd 2200 (bsF (ws d.1 d.2 rs.length one) (ws d.1 d.2 rs.length (rdl rs)) o rs.length).1 ∧ Bd 2200 (o.2 * d.2 ^ (rs.length - 1)) := by
  obtain ⟨b1, b2, b3, b4⟩ := bs_ok (D := ws d.1 d.2 rs.length one) (S := ws d.1 d.2 rs.length (rdl rs)) (o := o) rfl rfl rs.length
  have n60 := hr.1
  obtain ⟨ha, hb, _, _⟩ := h.bd
  have W : ∀ (r : Nat → Int), (∀ i, Bd 31 (r i)) → ∀ k, k ≤ rs.length → Bd 692 (ws d.1 d.2 rs.length r k) := fun r hB k hk => (Bd.ws (m := 31) ha hb hk fun i _ => hB i).le (by omega)
  refine ⟨?_, ?_⟩
  · rw [← b2]
    unfold gnF
    exact (Bd.sub (n := 2092) ((W _ (fun i => hr.bd i) _ b1).mul ho.2) ((ho.1.mul (W one (fun _ => Bd.one (by decide)) _ b1)).le (by omega))).le (by decide)
  · exact (ho.2.mul ((hb.pow _).le (show 10 * (rs.length - 1) + 1 ≤ 591 by omega))).le (by decide)
def nbA (w : Nat → Int) (a : List (Int × Int)) (x : Int × Int) (k : Nat) : Int × Int := if k < a.length then (x.1 * (rdc a k).2 + w k * (rdc a k).1 * x.2, x.2 * (rdc a k).2) else x
def nbB (w : Nat → Int) (a : List (Int × Int)) (x : Int × Int) (k : Nat) : Int × Int := if k < a.length then (x.1 * (rdc a k).2 - w k * (rdc a k).1 * x.2, x.2 * (rdc a k).2) else x
def nbF (w : Nat → Int) (a b : List (Int × Int)) : Nat → Int × Int
  | 0 => (0, 1)
  | k + 1 => nbB w b (nbA w a (nbF w a b k) k) k
structure NbO (d : Int × Int) (n : Nat) (v : Rat) (m k : Nat) (x : Int × Int) : Prop where
  den : 0 < x.2
  val : rv x = (d.2 : Rat) ^ (n - 1) * v
  bd : Bd m x.1 ∧ Bd k x.2
theorem nb_step {d : Int × Int} (hd : Dis d) {n : Nat} (hn : n ≤ 60) {a : List (Int × Int)} (ca : Cl a) {m s k : Nat} (hk : k < n) {v : Rat} {x : Int × Int} (h : NbO d n v m s x) (hm : 700 + s ≤ m) :
    NbO d n (v + rv d ^ k * rv (rdc a k)) (m + 701) (s + 700) (nbA (wt d.1 d.2 n) a x k) ∧ NbO d n (v - rv d ^ k * rv (rdc a k)) (m + 701) (s + 700) (nbB (wt d.1 d.2 n) a x k) := by
  unfold nbA nbB
  by_cases z : k < a.length
  · rw [if_pos z, if_pos z]
    obtain ⟨ha, hb, _, _⟩ := hd.bd
    have wB : Bd 600 (wt d.1 d.2 n k) := (Bd.wt ha hb hk).le (by omega)
    obtain ⟨c1, c2⟩ := ca.bd k
    have p := h.den
    have e := ca.den k
    have w := wt_val hd hk e
    have hv := h.val
    have p0 : 0 < x.2 * (rdc a k).2 := Int.mul_pos p e
    have pr := cast_pos p
    have er := cast_pos e
    have r0 : rv (wt d.1 d.2 n k * (rdc a k).1, (rdc a k).2) = ((wt d.1 d.2 n k * (rdc a k).1 : Int) : Rat) / ((rdc a k).2 : Rat) := rfl
    have x0 : rv x = (x.1 : Rat) / (x.2 : Rat) := rfl
    have f2 : ((x.2 * (rdc a k).2 : Int) : Rat) = (x.2 : Rat) * ((rdc a k).2 : Rat) := by exact_mod_cast rfl
    have u1 := (h.bd.1.mul c2).le (show m + 700 ≤ m + 700 by omega)
    have u2 := ((wB.mul c1).mul h.bd.2).le (show 600 + 700 + s ≤ m + 700 by omega)
    refine ⟨⟨p0, ?_, Bd.add u1 u2, h.bd.2.mul c2⟩, ⟨p0, ?_, Bd.sub u1 u2, h.bd.2.mul c2⟩⟩
    · have f1 : ((x.1 * (rdc a k).2 + wt d.1 d.2 n k * (rdc a k).1 * x.2 : Int) : Rat) = (x.1 : Rat) * ((rdc a k).2 : Rat) + ((wt d.1 d.2 n k * (rdc a k).1 : Int) : Rat) * (x.2 : Rat) := by exact_mod_cast rfl
      show ((x.1 * (rdc a k).2 + wt d.1 d.2 n k * (rdc a k).1 * x.2 : Int) : Rat) / ((x.2 * (rdc a k).2 : Int) : Rat) = _
      rw [f1, f2]
      rw [r0] at w
      rw [x0] at hv
      generalize ((wt d.1 d.2 n k * (rdc a k).1 : Int) : Rat) = N at *
      generalize ((rdc a k).2 : Rat) = E at *
      generalize (x.1 : Rat) = X at *
      generalize (x.2 : Rat) = Y at *
      generalize (d.2 : Rat) ^ (n - 1) = B at *
      generalize rv d ^ k * rv (rdc a k) = T at *
      have n1 : E ≠ 0 := by grind
      have n2 : Y ≠ 0 := by grind
      have : (X * E + N * Y) / (Y * E) = X / Y + N / E := by grind
      rw [this, hv, w]
      grind
    · have f1 : ((x.1 * (rdc a k).2 - wt d.1 d.2 n k * (rdc a k).1 * x.2 : Int) : Rat) = (x.1 : Rat) * ((rdc a k).2 : Rat) - ((wt d.1 d.2 n k * (rdc a k).1 : Int) : Rat) * (x.2 : Rat) := by exact_mod_cast rfl
      show ((x.1 * (rdc a k).2 - wt d.1 d.2 n k * (rdc a k).1 * x.2 : Int) : Rat) / ((x.2 * (rdc a k).2 : Int) : Rat) = _
      rw [f1, f2]
      rw [r0] at w
      rw [x0] at hv
      generalize ((wt d.1 d.2 n k * (rdc a k).1 : Int) : Rat) = N at *
      generalize ((rdc a k).2 : Rat) = E at *
      generalize (x.1 : Rat) = X at *
      generalize (x.2 : Rat) = Y at *
      generalize (d.2 : Rat) ^ (n - 1) = B at *
      generalize rv d ^ k * rv (rdc a k) = T at *
      have n1 : E ≠ 0 := by grind
      have n2 : Y ≠ 0 := by grind
      have : (X * E - N * Y) / (Y * E) = X / Y - N / E := by grind
      rw [this, hv, w]
      grind
  · rw [if_neg z, if_neg z, rv_over (by omega)]
    have b := h.bd
    exact ⟨⟨h.den, by rw [h.val]; grind, b.1.le (by omega), b.2.le (by omega)⟩, ⟨h.den, by rw [h.val]; grind, b.1.le (by omega), b.2.le (by omega)⟩⟩
theorem nb_ok {d : Int × Int} (hd : Dis d) {n : Nat} (hn : n ≤ 60) {a b : List (Int × Int)} (ca : Cl a) (cb : Cl b) : ∀ k, k ≤ n → NbO d n (pfx (rv d) a k - pfx (rv d) b k) (2900 + 1402 * k) (1 + 1400 * k) (nbF (wt d.1 d.2 n) a b k)
  | 0, _ => ⟨by show (0 : Int) < 1; decide, by show rv (0, 1) = _ * ((0 : Rat) - 0); rw [rv_zero1]; grind, Bd.zero, Bd.one (by decide)⟩
  | k + 1, hk => by
    have i := (nb_step hd hn ca (k := k) (by omega) (nb_ok hd hn ca cb k (by omega)) (by omega)).1
    have j := (nb_step hd hn cb (k := k) (by omega) i (by omega)).2
    refine ⟨j.den, ?_, j.bd.1.le (by omega), j.bd.2.le (by omega)⟩
    show rv (nbB _ _ _ _) = _
    rw [j.val]
    unfold pfx
    rw [sR_succ, sR_succ]
    grind
theorem nb_sign {d : Int × Int} (hd : Dis d) {n : Nat} (hn : n ≤ 60) {a b : List (Int × Int)} (ca : Cl a) (cb : Cl b) {k : Nat} (hk : k ≤ n) : (nbF (wt d.1 d.2 n) a b k).1 < 0 ↔ pfx (rv d) a k < pfx (rv d) b k := by
  have i := nb_ok hd hn ca cb k hk
  have e := rv_lt (s := nbF (wt d.1 d.2 n) a b k) (t := (0, 1)) i.den (show (0 : Int) < 1 by decide)
  rw [rv_zero1, i.val] at e
  have p : 0 < (d.2 : Rat) ^ (n - 1) := qpow_pos (cast_pos hd.bd.2.2.2) _
  have e2 : (nbF (wt d.1 d.2 n) a b k).1 * (0, (1 : Int)).2 < (0, (1 : Int)).1 * (nbF (wt d.1 d.2 n) a b k).2 ↔ (nbF (wt d.1 d.2 n) a b k).1 < 0 := by
    show _ * 1 < 0 * _ ↔ _
    rw [Int.mul_one, Int.zero_mul]
  rw [← e2]
  refine e.symm.trans ⟨fun h => ?_, fun h => ?_⟩
  · refine Rat.not_le.mp fun z => ?_
    have := Rat.mul_nonneg (Rat.le_of_lt p) (show 0 ≤ pfx (rv d) a k - pfx (rv d) b k by grind)
    grind
  · have := Rat.mul_pos p (show 0 < pfx (rv d) b k - pfx (rv d) a k by grind)
    grind
/-! ### alike lists -/
theorem pfx_succ (q : Rat) (l : List (Int × Int)) (k : Nat) : pfx q l (k + 1) = pfx q l k + q ^ k * rv (rdc l k) := rfl
theorem FalL.all {l : List (Int × Int)} (h : FalL l) (nn : ∀ t, 0 ≤ rv (rdc l t)) (k : Nat) : rv (rdc l (k + 1)) ≤ rv (rdc l k) := by
  by_cases z : k + 1 < l.length
  · exact h k z
  · rw [rv_over (by omega)]; exact nn k
section
variable {d : Int × Int} {rs : List Int} {cs : List (Int × Int)}
def sumR (q : Rat) (rs : List Int) (k : Nat) : Rat := sR (fun t => q ^ t * (rdl rs t : Rat)) k
theorem tR_eq (d : Int × Int) (rs : List Int) (cs : List (Int × Int)) (k : Nat) : tR d (rdl rs) (rdc cs) k = pfx (rv d) cs k - sumR (rv d) rs k := by
  unfold tR pfx sumR
  rw [← sR_sub]
  exact sR_congr fun t _ => by grind
theorem Crg.pfx_pos (h : Crg d rs cs) {k : Nat} (hk : k ≤ (posQ cs).length) : pfx (rv d) (posQ cs) k = pfx (rv d) cs k := sR_congr fun t ht => by rw [h.pos_at (by omega)]
theorem Crg.pos_maj (hd : Dis d) (h : Crg d rs cs) {k : Nat} (hk : k ≤ rs.length) : sumR (rv d) rs k ≤ pfx (rv d) (posQ cs) k := by
  have n := h.nn k hk
  rw [tR_eq] at n
  have g : pfx (rv d) cs k ≤ pfx (rv d) (posQ cs) k := sR_le fun t ht => by
    refine Rat.mul_le_mul_of_nonneg_left ?_ (Rat.le_of_lt (qpow_pos hd.q.1 t))
    by_cases z : t < (posQ cs).length
    · rw [h.pos_at z]; exact Rat.le_refl
    · rw [rv_over (l := posQ cs) (by omega)]
      exact Rat.not_lt.mp fun w => z ((h.pos_lt (by rw [h.len]; omega)).mpr w)
  grind
theorem pos_climb (hd : Dis d) (h : Crg d rs cs) {l : List (Int × Int)} (fl : FalL l) (nn : ∀ t, 0 ≤ rv (rdc l t)) (H : ∀ k, k ≤ rs.length → sumR (rv d) rs k ≤ pfx (rv d) l k) : ∀ (j k : Nat), k + 1 + j = (posQ cs).length → pfx (rv d) l (k + 1) < pfx (rv d) cs (k + 1) → rv (rdc l k) < rv (rdc cs k) → False := by
  have pl := posQ_len cs
  have cl := h.len
  have stop : ∀ k, k + 1 ≤ (posQ cs).length → pfx (rv d) l (k + 1) < pfx (rv d) cs (k + 1) → k + 1 < rs.length ∧ rv (rdc cs (k + 1)) = rv (rdc cs k) := fun k hk hD => by
    have nt : tR d (rdl rs) (rdc cs) (k + 1) ≠ 0 := fun z => by
      rw [tR_eq] at z
      have := H (k + 1) (by omega)
      grind
    by_cases e : k + 1 < rs.length ∧ ¬ rv (rdc cs (k + 1)) < rv (rdc cs k)
    · refine ⟨e.1, ?_⟩
      have := h.fal k e.1
      grind
    · refine absurd (h.tight (k + 1) (by omega) fun _ hn => ?_) nt
      rw [show k + 1 - 1 = k by omega]
      exact Decidable.byContradiction fun w => e ⟨hn, w⟩
  intro j
  induction j with
  | zero =>
    intro k hk hD hs
    obtain ⟨e1, e2⟩ := stop k (by omega) hD
    have p := (h.pos_lt (t := k) (by omega)).mp (by omega)
    have := (h.pos_lt (t := k + 1) (by omega)).mpr (by rw [e2]; exact p)
    omega
  | succ j ih =>
    intro k hk hD hs
    obtain ⟨e1, e2⟩ := stop k (by omega) hD
    have f := fl.all nn k
    have g : rv (rdc l (k + 1)) < rv (rdc cs (k + 1)) := by grind
    refine ih (k + 1) (by omega) ?_ g
    rw [pfx_succ _ l, pfx_succ _ cs]
    have m := Rat.mul_lt_mul_of_pos_left g (qpow_pos hd.q.1 (k + 1))
    grind
/-- the positive charges' sums are the least that fall, are not below 0 and are nowhere below those of the rewards -/
theorem pos_least (hd : Dis d) (h : Crg d rs cs) {l : List (Int × Int)} (fl : FalL l) (nn : ∀ t, 0 ≤ rv (rdc l t)) (H : ∀ k, k ≤ rs.length → sumR (rv d) rs k ≤ pfx (rv d) l k) (k : Nat) : pfx (rv d) (posQ cs) k ≤ pfx (rv d) l k := by
  have main : ∀ k, k ≤ (posQ cs).length → pfx (rv d) cs k ≤ pfx (rv d) l k := by
    intro k
    induction k with
    | zero => exact fun _ => Rat.le_refl
    | succ k ih =>
      intro hk
      have i := ih (by omega)
      refine Rat.not_lt.mp fun w => ?_
      refine pos_climb hd h fl nn H ((posQ cs).length - (k + 1)) k (by omega) w (Rat.not_le.mp fun z => ?_)
      rw [pfx_succ _ l, pfx_succ _ cs] at w
      have m := Rat.mul_le_mul_of_nonneg_left z (Rat.le_of_lt (qpow_pos hd.q.1 k))
      grind
  by_cases z : k ≤ (posQ cs).length
  · rw [h.pfx_pos z]; exact main k z
  · rw [pfx_over (l := posQ cs) (by omega), h.pfx_pos (Nat.le_refl _)]
    exact Rat.le_trans (main _ (Nat.le_refl _)) (sR_mono (by omega) fun i _ _ => Rat.mul_nonneg (Rat.le_of_lt (qpow_pos hd.q.1 i)) (nn i))
end
theorem Crg.pos_isr {d : Int × Int} {rs : List Int} {cs : List (Int × Int)} (h : Crg d rs cs) (t : Nat) : isR (rdc (posQ cs) t) = true := by
  by_cases z : t < (posQ cs).length
  · rw [h.pos_at z]; exact h.isr t
  · rw [rdc_over z]; decide
theorem Crg.pos_gt {d : Int × Int} {rs : List Int} {cs : List (Int × Int)} (h : Crg d rs cs) {t : Nat} (ht : t < (posQ cs).length) : 0 < rv (rdc (posQ cs) t) := by
  rw [h.pos_at ht]
  exact (h.pos_lt (by have := posQ_len cs; omega)).mp ht
theorem pos_eq {d : Int × Int} (hd : Dis d) {rs rs' : List Int} {cs cs' : List (Int × Int)} (h : Crg d rs cs) (h' : Crg d rs' cs') (H : ∀ k, pfx (rv d) (posQ cs) k = pfx (rv d) (posQ cs') k) : posQ cs = posQ cs' := by
  have e : ∀ t, rv (rdc (posQ cs) t) = rv (rdc (posQ cs') t) := fun t => by
    have a := H (t + 1)
    rw [pfx_succ, pfx_succ, H t] at a
    have p := qpow_pos hd.q.1 t
    generalize rv d ^ t = Q at *
    have n : Q ≠ 0 := by grind
    grind
  have eq : ∀ t, rdc (posQ cs) t = rdc (posQ cs') t := fun t => rv_inj (h.pos_isr t) (h'.pos_isr t) (e t)
  have len : (posQ cs).length = (posQ cs').length := by
    refine Nat.le_antisymm ?_ ?_
    · refine Nat.not_lt.mp fun z => ?_
      have a := h.pos_gt z
      rw [e, rv_over (l := posQ cs') (Nat.le_refl _)] at a
      exact absurd a (Rat.not_lt.mpr Rat.le_refl)
    · refine Nat.not_lt.mp fun z => ?_
      have a := h'.pos_gt z
      rw [← e, rv_over (l := posQ cs) (Nat.le_refl _)] at a
      exact absurd a (Rat.not_lt.mpr Rat.le_refl)
  refine List.ext_getElem? fun i => ?_
  by_cases z : i < (posQ cs).length
  · rw [List.getElem?_eq_getElem z, List.getElem?_eq_getElem (by omega)]
    have a := rdc_of (List.getElem?_eq_getElem z)
    have b := rdc_of (List.getElem?_eq_getElem (show i < (posQ cs').length by omega))
    rw [← a, ← b, eq]
  · rw [List.getElem?_eq_none (by omega), List.getElem?_eq_none (by omega)]
theorem lo_eq {d : Int × Int} (hd : Dis d) {r s : List Int} (hr : Rws r) (hs : Rws s) : ((loF d (posQ (chgs d.1 d.2 r)) (posQ (chgs d.1 d.2 s))).isNone = true ∧ (loF d (posQ (chgs d.1 d.2 s)) (posQ (chgs d.1 d.2 r))).isNone = true) ↔ posQ (chgs d.1 d.2 r) = posQ (chgs d.1 d.2 s) := by
  have ca := pos_cl hd hr
  have cb := pos_cl hd hs
  constructor
  · intro ⟨h1, h2⟩
    refine pos_eq hd (chgs_crg hd hr) (chgs_crg hd hs) fun k => Rat.le_antisymm (sh_all hd cb ca (lo_none h2) k) (sh_all hd ca cb (lo_none h1) k)
  · intro e
    rw [e, lo_self hd cb]
    exact ⟨rfl, rfl⟩
theorem rdl_app {r t : List Int} {k : Nat} (h : k < r.length) : rdl (r ++ t) k = rdl r k := by
  unfold rdl
  rw [List.getD_eq_getElem?_getD, List.getD_eq_getElem?_getD, List.getElem?_append_left h]
/-- rewards of at most 0 behind change nothing -/
theorem pos_app {d : Int × Int} (hd : Dis d) {r t : List Int} (hr : Rws r) (hs : Rws (r ++ t)) (ht : ∀ x ∈ t, x ≤ 0) : posQ (chgs d.1 d.2 (r ++ t)) = posQ (chgs d.1 d.2 r) := by
  have C := chgs_crg hd hr
  have E := chgs_crg hd hs
  have ca := pos_cl hd hr
  have cb := pos_cl hd hs
  have s1 : ∀ k, k ≤ r.length → sumR (rv d) (r ++ t) k = sumR (rv d) r k := fun k hk => sR_congr fun i hi => by rw [rdl_app (by omega)]
  have s2 : ∀ j, sumR (rv d) (r ++ t) (r.length + j) ≤ sumR (rv d) r r.length := by
    intro j
    induction j with
    | zero => rw [Nat.add_zero, s1 _ (Nat.le_refl _)]; exact Rat.le_refl
    | succ j ih =>
      have e : sumR (rv d) (r ++ t) (r.length + (j + 1)) = sumR (rv d) (r ++ t) (r.length + j) + rv d ^ (r.length + j) * (rdl (r ++ t) (r.length + j) : Rat) := rfl
      have n : (rdl (r ++ t) (r.length + j) : Rat) ≤ 0 := by
        have : rdl (r ++ t) (r.length + j) ≤ 0 := by
          unfold rdl
          rw [List.getD_eq_getElem?_getD, List.getElem?_append_right (by omega)]
          cases z : t[r.length + j - r.length]? with
          | none => show (0 : Int) ≤ 0; decide
          | some x => exact ht x (List.mem_of_getElem? z)
        exact_mod_cast this
      have m := Rat.mul_le_mul_of_nonneg_left n (Rat.le_of_lt (qpow_pos hd.q.1 (r.length + j)))
      rw [e]
      grind
  refine pos_eq hd E C fun k => Rat.le_antisymm ?_ ?_
  · refine pos_least hd E ca.fl ca.nn (fun k hk => ?_) k
    by_cases z : k ≤ r.length
    · rw [s1 k z]; exact C.pos_maj hd z
    · have a := s2 (k - r.length)
      rw [show r.length + (k - r.length) = k by omega] at a
      refine Rat.le_trans a (Rat.le_trans (C.pos_maj hd (Nat.le_refl _)) (sR_mono (by omega) fun i _ _ => Rat.mul_nonneg (Rat.le_of_lt (qpow_pos hd.q.1 i)) (ca.nn i)))
  · refine pos_least hd C cb.fl cb.nn (fun k hk => ?_) k
    rw [← s1 k hk]
    exact E.pos_maj hd (by rw [List.length_append]; omega)
/-- a reward lowered and the next one raised, at two steps with equal charges -/
theorem pos_move {d : Int × Int} (hd : Dis d) {r : List Int} (hr : Rws r) {a : Nat} (ha : a + 1 < r.length) {x : Int} (hx : 0 ≤ x) (he : rdc (chgs d.1 d.2 r) a = rdc (chgs d.1 d.2 r) (a + 1))
    (hs : Rws ((r.set a (rdl r a - d.1 * x)).set (a + 1) (rdl r (a + 1) + d.2 * x))) : posQ (chgs d.1 d.2 ((r.set a (rdl r a - d.1 * x)).set (a + 1) (rdl r (a + 1) + d.2 * x))) = posQ (chgs d.1 d.2 r) := by
  have C := chgs_crg hd hr
  have E := chgs_crg hd hs
  have q := hd.q
  obtain ⟨s, es⟩ : ∃ s, s = (r.set a (rdl r a - d.1 * x)).set (a + 1) (rdl r (a + 1) + d.2 * x) := ⟨_, rfl⟩
  rw [← es] at hs E ⊢
  have sl : s.length = r.length := by rw [es, List.length_set, List.length_set]
  have g0 : ∀ k, k ≠ a → k ≠ a + 1 → rdl s k = rdl r k := fun k h1 h2 => by
    unfold rdl
    rw [es, List.getD_eq_getElem?_getD, List.getD_eq_getElem?_getD, List.getElem?_set_ne (by omega), List.getElem?_set_ne (by omega)]
  have g1 : rdl s a = rdl r a - d.1 * x := by
    unfold rdl
    rw [es, List.getD_eq_getElem?_getD, List.getElem?_set_ne (by omega), List.getElem?_set_self (by omega)]
    rfl
  have g2 : rdl s (a + 1) = rdl r (a + 1) + d.2 * x := by
    unfold rdl
    rw [es, List.getD_eq_getElem?_getD, List.getElem?_set_self (by rw [List.length_set]; omega)]
    rfl
  have dd : (d.1 : Rat) = rv d * (d.2 : Rat) := by
    have p := cast_pos hd.bd.2.2.2
    unfold rv
    generalize (d.1 : Rat) = P
    generalize (d.2 : Rat) = Q at *
    have : Q ≠ 0 := by grind
    grind
  have step : ∀ (rs : List Int) k, sumR (rv d) rs (k + 1) = sumR (rv d) rs k + rv d ^ k * (rdl rs k : Rat) := fun _ _ => rfl
  have low : ∀ k, k ≤ a → sumR (rv d) s k = sumR (rv d) r k := fun k hk => sR_congr fun i hi => by rw [g0 i (by omega) (by omega)]
  have c1 : ((rdl r a - d.1 * x : Int) : Rat) = (rdl r a : Rat) - (d.1 : Rat) * (x : Rat) := by exact_mod_cast rfl
  have c2 : ((rdl r (a + 1) + d.2 * x : Int) : Rat) = (rdl r (a + 1) : Rat) + (d.2 : Rat) * (x : Rat) := by exact_mod_cast rfl
  have mid : sumR (rv d) s (a + 1) = sumR (rv d) r (a + 1) - rv d ^ a * ((d.1 : Rat) * (x : Rat)) := by
    rw [step, step, low a (Nat.le_refl _), g1, c1]
    grind
  have high : ∀ j, sumR (rv d) s (a + 2 + j) = sumR (rv d) r (a + 2 + j) := by
    intro j
    induction j with
    | zero =>
      show sumR (rv d) s (a + 1 + 1) = sumR (rv d) r (a + 1 + 1)
      rw [step, step r, mid, g2, c2, dd, qpow_succ]
      grind
    | succ j ih =>
      show sumR (rv d) s (a + 2 + j + 1) = sumR (rv d) r (a + 2 + j + 1)
      rw [step, step, ih, g0 _ (by omega) (by omega)]
  have oth : ∀ k, k ≠ a + 1 → sumR (rv d) s k = sumR (rv d) r k := fun k hk => by
    by_cases z : k ≤ a
    · exact low k z
    · have := high (k - (a + 2))
      rwa [show a + 2 + (k - (a + 2)) = k by omega] at this
  have xr : (0 : Rat) ≤ (x : Rat) := by exact_mod_cast hx
  have G : Crg d s (chgs d.1 d.2 r) := ⟨by rw [C.len, sl], C.den, C.isr, C.bd, fun k hk => C.fal k (by rw [← sl]; exact hk), fun k hk => by
    have n := C.nn k (by rw [← sl]; exact hk)
    rw [tR_eq] at n ⊢
    by_cases z : k = a + 1
    · rw [z] at n ⊢
      rw [mid]
      have p := Rat.mul_nonneg (Rat.le_of_lt (qpow_pos q.1 a)) (Rat.mul_nonneg (Rat.le_of_lt (cast_pos hd.bd.2.2.1)) xr)
      grind
    · rw [oth k z]; exact n, fun k hk h => by
    by_cases z : k = a + 1
    · have f := h (by omega) (by rw [sl]; omega)
      rw [z, show a + 1 - 1 = a by omega, he] at f
      exact absurd f (Rat.not_lt.mpr Rat.le_refl)
    · have t := C.tight k (by rw [← sl]; exact hk) (fun h1 h2 => h h1 (by rw [sl]; exact h2))
      rw [tR_eq] at t ⊢
      rw [oth k z]; exact t⟩
  have cb := pos_cl hd hs
  have ca := pos_cl hd hr
  exact pos_eq hd E G fun k => Rat.le_antisymm (pos_least hd E ca.fl ca.nn (fun k hk => G.pos_maj hd hk) k) (pos_least hd G cb.fl cb.nn (fun k hk => E.pos_maj hd hk) k)
/-- alike lists give equal worths -/
theorem best_alike {d : Int × Int} (hd : Dis d) {P Q : List (List Int)} {r s : List Int} (hr : Rws r) (hs : Rws s) (oa : COk (mkR d.1 d.2, insP P Q r)) (ob : COk (mkR d.1 d.2, insP P Q s)) (e : posQ (chgs d.1 d.2 r) = posQ (chgs d.1 d.2 s)) {M : Rat} (hM : 0 ≤ M) :
    bestR (mkR d.1 d.2, insP P Q r) M = bestR (mkR d.1 d.2, insP P Q s) M := by
  have g : ∀ M, 0 ≤ M → gp (rv (mkR d.1 d.2)) (chgs (mkR d.1 d.2).1 (mkR d.1 d.2).2 r) M = gp (rv (mkR d.1 d.2)) (chgs (mkR d.1 d.2).1 (mkR d.1 d.2).2 s) M := fun M h => by
    rw [chgs_mkR hd, chgs_mkR hd, ← (chgs_crg hd hr).gp_pos _ h, ← (chgs_crg hd hs).gp_pos _ h, e]
  exact Rat.le_antisymm (best_dom ob oa (fun M h => rle (g M h)) M hM) (best_dom oa ob (fun M h => rle (g M h).symm) M hM)
end Tm

namespace Tm
open PySem L2 Tp
/-! ### the first project at fault -/
def outP (rs : List Int) : Bool := rs.any fun x => !(decide (-1000000000 ≤ x) && decide (x ≤ 1000000000))
def fltP (ps : List (List Int)) (k : Nat) : Bool := decide (10 ≤ k) || decide (60 < tot (ps.take (k + 1))) || outP (rdp ps k)
def flt (ps : List (List Int)) : Option Nat := (List.range ps.length).find? (fltP ps)
theorem find_range' {p : Nat → Bool} {n i : Nat} (hi : i < n) (h : ∀ j, j < i → p j = false) (e : p i = true) : (List.range n).find? p = some i := by
  obtain ⟨m, rfl⟩ : ∃ m, n = i + (m + 1) := ⟨n - i - 1, by omega⟩
  rw [List.range_add, List.find?_append]
  have z : (List.range i).find? p = none := by
    rw [List.find?_eq_none]
    intro j hj
    rw [h j (List.mem_range.mp hj)]
    decide
  rw [z, List.range_succ_eq_map]
  simp [e]
theorem flt_some {ps : List (List Int)} {i : Nat} (hi : i < ps.length) (h : ∀ j, j < i → fltP ps j = false) (e : fltP ps i = true) : flt ps = some i := find_range' hi h e
theorem flt_none {ps : List (List Int)} (h : ∀ j, j < ps.length → fltP ps j = false) : flt ps = none := by
  unfold flt
  rw [List.find?_eq_none]
  intro j hj
  rw [h j (List.mem_range.mp hj)]
  decide
theorem flt_no {ps : List (List Int)} (h : flt ps = none) (j : Nat) (hj : j < ps.length) : fltP ps j = false := by
  unfold flt at h
  rw [List.find?_eq_none] at h
  have := h j (List.mem_range.mpr hj)
  simpa using this
theorem out_ok {rs : List Int} : outP rs = false ↔ ∀ x ∈ rs, -1000000000 ≤ x ∧ x ≤ 1000000000 := by
  unfold outP
  rw [List.any_eq_false]
  constructor
  · intro h x hx
    have := h x hx
    simpa using this
  · intro h x hx
    have := h x hx
    simp [this]
theorem flt_pok {ps : List (List Int)} (h : flt ps = none) : POk ps := by
  have H := flt_no h
  refine ⟨?_, ?_, fun rs hrs => ?_⟩
  · refine Nat.not_lt.mp fun z => ?_
    have := H 10 z
    unfold fltP at this
    rw [decide_eq_true (Nat.le_refl 10)] at this
    cases this
  · by_cases z : ps.length = 0
    · rw [List.length_eq_zero_iff.mp z]; show 0 ≤ 60; decide
    · have := H (ps.length - 1) (by omega)
      unfold fltP at this
      rw [Bool.or_eq_false_iff, Bool.or_eq_false_iff] at this
      have t := of_decide_eq_false this.1.2
      rw [show ps.length - 1 + 1 = ps.length by omega, List.take_length] at t
      omega
  · obtain ⟨j, hj⟩ := List.getElem?_of_mem hrs
    have hl := (List.getElem?_eq_some_iff.mp hj).1
    have := H j hl
    unfold fltP at this
    rw [Bool.or_eq_false_iff] at this
    have e : rdp ps j = rs := by unfold rdp; rw [List.getD_eq_getElem?_getD, hj]; rfl
    rw [e] at this
    exact out_ok.mp this.2
end Tm

namespace Tp
open PySem PySem.Spec PyProof.Rows L2
open Evl (Ex)
/-! ### things that a slot owns: lists of lists that are all still written -/
theorem A2.impM {α β : Type} {R R' : α → β → Prop} {xs : List α} {ys : List β} (h : A2 R xs ys) (f : ∀ x y, x ∈ xs → R x y → R' x y) : A2 R' xs ys := by
  induction h with
  | nil => exact .nil
  | @cons x y xs ys a _ ih => exact .cons (f _ _ (.head _) a) (ih fun u v hu => f u v (.tail _ hu))
theorem A2.mapl {α β γ : Type} {R : α → β → Prop} {R' : γ → β → Prop} {g : α → γ} (f : ∀ x y, R x y → R' (g x) y) {xs : List α} {ys : List β} (h : A2 R xs ys) : A2 R' (xs.map g) ys := by
  induction h with
  | nil => exact .nil
  | cons a _ ih => exact .cons (f _ _ a) ih
theorem A2.of_get {β δ : Type} {R : β → δ → Prop} : ∀ {xs : List β} {ys : List δ}, xs.length = ys.length → (∀ (j : Nat) (y : δ), ys[j]? = some y → ∃ x : β, xs[j]? = some x ∧ R x y) → A2 R xs ys
  | [], [], _, _ => .nil
  | [], _ :: _, h, _ => by simp at h
  | _ :: _, [], h, _ => by simp at h
  | x :: xs, y :: ys, h, H => by
    obtain ⟨x', e, r⟩ := H 0 y rfl
    cases e
    exact .cons r (A2.of_get (by simpa using h) fun j z hz => by
      obtain ⟨w, e, r⟩ := H (j + 1) z (by simpa using hz)
      exact ⟨w, by simpa using e, r⟩)
def rowR {α : Type} (A : Rp α) (H F : Hp) (l : Addr) (row : List α) : Prop := ∃ xs, H l = some (.lst xs) ∧ A2 (A.r F) xs row
def owLL {α : Type} (A : Rp α) : Ow (List (List α)) where
  r := fun H F v rows S => ∃ L ls, v = .ref L ∧ S = L :: ls ∧ S.Nodup ∧ H L = some (.lst (ls.map .ref)) ∧ A2 (rowR A H F) ls rows
  has := fun {H F v a S} ⟨L, ls, _, hS, _, hL, hr⟩ y hy => by
    subst hS
    cases hy with
    | head => rw [hL]; intro z; cases z
    | tail _ hy =>
      obtain ⟨j, hj⟩ := List.getElem?_of_mem hy
      obtain ⟨row, _, xs, e1, _⟩ := hr.getl hj
      rw [e1]; intro z; cases z
  mono := fun {H F H' F' v a S} k e ⟨L, ls, hv, hS, hn, hL, hr⟩ => by
    subst hS
    exact ⟨L, ls, hv, rfl, hn, (k L (.head _)).trans hL, hr.impM fun l row hl ⟨xs, e1, e2⟩ => ⟨xs, (k l (.tail _ hl)).trans e1, e2.imp fun _ _ z => A.mono e z⟩⟩
/-- what a call gives that hands over what it owns -/
def retW {α : Type} (O : Ow α) (a : α) : Ret := fun H F Q => ∀ v S H' F', Ok H F H' F' → (∀ y ∈ S, H y = none ∧ F' y = none) → O.r H' F' v a S → Q v H'
theorem retW_up {α : Type} (O : Ow α) (a : α) : Up (retW O a) := fun q o v S H2 F2 o2 hS r => q v S H2 F2 (o.trans o2) (fun y hy => ⟨none_of o.h (hS y hy).1, (hS y hy).2⟩) r
abbrev EvW (te : TE) (Γ : List SA) {α : Type} (O : Ow α) (a : α) : Prop := EvR te Γ (retW O a)
section
variable {B : Bs} {Γ : List SA} {D : Ends} {tz : TS} {α β γ : Type} {te : TE} {K : PySem.W.Frag} {O : Ow α} {a : α} {A : Rp β}
theorem evw_is {a' : α} (h : EvW te Γ O a) (e : a = a') : EvW te Γ O a' := e ▸ h
theorem S.asgW {i : Nat} (h : EvW te Γ O a) (k : S B tz (Γ.set i (.ow O a)) D) : S B (tSeq (tAsg te (gName i)) tz) Γ D := fun H F σ b g =>
  h B.H0 H F σ b.1.i g _ fun v S H' F' o hS r => k H' F' _ (b.up o) (g.setN (s := .ow O a) (S := S) o (fun y hy => (hS y hy).1) ⟨v, rfl, r, fun y hy => ⟨none_of b.1.h (hS y hy).1, (hS y hy).2⟩⟩)
theorem S.retW (h : EvW te Γ O a) (q : Tp.retW O a B.H0 B.F0 D.rt) : S B (tRet te) Γ D := S.retR h fun _ _ b => retW_up O a q b.1
theorem Good.own {H0 H F : Hp} {σ : L2.St} {i : Nat} (g : Good H0 H F σ Γ) (e : Γ[i]? = some (.ow O a)) : ∃ x S, σ[i]? = some (some x) ∧ O.r H F x a S ∧ ∀ y ∈ S, H0 y = none ∧ F y = none := by
  obtain ⟨v, hv, x, S, rfl, r⟩ := g.gt i _ e
  exact ⟨x, S, hv, r⟩
theorem S.retO {i : Nat} (h : Γ[i]? = some (.ow O a)) (q : Tp.retW O a B.H0 B.F0 D.rt) : S B (tRet (tVar i)) Γ D := fun H F σ b g => by
  obtain ⟨x, S, hv, r, hS⟩ := g.own h
  exact ⟨x, hv, q x S H F b.1 hS r⟩
/-- the places S laid still -/
def frzF (H F : Hp) (S : List Addr) : Hp := fun x => if x ∈ S then H x else F x
theorem frzF_in {H F : Hp} {S : List Addr} {x : Addr} (h : x ∈ S) : frzF H F S x = H x := if_pos h
theorem frzF_out {H F : Hp} {S : List Addr} {x : Addr} (h : x ∉ S) : frzF H F S x = F x := if_neg h
theorem frzF_ex {H F : Hp} {S : List Addr} (h : ∀ y ∈ S, F y = none) : Ex F (frzF H F S) := fun x o e => by
  rw [frzF_out fun z => by rw [h x z] at e; cases e]; exact e
theorem frzF_le {H F : Hp} {S : List Addr} (e : Ex F H) : Ex (frzF H F S) H := fun x o h => by
  by_cases z : x ∈ S
  · rwa [frzF_in z] at h
  · rw [frzF_out z] at h; exact e x o h
theorem Ok.frzW {H F H' F' : Hp} {S : List Addr} (o : Ok H F H' F') (h : ∀ y ∈ S, H y = none ∧ F' y = none) : Ok H F H' (frzF H' F' S) :=
  ⟨o.h, o.f.trans (frzF_ex fun y hy => (h y hy).2), frzF_le o.i, fun x u e => by
    by_cases z : x ∈ S
    · exact .inr (h x z).1
    · rw [frzF_out z] at e; exact o.r x u e⟩
/-- how a thing reads when it is written no more -/
structure Frz (O : Ow α) (R : Rp γ) (f : α → γ) : Prop where
  fr : ∀ {H F v a S}, (∀ y ∈ S, F y = none) → O.r H F v a S → R.r (frzF H F S) v (f a)
theorem frz_ll (K : PySem.W.Frag) : Frz (owLL A) (rLst K (rLst K A)) (fun rows => rows) := ⟨fun {H F v a S} hS ⟨L, ls, hv, hs, _, hL, hr⟩ => by
  subst hs
  have ex := frzF_ex (H := H) hS
  refine ⟨L, ls.map .ref, hv, Evl.sq_of (by rw [frzF_in (.head _)]; exact hL), A2.mapl (R := fun l row => l ∈ ls ∧ rowR A H F l row) (fun l row ⟨hl, xs, e1, e2⟩ => ⟨l, xs, rfl, Evl.sq_of (by rw [frzF_in (.tail _ hl)]; exact e1), e2.imp fun _ _ z => A.mono ex z⟩) (hr.impM fun l row hl h => ⟨hl, h⟩)⟩⟩
theorem Good.frzW {H0 H F : Hp} {σ : L2.St} {i : Nat} {R : Rp γ} {f : α → γ} (Z : Frz O R f) (g : Good H0 H F σ Γ) (e : Γ[i]? = some (.ow O a)) : ∃ S, (∀ y ∈ S, H0 y = none ∧ F y = none ∧ H y ≠ none) ∧ Good H0 H (frzF H F S) σ (Γ.set i (.im R (f a))) := by
  obtain ⟨fp, g⟩ := g
  obtain ⟨v, hv, x, rfl, r, hS⟩ := g.q i _ e
  have hi := lt_of_at e
  refine ⟨fp i, fun y hy => ⟨(hS y hy).1, (hS y hy).2, O.has r y hy⟩, ?_⟩
  have h := g.put (i := i) (s := .im R (f a)) (v := some x) (S := []) (H' := H) (F' := frzF H F (fp i)) (frzF_ex fun y hy => (hS y hy).2) (fun j hj z y hy => ⟨rfl, by rw [frzF_out fun w => z (g.ap j i y hj hi hy w)]; exact (g.has hj y hy).2.2⟩) ⟨rfl, x, rfl, Z.fr (fun y hy => (hS y hy).2) r⟩ fun _ _ _ _ _ z => nomatch z
  rw [set_self hv] at h
  exact ⟨_, h⟩
/-- written no more -/
theorem S.frzW {t : TS} {i : Nat} {R : Rp γ} {f : α → γ} (Z : Frz O R f) (h : Γ[i]? = some (.ow O a)) (k : S B t (Γ.set i (.im R (f a))) D) : S B t Γ D := fun H F σ b g => by
  obtain ⟨S, hS, g'⟩ := g.frzW Z h
  exact k H _ σ ⟨b.1.frzW fun y hy => ⟨(hS y hy).1, (hS y hy).2.1⟩, b.2.trans (frzF_ex fun y hy => (hS y hy).2.1)⟩ g'
/-- read meanwhile: a test, a value without objects -/
theorem eb_tmpW {tt : TT} {i : Nat} {k : Bool} {R : Rp γ} {f : α → γ} (Z : Frz O R f) (h : Γ[i]? = some (.ow O a)) (he : Eb tt (Γ.set i (.im R (f a))) k) : Eb tt Γ k := fun H0 H F σ e g Q q => by
  obtain ⟨S, hS, g'⟩ := g.frzW Z h
  exact he H0 H _ σ (frzF_le e) g' Q fun H' F' o => q H' F ⟨o.h, Ex.refl F, e.trans o.h, fun _ _ z => .inl z⟩
theorem e_tmpW {i : Nat} {C : Rp β} {c : β} {R : Rp γ} {f : α → γ} (Z : Frz O R f) (h : Γ[i]? = some (.ow O a)) (hC : ∀ F F' v, C.r F v c → C.r F' v c) (he : Ev te (Γ.set i (.im R (f a))) C c) : Ev te Γ C c := fun H0 H F σ e g Q q => by
  obtain ⟨S, hS, g'⟩ := g.frzW Z h
  exact he H0 H _ σ (frzF_le e) g' Q fun v H' F' o r => q v H' F ⟨o.h, Ex.refl F, e.trans o.h, fun _ _ z => .inl z⟩ (hC _ _ _ r)
/-- slot i is written: it owns some of its places anew -/
theorem Good.wrW {H0 H F H' : Hp} {σ : L2.St} {i : Nat} {O' : Ow γ} {a' : γ} {fp : Nat → List Addr} {v : Option V} (g : GoodF H0 H F σ Γ fp) (e : Γ[i]? = some (.ow O a)) (hv : σ[i]? = some v) (k : ∀ y, y ∉ fp i → H' y = H y) (hq : SA.q H0 H' F (.ow O' a') v (fp i)) : Good H0 H' F σ (Γ.set i (.ow O' a')) := by
  have hi := lt_of_at e
  have h := g.put (i := i) (s := .ow O' a') (v := v) (S := fp i) (H' := H') (Ex.refl F) (fun j hj z y hy => ⟨k y fun w => z (g.ap j i y hj hi hy w), (g.has hj y hy).2.2⟩) hq fun j hj z y hy w => z (g.ap j i y hj hi hy w)
  rw [set_self hv] at h
  exact ⟨_, h⟩
/-- [e for x in ..], each e a new list that stays open -/
theorem enw_map {wi : TI} {g : TG} {as : List α} {vs : List Nat} {A : Rp α} {C : Rp γ} {G : α → List SA} (f : α → List γ) (hw : Iw wi Γ A as) (hn : as.length ≤ 100000) (hg : ∀ a ∈ as, TgC vs g (wipeG Γ vs) A a (G a))
    (he : ∀ a ∈ as, EvN te (G a) C (f a)) : EvW (tLc wi g tYes te vs) Γ (owLL C) (as.map f) := fun H0 H F σ e gd Q q =>
  hw H0 H F σ e gd _ fun J H1 F1 o1 wk L hL => by
    have gw := (gd.mono o1).wipe vs
    refine ⟨fun i m H' => i + m = as.length ∧ ∃ F' ls, Ok H1 F1 H' F' ∧ F' L = none ∧ H' L = some (.lst (ls.map .ref)) ∧ (∀ l ∈ ls, H1 l = none ∧ F' l = none) ∧ (L :: ls).Nodup ∧ A2 (rowR C H' F') ls ((as.take i).map f),
      ⟨as.length, by omega, F1, [], (Ok.refl o1.i).mut hL, none_of o1.i hL, upd_same, (fun _ z => nomatch z), by simp, .nil⟩, fun i m H' ⟨em, F', ls, o', hF', hH', hls, hnd, hrow⟩ => ?_⟩
    by_cases hi : i < as.length
    · have ha : as[i]? = some as[i] := List.getElem?_eq_getElem hi
      have hm : as[i] ∈ as := List.getElem_mem hi
      have et : as.take (i + 1) = as.take i ++ [as[i]] := by rw [List.take_add_one, ha]; rfl
      refine .inr ⟨wk.go F' H' i o'.f o'.i hi, fun H'' => ∃ F' ls, Ok H1 F1 H'' F' ∧ F' L = none ∧ H'' L = some (.lst (ls.map .ref)) ∧ (∀ l ∈ ls, H1 l = none ∧ F' l = none) ∧ (L :: ls).Nodup ∧ A2 (rowR C H'' F') ls ((as.take (i + 1)).map f), fun H'' n2 => ⟨m - 1, by omega, by omega, n2⟩, fun v H2 y => ?_⟩
      obtain ⟨F2, o2, r2⟩ := wk.yld F' H' i _ v H2 o'.f o'.i ha y
      refine hg _ hm H0 H2 F2 (wipe σ vs) v o2.i (gw.mono (o'.trans o2)) r2 _ fun σ3 g3 w3 => ⟨w3.trans wipe_wipe, ?_⟩
      refine eb_yes H0 H2 F2 σ3 o2.i g3 _ fun H3 F3 o3 => ?_
      refine he _ hm H0 H3 F3 σ3 o3.i (g3.mono o3) _ fun l zs H4 F4 o4 hl hFl hl4 a4 => ?_
      have o123 := (o'.trans o2).trans o3
      have o24 := (o2.trans o3).trans o4
      have keep : ∀ {b : Addr}, H' b ≠ none → F' b = none → H4 b = H' b ∧ F4 b = none := fun {b} hb fb => o24.stay hb fb
      have hHL : H' L ≠ none := by rw [hH']; intro z; cases z
      obtain ⟨k1, k2⟩ := keep hHL hF'
      have l' : H' l = none := none_of (o2.trans o3).h hl
      have lL : l ≠ L := fun z => hHL (z ▸ l')
      have h1l : H1 l = none := none_of o123.h hl
      have hlsH : ∀ b ∈ ls, H' b ≠ none := fun b hb => by
        obtain ⟨j, hj⟩ := List.getElem?_of_mem hb
        obtain ⟨row, _, xs, e1, _⟩ := hrow.getl hj
        rw [e1]; intro z; cases z
      have lls : l ∉ ls := fun z => hlsH l z l'
      obtain ⟨nL, nls⟩ := List.nodup_cons.mp hnd
      have llen : ls.length = i := by rw [hrow.length, List.length_map, List.length_take]; omega
      refine ⟨ls.map .ref, by rw [k1]; exact hH', Evl.sz_lt (by rw [List.length_map]; omega), F4, ls ++ [l], (o123.trans o4).set k2 hL, k2, by rw [List.map_append]; exact upd_same, fun b hb => ?_, ?_, ?_⟩
      · rcases List.mem_append.mp hb with hb | hb
        · exact ⟨(hls b hb).1, (keep (hlsH b hb) (hls b hb).2).2⟩
        · rw [List.mem_singleton.mp hb]; exact ⟨h1l, hFl⟩
      · refine List.nodup_cons.mpr ⟨fun z => ?_, List.nodup_append.mpr ⟨nls, by simp, fun b hb c hc w => ?_⟩⟩
        · rcases List.mem_append.mp z with z | z
          · exact nL z
          · exact lL (List.mem_singleton.mp z).symm
        · rw [List.mem_singleton.mp hc] at w
          exact lls (w ▸ hb)
      · rw [et, List.map_append]
        refine A2.app (hrow.impM fun b row hb ⟨xs, e1, e2⟩ => ⟨xs, ?_, e2.imp fun _ _ z => C.mono o24.f z⟩) (.cons ⟨zs, ?_, a4⟩ .nil)
        · rw [upd_ne (show b ≠ L from fun z => nL (z ▸ hb)), (keep (hlsH b hb) (hls b hb).2).1]; exact e1
        · rw [upd_ne lL]; exact hl4
    · have ei : i = as.length := by omega
      subst ei
      rw [List.take_length] at hrow
      refine .inl ⟨wk.stop F' H' o'.f o'.i, q (.ref L) (L :: ls) H' F' (o1.trans o') (fun y hy => ?_) ⟨L, ls, rfl, rfl, hnd, hH', hrow⟩⟩
      cases hy with
      | head => exact ⟨none_of o1.h hL, hF'⟩
      | tail _ hy => exact ⟨none_of o1.h (hls y hy).1, (hls y hy).2⟩
/-- [list(x) for x in xs] of such a list -/
theorem en_copyW {i j : Nat} {rows : List (List β)} (h : Γ[i]? = some (.ow (owLL A) rows)) (hj : j < Γ.length) (hn : rows.length ≤ 100000) : EvN (tLc (iList K (tVar i)) (gName j) tYes (xLstOf K (tVar j)) [j]) Γ (rLst K A) rows := fun H0 H F σ e g Q q => by
  obtain ⟨v, S, hv, ⟨L, ls, rfl, hS, hnd, hL, hrow⟩, hSo⟩ := g.own h
  have Sh := (owLL A).has (show (owLL A).r H F (.ref L) rows S from ⟨L, ls, rfl, hS, hnd, hL, hrow⟩)
  refine ⟨.ref L, hv, L, rfl, ⟨_, Evl.sq_of hL⟩, fun D hD => ?_⟩
  refine ⟨fun k m H' => k + m = rows.length ∧ ∃ F' xs, Ok H F H' F' ∧ F' D = none ∧ H' D = some (.lst xs) ∧ A2 ((rLst K A).r F') xs (rows.take k), ⟨rows.length, by omega, F, [], (Ok.refl e).mut hD, none_of e hD, upd_same, .nil⟩, fun k m H' ⟨em, F', xs, o', hF', hH', hr⟩ => ?_⟩
  have stay : ∀ y ∈ S, H' y = H y ∧ F' y = none := fun y hy => o'.stay (Sh y hy) (hSo y hy).2
  have LS : L ∈ S := by rw [hS]; exact .head _
  have hL' : SqL K H' L (ls.map .ref) := Evl.sq_of ((stay L LS).1.trans hL)
  by_cases hk : k < rows.length
  · have ha : rows[k]? = some rows[k] := List.getElem?_eq_getElem hk
    obtain ⟨l, hl, ys, e1, e2⟩ := hrow.get ha
    have lS : l ∈ S := by rw [hS]; exact .tail _ (List.mem_of_getElem? hl)
    have hm : (ls.map V.ref)[k]? = some (.ref l) := by rw [List.getElem?_map, hl]; rfl
    refine .inr ⟨⟨_, _, hL', hm⟩, fun H'' => ∃ F' xs, Ok H F H'' F' ∧ F' D = none ∧ H'' D = some (.lst xs) ∧ A2 ((rLst K A).r F') xs (rows.take (k + 1)), fun H'' n2 => ⟨m - 1, by omega, by omega, n2⟩, fun x H2 y => ?_⟩
    obtain ⟨rfl, f⟩ := y
    cases Option.some.inj (hm.symm.trans (f _ hL'))
    have g3 := ((g.mono o').wipe [j]).setU (some (.ref l)) j
    refine ⟨(wipe_set (List.mem_singleton.mpr rfl)).trans wipe_wipe, ?_⟩
    refine eb_yes H0 H2 F' _ o'.i g3 _ fun H3 F3 o3 => ?_
    rw [if_pos rfl]
    have st3 := o3.stay (y := l) (by rw [(stay l lS).1]; exact Sh l lS) (stay l lS).2
    have e3 : H3 l = some (.lst ys) := st3.1.trans ((stay l lS).1.trans e1)
    have D3 := o3.stay (y := D) (by rw [hH']; intro z; cases z) hF'
    refine ⟨.ref l, by rw [List.getElem?_set_self (by rw [wipe_length, g.len]; exact hj)], l, ys, rfl, .inl (Evl.sq_of e3), fun l' hl' => ?_⟩
    have oH := o'.trans o3
    have l'D : l' ≠ D := fun z => by
      have := D3.1
      rw [← z, hl', z, hH'] at this; cases this
    have Fl' : F3 l' = none := none_of o3.i hl'
    have ok5 : Ok H F (upd H3 l' (.lst ys)) (upd F3 l' (.lst ys)) := oH.new hl'
    have FD : upd F3 l' (.lst ys) D = none := by rw [upd_ne (Ne.symm l'D)]; exact D3.2
    have lenr : xs.length = k := by rw [hr.length, List.length_take]; omega
    refine ⟨xs, by rw [upd_ne (Ne.symm l'D)]; exact D3.1.trans hH', Evl.sz_lt (by omega), _, _, ok5.set FD hD, FD, upd_same, ?_⟩
    have ex : Ex F' (upd F3 l' (.lst ys)) := o3.f.trans (Ex.new Fl')
    rw [List.take_add_one, ha]
    exact (hr.imp fun _ _ z => (rLst K A).mono ex z).snoc ⟨l', ys, rfl, Evl.sq_of upd_same, e2.imp fun _ _ z => A.mono (oH.f.trans (Ex.new Fl')) z⟩
  · have ek : k = rows.length := by omega
    subst ek
    rw [List.take_length] at hr
    refine .inl ⟨⟨_, hL', by rw [List.length_map, hrow.length]; exact Nat.le_refl _⟩, q D xs H' F' o' hD hF' hH' hr⟩
theorem nodup_at {ls : List Addr} (h : ls.Nodup) {i j : Nat} {l : Addr} (hi : ls[i]? = some l) (hj : ls[j]? = some l) : i = j := by
  obtain ⟨a, ea⟩ := List.getElem?_eq_some_iff.mp hi
  obtain ⟨b, eb⟩ := List.getElem?_eq_some_iff.mp hj
  have p := List.pairwise_iff_getElem.mp h
  rcases Nat.lt_trichotomy i j with z | z | z
  · exact absurd (ea.trans eb.symm) (p i j a b z)
  · exact z
  · exact absurd (eb.trans ea.symm) (p j i b a z)
/-- one of the inner lists put anew -/
theorem ll_put {H F : Hp} {v : V} {rows : List (List β)} {S : List Addr} {j : Nat} {l : Addr} {L : Addr} {ls : List Addr} {ys : List V} {row : List β} (hv : v = .ref L) (hS : S = L :: ls) (hn : S.Nodup) (hL : H L = some (.lst (ls.map .ref))) (hr : A2 (rowR A H F) ls rows) (hl : ls[j]? = some l) (ha : A2 (A.r F) ys row) :
    (owLL A).r (upd H l (.lst ys)) F v (rows.set j row) S := by
  subst hS
  obtain ⟨nL, nls⟩ := List.nodup_cons.mp hn
  refine ⟨L, ls, hv, rfl, hn, by rw [upd_ne (show L ≠ l from fun z => nL (z ▸ List.mem_of_getElem? hl))]; exact hL, A2.of_get (by rw [List.length_set]; exact hr.length) fun k y hk => ?_⟩
  by_cases z : j = k
  · subst z
    rw [List.getElem?_set_self (by rw [← hr.length]; exact lt_of_at hl)] at hk
    cases hk
    exact ⟨l, hl, ys, upd_same, ha⟩
  · rw [List.getElem?_set_ne z] at hk
    obtain ⟨l2, h2, xs, e1, e2⟩ := hr.get hk
    exact ⟨l2, h2, xs, by rw [upd_ne (show l2 ≠ l from fun w => z (nodup_at nls hl (w ▸ h2)))]; exact e1, e2⟩
/-- x[n].append(e) -/
theorem S.appIn {i j : Nat} {n : Int} {rows : List (List β)} {row : List β} {x : β} {tk : TE} (h : Γ[i]? = some (.ow (owLL A) rows)) (hk : Ev tk Γ rInt n) (hj : ixN rows.length n = some j) (hr : rows[j]? = some row) (he : Ev te Γ A x) (hn : row.length < 100000)
    (k : S B tz (Γ.set i (.ow (owLL A) (rows.set j (row ++ [x])))) D) : S B (tSeq (tDrop (tBM K "list" rAppend (xIxL K (tVar i) tk) (tCons te tNil))) tz) Γ D := fun H F σ b g => by
  obtain ⟨fp, g⟩ := g
  obtain ⟨v, hv, _, rfl, _⟩ := g.q i _ h
  refine ⟨_, hv, hk B.H0 H F σ b.1.i ⟨fp, g⟩ _ fun w H1 F1 o1 rw1 => ?_⟩
  cases rw1
  have g1 := g.mono o1
  obtain ⟨v1, hv1, _, rfl, ⟨L, ls, rfl, hS, hnd, hL, hrow⟩, hSo⟩ := g1.q i _ h
  cases Option.some.inj (hv.symm.trans hv1)
  obtain ⟨l, hl, ys, e1, e2⟩ := hrow.get hr
  have lS : l ∈ fp i := by rw [hS]; exact .tail _ (List.mem_of_getElem? hl)
  have hm : (ls.map V.ref)[j]? = some (.ref l) := by rw [List.getElem?_map, hl]; rfl
  refine ⟨L, _, n, .ref l, rfl, rfl, Evl.sq_of hL, by unfold atI; rw [List.length_map, hrow.length, hj]; exact hm, .inl ⟨rfl, ys, Evl.sq_of e1⟩, ?_⟩
  refine he B.H0 H1 F1 σ (b.up o1).1.i ⟨fp, g1⟩ _ fun u H2 F2 o2 ru => ?_
  have g2 := g1.mono o2
  obtain ⟨v2, hv2, _, rfl, ⟨L2, ls2, z, hS2, hnd2, hL2, hrow2⟩, hSo2⟩ := g2.q i _ h
  cases Option.some.inj (hv.symm.trans hv2)
  cases z
  rw [hS] at hS2
  cases hS2
  obtain ⟨l', hl', ys', e1', e2'⟩ := hrow2.get hr
  cases Option.some.inj (hl.symm.trans hl')
  have st := o2.stay (y := l) (by rw [e1]; intro z; cases z) (hSo l lS).2
  refine ⟨l, ys', u, rfl, rfl, e1', Evl.sz_lt (by rw [e2'.length]; exact hn), ?_⟩
  have b2 := (b.up o1).up o2
  refine k _ F2 σ ⟨b2.1.set (hSo2 l lS).2 (hSo l lS).1, b2.2⟩ ?_
  exact Good.wrW g2 h hv (fun y hy => upd_ne (show y ≠ l from fun z => hy (z ▸ lS))) ⟨.ref L, rfl, ll_put rfl hS hnd2 hL2 hrow2 hl (e2'.snoc ru), hSo2⟩
/-- handed over, and read from now on -/
theorem e_frzW {R : Rp γ} {f : α → γ} (Z : Frz O R f) (h : EvW te Γ O a) : Ev te Γ R (f a) := fun H0 H F σ e g Q q =>
  h H0 H F σ e g _ fun v S H' F' o hS r => q v H' _ (o.frzW hS) (Z.fr (fun y hy => (hS y hy).2) r)
theorem Le.ow {a' : α} (e : a = a') : Le (.ow O a) (.ow O a') := e ▸ .eq _
/-- the first i rows longer by x -/
def apF (x : β) (rows : List (List β)) (i : Nat) : List (List β) := (rows.take i).map (fun r => r ++ [x]) ++ rows.drop i
theorem apF_len {x : β} {rows : List (List β)} {i : Nat} (h : i ≤ rows.length) : (apF x rows i).length = rows.length := by unfold apF; simp; omega
theorem apF_zero (x : β) (rows : List (List β)) : apF x rows 0 = rows := by simp [apF]
theorem apF_all (x : β) (rows : List (List β)) : apF x rows rows.length = rows.map fun r => r ++ [x] := by simp [apF]
theorem apF_at {x : β} {rows : List (List β)} {i : Nat} {r : List β} (h : rows[i]? = some r) : (apF x rows i)[i]? = some r := by
  have := lt_of_at h
  unfold apF
  rw [List.getElem?_append_right (by simp; omega), List.length_map, List.length_take, Nat.min_eq_left (by omega), Nat.sub_self, List.getElem?_drop, Nat.add_zero, h]
theorem apF_succ {x : β} {rows : List (List β)} {i : Nat} {r : List β} (h : rows[i]? = some r) : (apF x rows i).set i (r ++ [x]) = apF x rows (i + 1) := by
  have hi := lt_of_at h
  refine List.ext_getElem? fun j => ?_
  by_cases z : i = j
  · subst z
    rw [List.getElem?_set_self (by rw [apF_len (by omega)]; exact hi)]
    unfold apF
    rw [List.getElem?_append_left (by simp; omega), List.getElem?_map, List.getElem?_take_of_lt (by omega), h]
    rfl
  · rw [List.getElem?_set_ne z]
    unfold apF
    by_cases y : j < i
    · rw [List.getElem?_append_left (by simp; omega), List.getElem?_append_left (by simp; omega), List.getElem?_map, List.getElem?_map, List.getElem?_take_of_lt (by omega), List.getElem?_take_of_lt (by omega)]
    · rw [List.getElem?_append_right (by simp; omega), List.getElem?_append_right (by simp; omega), List.getElem?_drop, List.getElem?_drop]
      congr 1
      simp
      omega
/-! ### a promise of some new list of which only P is told -/
def retP {α : Type} (A : Rp α) (P : List α → Prop) : Ret := fun H F Q => ∀ as, P as → retN A as H F Q
theorem retP_up {α : Type} (A : Rp α) (P : List α → Prop) : Up (retP A P) := fun q o as pas => retN_up A as (q as pas) o
theorem S.asgP {i : Nat} {P : List β → Prop} (h : EvR te Γ (retP A P)) (k : ∀ as, P as → S B tz (Γ.set i (.mu A as)) D) : S B (tSeq (tAsg te (gName i)) tz) Γ D := fun H F σ b g =>
  h B.H0 H F σ b.1.i g _ fun as pas p xs H' F' o hp hF hl r => k as pas H' F' _ (b.up o) (g.setN (s := .mu A as) (S := [p]) o (fun y hy => by rw [List.mem_singleton.mp hy]; exact hp) ⟨p, xs, rfl, rfl, none_of b.1.h hp, hl, hF, r⟩)
theorem S.asgPI (K : PySem.W.Frag) {i : Nat} {P : List β → Prop} (hi : i < Γ.length) (h : EvR te Γ (retP A P)) (k : ∀ as, P as → S B tz (Γ.set i (.im (rLst K A) as)) D) : S B (tSeq (tAsg te (gName i)) tz) Γ D :=
  S.asgP h fun as pas => S.frz (i := i) (A := A) (as := as) K (by rw [List.getElem?_set_self hi]) (by
    rw [List.set_set]; exact k as pas)
end
/-- texts that may be laid -/
def rWd : Rp {z : Str // PyData.strOk z = true} := ⟨fun _ v a => v = .str a.1, fun _ h => h⟩
instance instDW {K : PySem.W.Frag} : HasD K rWd 0 := ⟨fun a => .str a.1, fun _ r => by cases r; exact .str _, fun a => by simp [PyData.canLay0, a.2], fun _ => by simp [PyData.depth], fun a b => by simp [PyData.eqv, Subtype.ext_iff]⟩
theorem e_asR {Γ : List SA} {te : TE} {α β : Type} {A : Rp α} {C : Rp β} {a : α} {c : β} (h : Ev te Γ A a) (f : ∀ F v, A.r F v a → C.r F v c) : Ev te Γ C c := fun H0 H F σ e g Q q => h H0 H F σ e g Q fun v H' F' o r => q v H' F' o (f F' v r)
/-! ### x not in xs, values of any depth -/
theorem units65 {k : Nat} {A : Around} (r : Room k A) : A.units + 65 < cLine := by have := r.un; omega
def xNinD (K : PySem.W.Frag) (ta tb : TE) : TE := tOp (rNotInD K) ta tb
def xInD (K : PySem.W.Frag) (ta tb : TE) : TE := tOp (rInD K) ta tb
section
variable {X : Cx} {a b : Expr} {ta tb : TE} {pos : Pos} {K : PySem.W.Frag}
theorem p_ninD (hu : X.A.units + 65 < cLine) (ha : PE X a ta) (hb : PE X b tb) (hn : behindInMarks .NotIn b = false := by rfl) (hK : X.K = K := by rfl) : PE X (.Compare a [.NotIn] [b] pos) (xNinD K ta tb) := by
  cases hK
  exact pe_cmpR (op_notInD hu) ha hb hn
theorem q_ninD (hu : X.A.units + 65 < cLine) (ha : PE X a ta) (hb : PE X b tb) (hn : behindInMarks .NotIn b = false := by rfl) (hK : X.K = K := by rfl) : PT X (.Compare a [.NotIn] [b] pos) (cCmp (xNinD K ta tb)) := by
  cases hK
  exact pt_cmpR (op_notInD hu) ha hb hn
theorem p_inD (hu : X.A.units + 65 < cLine) (ha : PE X a ta) (hb : PE X b tb) (hn : behindInMarks .In b = false := by rfl) (hK : X.K = K := by rfl) : PE X (.Compare a [.In] [b] pos) (xInD K ta tb) := by
  cases hK
  exact pe_cmpR (op_inD hu) ha hb hn
theorem q_inD (hu : X.A.units + 65 < cLine) (ha : PE X a ta) (hb : PE X b tb) (hn : behindInMarks .In b = false := by rfl) (hK : X.K = K := by rfl) : PT X (.Compare a [.In] [b] pos) (cCmp (xInD K ta tb)) := by
  cases hK
  exact pt_cmpR (op_inD hu) ha hb hn
end
section
variable {Γ : List SA} {α : Type} {A : Rp α} {a : α} {as : List α} {ta tb : TE} {K : PySem.W.Frag} {m : Nat}
theorem any_eqv (d : HasD K A m) (a : α) (as : List α) : ((as.map d.d).any fun z => PyData.eqv z (d.d a)) = @decide (a ∈ as) (Classical.propDecidable _) := by
  rw [Bool.eq_iff_iff, @decide_eq_true_iff _ (Classical.propDecidable _), List.any_map, List.any_eq_true]
  constructor
  · intro ⟨x, hx, e⟩
    have := (d.eq x a).mp e
    subst this
    exact hx
  · intro h
    exact ⟨a, h, (d.eq a a).mpr rfl⟩
theorem e_inD (h : Ev ta Γ A a) (h' : Ev tb Γ (rLst K A) as) (d : HasD K A m) (hm : m ≤ 63) : Ev (xInD K ta tb) Γ rBl (@decide (a ∈ as) (Classical.propDecidable _)) :=
  e_bin h h' fun F H v w e r1 r2 Q q => ⟨d.d a, as.map d.d, d.dp e r1, (instDL (a := d)).dp e r2, d.sh (by omega) a, (instDL (a := d)).sh (by omega) as, by
    rw [any_eqv]
    exact q _ H F (.refl e) rfl⟩
theorem e_ninD (h : Ev ta Γ A a) (h' : Ev tb Γ (rLst K A) as) (d : HasD K A m) (hm : m ≤ 63) : Ev (xNinD K ta tb) Γ rBl (!@decide (a ∈ as) (Classical.propDecidable _)) :=
  e_bin h h' fun F H v w e r1 r2 Q q => ⟨d.d a, as.map d.d, d.dp e r1, (instDL (a := d)).dp e r2, d.sh (by omega) a, (instDL (a := d)).sh (by omega) as, by
    rw [any_eqv]
    exact q _ H F (.refl e) rfl⟩
end
end Tp

namespace Tp
open PySem PySem.Spec PyProof.Rows L2
open Evl (Ex)
/-! ### [list(r) for r in rows], and then a write to one of the new lists (k56) -/
/-- a new list of lists, of which the one at k is still to be written -/
def EvBut {γ : Type} (te : TE) (Γ : List SA) (K : PySem.W.Frag) (A : Rp γ) (k : Nat) (pss : List (List γ)) : Prop :=
  ∀ H0 H F σ, Ex F H → Good H0 H F σ Γ → ∀ Q : VK, (∀ L xs a ys zs H' F', Ok H F H' F' → H L = none → F' L = none → H' L = some (.lst xs) → xs.length = pss.length → xs[k]? = some (.ref a) → a ≠ L → H a = none → F' a = none → H' a = some (.lst ys) → pss[k]? = some zs → A2 (A.r F') ys zs →
    (∀ j rs, j ≠ k → pss[j]? = some rs → ∃ v, xs[j]? = some v ∧ (rLst K A).r F' v rs) → Q (.ref L) H') → te σ H Q
theorem EvBut.is {γ : Type} {te : TE} {Γ : List SA} {K : PySem.W.Frag} {A : Rp γ} {k : Nat} {pss qss : List (List γ)} (h : EvBut te Γ K A k pss) (e : pss = qss) : EvBut te Γ K A k qss := e ▸ h
section
variable {Γ : List SA} {α γ : Type} {A : Rp α} {K : PySem.W.Frag}
theorem enb_map {wi : TI} {g : TG} {te : TE} {as : List α} {vs : List Nat} {C : Rp γ} {G : α → List SA} (f : α → List γ) {k : Nat} (hk : k < as.length) (hw : Iw wi Γ A as) (hn : as.length ≤ 100000) (hg : ∀ a ∈ as, TgC vs g (wipeG Γ vs) A a (G a))
    (he : ∀ a ∈ as, EvN te (G a) C (f a)) : EvBut (tLc wi g tYes te vs) Γ K C k (as.map f) := fun H0 H F σ e gd Q q =>
  hw H0 H F σ e gd _ fun J H1 F1 o1 wk L hL => by
    have gw := (gd.mono o1).wipe vs
    refine ⟨fun i m H' => i + m = as.length ∧ ∃ F' xs, Ok H1 F1 H' F' ∧ F' L = none ∧ H' L = some (.lst xs) ∧ xs.length = i ∧ (∀ j x, j < i → j ≠ k → as[j]? = some x → ∃ v, xs[j]? = some v ∧ (rLst K C).r F' v (f x)) ∧ (k < i → ∃ a ys, xs[k]? = some (.ref a) ∧ a ≠ L ∧ H1 a = none ∧ F' a = none ∧ H' a = some (.lst ys) ∧ ∀ x, as[k]? = some x → A2 (C.r F') ys (f x)),
      ⟨as.length, by omega, F1, [], (Ok.refl o1.i).mut hL, none_of o1.i hL, upd_same, rfl, fun j x z => by omega, fun z => by omega⟩, fun i m H' ⟨em, F', xs, o', hF', hH', hlen, hoth, hone⟩ => ?_⟩
    by_cases hi : i < as.length
    · have ha : as[i]? = some as[i] := List.getElem?_eq_getElem hi
      have hm : as[i] ∈ as := List.getElem_mem hi
      refine .inr ⟨wk.go F' H' i o'.f o'.i hi, fun H'' => ∃ F' xs, Ok H1 F1 H'' F' ∧ F' L = none ∧ H'' L = some (.lst xs) ∧ xs.length = i + 1 ∧ (∀ j x, j < i + 1 → j ≠ k → as[j]? = some x → ∃ v, xs[j]? = some v ∧ (rLst K C).r F' v (f x)) ∧ (k < i + 1 → ∃ a ys, xs[k]? = some (.ref a) ∧ a ≠ L ∧ H1 a = none ∧ F' a = none ∧ H'' a = some (.lst ys) ∧ ∀ x, as[k]? = some x → A2 (C.r F') ys (f x)), fun H'' n2 => ⟨m - 1, by omega, by omega, n2⟩, fun v H2 y => ?_⟩
      obtain ⟨F2, o2, r2⟩ := wk.yld F' H' i _ v H2 o'.f o'.i ha y
      refine hg _ hm H0 H2 F2 (wipe σ vs) v o2.i (gw.mono (o'.trans o2)) r2 _ fun σ3 g3 w3 => ⟨w3.trans wipe_wipe, ?_⟩
      refine eb_yes H0 H2 F2 σ3 o2.i g3 _ fun H3 F3 o3 => ?_
      refine he _ hm H0 H3 F3 σ3 o3.i (g3.mono o3) _ fun l zs H4 F4 o4 hl hFl hl4 a4 => ?_
      have o123 := (o'.trans o2).trans o3
      have o24 := (o2.trans o3).trans o4
      have keep : ∀ {b : Addr} {u}, H' b = some u → F' b = none → H4 b = some u ∧ F4 b = none := fun {b u} hb fb => ⟨o24.h b _ hb, by
        cases z : F4 b with
        | none => rfl
        | some w =>
          rcases o24.r b w z with y | y
          · rw [fb] at y; cases y
          · rw [hb] at y; cases y⟩
      obtain ⟨k1, k2⟩ := keep hH' hF'
      have lL : l ≠ L := fun z => by
        have := (o2.trans o3).h L _ hH'
        rw [← z, hl] at this; cases this
      have h1l : H1 l = none := none_of (o123.h) hl
      have szl : xs.length < 16777216 := by omega
      refine ⟨xs, k1, Evl.sz_lt (by omega), ?_⟩
      by_cases ik : i = k
      · -- the one that stays open
        refine ⟨F4, _, (o123.trans o4).set k2 hL, k2, upd_same, by rw [List.length_append, hlen]; rfl, fun j x hj hjk hx => ?_, fun _ => ⟨l, zs, ?_, lL, h1l, hFl, ?_, fun x hx => ?_⟩⟩
        · obtain ⟨v, hv, rv⟩ := hoth j x (by omega) hjk hx
          exact ⟨v, by rw [List.getElem?_append_left (by rw [hlen]; omega)]; exact hv, (rLst K C).mono o24.f rv⟩
        · rw [← ik, ← hlen, List.getElem?_append_right (Nat.le_refl _), Nat.sub_self]; rfl
        · rw [upd_ne lL]; exact hl4
        · rw [← ik, ha] at hx
          cases hx
          exact a4
      · -- any other one is still from now on
        have exF : Ex F4 (upd F4 l (.lst zs)) := Ex.new hFl
        have hL5 : upd F4 l (.lst zs) L = none := by rw [upd_ne (Ne.symm lL)]; exact k2
        refine ⟨upd F4 l (.lst zs), _, ((o123.trans o4).frz hl4 hFl h1l).set hL5 hL, hL5, upd_same, by rw [List.length_append, hlen]; rfl, fun j x hj hjk hx => ?_, fun hki => ?_⟩
        · by_cases ji : j = i
          · subst ji
            rw [ha] at hx
            cases hx
            refine ⟨.ref l, by rw [← hlen, List.getElem?_append_right (Nat.le_refl _), Nat.sub_self]; rfl, l, zs, rfl, Evl.sq_of upd_same, a4.imp fun _ _ z => C.mono exF z⟩
          · obtain ⟨v, hv, rv⟩ := hoth j x (by omega) hjk hx
            exact ⟨v, by rw [List.getElem?_append_left (by rw [hlen]; omega)]; exact hv, (rLst K C).mono (o24.f.trans exF) rv⟩
        · obtain ⟨a, ys, h1, h2, h3, h4, h5, h6⟩ := hone (by omega)
          obtain ⟨p1, p2⟩ := keep h5 h4
          have al : a ≠ l := fun z => by
            have := (o2.trans o3).h a _ h5
            rw [z, hl] at this; cases this
          refine ⟨a, ys, by rw [List.getElem?_append_left (by rw [hlen]; omega)]; exact h1, h2, h3, by rw [upd_ne al]; exact p2, by rw [upd_ne h2]; exact p1, fun x hx => (h6 x hx).imp fun _ _ z => C.mono (o24.f.trans exF) z⟩
    · have ei : i = as.length := by omega
      obtain ⟨a, ys, h1, h2, h3, h4, h5, h6⟩ := hone (by omega)
      obtain ⟨x, hx⟩ : ∃ x, as[k]? = some x := ⟨_, List.getElem?_eq_getElem hk⟩
      refine .inl ⟨ei ▸ wk.stop F' H' o'.f o'.i, q L xs a ys (f x) H' F' (o1.trans o') (none_of o1.h hL) hF' hH' (by rw [List.length_map]; omega) h1 h2 (none_of o1.h h3) h4 h5 (by rw [List.getElem?_map, hx]; rfl) (h6 x hx) fun j rs hj hr => ?_⟩
      rw [List.getElem?_map] at hr
      obtain ⟨y, hy, rfl⟩ := Option.map_eq_some_iff.mp hr
      exact hoth j y (by have := (List.getElem?_eq_some_iff.mp hy).1; omega) hj hy
variable {te tv tp tb : TE} {tz : TS} {D : Ends} {B : Bs}
/-- raised = [list(r) for r in rows]; raised[k][n] = v -/
theorem S.nest {C : Rp γ} {i k j : Nat} {n : Int} {v : γ} {pss : List (List γ)} {zs : List γ} (hte : EvBut te Γ K C k pss) (hk : pss[k]? = some zs) (hA : ∀ F F' x c, C.r F x c → C.r F' x c)
    (hi : i < Γ.length)
    (hv : Ev tv (Γ.set i (.mu (rLst K C) pss)) C v) (hp : Ev tp (Γ.set i (.mu (rLst K C) pss)) rInt (k : Int)) (hb : Ev tb (Γ.set i (.mu (rLst K C) pss)) rInt n) (hj : ixN zs.length n = some j)
    (kz : S B tz (Γ.set i (.mu (rLst K C) (pss.set k (zs.set j v)))) D) : S B (tSeq (tAsg te (gName i)) (tSeq (tAsg tv (gSub (tOp (rIxL K) (tVar i) tp) tb rSetL)) tz)) Γ D := fun H F σ b g =>
  hte B.H0 H F σ b.1.i g _ fun L xs a ys zs' H1 F1 o1 hL hFL hL1 hlen hka haL ha0 hFa ha1 hzs hys hoth => by
    cases Option.some.inj (hk.symm.trans hzs)
    have exT : Ex F1 (upd F1 a (.lst ys)) := Ex.new hFa
    have oT : Ok H F H1 (upd F1 a (.lst ys)) := o1.frz ha1 hFa ha0
    have hFLT : upd F1 a (.lst ys) L = none := by rw [upd_ne (Ne.symm haL)]; exact hFL
    have gT : Good B.H0 H1 (upd F1 a (.lst ys)) (σ.set i (some (.ref L))) (Γ.set i (.mu (rLst K C) pss)) := g.setN (s := .mu (rLst K C) pss) (S := [L]) oT (fun y hy => by rw [List.mem_singleton.mp hy]; exact hL) ⟨L, xs, rfl, rfl, none_of b.1.h hL, hL1, hFLT, A2.of_get hlen fun jj rs hr => by
      by_cases z : jj = k
      · subst z
        cases Option.some.inj (hk.symm.trans hr)
        exact ⟨_, hka, a, ys, rfl, Evl.sq_of upd_same, hys.imp fun _ _ z => C.mono exT z⟩
      · obtain ⟨w, hw, rw_⟩ := hoth jj rs z hr
        exact ⟨w, hw, (rLst K C).mono exT rw_⟩⟩
    have σi : (σ.set i (some (V.ref L)))[i]? = some (some (.ref L)) := by rw [List.getElem?_set_self (by rw [g.len]; exact hi)]
    refine hv B.H0 H1 _ _ oT.i gT _ fun w H2 F2 o2 rw2 => ?_
    refine ⟨_, σi, hp B.H0 H2 F2 _ o2.i (gT.mono o2) _ fun y H3 F3 o3 ry => ?_⟩
    cases ry
    have hL3 : H3 L = some (.lst xs) := (o2.trans o3).h L _ hL1
    refine ⟨L, xs, (k : Int), .ref a, rfl, rfl, Evl.sq_of hL3, atI_nat hka, ?_⟩
    refine hb B.H0 H3 F3 _ o3.i (gT.mono (o2.trans o3)) _ fun y2 H4 F4 o4 ry2 => ?_
    cases ry2
    have o14 := (o2.trans o3).trans o4
    have ha4 : H4 a = some (.lst ys) := o14.h a _ ha1
    refine ⟨a, ys, n, j, rfl, rfl, ha4, by rw [hys.length]; exact hj, ?_⟩
    have oB := oT.trans o14
    have hF0 : F a = none := none_of b.1.i ha0
    have ok5 : Ok H F (upd H4 a (.lst (ys.set j w))) (upd F4 a (.lst (ys.set j w))) := ⟨oB.h.mut ha0, oB.f.mut hF0, ex_new2 oB.i, fun q u hq => by
      by_cases z : q = a
      · subst z; exact .inr ha0
      · rw [upd_ne z] at hq; exact oB.r q u hq⟩
    have hFL4 : F4 L = none := by
      cases z : F4 L with
      | none => rfl
      | some u =>
        rcases o14.r L u z with y | y
        · rw [hFLT] at y; cases y
        · rw [hL1] at y; cases y
    have ex15 : Ex F1 (upd F4 a (.lst (ys.set j w))) := (exT.trans o14.f |>.mut hFa)
    have g5 : Good B.H0 (upd H4 a (.lst (ys.set j w))) (upd F4 a (.lst (ys.set j w))) (σ.set i (some (.ref L))) (Γ.set i (.mu (rLst K C) (pss.set k (zs.set j v)))) := g.setN (s := .mu (rLst K C) (pss.set k (zs.set j v))) (S := [L]) ok5 (fun y hy => by rw [List.mem_singleton.mp hy]; exact hL) ⟨L, xs, rfl, rfl, none_of b.1.h hL, by rw [upd_ne (Ne.symm haL)]; exact o14.h L _ hL1, by rw [upd_ne (Ne.symm haL)]; exact hFL4, A2.of_get (by rw [List.length_set]; exact hlen) fun jj rs hr => by
      by_cases z : jj = k
      · subst z
        rw [List.getElem?_set_self (by rw [← hlen]; exact (List.getElem?_eq_some_iff.mp hka).1)] at hr
        cases hr
        refine ⟨_, hka, a, _, rfl, Evl.sq_of upd_same, A2.set (hys.imp fun _ _ z => hA _ _ _ _ z) (hA _ _ _ _ rw2) j⟩
      · rw [List.getElem?_set_ne (Ne.symm z)] at hr
        obtain ⟨w', hw', rw_⟩ := hoth jj rs z hr
        exact ⟨w', hw', (rLst K C).mono ex15 rw_⟩⟩
    exact kz _ _ _ (b.up ok5) g5
end
def xMinL (K : PySem.W.Frag) (ta : TE) : TE := tCB (rMin K) (tCons ta tNil)
theorem p_minL {X : Cx} {a : Expr} {ta : TE} {pos p1 : Pos} {K : PySem.W.Frag} (hc : X.calm = true) (hg : Gl X "min") (hm : X.mg "min" = none) (ha : PE X a ta) (hs : starEach [a] X.env = (false, eval a X.env) :: starEach [] X.env := by rfl) (hp : (backTo pos (starEach [] X.env)).any (·.1) = false := by rfl) (hK : X.K = K := by rfl) :
    PE X (.Call (.Name "min" p1) [a] [] pos) (xMinL K ta) := by
  cases hK
  exact pe_callB (cr_min hc) hg hm (by decide +kernel) (pa_cons ha pa_nil hs) (he := hs) (hpl := hp)
theorem e_minL {Γ : List SA} {ta : TE} {K : PySem.W.Frag} {as : List Int} {m : Int} (ha : Ev ta Γ (rLst K rInt) as) (hm : m ∈ as) (hx : ∀ y ∈ as, m ≤ y) : Ev (xMinL K ta) Γ rInt m := fun H0 H F σ e g Q q =>
  ha H0 H F σ e g _ fun v H1 F1 o r => by
    obtain ⟨p, xs, rfl, s, h1⟩ := r
    have z : xs = as.map V.int := h1.eq_map
    subst z
    refine ⟨p, as, rfl, Evl.ex_l o.i s, List.length_pos_of_mem hm, fun m' h h' => ?_⟩
    have : m' = m := Int.le_antisymm (h' _ hm) (hx _ h)
    subst this
    exact q _ H1 F1 o rfl
/-! ### b is True, b is not False -/
theorem isSame_bool (k l : Bool) : isSame (.bool k) (.bool l) = pure (decide (k = l)) := by cases k <;> cases l <;> rfl
def rIsB (neg : Bool) : R2 := fun x y H Q => ∃ k l, x = .bl k ∧ y = .bl l ∧ Q (.bl (Bool.xor neg (decide (k = l)))) H
theorem op_isB {X : Cx} : OpR X (compareOp .Is) (rIsB false) := by
  intro pins s σ H x y v u Q I rx ry h
  obtain ⟨k, l, rfl, rfl, q⟩ := h
  cases rx
  cases ry
  show wpAny (model X.prog X.w) X.A (do return Value.bool (← isSame (.bool k) (.bool l)) : Sem Value) (EP X pins σ Q) X.xe s
  rw [isSame_bool]
  exact wpAny_bind (wpAny_pure (wpAny_pure (fin_bl I q (by simp))))
theorem op_notB {X : Cx} : OpR X (compareOp .IsNot) (rIsB true) := by
  intro pins s σ H x y v u Q I rx ry h
  obtain ⟨k, l, rfl, rfl, q⟩ := h
  cases rx
  cases ry
  show wpAny (model X.prog X.w) X.A (do return Value.bool (!(← isSame (.bool k) (.bool l))) : Sem Value) (EP X pins σ Q) X.xe s
  rw [isSame_bool]
  exact wpAny_bind (wpAny_pure (wpAny_pure (fin_bl I q (by simp))))
def xIsB (ta tb : TE) : TE := tOp (rIsB false) ta tb
def xNotB (ta tb : TE) : TE := tOp (rIsB true) ta tb
section
variable {X : Cx} {a b : Expr} {ta tb : TE} {pos : Pos}
theorem p_isB (ha : PE X a ta) (hb : PE X b tb) (hn : behindInMarks .Is b = false := by rfl) : PE X (.Compare a [.Is] [b] pos) (xIsB ta tb) := pe_cmpR op_isB ha hb hn
theorem p_notB (ha : PE X a ta) (hb : PE X b tb) (hn : behindInMarks .IsNot b = false := by rfl) : PE X (.Compare a [.IsNot] [b] pos) (xNotB ta tb) := pe_cmpR op_notB ha hb hn
theorem q_isB (ha : PE X a ta) (hb : PE X b tb) (hn : behindInMarks .Is b = false := by rfl) : PT X (.Compare a [.Is] [b] pos) (cCmp (xIsB ta tb)) := pt_cmpR op_isB ha hb hn
theorem q_notB (ha : PE X a ta) (hb : PE X b tb) (hn : behindInMarks .IsNot b = false := by rfl) : PT X (.Compare a [.IsNot] [b] pos) (cCmp (xNotB ta tb)) := pt_cmpR op_notB ha hb hn
end
theorem e_isB {Γ : List SA} {ta tb : TE} {k l : Bool} (ha : Ev ta Γ rBl k) (hb : Ev tb Γ rBl l) : Ev (xIsB ta tb) Γ rBl (decide (k = l)) :=
  e_bin ha hb fun F H v w e r1 r2 Q q => ⟨k, l, r1, r2, by rw [Bool.false_xor]; exact q _ H F (.refl e) rfl⟩
theorem e_notB {Γ : List SA} {ta tb : TE} {k l : Bool} (ha : Ev ta Γ rBl k) (hb : Ev tb Γ rBl l) : Ev (xNotB ta tb) Γ rBl (!decide (k = l)) :=
  e_bin ha hb fun F H v w e r1 r2 Q q => ⟨k, l, r1, r2, by rw [Bool.true_xor]; exact q _ H F (.refl e) rfl⟩
end Tp

namespace Tp
open PySem PySem.Spec PyProof.Rows L2
open Evl (Ex)
/-! ### xs.count(k) -/
def xCnt (K : PySem.W.Frag) (ta tb : TE) : TE := tBM K "list" (rCntI K) ta (tCons tb tNil)
theorem p_cnt {X : Cx} {a b : Expr} {ta tb : TE} {pos : Pos} {K : PySem.W.Frag} {apos : Pos} (ha : PE X a ta) (hb : PE X b tb) (hbase : attributeBase a "count" X.env (eval a X.env) = eval a X.env := by rfl)
    (hfew : ((backTo pos (starEach [b] X.env)).all (fun x => !x.1) && (backToKw pos (keywordEach [] X.env)).all (fun x => x.1.isSome) && decide ([b].length + ([] : List Keyword).length + (if ([] : List Keyword).isEmpty then 0 else 1) < 30)) = true := by rfl)
    (hline : (apos.endLine == pos.line) = true := by rfl) (hs : starEach [b] X.env = (false, eval b X.env) :: starEach [] X.env := by rfl) (hp : (backTo pos (starEach [] X.env)).any (·.1) = false := by rfl) (hK : X.K = K := by rfl) :
    PE X (.Call (.Attribute a "count" apos) [b] [] pos) (xCnt K ta tb) := by
  cases hK
  exact pe_bm PySem.F.plainAttrs_list PySem.F.slot_list_count PySem.F.type_list_count mt_lcount ha (pa_cons hb pa_nil hs) hbase hfew hline hs hp
theorem e_cnt {Γ : List SA} {ta tb : TE} {K : PySem.W.Frag} {as : List Int} {x : Int} (ha : Ev ta Γ (rLst K rInt) as) (hb : Ev tb Γ rInt x) : Ev (xCnt K ta tb) Γ rInt ((as.count x : Nat) : Int) := fun H0 H F σ e g Q q =>
  ha H0 H F σ e g _ fun v H1 F1 o r => by
    obtain ⟨p, xs, rfl, s, h1⟩ := r
    have z : xs = as.map V.int := h1.eq_map
    subst z
    refine ⟨.inl ⟨rfl, _, Evl.ex_l o.i s⟩, hb H0 H1 F1 σ o.i (g.mono o) _ fun u H2 F2 o2 r2 => ?_⟩
    cases r2
    exact ⟨p, as, x, rfl, rfl, Evl.ex_l (o2.f.trans o2.i) s, q _ H2 F2 (o.trans o2) rfl⟩
end Tp

namespace Tm
/-! ### all plans, and the first best one of them -/
theorem abel_id {q : Rat} {f g : Nat → Rat} : ∀ k : Nat, sR (fun t => q ^ t * g t) k - sR (fun t => q ^ t * f t) k = q ^ k * (sR g k - sR f k) + (1 - q) * sR (fun s => q ^ s * (sR g (s + 1) - sR f (s + 1))) k
  | 0 => by
    show (0 : Rat) - 0 = q ^ 0 * (0 - 0) + (1 - q) * 0
    grind
  | k + 1 => by
    have i := abel_id (q := q) (f := f) (g := g) k
    rw [sR_succ, sR_succ, sR_succ (fun s => q ^ s * (sR g (s + 1) - sR f (s + 1))) k, sR_succ g k, sR_succ f k, qpow_succ]
    generalize sR (fun t => q ^ t * g t) k = a at *
    generalize sR (fun t => q ^ t * f t) k = b at *
    generalize sR (fun s => q ^ s * (sR g (s + 1) - sR f (s + 1))) k = c at *
    generalize sR g k = d at *
    generalize sR f k = e at *
    generalize q ^ k = p at *
    grind
theorem abel_all {q : Rat} (q0 : 0 < q) (q1 : q < 1) {f g : Nat → Rat} {n : Nat} (h : ∀ s, s ≤ n → sR f s ≤ sR g s) (e : sR (fun t => q ^ t * g t) n ≤ sR (fun t => q ^ t * f t) n) : ∀ t, t < n → f t = g t := by
  have i := abel_id (q := q) (f := f) (g := g) n
  have a := Rat.mul_nonneg (Rat.le_of_lt (qpow_pos q0 n)) (show 0 ≤ sR g n - sR f n by have := h n (Nat.le_refl _); grind)
  have nn : ∀ s, s < n → 0 ≤ q ^ s * (sR g (s + 1) - sR f (s + 1)) := fun s hs => Rat.mul_nonneg (Rat.le_of_lt (qpow_pos q0 s)) (by have := h (s + 1) (by omega); grind)
  have b := sR_nn nn
  have c := Rat.mul_nonneg (show 0 ≤ 1 - q by grind) b
  have z : (1 - q) * sR (fun s => q ^ s * (sR g (s + 1) - sR f (s + 1))) n = 0 := by grind
  have z2 : sR (fun s => q ^ s * (sR g (s + 1) - sR f (s + 1))) n = 0 := by
    rcases Rat.mul_eq_zero.mp z with y | y
    · grind
    · exact y
  have each := sR_each nn z2
  have d : ∀ s, s ≤ n → sR g s = sR f s := fun s hs => by
    cases s with
    | zero => rfl
    | succ s =>
      have := each s (by omega)
      have p := qpow_pos q0 s
      rcases Rat.mul_eq_zero.mp this with y | y
      · grind
      · grind
  intro t ht
  have d0 := d t (by omega)
  have d1 := d (t + 1) (by omega)
  rw [sR_succ, sR_succ] at d1
  grind
theorem dsum_over {q : Rat} {val : Nat → Nat → Rat} {pl : Pl} {s : Nat} (h : pl.length ≤ s) : dsum q val pl s = dsum q val pl pl.length := sR_stop h fun _ h1 _ => trm_over h1
theorem opt_sorted {m : Mg} {css : Chs} {q : Rat} {T : Nat → Nat → Rat} {r : Nat → Nat → Rat} {pl : Pl} (q0 : 0 < q) (q1 : q < 1) (h : Mrg css m) (hf : Fal css) (T0 : ∀ j, T j 0 = 0) (Ts : ∀ j k, T j (k + 1) = T j k + q ^ k * (rv (chC css j k) - r j k))
    (hT : ∀ j k, j < css.length → k ≤ lenC css j → 0 ≤ T j k) (vl : VL css.length (lenC css) pl) (M : Rat) (e : dsum q (fun j k => r j k - M) pl pl.length = fallW q m M) {t : Nat} (ht : t < cutK m M) :
    ∃ x : Int, pl[t]? = some (some x) ∧ 0 ≤ x ∧ x.toNat < css.length ∧ cs pl t x.toNat < lenC css x.toNat ∧ rv (chC css x.toNat (cs pl t x.toNat)) = rv (gM m t) := by
  obtain ⟨s, hs1, hs2⟩ : ∃ s, pl.length ≤ s ∧ m.length ≤ s := ⟨max pl.length m.length, by omega, by omega⟩
  have cl := cutK_le m M
  have e1 : dsum q (fun j k => r j k - M) pl s = fallW q m M := by rw [dsum_over hs1]; exact e
  have w := waits q0 (Rat.le_of_lt q1) T0 Ts vl hT s
  rw [dsum_sub (fun j k => rv (chC css j k)) r] at w
  rw [dsum_sub r (fun _ _ => M)] at e1
  have a : fallW q m M ≤ dsum q (fun j k => rv (chC css j k) - M) pl s := by
    rw [dsum_sub (fun j k => rv (chC css j k)) (fun _ _ => M)]
    grind
  have ev : ∀ k, k < cutK m M → q ^ k * gpos m M k = q ^ k * (rv (gM m k) - M) := fun k hk => by
    have g := (h.cut_lt hf M (i := k) (by omega)).mp hk
    unfold gpos
    rw [if_pos (by omega), pos_of (by grind)]
  have b : sR (fun t => q ^ t * gpos m M t) s ≤ fallW q m M := by
    unfold fallW
    rw [sR_congr (n := cutK m M) fun k hk => (ev k hk).symm]
    refine rle (sR_stop (by omega) fun i h1 h2 => ?_)
    have : gpos m M i = 0 := by
      unfold gpos
      split
      · rename_i hi
        have := h.cut_lt hf M (i := i) hi
        have : ¬ M < rv (gM m i) := fun k => by have := this.mpr k; omega
        exact pos_neg (by grind)
      · rfl
    rw [this]; grind
  have fe : dsum q (fun j k => rv (chC css j k) - M) pl s = sR (fun t => q ^ t * trm 1 (fun j k => rv (chC css j k) - M) pl t) s := sR_congr fun t _ => trm_q _ _ _ _
  have all := abel_all q0 q1 (f := trm 1 (fun j k => rv (chC css j k) - M) pl) (g := gpos m M) (n := s) (fun t _ => F_le_G h hf vl M t) (by rw [← fe]; exact Rat.le_trans b a) t (by omega)
  have g := (h.cut_lt hf M (i := t) (by omega)).mp ht
  have gp : gpos m M t = rv (gM m t) - M := by
    unfold gpos
    rw [if_pos (by omega), pos_of (by grind)]
  rw [gp] at all
  rcases trm_cases (pl := pl) t with ⟨x, hx⟩ | z
  · rw [trm_some hx, pow_one] at all
    obtain ⟨x0, x1, x2⟩ := vl t x hx
    exact ⟨x, hx, x0, x1, x2, by grind⟩
  · rw [z] at all
    grind
/-- a best plan is no shorter than the told one, and not before it -/
theorem opt_len {c : Co} (ok : COk c) {pl : Pl} (vp : VP c.2 pl) {o : Int × Int} (e : worthR c.1 c.2 pl (rv o) = bestR c (rv o)) : (bpF c o).length ≤ pl.length ∧ ∀ t, t < (bpF c o).length → (∀ i, i < t → pl[i]? = ((bpF c o).map some)[i]?) → ∃ x y : Int, pl[t]? = some (some x) ∧ (bpF c o)[t]? = some y ∧ y ≤ x := by
  have w := cert_own ok.d.1 ok.p
  have z := ok.d.1.q
  have hm := cert_mrg ok
  have vl := (cert_vl ok).mpr vp
  have eq : dsum (rv c.1) (fun j k => rwd c.2 j k - rv o) pl pl.length = fallW (rv c.1) (mgC c) (rv o) := by
    unfold worthR bestR at e
    grind
  have st := fun t ht => opt_sorted z.1 z.2 hm w.fal (T := TC c.1 c.2 (certF c.1 c.2)) (r := rwd c.2) (TC_zero _ _ _) (TC_succ _ _ _) w.nn vl (rv o) eq (t := t) ht
  have cl := cutK_le (mgC c) (rv o)
  rw [bpF_len]
  refine ⟨?_, fun t ht pre => ?_⟩
  · refine Classical.byContradiction fun no => ?_
    obtain ⟨x, hx, _⟩ := st pl.length (by omega)
    rw [List.getElem?_eq_none (Nat.le_refl _)] at hx
    cases hx
  · obtain ⟨x, hx, x0, x1, x2, ex⟩ := st t ht
    obtain ⟨y, hy, ey⟩ := m_at (m := mgC c) (i := t) (by omega)
    have hb : (bpF c o)[t]? = some y := by
      unfold bpF
      rw [List.getElem?_map, List.getElem?_take_of_lt ht, hy]; rfl
    refine ⟨x, y, hx, hb, ?_⟩
    obtain ⟨y0, _⟩ := hm.vl t y (mpl_at hy)
    have same : ∀ j, cs pl t j = cs (mpl (mgC c)) t j := fun j => by
      unfold cs
      congr 1
      refine List.ext_getElem? fun i => ?_
      by_cases hi : i < t
      · rw [List.getElem?_take_of_lt hi, List.getElem?_take_of_lt hi, pre i hi, bpF_pl, List.getElem?_take_of_lt (by omega)]
      · rw [List.getElem?_eq_none (by rw [List.length_take]; omega), List.getElem?_eq_none (by rw [List.length_take]; omega)]
    have top := hm.top _ _ _ hy x.toNat x1 (by rw [← same]; exact x2)
    rw [← same, ex] at top
    refine Classical.byContradiction fun no => ?_
    have := top.2 (by omega)
    grind
/-! ### the list of all plans -/
def cntI (p : List Int) (k : Nat) : Nat := p.count (k : Int)
theorem cnt_some (p : List Int) (k : Nat) : cntP (p.map some) k = cntI p k := by
  unfold cntP cntI List.count
  rw [List.countP_map]
  exact List.countP_congr fun x _ => by simp
def extK (ps : List (List Int)) (p : List Int) (n : Nat) : List (List Int) := ((List.range n).filter fun k => decide (cntI p k < (rdp ps k).length)).map fun k : Nat => p ++ [(k : Int)]
def extF (ps : List (List Int)) (p : List Int) : List (List Int) := extK ps p ps.length
def lvF (ps : List (List Int)) : Nat → List (List Int)
  | 0 => [[]]
  | n + 1 => (lvF ps n).flatMap (extF ps)
def allF (ps : List (List Int)) : Nat → List (List Int)
  | 0 => [[]]
  | n + 1 => allF ps n ++ lvF ps (n + 1)
theorem extK_succ (ps : List (List Int)) (p : List Int) (n : Nat) : extK ps p (n + 1) = extK ps p n ++ (if cntI p n < (rdp ps n).length then [p ++ [(n : Int)]] else []) := by
  unfold extK
  rw [List.range_succ, List.filter_append, List.map_append]
  congr 1
  by_cases h : cntI p n < (rdp ps n).length
  · rw [List.filter_cons_of_pos (by simp [h]), if_pos h]; rfl
  · rw [List.filter_cons_of_neg (by simp [h]), if_neg h]; rfl
theorem ext_mem {ps : List (List Int)} {p q : List Int} (h : q ∈ extF ps p) : ∃ k : Nat, k < ps.length ∧ cntI p k < (rdp ps k).length ∧ q = p ++ [(k : Int)] := by
  unfold extF extK at h
  obtain ⟨k, hk, rfl⟩ := List.mem_map.mp h
  obtain ⟨h1, h2⟩ := List.mem_filter.mp hk
  exact ⟨k, List.mem_range.mp h1, of_decide_eq_true h2, rfl⟩
theorem lv_mem {ps : List (List Int)} : ∀ {n : Nat} {p : List Int}, p ∈ lvF ps n → p.length = n ∧ VP ps (p.map some)
  | 0, p, h => by
    have : p = [] := by simpa [lvF] using h
    subst this
    exact ⟨rfl, fun i x e => by simp at e⟩
  | n + 1, p, h => by
    obtain ⟨q, hq, hp⟩ := List.mem_flatMap.mp h
    obtain ⟨l, v⟩ := lv_mem hq
    obtain ⟨k, k1, k2, rfl⟩ := ext_mem hp
    refine ⟨by rw [List.length_append, l]; rfl, ?_⟩
    rw [List.map_append]
    exact v.snoc (by omega) (rs := rdp ps k) (by rw [Int.toNat_natCast]; exact rdp_at k1) (by rw [Int.toNat_natCast, cnt_some]; exact k2)
theorem mem_lv {ps : List (List Int)} : ∀ {n : Nat} {p : List Int}, p.length = n → VP ps (p.map some) → p ∈ lvF ps n
  | 0, p, h, _ => by rw [List.length_eq_zero_iff.mp h]; simp [lvF]
  | n + 1, p, h, v => by
    obtain ⟨q, x, rfl⟩ : ∃ q x, p = q ++ [x] := ⟨p.dropLast, p.getLast (by intro z; rw [z] at h; cases h), (List.dropLast_concat_getLast _).symm⟩
    have l : q.length = n := by rw [List.length_append] at h; simpa using h
    have vq : VP ps (q.map some) := by
      have := v.take n
      rwa [List.map_append, List.take_append_of_le_length (by rw [List.length_map]; omega), List.take_of_length_le (by rw [List.length_map]; omega)] at this
    have hx : ((q ++ [x]).map some)[n]? = some (some x) := by
      rw [List.getElem?_map, List.getElem?_append_right (by omega), l, Nat.sub_self]; rfl
    obtain ⟨x0, rs, hr, hc⟩ := v n x hx
    have hl := (List.getElem?_eq_some_iff.mp hr).1
    have er := rdp_at hl
    rw [hr] at er
    cases Option.some.inj er
    refine List.mem_flatMap.mpr ⟨q, mem_lv l vq, ?_⟩
    unfold extF extK
    refine List.mem_map.mpr ⟨x.toNat, List.mem_filter.mpr ⟨List.mem_range.mpr hl, ?_⟩, by rw [Int.toNat_of_nonneg x0]⟩
    rw [List.map_append, List.take_append_of_le_length (by rw [List.length_map]; omega), List.take_of_length_le (by rw [List.length_map]; omega), cnt_some] at hc
    exact decide_eq_true hc
def LexL (a b : List Int) : Prop := ∃ (t : Nat) (x y : Int), (∀ i, i < t → a[i]? = b[i]?) ∧ a[t]? = some x ∧ b[t]? = some y ∧ x < y
def Bef (a b : List Int) : Prop := a.length < b.length ∨ (a.length = b.length ∧ LexL a b)
theorem lex_snoc {a b : List Int} (x y : Int) (h : LexL a b) : LexL (a ++ [x]) (b ++ [y]) := by
  obtain ⟨t, u, v, pre, h1, h2, lt⟩ := h
  have l1 := (List.getElem?_eq_some_iff.mp h1).1
  have l2 := (List.getElem?_eq_some_iff.mp h2).1
  exact ⟨t, u, v, fun i hi => by rw [List.getElem?_append_left (show i < a.length by omega), List.getElem?_append_left (show i < b.length by omega)]; exact pre i hi, by rw [List.getElem?_append_left l1]; exact h1, by rw [List.getElem?_append_left l2]; exact h2, lt⟩
theorem lex_last (a : List Int) {x y : Int} (h : x < y) : LexL (a ++ [x]) (a ++ [y]) :=
  ⟨a.length, x, y, fun i hi => by rw [List.getElem?_append_left hi, List.getElem?_append_left hi], by simp, by simp, h⟩
theorem ext_pw (ps : List (List Int)) (p : List Int) : (extF ps p).Pairwise LexL := by
  unfold extF extK
  refine List.pairwise_map.mpr (List.Pairwise.filter _ ?_)
  exact List.Pairwise.imp (R := fun a b : Nat => a < b) (fun {a b} h => lex_last p (by omega)) List.pairwise_lt_range
theorem lv_pw (ps : List (List Int)) : ∀ n, (lvF ps n).Pairwise LexL
  | 0 => List.pairwise_singleton _ _
  | n + 1 => by
    show ((lvF ps n).flatMap (extF ps)).Pairwise LexL
    rw [List.pairwise_flatMap]
    refine ⟨fun p _ => ext_pw ps p, (lv_pw ps n).imp fun {a b} h q hq r hr => ?_⟩
    obtain ⟨k, _, _, rfl⟩ := ext_mem hq
    obtain ⟨j, _, _, rfl⟩ := ext_mem hr
    exact lex_snoc _ _ h
theorem all_mem {ps : List (List Int)} : ∀ {n : Nat} {p : List Int}, p ∈ allF ps n ↔ p.length ≤ n ∧ VP ps (p.map some)
  | 0, p => by
    constructor
    · intro h
      have : p = [] := by simpa [allF] using h
      subst this
      exact ⟨Nat.le_refl _, fun i x e => by simp at e⟩
    · intro h
      rw [List.length_eq_zero_iff.mp (Nat.le_zero.mp h.1)]
      simp [allF]
  | n + 1, p => by
    show p ∈ allF ps n ++ lvF ps (n + 1) ↔ _
    rw [List.mem_append, all_mem]
    constructor
    · intro h
      rcases h with h | h
      · exact ⟨by omega, h.2⟩
      · have := lv_mem h
        exact ⟨by omega, this.2⟩
    · intro h
      by_cases z : p.length ≤ n
      · exact .inl ⟨z, h.2⟩
      · exact .inr (mem_lv (by omega) h.2)
theorem all_pw (ps : List (List Int)) : ∀ n, (allF ps n).Pairwise Bef
  | 0 => List.pairwise_singleton _ _
  | n + 1 => by
    show (allF ps n ++ lvF ps (n + 1)).Pairwise Bef
    refine List.pairwise_append.mpr ⟨all_pw ps n, ?_, fun a ha b hb => ?_⟩
    · refine List.Pairwise.imp_of_mem (fun {a b} ha hb h => ?_) (lv_pw ps (n + 1))
      exact .inr ⟨by rw [(lv_mem ha).1, (lv_mem hb).1], h⟩
    · have h1 := (all_mem.mp ha).1
      have h2 := (lv_mem hb).1
      exact .inl (by omega)
theorem ext_len (ps : List (List Int)) (p : List Int) (n : Nat) : (extK ps p n).length ≤ n := by
  unfold extK
  rw [List.length_map]
  exact Nat.le_trans (List.length_filter_le _ _) (by simp)
theorem flat_len_le {α β : Type} {f : α → List β} {m : Nat} : ∀ {l : List α}, (∀ a ∈ l, (f a).length ≤ m) → (l.flatMap f).length ≤ l.length * m
  | [], _ => by simp
  | a :: l, h => by
    have i := flat_len_le (l := l) fun b hb => h b (.tail _ hb)
    have := h a (.head _)
    rw [List.flatMap_cons, List.length_append, List.length_cons, Nat.succ_mul]
    omega
theorem lv_len {ps : List (List Int)} (h : ps.length ≤ 4) : ∀ n, (lvF ps n).length ≤ 4 ^ n
  | 0 => Nat.le_refl _
  | n + 1 => by
    have i := lv_len h n
    have : (lvF ps (n + 1)).length ≤ (lvF ps n).length * 4 := flat_len_le fun p _ => Nat.le_trans (ext_len ps p _) h
    rw [Nat.pow_succ]
    omega
theorem all_len {ps : List (List Int)} (h : ps.length ≤ 4) : (allF ps 5).length ≤ 1365 := by
  have h1 := lv_len h 1
  have h2 := lv_len h 2
  have h3 := lv_len h 3
  have h4 := lv_len h 4
  have h5 := lv_len h 5
  have s : ∀ n, (allF ps (n + 1)).length = (allF ps n).length + (lvF ps (n + 1)).length := fun n => List.length_append
  have s0 : (allF ps 0).length = 1 := rfl
  have s1 : (allF ps 1).length = (allF ps 0).length + (lvF ps 1).length := s 0
  have s2 : (allF ps 2).length = (allF ps 1).length + (lvF ps 2).length := s 1
  have s3 : (allF ps 3).length = (allF ps 2).length + (lvF ps 3).length := s 2
  have s4 : (allF ps 4).length = (allF ps 3).length + (lvF ps 4).length := s 3
  have s5 : (allF ps 5).length = (allF ps 4).length + (lvF ps 5).length := s 4
  omega
/-- the told plan among all of them: those before it are worth less -/
theorem all_best {c : Co} (ok : COk c) {o : Int × Int} (ho : Offr o) {n : Nat} (hn : (bpF c o).length ≤ n) : ∃ L1 L2, allF c.2 n = L1 ++ bpF c o :: L2 ∧ ∀ p ∈ L1, worthR c.1 c.2 (p.map some) (rv o) < bestR c (rv o) := by
  have hm : bpF c o ∈ allF c.2 n := all_mem.mpr ⟨hn, (bpF_ok ok ho).1⟩
  obtain ⟨L1, L2, e⟩ := List.append_of_mem hm
  refine ⟨L1, L2, e, fun p hp => ?_⟩
  have pw := all_pw c.2 n
  rw [e] at pw
  have bef := (List.pairwise_append.mp pw).2.2 p hp (bpF c o) (.head _)
  have vp : VP c.2 (p.map some) := (all_mem.mp (show p ∈ allF c.2 n by rw [e]; exact List.mem_append_left _ hp)).2
  have le := plan_le ok vp (rv o)
  refine Classical.byContradiction fun no => ?_
  have eq : worthR c.1 c.2 (p.map some) (rv o) = bestR c (rv o) := by grind
  obtain ⟨o1, o2⟩ := opt_len ok vp eq
  rw [List.length_map] at o1
  rcases bef with z | ⟨z, t, x, y, pre, h1, h2, lt⟩
  · omega
  · have tl := (List.getElem?_eq_some_iff.mp h2).1
    obtain ⟨x', y', g1, g2, le⟩ := o2 t tl fun i hi => by rw [List.getElem?_map, List.getElem?_map, pre i hi]
    rw [List.getElem?_map, h1] at g1
    rw [h2] at g2
    cases g1
    cases g2
    omega
end Tm

namespace Tp
open PySem PySem.Spec PyProof.Rows L2
open Evl (Ex)
/-- a def as its callers know it -/
def Kn (CX : CXT) (P : Program) (w : World) (K : PySem.W.Frag) (mg : Str → Option Value) (base : Heap) (x : Str) (k : Nat) (ps : List Str) (sp : Sp) : Prop :=
  ∃ f fd, FnOk P w K mg base CX k f fd ps sp ∧ PySem.W.keepIn K (.ref f) = true ∧ Binds K fd ps [] ∧ mg x = some (.ref f)
section
variable {X : Cx} {x : Str} {k : Nat} {ps : List Str} {sp : Sp} {e : Expr} {es : List Expr} {t : TA} {p pos : Pos}
theorem p_call (G : Kn CX0 X.prog X.w X.K X.mg X.base x k ps sp) (hr : Room k X.A) (hg : Gl X x) (ha : PA X (e :: es) t) (hd : (x == ("__debug__" : Str)) = false := by decide) (hs : starEach (e :: es) X.env = (false, eval e X.env) :: starEach es X.env := by rfl) (hp : (backTo pos (starEach es X.env)).any (·.1) = false := by rfl) :
    PE X (.Call (.Name x p) (e :: es) [] pos) (tCall sp [] E0 t) := by
  obtain ⟨f, fd, F, kp, b, m⟩ := G
  exact pe_call F hr hg m kp b .nil pass0 ha hd hs hp
end
theorem ife {c : Prop} [Decidable c] {α : Type} {x y : α} (h : c) : (if c then x else y) = x := if_pos h
end Tp
open Tp in
local macro_rules | `(tactic| walk_at "ev") => `(tactic| repeat' (first
  | with_reducible exact e_int
  | with_reducible exact e_bl
  | with_reducible exact e_str
  | with_reducible exact e_non
  | exact e_var rfl
  | with_reducible refine' e_add ?_ ?_
  | with_reducible refine' e_sub ?_ ?_
  | with_reducible refine' e_mul ?_ ?_ ?_
  | with_reducible refine' e_div ?_ ?_ ?_
  | with_reducible refine' e_divX ?_ ?_ ?_
  | with_reducible refine' e_mod ?_ ?_ ?_
  | with_reducible refine' e_modN ?_ ?_ ?_
  | with_reducible refine' e_pow ?_ ?_ ?_
  | with_reducible refine' e_neg ?_
  | with_reducible refine' e_lt ?_ ?_
  | with_reducible refine' e_le ?_ ?_
  | with_reducible refine' e_gt ?_ ?_
  | with_reducible refine' e_ge ?_ ?_
  | with_reducible refine' e_xeqI ?_ ?_
  | with_reducible refine' e_xneI ?_ ?_
  | with_reducible refine' e_neB ?_ ?_
  | with_reducible refine' e_eqB ?_ ?_
  | with_reducible refine' e_inI ?_ ?_
  | with_reducible refine' e_ninI ?_ ?_
  | with_reducible refine' e_xeqS ?_ ?_
  | with_reducible refine' e_xneS ?_ ?_
  | with_reducible refine' e_xfst ?_
  | with_reducible refine' e_xsnd ?_
  | with_reducible refine' e_30 ?_
  | with_reducible refine' e_31 ?_
  | with_reducible refine' e_32 ?_
  | with_reducible refine' en_rep ?_ ?_ ?_ ?_
  | with_reducible refine' en_catL ?_ ?_ ?_
  | with_reducible refine' e_xixL ?_ ?_ ?_
  | with_reducible refine' e_xixU ?_ ?_ ?_
  | with_reducible refine' e_xt2 ?_ ?_
  | with_reducible refine' e_xt3 ?_ ?_ ?_
  | with_reducible refine' e_xint ?_
  | with_reducible refine' e_xintB ?_
  | with_reducible refine' e_xabs ?_
  | with_reducible refine' e_xmax ?_ ?_
  | with_reducible refine' e_xmin ?_ ?_
  | with_reducible refine' e_xlen ?_
  | with_reducible refine' e_xlen2 ?_
  | with_reducible refine' e_xlen3 ?_
  | with_reducible refine' e_xlenU ?_
  | with_reducible refine' e_xlenM rfl
  | with_reducible refine' e_lenQ ?_
  | with_reducible exact e_glob
  | with_reducible refine' e_fld1 ?_ ?_ ?_
  | with_reducible refine' e_fld2 ?_ ?_ ?_
  | with_reducible refine' e_fld31 ?_ ?_ ?_
  | with_reducible refine' e_fld32 ?_ ?_ ?_
  | with_reducible refine' e_fld33 ?_ ?_ ?_
  | with_reducible refine' e_make2 ?_ ?_ ?_
  | with_reducible refine' eb_chLL ?_ ?_ (fun _ => ?_)
  | with_reducible refine' eb_chLE ?_ ?_ (fun _ => ?_)
  | with_reducible refine' eb_chLLE ?_ ?_ ?_ ?_
  | with_reducible refine' e_inN ?_ ?_
  | with_reducible refine' e_eqO ?_ ?_
  | with_reducible refine' e_neO ?_ ?_
  | with_reducible refine' eb_isN ?_
  | with_reducible refine' eb_notN ?_
  | with_reducible refine' e_isN ?_
  | with_reducible refine' e_notN ?_
  | with_reducible exact List.Mem.head _
  | with_reducible exact List.Mem.tail _ (List.Mem.head _)
  | with_reducible exact List.Mem.tail _ (List.Mem.tail _ (List.Mem.head _))
  | with_reducible refine' e_ixQ ?_ ?_ ?_
  | with_reducible refine' e_sum ?_
  | with_reducible refine' e_eqD ?_ ?_ ?_ ?_
  | with_reducible refine' e_eqDl ?_ ?_ ?_ ?_
  | with_reducible refine' e_neDl ?_ ?_ ?_ ?_
  | with_reducible exact en_lstOfM rfl
  | with_reducible refine' e_neD ?_ ?_ ?_ ?_
  | exact e_seqL (e_var rfl)
  | exact e_seqU (e_var rfl)
  | with_reducible refine' e_tupOf ?_
  | with_reducible refine' e_seqU (e_tupOf ?_)
  | with_reducible refine' e_seqL (e_frz (en_lstOf ?_))
  | with_reducible refine' en_lstOf ?_
  | with_reducible refine' en_slL ?_ ?_ ?_
  | with_reducible exact eo_none
  | with_reducible refine' eo_some ?_
  | with_reducible refine' en_xlst ?_ ?_
  | with_reducible refine' e_xixM rfl ?_ ?_
  | with_reducible refine' e_xisi ?_ ?_ ?_
  | with_reducible refine' e_andV ?_ (fun _ => ?_)
  | with_reducible refine' e_orV ?_ (fun _ => ?_)
  | with_reducible refine' e_notV ?_
  | with_reducible refine' eb_cmp ?_
  | with_reducible refine' eb_B ?_
  | with_reducible refine' eb_not ?_
  | with_reducible refine' eb_and ?_ (fun _ => ?_)
  | with_reducible refine' eb_or ?_ (fun _ => ?_)
  | with_reducible refine' eb_yes
  | with_reducible refine' e_call1 ?_ ?_ (retI_up _ _)
  | with_reducible refine' e_call2 ?_ ?_ ?_ (retI_up _ _)
  | with_reducible refine' e_call3 ?_ ?_ ?_ ?_ (retI_up _ _)
  | with_reducible refine' e_call4 ?_ ?_ ?_ ?_ ?_ (retI_up _ _)
  | with_reducible refine' e_call5 ?_ ?_ ?_ ?_ ?_ ?_ (retI_up _ _)
  | with_reducible refine' e_meth0 ?_ ?_ (retI_up _ _)
  | with_reducible refine' e_meth1 ?_ ?_ ?_ (retI_up _ _)
  | with_reducible refine' e_callD1 ?_ ?_ (retI_up _ _)
  | with_reducible refine' e_callD2 ?_ ?_ ?_ (retI_up _ _)
  | (with_reducible refine' e_frz ?_)
  | with_reducible refine' e_call1 ?_ ?_ (retN_up _ _)
  | with_reducible refine' e_call2 ?_ ?_ ?_ (retN_up _ _)
  | with_reducible refine' e_call3 ?_ ?_ ?_ ?_ (retN_up _ _)
  | with_reducible refine' e_callD1 ?_ ?_ (retN_up _ _)
  | with_reducible refine' e_meth1 ?_ ?_ ?_ (retN_up _ _)
  | (with_reducible refine' en_lst ?_ ?_)
  | with_reducible exact ea_nil
  | with_reducible refine' ea_cons ?_ ?_
  | with_reducible exact inferInstance
  | (refine @id.{0} _ ?_; first | assumption | trivial | omega | decide | exact cdivK (by decide) | (simp only [List.length_cons, List.length_nil]; omega) | (with_reducible show PowX _ _; decide +kernel))))
local macro_rules | `(tactic| walk_at "nf") => `(tactic| try simp only [List.set_cons_zero, List.set_cons_succ])
local macro_rules | `(tactic| walk_at "asg") => `(tactic| (refine' Tp.S.asg (by walk_at "ev") ?_; walk_at "nf"))
local macro_rules | `(tactic| walk_at "one") => `(tactic| refine' Tp.S.one ?_)
local macro_rules | `(tactic| walk_at "par") => `(tactic| (refine' Tp.S.par (by walk_at "ev") (by walk_at "ev") ?_; walk_at "nf"))
local macro_rules | `(tactic| walk_at "les") => `(tactic| (refine' Tp.Sub.of ?_; repeat' first | with_reducible exact Tp.Les.nil | with_reducible refine' Tp.Les.cons (Tp.Le.eq _) ?_ | with_reducible refine' Tp.Les.cons (Tp.Le.un _) ?_))
local macro_rules | `(tactic| walk_at "leq") => `(tactic| (repeat' first | with_reducible exact Tp.Les.nil | with_reducible refine' Tp.Les.cons (Tp.Le.eq _) ?_ | with_reducible refine' Tp.Les.cons (Tp.Le.un _) ?_ | with_reducible refine' Tp.Les.cons (Tp.Le.im ?_) ?_ | with_reducible refine' Tp.Les.cons (Tp.Le.mu ?_) ?_ | with_reducible refine' Tp.Les.cons (Tp.Le.ow ?_) ?_))
local macro_rules | `(tactic| walk_at "retl") => `(tactic| repeat (first | exact Tp.RetL.nil | refine Tp.RetL.ow ?_ | refine Tp.RetL.mu ?_ | refine Tp.RetL.un ?_))
local macro_rules | `(tactic| walk_at "nfg") => `(tactic| try simp only [Tp.putK, List.set_cons_zero, List.set_cons_succ])

namespace Lw
open PySem PySem.Spec PyProof.Rows L2 Tp
open Evl (Ex)
def topS (i : Nat) : Stmt := PySem.Challenge.pw_projectdays_k46_whole_small_companies_by.main.body.getD i (.Pass ⟨0, 0, 0, 0⟩)
abbrev s_gcd : Stmt := topS 10
theorem sc_gcd : FnScope ["first", "second"] ["first", "second"] (defScope s_gcd) := ⟨rfl, rfl, rfl, by decide +kernel, rfl, by decide +kernel, by decide +kernel⟩
abbrev s_make_ratio : Stmt := topS 11
theorem sc_make_ratio : FnScope ["numerator", "denominator", "common"] ["numerator", "denominator"] (defScope s_make_ratio) := ⟨rfl, rfl, rfl, by decide +kernel, rfl, by decide +kernel, by decide +kernel⟩
abbrev s_checked_discount : Stmt := topS 29
theorem sc_checked_discount : FnScope ["discount"] ["discount"] (defScope s_checked_discount) := ⟨rfl, rfl, rfl, by decide +kernel, rfl, by decide +kernel, by decide +kernel⟩
abbrev s_checked_projects : Stmt := topS 30
theorem sc_checked_projects : FnScope ["projects", "result", "total", "index", "rewards", "reward"] ["projects"] (defScope s_checked_projects) := ⟨rfl, rfl, rfl, by decide +kernel, rfl, by decide +kernel, by decide +kernel⟩
abbrev s_Company___init__ : Stmt := inClass (topS 31) 0
theorem sc_Company___init__ : FnScope ["self", "discount", "projects"] ["self", "discount", "projects"] (defScope s_Company___init__) := ⟨rfl, rfl, rfl, by decide +kernel, rfl, by decide +kernel, by decide +kernel⟩
abbrev s__law_cell : Stmt := topS 44
theorem sc__law_cell : FnScope ["_law_script", "_law_place"] ["_law_script", "_law_place"] (defScope s__law_cell) := ⟨rfl, rfl, rfl, by decide +kernel, rfl, by decide +kernel, by decide +kernel⟩
abbrev s__law_discount : Stmt := topS 46
theorem sc__law_discount : FnScope ["_law_first", "_law_second", "_law_menu", "_law_bottom"] ["_law_first", "_law_second"] (defScope s__law_discount) := ⟨rfl, rfl, rfl, by decide +kernel, rfl, by decide +kernel, by decide +kernel⟩
abbrev s__law_gcd : Stmt := topS 51
theorem sc__law_gcd : FnScope ["_law_first", "_law_second", "_law_rest"] ["_law_first", "_law_second"] (defScope s__law_gcd) := ⟨rfl, rfl, rfl, by decide +kernel, rfl, by decide +kernel, by decide +kernel⟩
abbrev s__law_integer : Stmt := topS 50
theorem sc__law_integer : FnScope ["_law_told"] ["_law_told"] (defScope s__law_integer) := ⟨rfl, rfl, rfl, by decide +kernel, rfl, by decide +kernel, by decide +kernel⟩
abbrev s__law_ratio : Stmt := topS 52
theorem sc__law_ratio : FnScope ["_law_told"] ["_law_told"] (defScope s__law_ratio) := ⟨rfl, rfl, rfl, by decide +kernel, rfl, by decide +kernel, by decide +kernel⟩
abbrev s__law_equals : Stmt := topS 53
theorem sc__law_equals : FnScope ["_law_told", "_law_top", "_law_bottom"] ["_law_told", "_law_top", "_law_bottom"] (defScope s__law_equals) := ⟨rfl, rfl, rfl, by decide +kernel, rfl, by decide +kernel, by decide +kernel⟩
abbrev s__law_pay : Stmt := topS 49
theorem sc__law_pay : FnScope ["_law_first", "_law_second", "_law_kind"] ["_law_first", "_law_second"] (defScope s__law_pay) := ⟨rfl, rfl, rfl, by decide +kernel, rfl, by decide +kernel, by decide +kernel⟩
abbrev s__law_plans : Stmt := topS 56
theorem sc__law_plans : FnScope ["_law_projects_here", "_law_plans_here", "_law_last", "_law_length", "_law_longer", "_law_plan", "_law_k"] ["_law_projects_here"] (defScope s__law_plans) := ⟨rfl, rfl, rfl, by decide +kernel, rfl, by decide +kernel, by decide +kernel⟩
abbrev s__law_reward : Stmt := topS 47
theorem sc__law_reward : FnScope ["_law_raw", "_law_mode"] ["_law_raw", "_law_mode"] (defScope s__law_reward) := ⟨rfl, rfl, rfl, by decide +kernel, rfl, by decide +kernel, by decide +kernel⟩
abbrev s__law_projects : Stmt := topS 48
theorem sc__law_projects : FnScope ["_law_row_here", "_law_most", "_law_room", "_law_projects_here", "_law_space", "_law_at", "_law_k", "_law_raw", "_law_size", "_law_j"] ["_law_row_here", "_law_most", "_law_room"] (defScope s__law_projects) := ⟨rfl, rfl, rfl, by decide +kernel, rfl, by decide +kernel, by decide +kernel⟩
abbrev s__law_row : Stmt := topS 45
theorem sc__law_row : FnScope ["_law_cell_here", "_law_count", "_law_row_here", "_law_rest", "_law_k", "_law_mixed"] ["_law_cell_here", "_law_count"] (defScope s__law_row) := ⟨rfl, rfl, rfl, by decide +kernel, rfl, by decide +kernel, by decide +kernel⟩
abbrev s__law_valid : Stmt := topS 54
theorem sc__law_valid : FnScope ["_law_projects_here", "_law_plan", "_law_taken", "_law_k", "_law_entry"] ["_law_projects_here", "_law_plan"] (defScope s__law_valid) := ⟨rfl, rfl, rfl, by decide +kernel, rfl, by decide +kernel, by decide +kernel⟩
abbrev s__law_worth : Stmt := topS 55
theorem sc__law_worth : FnScope ["_law_discount_here", "_law_projects_here", "_law_plan", "_law_pay_here", "_law_taken", "_law_k", "_law_earned", "_law_entry", "_law_top", "_law_bottom", "_law_reward_here", "_law_today"] ["_law_discount_here", "_law_projects_here", "_law_plan", "_law_pay_here"] (defScope s__law_worth) := ⟨rfl, rfl, rfl, by decide +kernel, rfl, by decide +kernel, by decide +kernel⟩
abbrev s_next_rest : Stmt := topS 20
theorem sc_next_rest : FnScope ["days", "sums", "start", "best", "end", "left", "right"] ["days", "sums", "start"] (defScope s_next_rest) := ⟨rfl, rfl, rfl, by decide +kernel, rfl, by decide +kernel, by decide +kernel⟩
abbrev s_powers : Stmt := topS 15
theorem sc_powers : FnScope ["base", "count", "result", "power", "_"] ["base", "count"] (defScope s_powers) := ⟨rfl, rfl, rfl, by decide +kernel, rfl, by decide +kernel, by decide +kernel⟩
abbrev s_day_weights : Stmt := topS 16
theorem sc_day_weights : FnScope ["discount", "count", "rising", "falling", "day"] ["discount", "count"] (defScope s_day_weights) := ⟨rfl, rfl, rfl, by decide +kernel, rfl, by decide +kernel, by decide +kernel⟩
abbrev s_scaled_points : Stmt := topS 18
theorem sc_scaled_points : FnScope ["discount", "rewards", "weights", "days", "sums", "step"] ["discount", "rewards"] (defScope s_scaled_points) := ⟨rfl, rfl, rfl, by decide +kernel, rfl, by decide +kernel, by decide +kernel⟩
abbrev s_rests : Stmt := topS 21
theorem sc_rests : FnScope ["discount", "rewards", "days", "sums", "result"] ["discount", "rewards"] (defScope s_rests) := ⟨rfl, rfl, rfl, by decide +kernel, rfl, by decide +kernel, by decide +kernel⟩
abbrev s_stretches : Stmt := topS 22
theorem sc_stretches : FnScope ["discount", "rewards", "days", "sums", "ends", "result", "k", "start", "end", "charge"] ["discount", "rewards"] (defScope s_stretches) := ⟨rfl, rfl, rfl, by decide +kernel, rfl, by decide +kernel, by decide +kernel⟩
abbrev s_charges : Stmt := topS 23
theorem sc_charges : FnScope ["discount", "rewards", "result", "charge", "start", "end"] ["discount", "rewards"] (defScope s_charges) := ⟨rfl, rfl, rfl, by decide +kernel, rfl, by decide +kernel, by decide +kernel⟩
abbrev s_certificate : Stmt := topS 39
theorem sc_certificate : FnScope ["company", "rewards"] ["company"] (defScope s_certificate) := ⟨rfl, rfl, rfl, by decide +kernel, rfl, by decide +kernel, by decide +kernel⟩
abbrev s_check_offer : Stmt := topS 35
theorem sc_check_offer : FnScope ["offer"] ["offer"] (defScope s_check_offer) := ⟨rfl, rfl, rfl, by decide +kernel, rfl, by decide +kernel, by decide +kernel⟩
abbrev s_compare_ratios : Stmt := topS 13
theorem sc_compare_ratios : FnScope ["first", "second", "left", "right"] ["first", "second"] (defScope s_compare_ratios) := ⟨rfl, rfl, rfl, by decide +kernel, rfl, by decide +kernel, by decide +kernel⟩
abbrev s_merge_charges : Stmt := topS 40
theorem sc_merge_charges : FnScope ["lists", "positions", "_", "merged", "row", "best", "index", "charge"] ["lists"] (defScope s_merge_charges) := ⟨rfl, rfl, rfl, by decide +kernel, rfl, by decide +kernel, by decide +kernel⟩
abbrev s_best_plan : Stmt := topS 41
theorem sc_best_plan : FnScope ["company", "offer", "merged", "index", "charge"] ["company", "offer"] (defScope s_best_plan) := ⟨rfl, rfl, rfl, by decide +kernel, rfl, by decide +kernel, by decide +kernel⟩
abbrev s_add_ratios : Stmt := topS 12
theorem sc_add_ratios : FnScope ["first", "second", "numerator"] ["first", "second"] (defScope s_add_ratios) := ⟨rfl, rfl, rfl, by decide +kernel, rfl, by decide +kernel, by decide +kernel⟩
abbrev s_offer_alone : Stmt := topS 36
theorem sc_offer_alone : FnScope ["discount", "offer"] ["discount", "offer"] (defScope s_offer_alone) := ⟨rfl, rfl, rfl, by decide +kernel, rfl, by decide +kernel, by decide +kernel⟩
abbrev s_scale : Stmt := topS 17
theorem sc_scale : FnScope ["discount", "count"] ["discount", "count"] (defScope s_scale) := ⟨rfl, rfl, rfl, by decide +kernel, rfl, by decide +kernel, by decide +kernel⟩
abbrev s_steps_taken : Stmt := topS 34
theorem sc_steps_taken : FnScope ["company", "plan", "taken", "_", "day", "index"] ["company", "plan"] (defScope s_steps_taken) := ⟨rfl, rfl, rfl, by decide +kernel, rfl, by decide +kernel, by decide +kernel⟩
abbrev s_plan_worth : Stmt := topS 37
theorem sc_plan_worth : FnScope ["company", "plan", "offer", "weights", "taken", "_", "total", "day", "index", "reward", "gain"] ["company", "plan", "offer"] (defScope s_plan_worth) := ⟨rfl, rfl, rfl, by decide +kernel, rfl, by decide +kernel, by decide +kernel⟩
abbrev s_best_worth : Stmt := topS 42
theorem sc_best_worth : FnScope ["company", "offer"] ["company", "offer"] (defScope s_best_worth) := ⟨rfl, rfl, rfl, by decide +kernel, rfl, by decide +kernel, by decide +kernel⟩
abbrev s_law : Stmt := topS 57
theorem sc_law : FnScope ["_law_script", "_law_row_here", "_law_discount_here", "_law_projects_here", "_law_pay_here", "_law_due", "_law_best", "_law_plan", "_law_value", "_law_company", "_law_rewards", "_law_told"] ["_law_script"] (defScope s_law) := ⟨rfl, rfl, rfl, by decide +kernel, rfl, by decide +kernel, by decide +kernel⟩
abbrev rCompany (K : PySem.W.Frag) (C : Addr) := rOb2 C "discount" "projects" (rRat K) (rTup K (rTup K rInt))
section
variable {P : Program} {w : World} {K : PySem.W.Frag} {mg : Str → Option Value} {base : Heap} {C_Company : Addr}
/-! gcd -/
theorem ok_gcd (m_abs : mg "abs" = none) {f : Addr} {fd : FuncData} (F : Fun K "gcd" "gcd" s_gcd f fd) : FnOk P w K mg base CX0 1 f fd ["first", "second"] (Sp2 rInt rInt (fun _ _ => True) (fun a b => retI rInt (Int.gcd a b : Int))) := by
  refine F.ok sc_gcd (fun vs H Q E h => Sp2.len h) (fun cdv A outer s H vs Q E hr h => ?_)
  obtain ⟨F0, v0, v1, a, b, he, rfl, h0, h1, hp, q⟩ := h
  refine ⟨_, (pss_cons (ps_while PassesOwn.never (q_neI (pv 1) pe_int) (pss_one (ps_par (i := 0) (j := 1) (by rfl) sc_gcd.nd rfl rfl (by decide) rfl rfl (pa_cons (pv 1) (pa_cons (p_modN (pv 0) (pv 1)) pa_nil)) (by rfl)))) (pss_one (ps_ret (p_abs (by rfl) m_abs (pv 0))))), ?_⟩
  refine body2 he h0 h1 ?_
  show S _ _ [.im rInt a, .im rInt b] _
  refine S.while (β := Int × Int) (fun c => Int.gcd c.1 c.2 = Int.gcd a b) (fun c => [.im rInt c.1, .im rInt c.2]) (fun c => c.2.natAbs) (fun c => !decide (c.2 = 0)) (a, b) rfl (Sub.refl _) (fun c _ => by walk_at "ev") (fun c hc hb => ?_) (fun c hc hb => ?_)
  · simp only [Bool.not_eq_true', decide_eq_false_iff_not] at hb
    refine S.one (S.par (by walk_at "ev") (by walk_at "ev") ?_)
    exact S.to (β := Int × Int) (c.2, c.1.fmod c.2) ⟨(Tm.gcd_fmod c.1 c.2).trans hc, Tm.fmod_lt hb⟩ (Sub.refl _) rfl
  · simp only [Bool.not_eq_false', decide_eq_true_eq] at hb
    refine S.ret (ev_is (by walk_at "ev") ?_) q
    rw [hb, Int.gcd_zero_right] at hc
    rw [← hc]
    split <;> omega
/-! make_ratio -/
theorem ok_make_ratio (G_gcd : Kn CX0 P w K mg base "gcd" 1 ["first", "second"] (Sp2 rInt rInt (fun _ _ => True) (fun a b => retI rInt (Int.gcd a b : Int)))) {f : Addr} {fd : FuncData} (F : Fun K "make_ratio" "make_ratio" s_make_ratio f fd) : FnOk P w K mg base CX0 2 f fd ["numerator", "denominator"] (Sp2 rInt rInt (fun _ d => d ≠ 0 ∧ Tm.Bd 8999 d) (fun n d => retI (rRat K) (Tm.mkR n d))) := by
  refine F.ok sc_make_ratio (fun vs H Q E h => Sp2.len h) (fun cdv A outer s H vs Q E hr h => ?_)
  obtain ⟨F0, v0, v1, n, d, he, rfl, h0, h1, hp, q⟩ := h
  refine ⟨_, (pss_cons (ps_if (q_eqI (pv 1) pe_int) (pss_one ps_never) pss_nil) (pss_cons (ps_set (i := 2) sc_make_ratio.nd rfl (Or.inl rfl) (p_call G_gcd (hr.mono (by decide)) (by rfl) (pa_cons (pv 0) (pa_cons (pv 1) pa_nil)))) (pss_cons (ps_if (q_lt (pv 1) pe_int) (pss_one (ps_set (i := 2) sc_make_ratio.nd rfl (Or.inl rfl) (p_neg (pv 2)))) pss_nil) (pss_one (ps_ret (p_t2 (K := K) (p_divX (pv 0) (pv 2)) (p_divX (pv 1) (pv 2)))))))), ?_⟩
  refine body2 he h0 h1 ?_
  show S _ _ [.im rInt n, .im rInt d, .un] _
  obtain ⟨d0, dB⟩ := hp
  (refine' S.ifs (by walk_at "ev") (fun hb => ?_) (fun hb => ?_) <;> (try simp only [decide_eq_true_eq, decide_eq_false_iff_not, Bool.not_eq_true', Bool.not_eq_false', Bool.and_eq_true, Bool.or_eq_true, Bool.and_eq_false_iff, Bool.or_eq_false_iff] at hb))
  · exact absurd hb d0
  refine S.next ?_
  refine S.asg (a := (Int.gcd n d : Int)) (by walk_at "ev") ?_
  walk_at "nf"
  have hg : (Int.gcd n d : Int) ≠ 0 := by have := Int.gcd_pos_of_ne_zero_right n d0; omega
  have hl : (Int.gcd n d : Int).natAbs ≤ d.natAbs := Nat.le_of_dvd (by omega) (Int.natAbs_dvd_natAbs.mpr (Int.gcd_dvd_right n d))
  refine S.ifAsg (a' := (Int.gcd n d : Int)) (by walk_at "ev") rfl (fun _ => by walk_at "ev") ?_
  walk_at "nf"
  simp only [decide_eq_true_eq]
  have hd : DivX 0 (if d < 0 then -(Int.gcd n d : Int) else (Int.gcd n d : Int)) := (Tm.Bd.of dB (x := if d < 0 then -(Int.gcd n d : Int) else (Int.gcd n d : Int)) (by split <;> omega)).divX (by split <;> omega) (by decide)
  have h1 : DivX n (if d < 0 then -(Int.gcd n d : Int) else (Int.gcd n d : Int)) := hd
  have h2 : DivX d (if d < 0 then -(Int.gcd n d : Int) else (Int.gcd n d : Int)) := hd
  refine S.ret (ev_is (by walk_at "ev") ?_) q
  rfl
/-! checked_discount -/
theorem ok_checked_discount (g_GREATEST_DENOMINATOR : GlV mg "GREATEST_DENOMINATOR" rInt (1000)) (G_make_ratio : Kn CX0 P w K mg base "make_ratio" 2 ["numerator", "denominator"] (Sp2 rInt rInt (fun _ d => d ≠ 0 ∧ Tm.Bd 8999 d) (fun n d => retI (rRat K) (Tm.mkR n d)))) {f : Addr} {fd : FuncData} (F : Fun K "checked_discount" "checked_discount" s_checked_discount f fd) : FnOk P w K mg base CX0 3 f fd ["discount"] (Sp1 (rRat K) (fun d => Tm.Dis d) (fun d => retI (rRat K) (Tm.mkR d.1 d.2))) := by
  refine F.ok sc_checked_discount (fun vs H Q E h => Sp1.len h) (fun cdv A outer s H vs Q E hr h => ?_)
  obtain ⟨F0, v0, d, he, rfl, h0, hp, q⟩ := h
  refine ⟨_, (pss_cons (ps_if (pt_not (q_chLLE pe_int (p_fst (K := K) (pv 0)) (p_snd (K := K) (pv 0)) (p_glob g_GREATEST_DENOMINATOR (by rfl)))) (pss_one ps_never) pss_nil) (pss_one (ps_ret (p_call G_make_ratio (hr.mono (by decide)) (by rfl) (pa_cons (p_fst (K := K) (pv 0)) (pa_cons (p_snd (K := K) (pv 0)) pa_nil)))))), ?_⟩
  refine body1 he h0 ?_
  show S _ _ [.im (rRat K) d] _
  obtain ⟨ha, hb, a0, b0⟩ := hp.bd
  have h1 := hp.1
  have h2 := hp.2.1
  have h3 := hp.2.2
  have p2 : d.2 ≠ 0 ∧ Tm.Bd 8999 d.2 := ⟨by omega, hb.le (by decide)⟩
  refine S.ifs (k := false) (eb_is (eb_not (by walk_at "ev")) ?_) (fun h => nomatch h) fun _ => S.next ?_
  · rw [decide_eq_true h1, decide_eq_true h2, decide_eq_true h3]; rfl
  · exact S.ret (by walk_at "ev") q
/-! checked_projects -/
theorem ok_checked_projects (m_len : mg "len" = none) (m_range : mg "range" = none) (m_tuple : mg "tuple" = none) (g_GREATEST_REWARD : GlV mg "GREATEST_REWARD" rInt (1000000000)) (g_MOST_PROJECTS : GlV mg "MOST_PROJECTS" rInt (10)) (g_MOST_REWARDS : GlV mg "MOST_REWARDS" rInt (60)) {f : Addr} {fd : FuncData} (F : Fun K "checked_projects" "checked_projects" s_checked_projects f fd) : FnOk P w K mg base CX0 1 f fd ["projects"] (Sp1 (rSeq K (rSeq K rInt)) (fun ps => Tm.POk ps) (fun ps => retI (rTup K (rTup K rInt)) ps)) := by
  refine F.ok sc_checked_projects (fun vs H Q E h => Sp1.len h) (fun cdv A outer s H vs Q E hr h => ?_)
  obtain ⟨F0, v0, ps, he, rfl, h0, hp, q⟩ := h
  refine ⟨_, (pss_cons (ps_set (i := 1) sc_checked_projects.nd rfl (Or.inl rfl) (p_lst (K := K) pa_nil)) (pss_cons (ps_set (i := 2) sc_checked_projects.nd rfl (Or.inl rfl) pe_int) (pss_cons (ps_for PassesOwn.never rfl (pi_range1 (by rfl) m_range (pa_cons (p_lenQ (K := K) (by rfl) m_len (pv 0)) pa_nil)) (pg_name (i := 3) sc_checked_projects.nd rfl (Or.inl rfl)) (pss_cons (ps_set (i := 4) sc_checked_projects.nd rfl (Or.inl rfl) (p_tupOf (K := K) (by rfl) m_tuple (p_ixQ (K := K) (pv 0) (pv 3)))) (pss_cons (ps_aug (i := 2) sc_checked_projects.nd rfl (Or.inl rfl) (p_lenU (K := K) (by rfl) m_len (pv 4)) ip_add) (pss_cons (ps_if ((pw_or (q_ge (pv 3) (p_glob g_MOST_PROJECTS (by rfl))) (pw_or1 (q_gt (pv 2) (p_glob g_MOST_REWARDS (by rfl)))))).pt (pss_one ps_never) pss_nil) (pss_cons (ps_for PassesOwn.never rfl (pi_tup (pv 4)) (pg_name (i := 5) sc_checked_projects.nd rfl (Or.inl rfl)) (pss_one (ps_if (pt_not (q_chLE (p_neg (p_glob g_GREATEST_REWARD (by rfl))) (pv 5) (p_glob g_GREATEST_REWARD (by rfl)))) (pss_one ps_never) pss_nil))) (pss_one (ps_expr (pe_bm PySem.F.plainAttrs_list PySem.F.slot_list_append PySem.F.type_list_append mt_append (pv 1) (pa_cons (pv 4) pa_nil))))))))) (pss_one (ps_ret (p_tupOf (K := K) (by rfl) m_tuple (pv 1))))))), ?_⟩
  refine body1 he h0 ?_
  try dsimp only [cxOf, Cx.nox, Cx.wish]
  show S _ _ [.im (rSeq K (rSeq K rInt)) ps, .un, .un, .un, .un, .un] _
  have l10 := hp.1
  refine S.asgN (A := rTup K rInt) (as := []) (by walk_at "ev") ?_
  walk_at "nf"
  walk_at "asg"
  refine S.forR (j := 3) (by walk_at "ev") ⟨by omega, by omega⟩ (fun i => [.im (rSeq K (rSeq K rInt)) ps, .mu (rTup K rInt) (ps.take i), .im rInt (Tm.tot (ps.take i) : Int), .un, .un, .un]) ?_ (fun F1 i _ hi => ?_) ?_
  · refine Sub.of ?_
    walk_at "leq"
    all_goals rfl
  · walk_at "nf"
    obtain ⟨rs, hrs⟩ : ∃ rs, ps[i]? = some rs := ⟨_, List.getElem?_eq_getElem (by omega)⟩
    have hm : rs ∈ ps := List.mem_of_getElem? hrs
    have rw1 := hp.rws hm
    have at1 : atI ps (i : Int) = some rs := atI_nat hrs
    have t1 := Tm.tot_take hrs
    have t2 := Tm.tot_take_le ps (i + 1)
    have t3 := hp.2.1
    refine S.asg (A := rTup K rInt) (a := rs) (e_tupOfQ (by walk_at "ev")) ?_
    walk_at "nf"
    refine S.aug rfl (by walk_at "ev") ?_
    walk_at "nf"
    refine S.ifs (k := false) (eb_is (by walk_at "ev") ?_) (fun h => nomatch h) fun _ => S.next ?_
    · rw [decide_eq_false (by omega), decide_eq_false (by omega)]; rfl
    refine S.forN (j := 5) (iw_tup (by walk_at "ev")) (fun _ => [.im (rSeq K (rSeq K rInt)) ps, .mu (rTup K rInt) (ps.take i), .im rInt ((Tm.tot (ps.take i) : Int) + (rs.length : Int)), .im rInt (i : Int), .im (rTup K rInt) rs, .un]) ?_ (fun F2 k x _ hx => ?_) ?_
    · refine Sub.of ?_
      walk_at "leq"
    · walk_at "nf"
      have b := rw1.2 x (List.mem_of_getElem? hx)
      refine S.one (S.ifs (k := false) (eb_is (eb_not (by walk_at "ev")) ?_) (fun h => nomatch h) fun _ => S.next ?_)
      · rw [decide_eq_true (by omega), decide_eq_true (by omega)]; rfl
      · refine S.to1 ?_ rfl
        walk_at "leq"
    · refine S.one (S.app rfl (by walk_at "ev") (by rw [List.length_take]; omega) ?_)
      walk_at "nf"
      refine S.to1 ?_ rfl
      walk_at "leq"
      · exact (Tm.take_snoc hrs).symm
      · rw [t1]; omega
  · rw [Int.toNat_natCast, List.take_length]
    refine S.frz (i := 1) K rfl ?_
    walk_at "nf"
    exact S.ret (by walk_at "ev") q
/-! Company.__init__ -/
theorem ok_Company___init__ (T_Company : ClF K C_Company ["discount", "projects"]) (G_checked_discount : Kn CX0 P w K mg base "checked_discount" 3 ["discount"] (Sp1 (rRat K) (fun d => Tm.Dis d) (fun d => retI (rRat K) (Tm.mkR d.1 d.2)))) (G_checked_projects : Kn CX0 P w K mg base "checked_projects" 1 ["projects"] (Sp1 (rSeq K (rSeq K rInt)) (fun ps => Tm.POk ps) (fun ps => retI (rTup K (rTup K rInt)) ps))) {f : Addr} {fd : FuncData} (F : Fun K "__init__" "Company.__init__" s_Company___init__ f fd) : FnOk P w K mg base CX0 4 f fd ["self", "discount", "projects"] (SpI2 C_Company (rRat K) (rSeq K (rSeq K rInt)) (rCompany K C_Company) (fun d ps => Tm.Dis d ∧ Tm.POk ps) (fun d ps => (Tm.mkR d.1 d.2, ps))) := by
  refine F.ok sc_Company___init__ (fun vs H Q E h => SpI2.len h) (fun cdv A outer s H vs Q E hr h => ?_)
  obtain ⟨H1, F0, x, dx, v1, v2, a1, a2, rfl, rfl, hx, hdx, hne, he, r1, r2, hp, q⟩ := h
  refine ⟨_, (pss_cons (ps_fld (pv 0) (p_call G_checked_discount (hr.mono (by decide)) (by rfl) (pa_cons (pv 1) pa_nil)) rfl) (pss_one (ps_fld (pv 0) (p_call G_checked_projects (hr.mono (by decide)) (by rfl) (pa_cons (pv 2) pa_nil)) rfl))), ?_⟩
  obtain ⟨hd, hps⟩ := hp
  refine body_init2 T_Company (.head _) (.tail _ (.head _)) (by decide +kernel) (A := rRat K) (B := rSeq K (rSeq K rInt)) (a := a1) (b := a2) (A' := rRat K) (B' := rTup K (rTup K rInt)) (a' := Tm.mkR a1.1 a1.2) (b' := a2) ?_ ?_ hx hdx hne he r1 r2 rfl rfl q
  · walk_at "ev"
  · walk_at "ev"
/-! _law_cell -/
theorem ok__law_cell (m_len : mg "len" = none) {f : Addr} {fd : FuncData} (F : Fun K "_law_cell" "_law_cell" s__law_cell f fd) : FnOk P w K mg base CX0 1 f fd ["_law_script", "_law_place"] (Sp2 (rLst K rInt) rInt (fun _ p => 0 ≤ p) (fun s p => retI rInt (Tm.cell s p))) := by
  refine F.ok sc__law_cell (fun vs H Q E h => Sp2.len h) (fun cdv A outer s H vs Q E hr h => ?_)
  obtain ⟨F0, v0, v1, s, p, he, rfl, h0, h1, hp, q⟩ := h
  refine ⟨_, (pss_cons (ps_if (q_lt (pv 1) (p_len (K := K) (by rfl) m_len (pv 0))) (pss_one (ps_ret (p_ixL (K := K) (pv 0) (pv 1)))) pss_nil) (pss_one (ps_ret pe_int))), ?_⟩
  refine body2 he h0 h1 ?_
  show S _ _ [.im (rLst K rInt) s, .im rInt p] _
  (refine' S.ifs (by walk_at "ev") (fun hb => ?_) (fun hb => ?_) <;> (try simp only [decide_eq_true_eq, decide_eq_false_iff_not, Bool.not_eq_true', Bool.not_eq_false', Bool.and_eq_true, Bool.or_eq_true, Bool.and_eq_false_iff, Bool.or_eq_false_iff] at hb))
  · have hx : atI s p = some (Tm.cell s p) := Tp.at_nat hp (by
      unfold Tm.cell
      rw [List.getD_eq_getElem?_getD, List.getElem?_eq_getElem (by omega)]
      rfl)
    exact S.ret (by walk_at "ev") q
  · refine S.next ?_
    refine S.ret (ev_is (by walk_at "ev") ?_) q
    unfold Tm.cell
    rw [List.getD_eq_getElem?_getD, List.getElem?_eq_none (by omega)]
    rfl
/-! _law_discount -/
theorem ok__law_discount (m_int : mg "int" = none) {f : Addr} {fd : FuncData} (F : Fun K "_law_discount" "_law_discount" s__law_discount f fd) : FnOk P w K mg base CX0 1 f fd ["_law_first", "_law_second"] (Sp2 rInt rInt (fun _ _ => True) (fun f s => retI (rRat K) (Tm.discF f s))) := by
  refine F.ok sc__law_discount (fun vs H Q E h => Sp2.len h) (fun cdv A outer s H vs Q E hr h => ?_)
  obtain ⟨F0, v0, v1, f, s, he, rfl, h0, h1, hp, q⟩ := h
  refine ⟨_, (pss_cons (ps_set (i := 2) sc__law_discount.nd rfl (Or.inl rfl) (p_lst (K := K) (pa_cons (p_t2 (K := K) pe_int pe_int) (pa_cons (p_t2 (K := K) pe_int pe_int) (pa_cons (p_t2 (K := K) pe_int pe_int) (pa_cons (p_t2 (K := K) pe_int pe_int) (pa_cons (p_t2 (K := K) pe_int pe_int) (pa_cons (p_t2 (K := K) pe_int pe_int) (pa_cons (p_t2 (K := K) pe_int pe_int) (pa_cons (p_t2 (K := K) pe_int pe_int) pa_nil)))))))))) (pss_cons (ps_if (q_eqI (p_mod (p_int (by rfl) m_int (pv 0)) pe_int) pe_int) (pss_one (ps_ret (p_ixL (K := K) (pv 2) (p_mod (p_int (by rfl) m_int (p_div (pv 0) pe_int)) pe_int)))) pss_nil) (pss_cons (ps_set (i := 3) sc__law_discount.nd rfl (Or.inl rfl) (p_add pe_int (p_mod (p_int (by rfl) m_int (p_div (pv 0) pe_int)) pe_int))) (pss_one (ps_ret (p_t2 (K := K) (p_add pe_int (p_mod (p_int (by rfl) m_int (pv 1)) (p_sub (pv 3) pe_int))) (pv 3))))))), ?_⟩
  refine body2 he h0 h1 ?_
  show S _ _ [.im rInt f, .im rInt s, .un, .un] _
  refine S.asg (A := rLst K (rRat K)) (a := Tm.menu) (by unfold Tm.menu; walk_at "ev") ?_
  walk_at "nf"
  (refine' S.ifs (by walk_at "ev") (fun hb => ?_) (fun hb => ?_) <;> (try simp only [decide_eq_true_eq, decide_eq_false_iff_not, Bool.not_eq_true', Bool.not_eq_false', Bool.and_eq_true, Bool.or_eq_true, Bool.and_eq_false_iff, Bool.or_eq_false_iff] at hb))
  · have h := Tm.menu_at f
    refine S.ret (ev_is (by walk_at "ev") ?_) q
    unfold Tm.discF
    rw [if_pos hb]
  refine S.next ?_
  have h1 := Int.emod_nonneg (f / 2) (show (999 : Int) ≠ 0 by decide)
  have h3 : 0 < 2 + f / 2 % 999 - 1 := by omega
  walk_at "asg"
  refine S.ret (ev_is (by walk_at "ev") ?_) q
  unfold Tm.discF
  rw [if_neg hb]
/-! _law_gcd -/
theorem ok__law_gcd (m_int : mg "int" = none) {f : Addr} {fd : FuncData} (F : Fun K "_law_gcd" "_law_gcd" s__law_gcd f fd) : FnOk P w K mg base CX0 1 f fd ["_law_first", "_law_second"] (Sp2 rInt rInt (fun a b => 0 ≤ a ∧ 0 ≤ b) (fun a b => retI rInt (Int.gcd a b : Int))) := by
  refine F.ok sc__law_gcd (fun vs H Q E h => Sp2.len h) (fun cdv A outer s H vs Q E hr h => ?_)
  obtain ⟨F0, v0, v1, a, b, he, rfl, h0, h1, hp, q⟩ := h
  refine ⟨_, (pss_cons (ps_while PassesOwn.never (q_gt (pv 1) pe_int) (pss_cons (ps_set (i := 2) sc__law_gcd.nd rfl (Or.inl rfl) (p_mod (p_int (by rfl) m_int (pv 0)) (pv 1))) (pss_cons (ps_set (i := 0) sc__law_gcd.nd rfl (Or.inl rfl) (pv 1)) (pss_one (ps_set (i := 1) sc__law_gcd.nd rfl (Or.inl rfl) (pv 2)))))) (pss_one (ps_ret (pv 0)))), ?_⟩
  refine body2 he h0 h1 ?_
  show S _ _ [.im rInt a, .im rInt b, .un] _
  refine S.while (β := Int × Int) (fun c => Int.gcd c.1 c.2 = Int.gcd a b ∧ 0 ≤ c.1 ∧ 0 ≤ c.2) (fun c => [.im rInt c.1, .im rInt c.2, .un]) (fun c => c.2.natAbs) (fun c => decide (0 < c.2)) (a, b) ⟨rfl, hp⟩ (Sub.refl _) (fun c _ => by walk_at "ev") (fun c hc hb => ?_) (fun c hc hb => ?_)
  · simp only [decide_eq_true_eq] at hb
    walk_at "asg"
    walk_at "asg"
    refine S.one ?_
    walk_at "asg"
    have e : c.1.fmod c.2 = c.1 % c.2 := Int.fmod_eq_emod_of_nonneg _ hc.2.2
    have l := Tm.fmod_lt (x := c.1) (y := c.2) (by omega)
    have n := Int.emod_nonneg c.1 (show c.2 ≠ 0 by omega)
    have g := Tm.gcd_fmod c.1 c.2
    rw [e] at l g
    exact S.to (β := Int × Int) (c.2, c.1 % c.2) ⟨⟨g.trans hc.1, hc.2.2, n⟩, l⟩ (by walk_at "les") rfl
  · simp only [decide_eq_false_iff_not] at hb
    refine S.ret (ev_is (by walk_at "ev") ?_) q
    have e : c.2 = 0 := by omega
    have h := hc.1
    rw [e, Int.gcd_zero_right] at h
    rw [← h]
    omega
/-! _law_integer -/
theorem ok__law_integer (m_bool : mg "bool" = none) (m_int : mg "int" = none) (m_isinstance : mg "isinstance" = none) {f : Addr} {fd : FuncData} (F : Fun K "_law_integer" "_law_integer" s__law_integer f fd) : FnOk P w K mg base CX0 1 f fd ["_law_told"] (Sp1 rInt (fun _ => True) (fun _ => retI rBl true)) := by
  refine F.ok sc__law_integer (fun vs H Q E h => Sp1.len h) (fun cdv A outer s H vs Q E hr h => ?_)
  obtain ⟨F0, v0, x, he, rfl, h0, hp, q⟩ := h
  refine ⟨_, (pss_one (ps_ret (pe_and (p_isi (K := K) (by rfl) m_isinstance (pv 0) (pe_bltn (v := .ty "int") (by rfl) m_int boot_int rfl)) (pe_one (pe_not (p_isi (K := K) (by rfl) m_isinstance (pv 0) (pe_bltn (v := .ty "bool") (by rfl) m_bool boot_bool rfl))))))), ?_⟩
  refine body1 he h0 ?_
  show S _ _ [.im rInt x] _
  refine S.ret (ev_is (by walk_at "ev") ?_) q
  rfl
/-! _law_ratio -/
theorem ok__law_ratio (m_abs : mg "abs" = none) (m_isinstance : mg "isinstance" = none) (m_len : mg "len" = none) (m_tuple : mg "tuple" = none) (G__law_gcd : Kn CX0 P w K mg base "_law_gcd" 1 ["_law_first", "_law_second"] (Sp2 rInt rInt (fun a b => 0 ≤ a ∧ 0 ≤ b) (fun a b => retI rInt (Int.gcd a b : Int)))) (G__law_integer : Kn CX0 P w K mg base "_law_integer" 1 ["_law_told"] (Sp1 rInt (fun _ => True) (fun _ => retI rBl true))) {f : Addr} {fd : FuncData} (F : Fun K "_law_ratio" "_law_ratio" s__law_ratio f fd) : FnOk P w K mg base CX0 2 f fd ["_law_told"] (Sp1 (rRat K) (fun _ => True) (fun t => retI rBl (Tm.isR t))) := by
  refine F.ok sc__law_ratio (fun vs H Q E h => Sp1.len h) (fun cdv A outer s H vs Q E hr h => ?_)
  obtain ⟨F0, v0, t, he, rfl, h0, hp, q⟩ := h
  refine ⟨_, (pss_cons (ps_if ((pw_or (pt_not (pt_val (p_isi (K := K) (by rfl) m_isinstance (pv 0) (pe_bltn (v := .ty "tuple") (by rfl) m_tuple boot_tuple rfl)))) (pw_or1 (q_neI (p_len2 (K := K) (by rfl) m_len (pv 0)) pe_int)))).pt (pss_one (ps_ret pe_bl)) pss_nil) (pss_cons (ps_if ((pw_or (pt_not (pt_val (p_call G__law_integer (hr.mono (by decide)) (by rfl) (pa_cons (p_fst (K := K) (pv 0)) pa_nil)))) (pw_or (pt_not (pt_val (p_call G__law_integer (hr.mono (by decide)) (by rfl) (pa_cons (p_snd (K := K) (pv 0)) pa_nil)))) (pw_or1 (q_lt (p_snd (K := K) (pv 0)) pe_int))))).pt (pss_one (ps_ret pe_bl)) pss_nil) (pss_one (ps_ret (p_eqI (p_call G__law_gcd (hr.mono (by decide)) (by rfl) (pa_cons (p_abs (by rfl) m_abs (p_fst (K := K) (pv 0))) (pa_cons (p_snd (K := K) (pv 0)) pa_nil))) pe_int))))), ?_⟩
  refine body1 he h0 ?_
  show S _ _ [.im (rRat K) t] _
  (refine' S.ifs (by walk_at "ev") (fun hb => ?_) (fun hb => ?_) <;> (try simp only [decide_eq_true_eq, decide_eq_false_iff_not, Bool.not_eq_true', Bool.not_eq_false', Bool.and_eq_true, Bool.or_eq_true, Bool.and_eq_false_iff, Bool.or_eq_false_iff] at hb))
  · simp at hb
  refine S.next ?_
  (refine' S.ifs (by walk_at "ev") (fun hb => ?_) (fun hb => ?_) <;> (try simp only [decide_eq_true_eq, decide_eq_false_iff_not, Bool.not_eq_true', Bool.not_eq_false', Bool.and_eq_true, Bool.or_eq_true, Bool.and_eq_false_iff, Bool.or_eq_false_iff] at hb))
  · refine S.ret (ev_is (by walk_at "ev") ?_) q
    have e : ¬ 1 ≤ t.2 := by simpa using hb
    unfold Tm.isR
    rw [decide_eq_false e]
    rfl
  refine S.next ?_
  have h1 : 1 ≤ t.2 := by simpa using hb
  have hp : 0 ≤ (if t.1 < 0 then -t.1 else t.1) ∧ 0 ≤ t.2 := ⟨by split <;> omega, by omega⟩
  refine S.ret (ev_is (by walk_at "ev") ?_) q
  unfold Tm.isR
  rw [decide_eq_true h1, Bool.true_and]
  have e : Int.gcd (if t.1 < 0 then -t.1 else t.1) t.2 = Int.gcd t.1 t.2 := by
    split
    · exact Int.neg_gcd
    · rfl
  rw [e]
  by_cases z : Int.gcd t.1 t.2 = 1
  · rw [decide_eq_true z, z]; rfl
  · rw [decide_eq_false z, decide_eq_false (by omega)]
/-! _law_equals -/
theorem ok__law_equals (G__law_ratio : Kn CX0 P w K mg base "_law_ratio" 2 ["_law_told"] (Sp1 (rRat K) (fun _ => True) (fun t => retI rBl (Tm.isR t)))) {f : Addr} {fd : FuncData} (F : Fun K "_law_equals" "_law_equals" s__law_equals f fd) : FnOk P w K mg base CX0 3 f fd ["_law_told", "_law_top", "_law_bottom"] (Sp3 (rRat K) rInt rInt (fun t x y => Tm.Bd 9000 t.1 ∧ Tm.Bd 9000 t.2 ∧ Tm.Bd 9000 x ∧ Tm.Bd 9000 y) (fun t x y => retI rBl (Tm.isR t && decide (t.1 * y = x * t.2)))) := by
  refine F.ok sc__law_equals (fun vs H Q E h => Sp3.len h) (fun cdv A outer s H vs Q E hr h => ?_)
  obtain ⟨F0, v0, v1, v2, t, x, y, he, rfl, h0, h1, h2, hp, q⟩ := h
  refine ⟨_, (pss_one (ps_ret (pe_and (p_call G__law_ratio (hr.mono (by decide)) (by rfl) (pa_cons (pv 0) pa_nil)) (pe_one (p_eqI (p_mul (p_fst (K := K) (pv 0)) (pv 2)) (p_mul (pv 1) (p_snd (K := K) (pv 0)))))))), ?_⟩
  refine body3 he h0 h1 h2 ?_
  show S _ _ [.im (rRat K) t, .im rInt x, .im rInt y] _
  obtain ⟨t1, t2, hx, hy⟩ := hp
  have m1 : CMulW t.1 y := Tm.mul_ok t1 hy (by decide)
  have m2 : CMulW x t.2 := Tm.mul_ok hx t2 (by decide)
  exact S.ret (by walk_at "ev") q
/-! _law_pay -/
theorem ok__law_pay (m_int : mg "int" = none) {f : Addr} {fd : FuncData} (F : Fun K "_law_pay" "_law_pay" s__law_pay f fd) : FnOk P w K mg base CX0 1 f fd ["_law_first", "_law_second"] (Sp2 rInt rInt (fun f s => (0 ≤ f ∧ f < 10 ^ 10) ∧ 0 ≤ s ∧ s < 10 ^ 10) (fun f s => retI (rRat K) (Tm.payF f s))) := by
  refine F.ok sc__law_pay (fun vs H Q E h => Sp2.len h) (fun cdv A outer s H vs Q E hr h => ?_)
  obtain ⟨F0, v0, v1, f, s, he, rfl, h0, h1, hp, q⟩ := h
  refine ⟨_, (pss_cons (ps_set (i := 2) sc__law_pay.nd rfl (Or.inl rfl) (p_mod (p_int (by rfl) m_int (pv 0)) pe_int)) (pss_cons (ps_if (q_eqI (pv 2) pe_int) (pss_one (ps_ret (p_t2 (K := K) pe_int (p_add pe_int (p_mod (p_int (by rfl) m_int (pv 1)) pe_int))))) pss_nil) (pss_cons (ps_if (q_eqI (pv 2) pe_int) (pss_one (ps_ret (p_t2 (K := K) (p_mod (p_int (by rfl) m_int (p_div (pv 0) pe_int)) pe_int) pe_int))) pss_nil) (pss_cons (ps_if (q_eqI (pv 2) pe_int) (pss_one (ps_ret (p_t2 (K := K) (p_mod (p_int (by rfl) m_int (p_div (pv 0) pe_int)) pe_int) (p_add pe_int (p_mod (p_int (by rfl) m_int (pv 1)) pe_int))))) pss_nil) (pss_one (ps_ret (p_t2 (K := K) (p_int (by rfl) m_int (p_div (pv 0) pe_int)) (p_add pe_int (p_int (by rfl) m_int (pv 1)))))))))), ?_⟩
  refine body2 he h0 h1 ?_
  show S _ _ [.im rInt f, .im rInt s, .un] _
  walk_at "asg"
  refine S.ifs (k := decide (f % 4 = 0)) (by walk_at "ev") (fun hb => ?_) fun hb => S.next ?_
  · refine S.ret (ev_is (by walk_at "ev") ?_) q
    unfold Tm.payF
    rw [if_pos (of_decide_eq_true hb)]
  refine S.ifs (k := decide (f % 4 = 1)) (by walk_at "ev") (fun hc => ?_) fun hc => S.next ?_
  · refine S.ret (ev_is (by walk_at "ev") ?_) q
    unfold Tm.payF
    rw [if_neg (of_decide_eq_false hb), if_pos (of_decide_eq_true hc)]
  refine S.ifs (k := decide (f % 4 = 2)) (by walk_at "ev") (fun he => ?_) fun he => S.next ?_
  · refine S.ret (ev_is (by walk_at "ev") ?_) q
    unfold Tm.payF
    rw [if_neg (of_decide_eq_false hb), if_neg (of_decide_eq_false hc), if_pos (of_decide_eq_true he)]
  refine S.ret (ev_is (by walk_at "ev") ?_) q
  unfold Tm.payF
  rw [if_neg (of_decide_eq_false hb), if_neg (of_decide_eq_false hc), if_neg (of_decide_eq_false he)]
/-! _law_plans -/
theorem ok__law_plans (m_len : mg "len" = none) (m_list : mg "list" = none) (m_range : mg "range" = none) {f : Addr} {fd : FuncData} (F : Fun K "_law_plans" "_law_plans" s__law_plans f fd) : FnOk P w K mg base CX0 1 f fd ["_law_projects_here"] (Sp1 (rLst K (rLst K rInt)) (fun ps => ps.length ≤ 4 ∧ ∀ r ∈ ps, r.length ≤ 1000) (fun ps => retI (rLst K (rLst K rInt)) (Tm.allF ps 5))) := by
  refine F.ok sc__law_plans (fun vs H Q E h => Sp1.len h) (fun cdv A outer s H vs Q E hr h => ?_)
  obtain ⟨F0, v0, ps, he, rfl, h0, hp, q⟩ := h
  refine ⟨_, (pss_cons (ps_set (i := 1) sc__law_plans.nd rfl (Or.inl rfl) (p_lst (K := K) (pa_cons (p_lst (K := K) pa_nil) pa_nil))) (pss_cons (ps_set (i := 2) sc__law_plans.nd rfl (Or.inl rfl) (p_lst (K := K) (pa_cons (p_lst (K := K) pa_nil) pa_nil))) (pss_cons (ps_for PassesOwn.never rfl (pi_range1 (by rfl) m_range (pa_cons pe_int pa_nil)) (pg_name (i := 3) sc__law_plans.nd rfl (Or.inl rfl)) (pss_cons (ps_set (i := 4) sc__law_plans.nd rfl (Or.inl rfl) (p_lst (K := K) pa_nil)) (pss_cons (ps_for PassesOwn.never rfl (pi_list (p_lstOf (K := K) (by rfl) m_list (pv 2))) (pg_name (i := 5) sc__law_plans.nd rfl (Or.inl rfl)) (pss_one (ps_for PassesOwn.never rfl (pi_range1 (by rfl) m_range (pa_cons (p_len (K := K) (by rfl) m_len (pv 0)) pa_nil)) (pg_name (i := 6) sc__law_plans.nd rfl (Or.inl rfl)) (pss_one (ps_if (q_lt (p_cnt (K := K) (pv 5) (pv 6)) (p_len (K := K) (by rfl) m_len (p_ixL (K := K) (pv 0) (pv 6)))) (pss_one (ps_expr (pe_bm PySem.F.plainAttrs_list PySem.F.slot_list_append PySem.F.type_list_append mt_append (pv 4) (pa_cons (p_catL (K := K) (pv 5) (p_lst (K := K) (pa_cons (pv 6) pa_nil))) pa_nil)))) pss_nil))))) (pss_cons (ps_set (i := 1) sc__law_plans.nd rfl (Or.inl rfl) (p_catL (K := K) (pv 1) (pv 4))) (pss_one (ps_set (i := 2) sc__law_plans.nd rfl (Or.inl rfl) (pv 4))))))) (pss_one (ps_ret (pv 1)))))), ?_⟩
  refine body1 he h0 ?_
  try dsimp only [cxOf, Cx.nox, Cx.wish]
  show S _ _ [.im (rLst K (rLst K rInt)) ps, .un, .un, .un, .un, .un, .un] _
  obtain ⟨l4, lr⟩ := hp
  have al := Tm.all_len l4
  refine S.asg (A := rLst K (rLst K rInt)) (a := [[]]) (e_frz (en_xlst (ea_cons (A := rLst K rInt) (a := []) (e_frz (en_xlst ea_nil (by decide))) ea_nil) (by decide))) ?_
  walk_at "nf"
  refine S.asg (A := rLst K (rLst K rInt)) (a := [[]]) (e_frz (en_xlst (ea_cons (A := rLst K rInt) (a := []) (e_frz (en_xlst ea_nil (by decide))) ea_nil) (by decide))) ?_
  walk_at "nf"
  refine S.forR (j := 3) (n := 5) e_int ⟨by decide, by decide⟩ (fun i => [.im (rLst K (rLst K rInt)) ps, .im (rLst K (rLst K rInt)) (Tm.allF ps i), .im (rLst K (rLst K rInt)) (Tm.lvF ps i), .un, .un, .un, .un]) (by walk_at "les") (fun F1 i _ hi => ?_) ?_
  · walk_at "nf"
    have hi5 : i < 5 := by omega
    have ll := Tm.lv_len l4 i
    have l256 : (Tm.lvF ps i).length ≤ 256 := Nat.le_trans ll (Nat.le_trans (Nat.pow_le_pow_right (by decide) (show i ≤ 4 by omega)) (by decide))
    refine S.asgN (A := rLst K rInt) (as := []) (en_xlst ea_nil (by decide)) ?_
    walk_at "nf"
    refine S.forN (j := 5) (as := Tm.lvF ps i) (iw_list (e_frz (en_lstOf (e_var rfl)))) (fun j => [.im (rLst K (rLst K rInt)) ps, .im (rLst K (rLst K rInt)) (Tm.allF ps i), .im (rLst K (rLst K rInt)) (Tm.lvF ps i), .im rInt (i : Int), .mu (rLst K rInt) (((Tm.lvF ps i).take j).flatMap (Tm.extF ps)), .un, .un]) (by walk_at "les") (fun F2 j p _ hj => ?_) ?_
    · walk_at "nf"
      have pl := (Tm.lv_mem (List.mem_of_getElem? hj)).1
      have jl := (List.getElem?_eq_some_iff.mp hj).1
      have xl : (((Tm.lvF ps i).take j).flatMap (Tm.extF ps)).length ≤ 256 * 4 := by
        refine Nat.le_trans (Tm.flat_len_le (m := 4) fun p _ => Nat.le_trans (Tm.ext_len ps p _) l4) ?_
        rw [List.length_take]
        omega
      have es : ((Tm.lvF ps i).take (j + 1)).flatMap (Tm.extF ps) = ((Tm.lvF ps i).take j).flatMap (Tm.extF ps) ++ Tm.extK ps p ps.length := by
        rw [Tm.take_snoc hj, List.flatMap_append]
        simp [Tm.extF]
      rw [es]
      generalize ((Tm.lvF ps i).take j).flatMap (Tm.extF ps) = X at xl ⊢
      have k0 : Tm.extK ps p 0 = [] := rfl
      refine S.one (S.forR (j := 6) (n := (ps.length : Int)) (e_xlen (e_var rfl)) ⟨by omega, by omega⟩ (fun k => [.im (rLst K (rLst K rInt)) ps, .im (rLst K (rLst K rInt)) (Tm.allF ps i), .im (rLst K (rLst K rInt)) (Tm.lvF ps i), .im rInt (i : Int), .mu (rLst K rInt) (X ++ Tm.extK ps p k), .im (rLst K rInt) p, .un]) (by refine Sub.of ?_; walk_at "leq"; rw [k0, List.append_nil]) (fun F3 k _ hk => ?_) ?_)
      · walk_at "nf"
        have hk' : k < ps.length := by omega
        have a1 : atI ps (k : Int) = some (Tm.rdp ps k) := atI_nat (Tm.rdp_at hk')
        have el := Tm.ext_len ps p k
        rw [Tm.extK_succ]
        refine S.one (S.ifs (k := decide (Tm.cntI p k < (Tm.rdp ps k).length)) (eb_is (eb_cmp (e_lt (e_cnt (e_var rfl) (e_var rfl)) (e_xlen (e_xixL (e_var rfl) (e_var rfl) a1)))) (by rw [decide_eq_decide]; unfold Tm.cntI; omega)) (fun h => ?_) (fun h => ?_))
        · rw [decide_eq_true_eq] at h
          rw [if_pos h]
          refine S.one (S.app (A := rLst K rInt) (a := p ++ [(k : Int)]) rfl (e_frz (en_catL (e_var rfl) (e_frz (en_xlst (ea_cons (e_var rfl) ea_nil) (show 1 ≤ 100000 by decide))) (by show p.length + 1 ≤ 100000; omega))) (by rw [List.length_append]; omega) ?_)
          walk_at "nf"
          exact S.to1 (by walk_at "leq"; rw [List.append_assoc]) rfl
        · rw [decide_eq_false_iff_not] at h
          rw [if_neg h, List.append_nil]
          exact S.next (S.to1 (by walk_at "leq") rfl)
      · rw [Int.toNat_natCast]
        exact S.to1 (by walk_at "leq") rfl
    · rw [List.take_length]
      have nl : (Tm.lvF ps (i + 1)).length ≤ 1024 := Nat.le_trans (Tm.lv_len l4 (i + 1)) (Nat.le_trans (Nat.pow_le_pow_right (by decide) (show i + 1 ≤ 5 by omega)) (by decide))
      have al2 : (Tm.allF ps i).length ≤ 1365 := by
        refine Nat.le_trans ?_ al
        have s : ∀ n, (Tm.allF ps (n + 1)).length = (Tm.allF ps n).length + (Tm.lvF ps (n + 1)).length := fun n => List.length_append
        have s1 := s 0
        have s2 := s 1
        have s3 := s 2
        have s4 := s 3
        have s5 := s 4
        have : i = 0 ∨ i = 1 ∨ i = 2 ∨ i = 3 ∨ i = 4 := by omega
        simp only [Nat.zero_add, Nat.reduceAdd] at s1 s2 s3 s4 s5
        rcases this with rfl | rfl | rfl | rfl | rfl <;> omega
      refine S.frz K (i := 4) (A := rLst K rInt) (as := Tm.lvF ps (i + 1)) rfl ?_
      walk_at "nf"
      refine S.asg (A := rLst K (rLst K rInt)) (a := Tm.allF ps (i + 1)) (e_frz (en_catL (as := Tm.allF ps i) (bs := Tm.lvF ps (i + 1)) (e_var rfl) (e_var rfl) (by omega))) ?_
      walk_at "nf"
      refine S.one (S.asg (A := rLst K (rLst K rInt)) (a := Tm.lvF ps (i + 1)) (e_var rfl) ?_)
      walk_at "nf"
      exact S.to1 (by walk_at "leq") rfl
  · exact S.ret (A := rLst K (rLst K rInt)) (a := Tm.allF ps 5) (e_var rfl) q
/-! _law_reward -/
theorem ok__law_reward (m_int : mg "int" = none) {f : Addr} {fd : FuncData} (F : Fun K "_law_reward" "_law_reward" s__law_reward f fd) : FnOk P w K mg base CX0 1 f fd ["_law_raw", "_law_mode"] (Sp2 rInt rInt (fun r _ => Tm.Bd 100 r) (fun r m => retI rInt (Tm.rewF r m))) := by
  refine F.ok sc__law_reward (fun vs H Q E h => Sp2.len h) (fun cdv A outer s H vs Q E hr h => ?_)
  obtain ⟨F0, v0, v1, r, m, he, rfl, h0, h1, hp, q⟩ := h
  refine ⟨_, (Evl.pss_cut (ps_if (q_eqI (pv 1) pe_int) (pss_cons (ps_set (i := 1) sc__law_reward.nd rfl (Or.inl rfl) (p_mod (p_int (by rfl) m_int (pv 0)) pe_int)) (pss_one (ps_set (i := 0) sc__law_reward.nd rfl (Or.inl rfl) (p_div (pv 0) pe_int)))) pss_nil) (pss_cons (ps_if (q_eqI (pv 1) pe_int) (pss_one (ps_ret (p_sub (p_mod (p_int (by rfl) m_int (pv 0)) pe_int) pe_int))) pss_nil) (pss_cons (ps_if (q_eqI (pv 1) pe_int) (pss_one (ps_ret (p_mul (p_mod (p_int (by rfl) m_int (pv 0)) pe_int) pe_int))) pss_nil) (pss_cons (ps_if (q_eqI (pv 1) pe_int) (pss_one (ps_ret (p_sub (p_mod (p_int (by rfl) m_int (pv 0)) pe_int) pe_int))) pss_nil) (pss_one (ps_ret (p_sub (p_mod (p_int (by rfl) m_int (p_mul (pv 0) pe_int)) pe_int) pe_int))))))), ?_⟩
  refine body2 he h0 h1 ?_
  show S _ _ [.im rInt r, .im rInt m] _
  refine S.cut (β := Int × Int) (fun x => x = (if m = 4 then r / 4 else r, if m = 4 then r % 4 else m)) (fun x => [.im rInt x.1, .im rInt x.2]) (S.one ?_) (fun x hx => ?_)
  · (refine' S.ifs (by walk_at "ev") (fun hb => ?_) (fun hb => ?_) <;> (try simp only [decide_eq_true_eq, decide_eq_false_iff_not, Bool.not_eq_true', Bool.not_eq_false', Bool.and_eq_true, Bool.or_eq_true, Bool.and_eq_false_iff, Bool.or_eq_false_iff] at hb))
    · refine S.assoc ?_
      walk_at "asg"
      walk_at "asg"
      refine S.to (β := Int × Int) (r / 4, r % 4) ?_ (by walk_at "les") rfl
      rw [if_pos hb, if_pos hb]
    · refine S.next (S.to (β := Int × Int) (r, m) ?_ (by walk_at "les") rfl)
      rw [if_neg hb, if_neg hb]
  have e1 : x.1 = if m = 4 then r / 4 else r := by rw [hx]
  have e2 : x.2 = if m = 4 then r % 4 else m := by rw [hx]
  have hB : Tm.Bd 100 x.1 := by
    rw [e1]
    split
    · exact hp.of (by omega)
    · exact hp
  have hm : CMulW x.1 10 := Tm.mul_ok (m := 4) hB (by decide +kernel) (by decide)
  (refine' S.ifs (by walk_at "ev") (fun hb => ?_) (fun hb => ?_) <;> (try simp only [decide_eq_true_eq, decide_eq_false_iff_not, Bool.not_eq_true', Bool.not_eq_false', Bool.and_eq_true, Bool.or_eq_true, Bool.and_eq_false_iff, Bool.or_eq_false_iff] at hb))
  · refine S.ret (ev_is (by walk_at "ev") ?_) q
    unfold Tm.rewF
    dsimp only
    rw [← e1, ← e2, if_pos hb]
  refine S.next ?_
  (refine' S.ifs (by walk_at "ev") (fun hb => ?_) (fun hb => ?_) <;> (try simp only [decide_eq_true_eq, decide_eq_false_iff_not, Bool.not_eq_true', Bool.not_eq_false', Bool.and_eq_true, Bool.or_eq_true, Bool.and_eq_false_iff, Bool.or_eq_false_iff] at hb))
  · have hm2 : CMulW (x.1 % 2) 3 := Tm.mul_ok (n := 2) (m := 2) (by unfold Tm.Bd; omega) (by decide +kernel) (by decide)
    refine S.ret (ev_is (by walk_at "ev") ?_) q
    unfold Tm.rewF
    dsimp only
    rw [← e1, ← e2, if_neg (by omega), if_pos (by assumption)]
  refine S.next ?_
  (refine' S.ifs (by walk_at "ev") (fun hb => ?_) (fun hb => ?_) <;> (try simp only [decide_eq_true_eq, decide_eq_false_iff_not, Bool.not_eq_true', Bool.not_eq_false', Bool.and_eq_true, Bool.or_eq_true, Bool.and_eq_false_iff, Bool.or_eq_false_iff] at hb))
  · refine S.ret (ev_is (by walk_at "ev") ?_) q
    unfold Tm.rewF
    dsimp only
    rw [← e1, ← e2, if_neg (by omega), if_neg (by omega), if_pos (by assumption)]
  refine S.next ?_
  refine S.ret (ev_is (by walk_at "ev") ?_) q
  unfold Tm.rewF
  dsimp only
  rw [← e1, ← e2, if_neg (by omega), if_neg (by omega), if_neg (by assumption)]
/-! _law_projects -/
theorem ok__law_projects (m_int : mg "int" = none) (m_len : mg "len" = none) (m_list : mg "list" = none) (m_min : mg "min" = none) (m_range : mg "range" = none) (G__law_reward : Kn CX0 P w K mg base "_law_reward" 1 ["_law_raw", "_law_mode"] (Sp2 rInt rInt (fun r _ => Tm.Bd 100 r) (fun r m => retI rInt (Tm.rewF r m)))) {f : Addr} {fd : FuncData} (F : Fun K "_law_projects" "_law_projects" s__law_projects f fd) : FnOk P w K mg base CX0 2 f fd ["_law_row_here", "_law_most", "_law_room"] (Sp3 (rLst K rInt) rInt rInt (fun row mo rm => 0 ≤ mo ∧ mo ≤ 10 ∧ 0 ≤ rm ∧ rm ≤ 60 ∧ 2 + mo + rm ≤ (row.length : Int) ∧ ∀ x ∈ row, 0 ≤ x ∧ x < 10 ^ 10) (fun row mo rm => retN (rLst K rInt) (Tm.prjsF row mo rm))) := by
  refine F.ok sc__law_projects (fun vs H Q E h => Sp3.len h) (fun cdv A outer s H vs Q E hr h => ?_)
  obtain ⟨F0, v0, v1, v2, row, mo, rm, he, rfl, h0, h1, h2, hp, q⟩ := h
  refine ⟨_, (pss_cons (ps_set (i := 3) sc__law_projects.nd rfl (Or.inl rfl) (p_lst (K := K) pa_nil)) (pss_cons (ps_set (i := 4) sc__law_projects.nd rfl (Or.inl rfl) (pv 2)) (pss_cons (ps_set (i := 5) sc__law_projects.nd rfl (Or.inr rfl) (p_add pe_int (pv 1))) (pss_cons (ps_for PassesOwn.never rfl (pi_range1 (by rfl) m_range (pa_cons (p_mod (p_int (by rfl) m_int (p_ixL (K := K) (pv 0) pe_int)) (p_add (pv 1) pe_int)) pa_nil)) (pg_name (i := 6) sc__law_projects.nd rfl (Or.inl rfl)) (pss_cons (ps_set (i := 7) sc__law_projects.nd rfl (Or.inl rfl) (p_ixL (K := K) (pv 0) (p_add pe_int (pv 6)))) (pss_cons (ps_set (i := 8) sc__law_projects.nd rfl (Or.inl rfl) (p_min rfl (by rfl) m_min (pv 4) (p_mod (p_int (by rfl) m_int (p_div (pv 7) pe_int)) pe_int))) (pss_cons (ps_if (q_eqI (p_mod (p_int (by rfl) m_int (pv 7)) pe_int) pe_int) (pss_one (ps_set (i := 8) sc__law_projects.nd rfl (Or.inl rfl) (p_mod (p_int (by rfl) m_int (p_div (pv 7) pe_int)) (p_add (pv 4) pe_int)))) pss_nil) (Evl.pss_cut (ps_if ((pw_and (q_eqI (p_mod (p_int (by rfl) m_int (pv 7)) pe_int) pe_int) (pw_and (q_gt (pv 6) pe_int) (pw_and1 (q_le (p_len (K := K) (by rfl) m_len (p_ixM (K := K) (pv 3) (p_sub (pv 6) pe_int))) (pv 4)))))).pt (pss_one (ps_expr (pe_bm PySem.F.plainAttrs_list PySem.F.slot_list_append PySem.F.type_list_append mt_append (pv 3) (pa_cons (p_lstOf (K := K) (by rfl) m_list (p_ixM (K := K) (pv 3) (p_sub (pv 6) pe_int))) pa_nil)))) (pss_one (ps_expr (pe_bm PySem.F.plainAttrs_list PySem.F.slot_list_append PySem.F.type_list_append mt_append (pv 3) (pa_cons (pe_lc (own := [("_law_j", 9)]) rfl sc__law_projects.nd (pi_range1 (by rfl) m_range (pa_cons (pv 8) pa_nil)) (blkOk_by (own := [("_law_j", 9)]) (N := ["_law_row_here", "_law_most", "_law_room", "_law_projects_here", "_law_space", "_law_at", "_law_k", "_law_raw", "_law_size", "_law_j"]) (sc := defScope s__law_projects) (by decide +kernel)) (fun _ _ _ _ _ => (pg_name (i := 9) sc__law_projects.nd rfl (Or.inl rfl))) (fun _ _ _ _ _ => pts_nil) (fun _ _ _ _ _ => (p_call G__law_reward (hr.mono (by decide)) (by rfl) (pa_cons (p_ixL (K := K) (pv 0) (p_add (pv 5) (pv 9))) (pa_cons (p_mod (p_int (by rfl) m_int (p_ixL (K := K) (pv 0) pe_int)) pe_int) pa_nil))))) pa_nil))))) (pss_cons (ps_set (i := 5) sc__law_projects.nd rfl (Or.inr rfl) (p_add (pv 5) (p_len (K := K) (by rfl) m_len (p_ixM (K := K) (pv 3) (pv 6))))) (pss_one (ps_set (i := 4) sc__law_projects.nd rfl (Or.inl rfl) (p_sub (pv 4) (p_len (K := K) (by rfl) m_len (p_ixM (K := K) (pv 3) (pv 6)))))))))))) (pss_one (ps_ret (pv 3))))))), ?_⟩
  refine body3 he h0 h1 h2 ?_
  try dsimp only [cxOf, Cx.nox, Cx.wish]
  show S _ _ [.im (rLst K rInt) row, .im rInt mo, .im rInt rm, .un, .un, .un, .un, .un, .un, .un] _
  obtain ⟨m0, m1, r0, r1, hl, hx⟩ := hp
  have z1 : 0 < mo + 1 := by omega
  have x0 : atI row 0 = some (Tm.rdl row 0) := Tm.rdl_at (i := 0) (by omega)
  have x1 : atI row 1 = some (Tm.rdl row 1) := Tm.rdl_at (i := 1) (by omega)
  have na := Int.emod_nonneg (Tm.rdl row 0) (show mo + 1 ≠ 0 by omega)
  have nb := Int.emod_lt_of_pos (Tm.rdl row 0) z1
  refine S.asgN (A := rLst K rInt) (as := []) (by walk_at "ev") ?_
  walk_at "nf"
  walk_at "asg"
  walk_at "asg"
  refine S.forR (j := 6) (by walk_at "ev") ⟨by omega, by omega⟩ (fun i => [.im (rLst K rInt) row, .im rInt mo, .im rInt rm, .mu (rLst K rInt) (Tm.prjF row mo rm i), .im rInt (rm - (Tm.tot (Tm.prjF row mo rm i) : Int)), .im rInt (2 + mo + (Tm.tot (Tm.prjF row mo rm i) : Int)), .un, .un, .un, .un]) ?_ (fun F1 i _ hi => ?_) ?_
  · refine Sub.of ?_
    walk_at "leq"
    · show rm = rm - ((0 : Nat) : Int)
      omega
    · show 2 + mo = 2 + mo + ((0 : Nat) : Int)
      omega
  · walk_at "nf"
    obtain ⟨k1, k2⟩ := Tm.prjF_ok row mo r0 i
    have kl := Tm.prjF_len row mo rm i
    obtain ⟨n1, n2⟩ := Tm.prjF_new row mo rm i
    have s1 : Tm.rdl row (2 + i) % 4 = 2 ∧ 0 < i ∧ ((Tm.rdp (Tm.prjF row mo rm i) (i - 1)).length : Int) ≤ rm - Tm.tot (Tm.prjF row mo rm i) → _ := Tm.prjF_s1 (row := row) (most := mo) (room := rm) (k := i)
    have s2 : ¬ (Tm.rdl row (2 + i) % 4 = 2 ∧ 0 < i ∧ ((Tm.rdp (Tm.prjF row mo rm i) (i - 1)).length : Int) ≤ rm - Tm.tot (Tm.prjF row mo rm i)) → _ := Tm.prjF_s2 (row := row) (most := mo) (room := rm) (k := i)
    have at1 : 0 < i → atI (Tm.prjF row mo rm i) ((i : Int) - 1) = some (Tm.rdp (Tm.prjF row mo rm i) (i - 1)) := fun h => by
      rw [show (i : Int) - 1 = ((i - 1 : Nat) : Int) by omega]
      exact atI_nat (Tm.rdp_at (by omega))
    have nl : (Tm.prjF row mo rm i).length < 100000 := by omega
    have at2 : atI (Tm.prjF row mo rm (i + 1)) (i : Int) = some (Tm.rdp (Tm.prjF row mo rm (i + 1)) i) := atI_nat n1
    revert k1 k2 kl n2 s1 s2 at1 at2 nl
    generalize Tm.prjF row mo rm i = ps
    generalize Tm.prjF row mo rm (i + 1) = ps'
    intro k1 k2 kl n2 s1 s2 at1 nl at2
    have xr : atI row (2 + (i : Int)) = some (Tm.rdl row (2 + i)) := by
      rw [show (2 : Int) + (i : Int) = ((2 + i : Nat) : Int) by omega]
      exact Tm.rdl_at (by omega)
    have z2 : 0 < rm - (Tm.tot ps : Int) + 1 := by omega
    walk_at "asg"
    walk_at "asg"
    refine S.ifAsg (A := rInt) (by walk_at "ev") rfl (fun _ => (by walk_at "ev")) ?_
    walk_at "nf"
    have es : (if decide (Tm.rdl row (2 + i) % 4 = 3) = true then Tm.rdl row (2 + i) / 4 % (rm - (Tm.tot ps : Int) + 1) else if Tm.rdl row (2 + i) / 4 % 5 < rm - (Tm.tot ps : Int) then Tm.rdl row (2 + i) / 4 % 5 else rm - (Tm.tot ps : Int)) = Tm.szF row rm i (Tm.tot ps) := by
      unfold Tm.szF
      simp only [decide_eq_true_eq]
    rw [es]
    obtain ⟨sz0, sz1⟩ := Tm.szF_ok row (room := rm) i k1
    refine S.cut (β := Unit) (fun _ => True) (fun _ => [.im (rLst K rInt) row, .im rInt mo, .im rInt rm, .mu (rLst K rInt) ps', .im rInt (rm - (Tm.tot ps : Int)), .im rInt (2 + mo + (Tm.tot ps : Int)), .im rInt (i : Int), .un, .un, .un]) (S.one ?_) (fun _ _ => ?_)
    · by_cases z : Tm.rdl row (2 + i) % 4 = 2 ∧ 0 < i ∧ ((Tm.rdp ps (i - 1)).length : Int) ≤ rm - Tm.tot ps
      · have at1' := at1 z.2.1
        refine S.ifs (k := true) (eb_is (by walk_at "ev") ?_) (fun _ => ?_) (fun h => nomatch h)
        · rw [decide_eq_true z.1, decide_eq_true (show (0 : Int) < (i : Int) by omega), decide_eq_true z.2.2]; rfl
        refine S.app rfl (by walk_at "ev") nl ?_
        walk_at "nf"
        refine S.to () trivial (Sub.of ?_) rfl
        walk_at "leq"
        exact (s1 z).symm
      · refine S.ifs (k := false) (eb_is (eb_and (by walk_at "ev") (fun _ => eb_and (l := decide (((Tm.rdp ps (i - 1)).length : Int) ≤ rm - Tm.tot ps)) (by walk_at "ev") (fun h => ?_))) ?_) (fun h => nomatch h) (fun _ => ?_)
        · have at1' := at1 (by have := of_decide_eq_true h; omega)
          exact (by walk_at "ev")
        · rw [Bool.and_eq_false_iff, Bool.and_eq_false_iff, decide_eq_false_iff_not, decide_eq_false_iff_not, decide_eq_false_iff_not]
          by_cases q1 : Tm.rdl row (2 + i) % 4 = 2
          · by_cases q2 : 0 < i
            · exact .inr (.inr fun q3 => z ⟨q1, q2, q3⟩)
            · exact .inr (.inl (by omega))
          · exact .inl q1
        refine S.app (A := rLst K rInt) (a := (List.range (Tm.szF row rm i (Tm.tot ps)).toNat).map fun j => Tm.rewF (Tm.rdl row ((2 + mo).toNat + Tm.tot ps + j)) (Tm.rdl row 1 % 5)) rfl (e_frz (en_mapR _ (by walk_at "ev") (by omega) (by omega) (by decide) (fun j hj => ?_))) nl ?_
        · have hj2 : (2 + mo).toNat + Tm.tot ps + j < row.length := by omega
          have x2 : atI row (2 + mo + (Tm.tot ps : Int) + (j : Int)) = some (Tm.rdl row ((2 + mo).toNat + Tm.tot ps + j)) := by
            have e := Tm.rdl_at hj2
            rwa [show (((2 + mo).toNat + Tm.tot ps + j : Nat) : Int) = 2 + mo + (Tm.tot ps : Int) + (j : Int) by omega] at e
          have hB : Tm.Bd 100 (Tm.rdl row ((2 + mo).toNat + Tm.tot ps + j)) := by
            have := hx _ (Tm.rdl_mem hj2)
            refine Tm.Bd.le (n := 40) ?_ (by decide)
            unfold Tm.Bd
            have e : (10 : Int) ^ 10 = 10000000000 := by decide
            omega
          exact (by walk_at "ev")
        walk_at "nf"
        refine S.to () trivial (Sub.of ?_) rfl
        walk_at "leq"
        exact (s2 z).symm
    · walk_at "asg"
      refine S.one ?_
      walk_at "asg"
      refine S.to1 ?_ rfl
      walk_at "leq"
      all_goals omega
  · exact S.retM rfl q
/-! _law_row -/
theorem ok__law_row (m_int : mg "int" = none) (m_range : mg "range" = none) {f : Addr} {fd : FuncData} (F : Fun K "_law_row" "_law_row" s__law_row f fd) : FnOk P w K mg base CX0 1 f fd ["_law_cell_here", "_law_count"] (Sp2 rInt rInt (fun _ n => 0 ≤ n ∧ n ≤ 10000) (fun c n => retN rInt (Tm.rowF c n.toNat).1)) := by
  refine F.ok sc__law_row (fun vs H Q E h => Sp2.len h) (fun cdv A outer s H vs Q E hr h => ?_)
  obtain ⟨F0, v0, v1, c, n, he, rfl, h0, h1, hp, q⟩ := h
  refine ⟨_, (pss_cons (ps_set (i := 2) sc__law_row.nd rfl (Or.inl rfl) (p_lst (K := K) pa_nil)) (pss_cons (ps_set (i := 3) sc__law_row.nd rfl (Or.inl rfl) (pv 0)) (pss_cons (ps_for PassesOwn.never rfl (pi_range1 (by rfl) m_range (pa_cons (pv 1) pa_nil)) (pg_name (i := 4) sc__law_row.nd rfl (Or.inl rfl)) (pss_one (ps_if ((pw_and (q_ge (pv 0) (p_pow pe_int pe_int)) (pw_and1 (q_gt (pv 3) pe_int)))).pt (pss_cons (ps_expr (pe_bm PySem.F.plainAttrs_list PySem.F.slot_list_append PySem.F.type_list_append mt_append (pv 2) (pa_cons (p_mod (p_int (by rfl) m_int (pv 3)) (p_pow pe_int pe_int)) pa_nil))) (pss_one (ps_set (i := 3) sc__law_row.nd rfl (Or.inl rfl) (p_divX (p_int (by rfl) m_int (pv 3)) (p_pow pe_int pe_int))))) (pss_cons (ps_set (i := 5) sc__law_row.nd rfl (Or.inl rfl) (p_mod (p_int (by rfl) m_int (p_add (p_add (pv 0) (p_mul pe_int (pv 4))) pe_int)) pe_int)) (pss_cons (ps_set (i := 5) sc__law_row.nd rfl (Or.inl rfl) (p_mod (p_int (by rfl) m_int (p_mul (pv 5) (p_add (pv 5) pe_int))) pe_int)) (pss_cons (ps_set (i := 5) sc__law_row.nd rfl (Or.inl rfl) (p_mod (p_int (by rfl) m_int (p_add (p_mul (pv 5) (p_add (pv 5) pe_int)) (p_mul pe_int (pv 4)))) pe_int)) (pss_one (ps_expr (pe_bm PySem.F.plainAttrs_list PySem.F.slot_list_append PySem.F.type_list_append mt_append (pv 2) (pa_cons (p_int (by rfl) m_int (p_div (pv 5) pe_int)) pa_nil)))))))))) (pss_one (ps_ret (pv 2)))))), ?_⟩
  refine body2 he h0 h1 ?_
  try dsimp only [cxOf, Cx.nox, Cx.wish]
  show S _ _ [.im rInt c, .im rInt n, .un, .un, .un, .un] _
  obtain ⟨n0, n1⟩ := hp
  refine S.asgN (A := rInt) (as := []) (by walk_at "ev") ?_
  walk_at "nf"
  walk_at "asg"
  refine S.forR (j := 4) (by walk_at "ev") ⟨by omega, by omega⟩ (fun i => [.im rInt c, .im rInt n, .mu rInt (Tm.rowF c i).1, .im rInt (Tm.rowF c i).2, .un, .un]) (by walk_at "les") (fun F1 i _ hi => ?_) ?_
  · walk_at "nf"
    have hl := Tm.rowF_len c i
    have d1 : DivX (Tm.rowF c i).2 (10 ^ (10 : Int).toNat) := by refine ⟨?_, ?_⟩ <;> decide +kernel
    have z1 : (0 : Int) < 10 ^ (10 : Int).toNat := by decide +kernel
    have m0 : CMulW 7919 (i : Int) := Tm.mul_ok (n := 13) (m := 14) (by decide +kernel) (by unfold Tm.Bd; omega) (by decide)
    refine S.one (S.ifs (k := decide (10 ^ (18 : Int).toNat ≤ c) && decide (0 < (Tm.rowF c i).2)) (by walk_at "ev") (fun hb => ?_) (fun hb => ?_))
    · have hb : 10 ^ 18 ≤ c ∧ 0 < (Tm.rowF c i).2 := by
        simp only [Bool.and_eq_true, decide_eq_true_eq] at hb
        exact hb
      refine S.assoc ?_
      refine S.app rfl (by walk_at "ev") (by omega) ?_
      walk_at "nf"
      walk_at "asg"
      refine S.to1 ?_ rfl
      walk_at "leq"
      · show _ = (Tm.rowF c (i + 1)).1
        rw [Tm.rowF, if_pos hb]
        rfl
      · show _ = (Tm.rowF c (i + 1)).2
        rw [Tm.rowF, if_pos hb]
        rfl
    · have hb' : ¬ (10 ^ 18 ≤ c ∧ 0 < (Tm.rowF c i).2) := by
        intro z
        have z1 : 10 ^ (18 : Int).toNat ≤ c := z.1
        rw [decide_eq_true z1, decide_eq_true z.2] at hb
        cases hb
      refine S.assoc ?_
      walk_at "asg"
      refine S.assoc ?_
      have e1 := Int.emod_nonneg (c + 7919 * (i : Int) + 13) (show (2147483647 : Int) ≠ 0 by decide)
      have e2 := Int.emod_lt_of_pos (c + 7919 * (i : Int) + 13) (show (0 : Int) < 2147483647 by decide)
      generalize hm : (c + 7919 * (i : Int) + 13) % 2147483647 = m at e1 e2 ⊢
      have m1 : CMulW m (m + 48271) := Tm.mul_ok (n := 32) (m := 33) (by unfold Tm.Bd; omega) (by unfold Tm.Bd; omega) (by decide)
      walk_at "asg"
      refine S.assoc ?_
      have e3 := Int.emod_nonneg (m * (m + 48271)) (show (2147483629 : Int) ≠ 0 by decide)
      have e4 := Int.emod_lt_of_pos (m * (m + 48271)) (show (0 : Int) < 2147483629 by decide)
      generalize hm2 : m * (m + 48271) % 2147483629 = m2 at e3 e4 ⊢
      have m3 : CMulW m2 (m2 + 69621) := Tm.mul_ok (n := 32) (m := 33) (by unfold Tm.Bd; omega) (by unfold Tm.Bd; omega) (by decide)
      have m4 : CMulW 31 (i : Int) := Tm.mul_ok (n := 13) (m := 14) (by decide +kernel) (by unfold Tm.Bd; omega) (by decide)
      walk_at "asg"
      refine S.app rfl (by walk_at "ev") (by omega) ?_
      walk_at "nf"
      refine S.to1 ?_ rfl
      walk_at "leq"
      · show _ = (Tm.rowF c (i + 1)).1
        rw [Tm.rowF, if_neg hb', ← hm2, ← hm]
        rfl
      · show _ = (Tm.rowF c (i + 1)).2
        rw [Tm.rowF, if_neg hb']
  · exact S.retM rfl q
/-! _law_valid -/
theorem ok__law_valid (m_isinstance : mg "isinstance" = none) (m_len : mg "len" = none) (m_list : mg "list" = none) (m_range : mg "range" = none) (G__law_integer : Kn CX0 P w K mg base "_law_integer" 1 ["_law_told"] (Sp1 rInt (fun _ => True) (fun _ => retI rBl true))) {f : Addr} {fd : FuncData} (F : Fun K "_law_valid" "_law_valid" s__law_valid f fd) : FnOk P w K mg base CX0 2 f fd ["_law_projects_here", "_law_plan"] (Sp2 (rLst K (rLst K rInt)) (rLst K (rOpt rInt)) (fun ps pl => ps.length ≤ 1000 ∧ pl.length ≤ 1000 ∧ Tm.VP ps pl) (fun ps pl => retI rBl true)) := by
  refine F.ok sc__law_valid (fun vs H Q E h => Sp2.len h) (fun cdv A outer s H vs Q E hr h => ?_)
  obtain ⟨F0, v0, v1, ps, pl, he, rfl, h0, h1, hp, q⟩ := h
  refine ⟨_, (pss_cons (ps_if (pt_not (pt_val (p_isi (K := K) (by rfl) m_isinstance (pv 1) (pe_bltn (v := .ty "list") (by rfl) m_list boot_list rfl)))) (pss_one (ps_ret pe_bl)) pss_nil) (pss_cons (ps_setLc (i := 2) (own := [("_law_k", 3)]) rfl sc__law_valid.nd rfl rfl (sw_true rfl rfl rfl (by decide +kernel)) (pi_range1 (by rfl) m_range (pa_cons (p_len (K := K) (by rfl) m_len (pv 0)) pa_nil)) (blkOk_by (own := [("_law_k", 3)]) (N := ["_law_projects_here", "_law_plan", "_law_taken", "_law_k", "_law_entry"]) (sc := defScope s__law_valid) (by decide +kernel)) (fun _ _ _ _ _ => (pg_name (i := 3) sc__law_valid.nd rfl (Or.inl rfl))) (fun _ _ _ _ _ => pts_nil) (fun _ _ _ _ _ => pe_int)) (pss_cons (ps_for PassesOwn.never rfl (pi_list (pv 1)) (pg_name (i := 4) sc__law_valid.nd rfl (Or.inl rfl)) (pss_one (ps_if (q_notN (pv 4) pe_non) (pss_cons (ps_if ((pw_or (pt_not (pt_val (p_call G__law_integer (hr.mono (by decide)) (by rfl) (pa_cons (pv 4) pa_nil)))) (pw_or (q_lt (pv 4) pe_int) (pw_or1 (q_ge (pv 4) (p_len (K := K) (by rfl) m_len (pv 0))))))).pt (pss_one (ps_ret pe_bl)) pss_nil) (pss_cons (ps_if (q_eqI (p_ixM (K := K) (pv 2) (pv 4)) (p_len (K := K) (by rfl) m_len (p_ixL (K := K) (pv 0) (pv 4)))) (pss_one (ps_ret pe_bl)) pss_nil) (pss_one (ps_asg (p_add (p_ixM (K := K) (pv 2) (pv 4)) pe_int) (pg_sub (pv 2) (pv 4) set_list))))) pss_nil))) (pss_one (ps_ret pe_bl))))), ?_⟩
  refine body2 he h0 h1 ?_
  try dsimp only [cxOf, Cx.nox, Cx.wish]
  show S _ _ [.im (rLst K (rLst K rInt)) ps, .im (rLst K (rOpt rInt)) pl, .un, .un, .un] _
  obtain ⟨l1, l2, vp⟩ := hp
  refine S.ifs (k := false) (eb_is (by walk_at "ev") ?_) (fun h => nomatch h) fun _ => S.next ?_
  · rfl
  refine S.asgN (A := rInt) (as := Tm.tkF ps.length (pl.take 0)) (en_is (en_mapR (C := rInt) (fun _ => (0:Int)) (by walk_at "ev") (by omega) (by omega) (by decide) (fun a ha => (by walk_at "ev"))) ?_) ?_
  · rw [Int.toNat_natCast]
    have e := Tm.tkF_nil (List.range ps.length)
    rwa [List.length_range] at e
  walk_at "nf"
  refine S.forN (j := 4) (iw_list (by walk_at "ev")) (fun i => [.im (rLst K (rLst K rInt)) ps, .im (rLst K (rOpt rInt)) pl, .mu rInt (Tm.tkF ps.length (pl.take i)), .un, .un]) (by walk_at "les") (fun F1 i o _ ho => ?_) ?_
  · walk_at "nf"
    cases o with
    | none =>
      refine S.one (S.ifs (k := false) (eb_is (eb_notN (A := rInt) (by walk_at "ev")) rfl) (fun h => nomatch h) fun _ => S.next ?_)
      refine S.to1 ?_ rfl
      walk_at "leq"
      exact Tm.tkF_none ho
    | some x =>
      obtain ⟨x0, rs, hrs, hc⟩ := vp i x ho
      have xl : x.toNat < ps.length := (List.getElem?_eq_some_iff.mp hrs).1
      have ll := Tm.tkF_len ps.length (pl.take i)
      have at2 := Tm.tkF_at (n := ps.length) (pl.take i) x0 xl
      have at3 : atI ps x = some rs := Tp.at_nat x0 hrs
      refine S.one (S.ifs (k := true) (eb_is (eb_notN (A := rInt) (by walk_at "ev")) rfl) (fun _ => ?_) (fun h => nomatch h))
      refine S.unO (i := 4) rfl ?_
      walk_at "nf"
      refine S.assoc (S.ifs (k := false) (eb_is (by walk_at "ev") ?_) (fun h => nomatch h) fun _ => S.next ?_)
      · rw [decide_eq_false (by omega), decide_eq_false (by omega)]; rfl
      refine S.assoc (S.ifs (k := false) (eb_is (by walk_at "ev") ?_) (fun h => nomatch h) fun _ => S.next ?_)
      · rw [decide_eq_false (by omega)]
      refine S.setL (A := rInt) (n := x) (a := (Tm.cntP (pl.take i) x.toNat : Int) + 1) rfl (by walk_at "ev") (by walk_at "ev") (j := x.toNat) (by rw [ll]; exact Tm.ixN_of x0 xl) ?_
      walk_at "nf"
      refine S.to1 ?_ rfl
      walk_at "leq"
      exact Tm.tkF_some ho x0 xl
  · exact S.ret (by walk_at "ev") q
/-! _law_worth -/
theorem ok__law_worth (m_len : mg "len" = none) (m_range : mg "range" = none) {f : Addr} {fd : FuncData} (F : Fun K "_law_worth" "_law_worth" s__law_worth f fd) : FnOk P w K mg base CX0 1 f fd ["_law_discount_here", "_law_projects_here", "_law_plan", "_law_pay_here"] (Sp4 (rRat K) (rLst K (rLst K rInt)) (rLst K (rOpt rInt)) (rRat K) (fun d ps pl o => Tm.Dis d ∧ Tm.POk ps ∧ Tm.VP ps pl ∧ pl.length ≤ 210 ∧ Tm.Offr o) (fun d ps pl o => retI (rT2 K rInt rInt) (Tm.lwF d ps pl o))) := by
  refine F.ok sc__law_worth (fun vs H Q E h => Sp4.len h) (fun cdv A outer s H vs Q E hr h => ?_)
  obtain ⟨F0, v0, v1, v2, v3, d, ps, pl, o, he, rfl, h0, h1, h2, h3, hp, q⟩ := h
  refine ⟨_, (pss_cons (ps_setLc (i := 4) (own := [("_law_k", 5)]) rfl sc__law_worth.nd rfl rfl (sw_true rfl rfl rfl (by decide +kernel)) (pi_range1 (by rfl) m_range (pa_cons (p_len (K := K) (by rfl) m_len (pv 1)) pa_nil)) (blkOk_by (own := [("_law_k", 5)]) (N := ["_law_discount_here", "_law_projects_here", "_law_plan", "_law_pay_here", "_law_taken", "_law_k", "_law_earned", "_law_entry", "_law_top", "_law_bottom", "_law_reward_here", "_law_today"]) (sc := defScope s__law_worth) (by decide +kernel)) (fun _ _ _ _ _ => (pg_name (i := 5) sc__law_worth.nd rfl (Or.inl rfl))) (fun _ _ _ _ _ => pts_nil) (fun _ _ _ _ _ => pe_int)) (pss_cons (ps_set (i := 6) sc__law_worth.nd rfl (Or.inl rfl) (p_lst (K := K) pa_nil)) (pss_cons (ps_for PassesOwn.never rfl (pi_list (pv 2)) (pg_name (i := 7) sc__law_worth.nd rfl (Or.inl rfl)) (pss_one (ps_if (q_isN (pv 7) pe_non) (pss_one (ps_expr (pe_bm PySem.F.plainAttrs_list PySem.F.slot_list_append PySem.F.type_list_append mt_append (pv 6) (pa_cons pe_non pa_nil)))) (pss_cons (ps_expr (pe_bm PySem.F.plainAttrs_list PySem.F.slot_list_append PySem.F.type_list_append mt_append (pv 6) (pa_cons (p_ixL (K := K) (p_ixL (K := K) (pv 1) (pv 7)) (p_ixM (K := K) (pv 4) (pv 7))) pa_nil))) (pss_one (ps_asg (p_add (p_ixM (K := K) (pv 4) (pv 7)) pe_int) (pg_sub (pv 4) (pv 7) set_list))))))) (pss_cons (ps_set (i := 8) sc__law_worth.nd rfl (Or.inl rfl) (p_mul (p_fst (K := K) (pv 3)) (p_snd (K := K) (pv 0)))) (pss_cons (ps_set (i := 9) sc__law_worth.nd rfl (Or.inl rfl) (p_mul (p_snd (K := K) (pv 3)) (p_sub (p_snd (K := K) (pv 0)) (p_fst (K := K) (pv 0))))) (pss_cons (ps_for PassesOwn.never rfl (pi_range1 (by rfl) m_range (pa_cons (p_lenM (K := K) (by rfl) m_len (pv 6)) pa_nil)) (pg_name (i := 5) sc__law_worth.nd rfl (Or.inl rfl)) (pss_cons (ps_set (i := 10) sc__law_worth.nd rfl (Or.inl rfl) (p_ixM (K := K) (pv 6) (p_sub (p_sub (p_lenM (K := K) (by rfl) m_len (pv 6)) pe_int) (pv 5)))) (pss_cons (ps_set (i := 11) sc__law_worth.nd rfl (Or.inl rfl) (p_mul (p_fst (K := K) (pv 3)) (p_divX (pv 9) (p_snd (K := K) (pv 3))))) (Evl.pss_cut (ps_if (q_notN (pv 10) pe_non) (pss_one (ps_set (i := 11) sc__law_worth.nd rfl (Or.inl rfl) (p_mul (pv 10) (pv 9)))) pss_nil) (pss_cons (ps_set (i := 8) sc__law_worth.nd rfl (Or.inl rfl) (p_add (p_mul (pv 11) (p_snd (K := K) (pv 0))) (p_mul (p_fst (K := K) (pv 0)) (pv 8)))) (pss_one (ps_set (i := 9) sc__law_worth.nd rfl (Or.inl rfl) (p_mul (pv 9) (p_snd (K := K) (pv 0)))))))))) (pss_one (ps_ret (p_t2 (K := K) (pv 8) (pv 9)))))))))), ?_⟩
  refine body4 he h0 h1 h2 h3 ?_
  try dsimp only [cxOf, Cx.nox, Cx.wish]
  show S _ _ [.im (rRat K) d, .im (rLst K (rLst K rInt)) ps, .im (rLst K (rOpt rInt)) pl, .im (rRat K) o, .un, .un, .un, .un, .un, .un, .un, .un] _
  obtain ⟨hd, hps, vp, l2, off⟩ := hp
  obtain ⟨ha, hb, a0, b0⟩ := hd.bd
  have off' := off
  obtain ⟨o0, o1, ob1, ob2⟩ := off
  have l10 := hps.1
  have ab := hd.2.1
  refine S.asgN (A := rInt) (as := Tm.tkF ps.length (pl.take 0)) (en_is (en_mapR (C := rInt) (fun _ => (0:Int)) (by walk_at "ev") (by omega) (by omega) (by decide) (fun a ha => (by walk_at "ev"))) ?_) ?_
  · rw [Int.toNat_natCast]
    have e := Tm.tkF_nil (List.range ps.length)
    rwa [List.length_range] at e
  walk_at "nf"
  refine S.asgN (A := rOpt rInt) (as := []) (by walk_at "ev") ?_
  walk_at "nf"
  have es : ∀ i, (List.range (i + 1)).map (Tm.erF ps pl) = (List.range i).map (Tm.erF ps pl) ++ [Tm.erF ps pl i] := fun i => by rw [List.range_succ, List.map_append]; rfl
  have el : ∀ i, ((List.range i).map (Tm.erF ps pl)).length = i := fun i => by rw [List.length_map, List.length_range]
  refine S.forN (j := 7) (iw_list (by walk_at "ev")) (fun i => [.im (rRat K) d, .im (rLst K (rLst K rInt)) ps, .im (rLst K (rOpt rInt)) pl, .im (rRat K) o, .mu rInt (Tm.tkF ps.length (pl.take i)), .un, .mu (rOpt rInt) ((List.range i).map (Tm.erF ps pl)), .un, .un, .un, .un, .un]) (by walk_at "les") (fun F1 i oo _ ho => ?_) ?_
  · walk_at "nf"
    have il := (List.getElem?_eq_some_iff.mp ho).1
    cases oo with
    | none =>
      refine S.one (S.ifs (k := true) (eb_is (eb_isN (A := rInt) (by walk_at "ev")) rfl) (fun _ => ?_) (fun h => nomatch h))
      refine S.app (A := rOpt rInt) (a := none) rfl e_nonO (by rw [el]; omega) ?_
      walk_at "nf"
      refine S.to1 ?_ rfl
      walk_at "leq"
      · exact Tm.tkF_none ho
      · rw [es, Tm.erF_none ho]
    | some x =>
      obtain ⟨x0, xl, hc⟩ := vp.vl i x ho
      have hc : Tm.cs pl i x.toNat < (Tm.rdp ps x.toNat).length := hc
      have ll := Tm.tkF_len ps.length (pl.take i)
      have at2 : atI (Tm.tkF ps.length (pl.take i)) x = some (Tm.cs pl i x.toNat : Int) := Tm.tkF_at (n := ps.length) (pl.take i) x0 xl
      have at3 : atI ps x = some (Tm.rdp ps x.toNat) := Tp.at_nat x0 (Tm.rdp_at xl)
      have at4 := Tm.rdl_at (rs := Tm.rdp ps x.toNat) hc
      refine S.one (S.ifs (k := false) (eb_is (eb_isN (A := rInt) (by walk_at "ev")) rfl) (fun h => nomatch h) (fun _ => ?_))
      refine S.unO (i := 7) rfl ?_
      walk_at "nf"
      refine S.assoc (S.app (A := rOpt rInt) (a := some (Tm.rdl (Tm.rdp ps x.toNat) (Tm.cs pl i x.toNat))) rfl (e_some (by walk_at "ev")) (by rw [el]; omega) ?_)
      walk_at "nf"
      refine S.setL (A := rInt) (n := x) (a := (Tm.cs pl i x.toNat : Int) + 1) rfl (by walk_at "ev") (by walk_at "ev") (j := x.toNat) (by rw [ll]; exact Tm.ixN_of x0 xl) ?_
      walk_at "nf"
      refine S.to1 ?_ rfl
      walk_at "leq"
      · exact Tm.tkF_some ho x0 xl
      · rw [es, Tm.erF_some ho]
  · have m1 : CMulW o.1 d.2 := Tm.mul_ok ob1 hb (by decide)
    have m2 : CMulW o.2 (d.2 - d.1) := Tm.mul_ok ob2 (hb.sub ha) (by decide)
    walk_at "asg"
    walk_at "asg"
    refine S.forR (j := 5) (n := (pl.length : Int)) (ev_is (by walk_at "ev") (by rw [el])) ⟨by omega, by omega⟩ (fun k => [.im (rRat K) d, .im (rLst K (rLst K rInt)) ps, .im (rLst K (rOpt rInt)) pl, .im (rRat K) o, .un, .un, .mu (rOpt rInt) ((List.range pl.length).map (Tm.erF ps pl)), .un, .im rInt (Tm.hwF d o (Tm.erF ps pl) pl.length k).1, .im rInt (Tm.hwF d o (Tm.erF ps pl) pl.length k).2, .un, .un]) ?_ (fun F1 k _ hk => ?_) ?_
    · refine Sub.of ?_
      walk_at "leq"
      all_goals rfl
    · walk_at "nf"
      obtain ⟨w1, w2, w3⟩ := Tm.hw_bd hd off' (Tm.er_bd hps pl) pl.length k
      have eS : Tm.hwF d o (Tm.erF ps pl) pl.length (k + 1) = (Tm.todF o (Tm.hwF d o (Tm.erF ps pl) pl.length k).2 (Tm.erF ps pl (pl.length - 1 - k)) * d.2 + d.1 * (Tm.hwF d o (Tm.erF ps pl) pl.length k).1, (Tm.hwF d o (Tm.erF ps pl) pl.length k).2 * d.2) := rfl
      have fd := Tm.tod_none (d := d) (o := o) (by omega) (Tm.erF ps pl) pl.length k
      have hbt := Tm.hw_bot d o (Tm.erF ps pl) pl.length k
      rw [eS]
      have a1 : atI ((List.range pl.length).map (Tm.erF ps pl)) ((((List.range pl.length).map (Tm.erF ps pl)).length : Int) - 1 - (k : Int)) = some (Tm.erF ps pl (pl.length - 1 - k)) := by
        rw [el, show (pl.length : Int) - 1 - (k : Int) = ((pl.length - 1 - k : Nat) : Int) by omega]
        refine atI_nat ?_
        rw [List.getElem?_map, List.getElem?_range (by omega)]
        rfl
      have rB := Tm.er_bd hps pl (pl.length - 1 - k)
      refine S.asg (A := rOpt rInt) (a := Tm.erF ps pl (pl.length - 1 - k)) (by walk_at "ev") ?_
      walk_at "nf"
      have dv : DivX (Tm.hwF d o (Tm.erF ps pl) pl.length k).2 o.2 := ob2.divX (by omega) (by decide)
      have fB : Tm.Bd (1411 + 10 * k) ((Tm.hwF d o (Tm.erF ps pl) pl.length k).2.fdiv o.2) := by
        refine w2.of ?_
        rw [fd, hbt, Int.natAbs_mul o.2]
        exact Nat.le_mul_of_pos_left _ (show 0 < o.2.natAbs by omega)
      clear fd hbt eS
      revert w1 w2 w3 rB a1 dv fB
      generalize Tm.hwF d o (Tm.erF ps pl) pl.length k = h
      generalize Tm.erF ps pl (pl.length - 1 - k) = er
      intro w1 w2 w3 a1 rB dv fB
      have m3 : CMulW o.1 (h.2.fdiv o.2) := Tm.mul_ok ob1 fB (by omega)
      walk_at "asg"
      refine S.cut (β := Unit) (fun _ => True) (fun _ => [.im (rRat K) d, .im (rLst K (rLst K rInt)) ps, .im (rLst K (rOpt rInt)) pl, .im (rRat K) o, .un, .un, .mu (rOpt rInt) ((List.range pl.length).map (Tm.erF ps pl)), .un, .im rInt h.1, .im rInt h.2, .un, .im rInt (Tm.todF o h.2 er)]) (S.one ?_) (fun _ _ => ?_)
      · cases er with
        | none =>
          refine S.ifs (k := false) (eb_is (eb_notN (A := rInt) (by walk_at "ev")) rfl) (fun h => nomatch h) fun _ => S.next ?_
          refine S.to () trivial (Sub.of ?_) rfl
          walk_at "leq"
          all_goals rfl
        | some r =>
          refine S.ifs (k := true) (eb_is (eb_notN (A := rInt) (by walk_at "ev")) rfl) (fun _ => ?_) (fun h => nomatch h)
          refine S.unO (i := 10) rfl ?_
          walk_at "nf"
          have m4 : CMulW r h.2 := Tm.mul_ok (rB r rfl) w2 (by omega)
          walk_at "asg"
          refine S.to () trivial (Sub.of ?_) rfl
          walk_at "leq"
          all_goals rfl
      · have m5 : CMulW (Tm.todF o h.2 er) d.2 := Tm.mul_ok w3 hb (by omega)
        have m6 : CMulW d.1 h.1 := Tm.mul_ok ha w1 (by omega)
        have m7 : CMulW h.2 d.2 := Tm.mul_ok w2 hb (by omega)
        walk_at "asg"
        refine S.one ?_
        walk_at "asg"
        refine S.to1 ?_ rfl
        walk_at "leq"
    · rw [Int.toNat_natCast]
      refine S.ret (ev_is (by walk_at "ev") ?_) q
      rfl
/-! next_rest -/
theorem ok_next_rest (m_len : mg "len" = none) (m_range : mg "range" = none) {f : Addr} {fd : FuncData} (F : Fun K "next_rest" "next_rest" s_next_rest f fd) : FnOk P w K mg base CX0 1 f fd ["days", "sums", "start"] (Sp3 (rLst K rInt) (rLst K rInt) rInt (fun ds ss s => ds.length = ss.length ∧ 0 ≤ s ∧ s + 1 < (ds.length : Int) ∧ (ds.length : Int) ≤ 1000 ∧ (∀ i, Tm.Bd 9000 (Tm.rdl ds i)) ∧ ∀ i, Tm.Bd 9000 (Tm.rdl ss i)) (fun ds ss s => retI rInt (Tm.nextF (Tm.rdl ds) (Tm.rdl ss) (ds.length - 1) s.toNat : Int))) := by
  refine F.ok sc_next_rest (fun vs H Q E h => Sp3.len h) (fun cdv A outer s H vs Q E hr h => ?_)
  obtain ⟨F0, v0, v1, v2, ds, ss, s, he, rfl, h0, h1, h2, hp, q⟩ := h
  refine ⟨_, (pss_cons (ps_set (i := 3) sc_next_rest.nd rfl (Or.inl rfl) (p_add (pv 2) pe_int)) (pss_cons (ps_for PassesOwn.never rfl (pi_range2 (by rfl) m_range (pa_cons (p_add (pv 2) pe_int) (pa_cons (p_len (K := K) (by rfl) m_len (pv 0)) pa_nil))) (pg_name (i := 4) sc_next_rest.nd rfl (Or.inl rfl)) (pss_cons (ps_set (i := 5) sc_next_rest.nd rfl (Or.inl rfl) (p_mul (p_sub (p_ixL (K := K) (pv 1) (pv 4)) (p_ixL (K := K) (pv 1) (pv 2))) (p_sub (p_ixL (K := K) (pv 0) (pv 3)) (p_ixL (K := K) (pv 0) (pv 2))))) (pss_cons (ps_set (i := 6) sc_next_rest.nd rfl (Or.inl rfl) (p_mul (p_sub (p_ixL (K := K) (pv 1) (pv 3)) (p_ixL (K := K) (pv 1) (pv 2))) (p_sub (p_ixL (K := K) (pv 0) (pv 4)) (p_ixL (K := K) (pv 0) (pv 2))))) (pss_one (ps_if (q_gt (pv 5) (pv 6)) (pss_one (ps_set (i := 3) sc_next_rest.nd rfl (Or.inl rfl) (pv 4))) pss_nil))))) (pss_one (ps_ret (pv 3))))), ?_⟩
  refine body3 he h0 h1 h2 ?_
  try dsimp only [cxOf, Cx.nox, Cx.wish]
  show S _ _ [.im (rLst K rInt) ds, .im (rLst K rInt) ss, .im rInt s, .un, .un, .un, .un] _
  obtain ⟨hl, s0, s1, h1, bd, bs⟩ := hp
  obtain ⟨s, rfl⟩ : ∃ n : Nat, s = (n : Int) := ⟨s.toNat, by omega⟩
  walk_at "asg"
  refine S.forR2 (j := 4) (by walk_at "ev") (by walk_at "ev") ⟨by omega, by omega⟩ ⟨by omega, by omega⟩ (fun i => [.im (rLst K rInt) ds, .im (rLst K rInt) ss, .im rInt (s : Int), .im rInt (Tm.nx (Tm.rdl ds) (Tm.rdl ss) s i : Int), .un, .un, .un]) (by refine Sub.of ?_; walk_at "leq" <;> first | rfl | omega | simp) (fun F1 i _ hi => ?_) ?_
  · walk_at "nf"
    have hn := Tm.nx_le (D := Tm.rdl ds) (S := Tm.rdl ss) s i
    generalize hb : Tm.nx (Tm.rdl ds) (Tm.rdl ss) s i = b at hn ⊢
    have a1 : atI ds (b : Int) = some (Tm.rdl ds b) := Tm.rdl_at (by omega)
    have a2 : atI ss (b : Int) = some (Tm.rdl ss b) := Tm.rdl_at (by omega)
    have a3 : atI ds ((s : Int) + 2 + (i : Int)) = some (Tm.rdl ds (s + 2 + i)) := by
      have e := Tm.rdl_at (rs := ds) (i := s + 2 + i) (by omega)
      rwa [show ((s + 2 + i : Nat) : Int) = (s : Int) + 2 + (i : Int) by omega] at e
    have a4 : atI ss ((s : Int) + 2 + (i : Int)) = some (Tm.rdl ss (s + 2 + i)) := by
      have e := Tm.rdl_at (rs := ss) (i := s + 2 + i) (by omega)
      rwa [show ((s + 2 + i : Nat) : Int) = (s : Int) + 2 + (i : Int) by omega] at e
    have a5 : atI ds (s : Int) = some (Tm.rdl ds s) := Tm.rdl_at (by omega)
    have a6 : atI ss (s : Int) = some (Tm.rdl ss s) := Tm.rdl_at (by omega)
    have m1 : CMulW (Tm.rdl ss (s + 2 + i) - Tm.rdl ss s) (Tm.rdl ds b - Tm.rdl ds s) := Tm.mul_ok ((bs _).sub (bs _)) ((bd _).sub (bd _)) (by decide)
    have m2 : CMulW (Tm.rdl ss b - Tm.rdl ss s) (Tm.rdl ds (s + 2 + i) - Tm.rdl ds s) := Tm.mul_ok ((bs _).sub (bs _)) ((bd _).sub (bd _)) (by decide)
    walk_at "asg"
    walk_at "asg"
    refine S.one (S.ifAsg (A := rInt) (by walk_at "ev") rfl (fun _ => (by walk_at "ev")) ?_)
    walk_at "nf"
    refine S.to1 ?_ rfl
    walk_at "leq"
    show _ = ((Tm.nx (Tm.rdl ds) (Tm.rdl ss) s (i + 1) : Nat) : Int)
    unfold Tm.nx
    rw [hb]
    simp only [decide_eq_true_eq]
    split <;> omega
  · refine S.ret (ev_is (by walk_at "ev") ?_) q
    show ((Tm.nx (Tm.rdl ds) (Tm.rdl ss) s _ : Nat) : Int) = ((Tm.nx (Tm.rdl ds) (Tm.rdl ss) (s : Int).toNat _ : Nat) : Int)
    rw [Int.toNat_natCast, show ((ds.length : Int) - ((s : Int) + 2)).toNat = ds.length - 1 - s - 1 by omega]
/-! powers -/
theorem ok_powers (m_range : mg "range" = none) {f : Addr} {fd : FuncData} (F : Fun K "powers" "powers" s_powers f fd) : FnOk P w K mg base CX0 1 f fd ["base", "count"] (Sp2 rInt rInt (fun b n => Tm.Bd 10 b ∧ 0 ≤ n ∧ n ≤ 10000) (fun b n => retN rInt (Tm.powL b n.toNat))) := by
  refine F.ok sc_powers (fun vs H Q E h => Sp2.len h) (fun cdv A outer s H vs Q E hr h => ?_)
  obtain ⟨F0, v0, v1, b, n, he, rfl, h0, h1, hp, q⟩ := h
  refine ⟨_, (pss_cons (ps_set (i := 2) sc_powers.nd rfl (Or.inl rfl) (p_lst (K := K) pa_nil)) (pss_cons (ps_set (i := 3) sc_powers.nd rfl (Or.inl rfl) pe_int) (pss_cons (ps_for PassesOwn.never rfl (pi_range1 (by rfl) m_range (pa_cons (pv 1) pa_nil)) (pg_name (i := 4) sc_powers.nd rfl (Or.inl rfl)) (pss_cons (ps_expr (pe_bm PySem.F.plainAttrs_list PySem.F.slot_list_append PySem.F.type_list_append mt_append (pv 2) (pa_cons (pv 3) pa_nil))) (pss_one (ps_set (i := 3) sc_powers.nd rfl (Or.inl rfl) (p_mul (pv 3) (pv 0)))))) (pss_one (ps_ret (pv 2)))))), ?_⟩
  refine body2 he h0 h1 ?_
  try dsimp only [cxOf, Cx.nox, Cx.wish]
  show S _ _ [.im rInt b, .im rInt n, .un, .un, .un] _
  obtain ⟨hb, n0, n1⟩ := hp
  refine S.asgN (A := rInt) (as := []) (by walk_at "ev") ?_
  walk_at "nf"
  walk_at "asg"
  refine S.forR (j := 4) (by walk_at "ev") ⟨by omega, by omega⟩ (fun i => [.im rInt b, .im rInt n, .mu rInt (Tm.powL b i), .im rInt (b ^ i), .un]) (by refine Sub.of ?_; walk_at "leq" <;> first | rfl | omega | simp) (fun F1 i _ hi => ?_) ?_
  · walk_at "nf"
    refine S.app rfl (by walk_at "ev") (by rw [Tm.powL_len]; omega) ?_
    walk_at "nf"
    have m1 : CMulW (b ^ i) b := Tm.mul_ok (hb.pow i) hb (by omega)
    refine S.one ?_
    walk_at "asg"
    refine S.to1 ?_ rfl
    walk_at "leq"
    · exact (Tm.powL_succ b i).symm
    · exact (Int.pow_succ b i).symm
  · exact S.retM rfl q
/-! day_weights -/
theorem ok_day_weights (m_range : mg "range" = none) (G_powers : Kn CX0 P w K mg base "powers" 1 ["base", "count"] (Sp2 rInt rInt (fun b n => Tm.Bd 10 b ∧ 0 ≤ n ∧ n ≤ 10000) (fun b n => retN rInt (Tm.powL b n.toNat)))) {f : Addr} {fd : FuncData} (F : Fun K "day_weights" "day_weights" s_day_weights f fd) : FnOk P w K mg base CX0 2 f fd ["discount", "count"] (Sp2 (rRat K) rInt (fun d n => Tm.Bd 10 d.1 ∧ Tm.Bd 10 d.2 ∧ 0 ≤ n ∧ n ≤ 10000) (fun d n => retN rInt (Tm.wts d.1 d.2 n.toNat))) := by
  refine F.ok sc_day_weights (fun vs H Q E h => Sp2.len h) (fun cdv A outer s H vs Q E hr h => ?_)
  obtain ⟨F0, v0, v1, d, n, he, rfl, h0, h1, hp, q⟩ := h
  refine ⟨_, (pss_cons (ps_set (i := 2) sc_day_weights.nd rfl (Or.inr rfl) (p_call G_powers (hr.mono (by decide)) (by rfl) (pa_cons (p_fst (K := K) (pv 0)) (pa_cons (pv 1) pa_nil)))) (pss_cons (ps_set (i := 3) sc_day_weights.nd rfl (Or.inr rfl) (p_call G_powers (hr.mono (by decide)) (by rfl) (pa_cons (p_snd (K := K) (pv 0)) (pa_cons (pv 1) pa_nil)))) (pss_one (ps_ret (pe_lc (own := [("day", 4)]) rfl sc_day_weights.nd (pi_range1 (by rfl) m_range (pa_cons (pv 1) pa_nil)) (blkOk_by (own := [("day", 4)]) (N := ["discount", "count", "rising", "falling", "day"]) (sc := defScope s_day_weights) (by decide +kernel)) (fun _ _ _ _ _ => (pg_name (i := 4) sc_day_weights.nd rfl (Or.inl rfl))) (fun _ _ _ _ _ => pts_nil) (fun _ _ _ _ _ => (p_mul (p_ixL (K := K) (pv 2) (pv 4)) (p_ixL (K := K) (pv 3) (p_sub (p_sub (pv 1) pe_int) (pv 4)))))))))), ?_⟩
  refine body2 he h0 h1 ?_
  try dsimp only [cxOf, Cx.nox, Cx.wish]
  show S _ _ [.im (rRat K) d, .im rInt n, .un, .un, .un] _
  obtain ⟨ha, hb, n0, n1⟩ := hp
  have p1 : Tm.Bd 10 d.1 ∧ 0 ≤ n ∧ n ≤ 10000 := ⟨ha, n0, n1⟩
  have p2 : Tm.Bd 10 d.2 ∧ 0 ≤ n ∧ n ≤ 10000 := ⟨hb, n0, n1⟩
  refine S.asg (A := rLst K rInt) (by walk_at "ev") ?_
  walk_at "nf"
  refine S.asg (A := rLst K rInt) (by walk_at "ev") ?_
  walk_at "nf"
  refine S.retL (en_is (en_mapR (C := rInt) (Tm.wt d.1 d.2 n.toNat) (by walk_at "ev") (by omega) (by omega) (by decide) (fun i hi => ?_)) rfl) q
  have h1 : atI (Tm.powL d.1 n.toNat) (i : Int) = some (d.1 ^ i) := atI_nat (Tm.powL_get (by omega))
  have h2 : atI (Tm.powL d.2 n.toNat) (n - 1 - (i : Int)) = some (d.2 ^ (n.toNat - 1 - i)) := by
    rw [show n - 1 - (i : Int) = ((n.toNat - 1 - i : Nat) : Int) by omega]
    exact atI_nat (Tm.powL_get (by omega))
  have m1 : CMulW (d.1 ^ i) (d.2 ^ (n.toNat - 1 - i)) := Tm.mul_ok (ha.pow i) (hb.pow _) (by omega)
  refine ev_is (by walk_at "ev") ?_
  rfl
/-! scaled_points -/
theorem ok_scaled_points (m_len : mg "len" = none) (m_range : mg "range" = none) (G_day_weights : Kn CX0 P w K mg base "day_weights" 2 ["discount", "count"] (Sp2 (rRat K) rInt (fun d n => Tm.Bd 10 d.1 ∧ Tm.Bd 10 d.2 ∧ 0 ≤ n ∧ n ≤ 10000) (fun d n => retN rInt (Tm.wts d.1 d.2 n.toNat)))) {f : Addr} {fd : FuncData} (F : Fun K "scaled_points" "scaled_points" s_scaled_points f fd) : FnOk P w K mg base CX0 3 f fd ["discount", "rewards"] (Sp2 (rRat K) (rSeq K rInt) (fun d rs => Tm.Dis d ∧ Tm.Rws rs) (fun d rs => retI (rT2 K (rLst K rInt) (rLst K rInt)) (Tm.pl d.1 d.2 rs.length Tm.one rs.length, Tm.pl d.1 d.2 rs.length (Tm.rdl rs) rs.length))) := by
  refine F.ok sc_scaled_points (fun vs H Q E h => Sp2.len h) (fun cdv A outer s H vs Q E hr h => ?_)
  obtain ⟨F0, v0, v1, d, rs, he, rfl, h0, h1, hp, q⟩ := h
  refine ⟨_, (pss_cons (ps_set (i := 2) sc_scaled_points.nd rfl (Or.inl rfl) (p_call G_day_weights (hr.mono (by decide)) (by rfl) (pa_cons (pv 0) (pa_cons (p_lenQ (K := K) (by rfl) m_len (pv 1)) pa_nil)))) (pss_cons (ps_set (i := 3) sc_scaled_points.nd rfl (Or.inl rfl) (p_lst (K := K) (pa_cons pe_int pa_nil))) (pss_cons (ps_set (i := 4) sc_scaled_points.nd rfl (Or.inl rfl) (p_lst (K := K) (pa_cons pe_int pa_nil))) (pss_cons (ps_for PassesOwn.never rfl (pi_range1 (by rfl) m_range (pa_cons (p_lenQ (K := K) (by rfl) m_len (pv 1)) pa_nil)) (pg_name (i := 5) sc_scaled_points.nd rfl (Or.inl rfl)) (pss_cons (ps_expr (pe_bm PySem.F.plainAttrs_list PySem.F.slot_list_append PySem.F.type_list_append mt_append (pv 3) (pa_cons (p_add (p_ixM (K := K) (pv 3) (pv 5)) (p_ixL (K := K) (pv 2) (pv 5))) pa_nil))) (pss_one (ps_expr (pe_bm PySem.F.plainAttrs_list PySem.F.slot_list_append PySem.F.type_list_append mt_append (pv 4) (pa_cons (p_add (p_ixM (K := K) (pv 4) (pv 5)) (p_mul (p_ixL (K := K) (pv 2) (pv 5)) (p_ixQ (K := K) (pv 1) (pv 5)))) pa_nil)))))) (pss_one (ps_ret (p_t2 (K := K) (pv 3) (pv 4)))))))), ?_⟩
  refine body2 he h0 h1 ?_
  try dsimp only [cxOf, Cx.nox, Cx.wish]
  show S _ _ [.im (rRat K) d, .im (rSeq K rInt) rs, .un, .un, .un, .un] _
  obtain ⟨hd, hr⟩ := hp
  obtain ⟨ha, hb, a0, b0⟩ := hd.bd
  have h60 := hr.1
  have p1 : Tm.Bd 10 d.1 ∧ Tm.Bd 10 d.2 ∧ 0 ≤ (rs.length : Int) ∧ (rs.length : Int) ≤ 10000 := ⟨ha, hb, by omega, by omega⟩
  refine S.asg (A := rLst K rInt) (by walk_at "ev") ?_
  walk_at "nf"
  rw [Int.toNat_natCast]
  refine S.asgN (A := rInt) (as := [0]) (by walk_at "ev") ?_
  walk_at "nf"
  refine S.asgN (A := rInt) (as := [0]) (by walk_at "ev") ?_
  walk_at "nf"
  refine S.forR (j := 5) (by walk_at "ev") ⟨by omega, by omega⟩ (fun i => [.im (rRat K) d, .im (rSeq K rInt) rs, .im (rLst K rInt) (Tm.wts d.1 d.2 rs.length), .mu rInt (Tm.pl d.1 d.2 rs.length Tm.one i), .mu rInt (Tm.pl d.1 d.2 rs.length (Tm.rdl rs) i), .un]) (by refine Sub.of ?_; walk_at "leq" <;> first | rfl | omega | simp) (fun F1 i _ hi => ?_) ?_
  · walk_at "nf"
    have hi' : i < rs.length := by omega
    have x1 : atI (Tm.pl d.1 d.2 rs.length Tm.one i) (i : Int) = some (Tm.ws d.1 d.2 rs.length Tm.one i) := atI_nat (Tm.pl_at (Nat.le_refl i))
    have x2 : atI (Tm.pl d.1 d.2 rs.length (Tm.rdl rs) i) (i : Int) = some (Tm.ws d.1 d.2 rs.length (Tm.rdl rs) i) := atI_nat (Tm.pl_at (Nat.le_refl i))
    have x3 : atI (Tm.wts d.1 d.2 rs.length) (i : Int) = some (Tm.wt d.1 d.2 rs.length i) := atI_nat (Tm.wts_get hi')
    have x4 := Tm.rdl_at hi'
    have m1 : CMulW (Tm.wt d.1 d.2 rs.length i) (Tm.rdl rs i) := Tm.mul_ok (Tm.Bd.wt ha hb hi') (hr.bd i) (by omega)
    refine S.app rfl (by walk_at "ev") (by rw [Tm.pl_len]; omega) ?_
    walk_at "nf"
    refine S.one (S.app rfl (by walk_at "ev") (by rw [Tm.pl_len]; omega) ?_)
    walk_at "nf"
    refine S.to1 ?_ rfl
    walk_at "leq"
    · rw [Tm.pl_succ]
      show _ = _ ++ [Tm.ws d.1 d.2 rs.length Tm.one i + Tm.wt d.1 d.2 rs.length i * 1]
      rw [Int.mul_one]
    · rw [Tm.pl_succ]
      rfl
  · rw [Int.toNat_natCast]
    refine S.frz (i := 3) K rfl ?_
    refine S.frz (i := 4) K rfl ?_
    walk_at "nf"
    exact S.ret (by walk_at "ev") q
/-! rests -/
theorem ok_rests (m_len : mg "len" = none) (G_next_rest : Kn CX0 P w K mg base "next_rest" 1 ["days", "sums", "start"] (Sp3 (rLst K rInt) (rLst K rInt) rInt (fun ds ss s => ds.length = ss.length ∧ 0 ≤ s ∧ s + 1 < (ds.length : Int) ∧ (ds.length : Int) ≤ 1000 ∧ (∀ i, Tm.Bd 9000 (Tm.rdl ds i)) ∧ ∀ i, Tm.Bd 9000 (Tm.rdl ss i)) (fun ds ss s => retI rInt (Tm.nextF (Tm.rdl ds) (Tm.rdl ss) (ds.length - 1) s.toNat : Int)))) (G_scaled_points : Kn CX0 P w K mg base "scaled_points" 3 ["discount", "rewards"] (Sp2 (rRat K) (rSeq K rInt) (fun d rs => Tm.Dis d ∧ Tm.Rws rs) (fun d rs => retI (rT2 K (rLst K rInt) (rLst K rInt)) (Tm.pl d.1 d.2 rs.length Tm.one rs.length, Tm.pl d.1 d.2 rs.length (Tm.rdl rs) rs.length)))) {f : Addr} {fd : FuncData} (F : Fun K "rests" "rests" s_rests f fd) : FnOk P w K mg base CX0 4 f fd ["discount", "rewards"] (Sp2 (rRat K) (rSeq K rInt) (fun d rs => Tm.Dis d ∧ Tm.Rws rs) (fun d rs => retN rInt ((Tm.restsF (Tm.ws d.1 d.2 rs.length Tm.one) (Tm.ws d.1 d.2 rs.length (Tm.rdl rs)) rs.length).map fun k : Nat => (k : Int)))) := by
  refine F.ok sc_rests (fun vs H Q E h => Sp2.len h) (fun cdv A outer s H vs Q E hr h => ?_)
  obtain ⟨F0, v0, v1, d, rs, he, rfl, h0, h1, hp, q⟩ := h
  refine ⟨_, (pss_cons (ps_asg (p_call G_scaled_points (hr.mono (by decide)) (by rfl) (pa_cons (pv 0) (pa_cons (pv 1) pa_nil))) (p_gtup (K := K) (n := 2) rfl (pgs_cons (pg_name (i := 2) sc_rests.nd rfl (Or.inl rfl)) (pgs_cons (pg_name (i := 3) sc_rests.nd rfl (Or.inl rfl)) pgs_nil)))) (pss_cons (ps_set (i := 4) sc_rests.nd rfl (Or.inl rfl) (p_lst (K := K) (pa_cons pe_int pa_nil))) (pss_cons (ps_while PassesOwn.never (q_lt (p_ixM (K := K) (pv 4) (p_neg pe_int)) (p_lenQ (K := K) (by rfl) m_len (pv 1))) (pss_one (ps_expr (pe_bm PySem.F.plainAttrs_list PySem.F.slot_list_append PySem.F.type_list_append mt_append (pv 4) (pa_cons (p_call G_next_rest (hr.mono (by decide)) (by rfl) (pa_cons (pv 2) (pa_cons (pv 3) (pa_cons (p_ixM (K := K) (pv 4) (p_neg pe_int)) pa_nil)))) pa_nil))))) (pss_one (ps_ret (pv 4)))))), ?_⟩
  refine body2 he h0 h1 ?_
  try dsimp only [cxOf, Cx.nox, Cx.wish]
  show S _ _ [.im (rRat K) d, .im (rSeq K rInt) rs, .un, .un, .un] _
  have hp' := hp
  obtain ⟨hd, hr⟩ := hp
  obtain ⟨ha, hb, a0, b0⟩ := hd.bd
  have h60 := hr.1
  refine S.asgT (A := rT2 K (rLst K rInt) (rLst K rInt)) (by walk_at "ev") (tg_2 (tg_name 2) (tg_name 3)) ?_
  walk_at "nf"
  refine S.asgN (A := rInt) (as := [0]) (by walk_at "ev") ?_
  walk_at "nf"
  have up : Tm.Up (Tm.ws d.1 d.2 rs.length Tm.one) rs.length := fun i j hij _ => Tm.ws_one_up a0 b0 _ i j hij
  have l1 := Tm.pl_len d.1 d.2 rs.length Tm.one rs.length
  have l2 := Tm.pl_len d.1 d.2 rs.length (Tm.rdl rs) rs.length
  have BB : ∀ (r : Nat → Int), (∀ i, Tm.Bd 31 (r i)) → ∀ i, Tm.Bd 9000 (Tm.rdl (Tm.pl d.1 d.2 rs.length r rs.length) i) := fun r hB i => by
    by_cases q : i ≤ rs.length
    · rw [Tm.pl_rdl q]
      exact (Tm.Bd.ws (m := 31) ha hb q fun i _ => hB i).le (by omega)
    · unfold Tm.rdl
      rw [List.getD_eq_getElem?_getD, List.getElem?_eq_none (by rw [Tm.pl_len]; omega)]
      exact Tm.Bd.zero
  have nxe : ∀ s, s < rs.length → Tm.nextF (Tm.rdl (Tm.pl d.1 d.2 rs.length Tm.one rs.length)) (Tm.rdl (Tm.pl d.1 d.2 rs.length (Tm.rdl rs) rs.length)) rs.length s = Tm.nextF (Tm.ws d.1 d.2 rs.length Tm.one) (Tm.ws d.1 d.2 rs.length (Tm.rdl rs)) rs.length s := fun s hs => by
    have u2 : Tm.Up (Tm.rdl (Tm.pl d.1 d.2 rs.length Tm.one rs.length)) rs.length := fun i j hij hj => by
      rw [Tm.pl_rdl (by omega), Tm.pl_rdl hj]
      exact up i j hij hj
    have q1 := Tm.next_top (S := Tm.rdl (Tm.pl d.1 d.2 rs.length (Tm.rdl rs) rs.length)) u2 hs
    have q2 := Tm.next_top (S := Tm.ws d.1 d.2 rs.length (Tm.rdl rs)) up hs
    have q3 : Tm.NR (Tm.ws d.1 d.2 rs.length Tm.one) (Tm.ws d.1 d.2 rs.length (Tm.rdl rs)) rs.length s (Tm.nextF (Tm.rdl (Tm.pl d.1 d.2 rs.length Tm.one rs.length)) (Tm.rdl (Tm.pl d.1 d.2 rs.length (Tm.rdl rs) rs.length)) rs.length s) := by
      refine ⟨q1.lt, q1.le, fun k h1 h2 => ?_, fun k h1 h2 => ?_⟩
      · have t := q1.top k h1 h2
        rw [Tm.pl_rdl h2, Tm.pl_rdl h2, Tm.pl_rdl q1.le, Tm.pl_rdl q1.le, Tm.pl_rdl (Nat.le_of_lt hs), Tm.pl_rdl (Nat.le_of_lt hs)] at t
        exact t
      · have h3 := Nat.le_trans (Nat.le_of_lt h2) q1.le
        have t := q1.near k h1 h2
        rw [Tm.pl_rdl h3, Tm.pl_rdl h3, Tm.pl_rdl q1.le, Tm.pl_rdl q1.le, Tm.pl_rdl (Nat.le_of_lt hs), Tm.pl_rdl (Nat.le_of_lt hs)] at t
        exact t
    exact q3.uniq q2
  refine S.while (β := List Nat × Nat × Nat) (fun x => Tm.restsF (Tm.ws d.1 d.2 rs.length Tm.one) (Tm.ws d.1 d.2 rs.length (Tm.rdl rs)) rs.length = x.1 ++ [x.2.1] ++ Tm.rsF (Tm.ws d.1 d.2 rs.length Tm.one) (Tm.ws d.1 d.2 rs.length (Tm.rdl rs)) rs.length x.2.2 x.2.1 ∧ x.2.1 ≤ rs.length ∧ rs.length ≤ x.2.1 + x.2.2 ∧ x.1.length ≤ x.2.1) (fun x => [.im (rRat K) d, .im (rSeq K rInt) rs, .im (rLst K rInt) (Tm.pl d.1 d.2 rs.length Tm.one rs.length), .im (rLst K rInt) (Tm.pl d.1 d.2 rs.length (Tm.rdl rs) rs.length), .mu rInt ((x.1 ++ [x.2.1]).map fun k : Nat => (k : Int))]) (fun x => rs.length - x.2.1) (fun x => decide (x.2.1 < rs.length)) ([], 0, rs.length) ⟨rfl, Nat.zero_le _, by show rs.length ≤ 0 + rs.length; omega, Nat.le_refl _⟩ (by refine Sub.of ?_; walk_at "leq" <;> first | rfl | omega | simp) (fun x hx => ?_) (fun x hx hb => ?_) (fun x hx hb => ?_)
  · have g : atI ((x.1 ++ [x.2.1]).map fun k : Nat => (k : Int)) (-1) = some ((x.2.1 : Nat) : Int) := by
      rw [List.map_append]
      exact atI_last _ _
    refine eb_is (by walk_at "ev") ?_
    by_cases z : x.2.1 < rs.length
    · rw [decide_eq_true z, decide_eq_true (by omega)]
    · rw [decide_eq_false z, decide_eq_false (by omega)]
  · have hlt : x.2.1 < rs.length := of_decide_eq_true hb
    have g : atI ((x.1 ++ [x.2.1]).map fun k : Nat => (k : Int)) (-1) = some ((x.2.1 : Nat) : Int) := by
      rw [List.map_append]
      exact atI_last _ _
    have pn : (Tm.pl d.1 d.2 rs.length Tm.one rs.length).length = (Tm.pl d.1 d.2 rs.length (Tm.rdl rs) rs.length).length ∧ 0 ≤ ((x.2.1 : Nat) : Int) ∧ ((x.2.1 : Nat) : Int) + 1 < ((Tm.pl d.1 d.2 rs.length Tm.one rs.length).length : Int) ∧ ((Tm.pl d.1 d.2 rs.length Tm.one rs.length).length : Int) ≤ 1000 ∧ (∀ i, Tm.Bd 9000 (Tm.rdl (Tm.pl d.1 d.2 rs.length Tm.one rs.length) i)) ∧ ∀ i, Tm.Bd 9000 (Tm.rdl (Tm.pl d.1 d.2 rs.length (Tm.rdl rs) rs.length) i) := ⟨by rw [l1, l2], by omega, by rw [l1]; omega, by rw [l1]; omega, BB Tm.one fun i => Tm.Bd.one (by decide), BB (Tm.rdl rs) hr.bd⟩
    refine S.one (S.app rfl (by walk_at "ev") (by rw [List.length_map, List.length_append]; have := hx.2.2.2; show x.1.length + 1 < 100000; omega) ?_)
    walk_at "nf"
    have q2 := Tm.next_top (S := Tm.ws d.1 d.2 rs.length (Tm.rdl rs)) up hlt
    obtain ⟨f, hf⟩ : ∃ f, x.2.2 = f + 1 := ⟨x.2.2 - 1, by have := hx.2.2.1; omega⟩
    have P1 : Tm.restsF (Tm.ws d.1 d.2 rs.length Tm.one) (Tm.ws d.1 d.2 rs.length (Tm.rdl rs)) rs.length = (x.1 ++ [x.2.1]) ++ [Tm.nextF (Tm.ws d.1 d.2 rs.length Tm.one) (Tm.ws d.1 d.2 rs.length (Tm.rdl rs)) rs.length x.2.1] ++ Tm.rsF (Tm.ws d.1 d.2 rs.length Tm.one) (Tm.ws d.1 d.2 rs.length (Tm.rdl rs)) rs.length f (Tm.nextF (Tm.ws d.1 d.2 rs.length Tm.one) (Tm.ws d.1 d.2 rs.length (Tm.rdl rs)) rs.length x.2.1) := by
      rw [hx.1, hf, Tm.rsF, if_pos hlt]
      simp
    have P3 : rs.length ≤ Tm.nextF (Tm.ws d.1 d.2 rs.length Tm.one) (Tm.ws d.1 d.2 rs.length (Tm.rdl rs)) rs.length x.2.1 + f := by
      have := q2.lt
      have := hx.2.2.1
      omega
    have P4 : (x.1 ++ [x.2.1]).length ≤ Tm.nextF (Tm.ws d.1 d.2 rs.length Tm.one) (Tm.ws d.1 d.2 rs.length (Tm.rdl rs)) rs.length x.2.1 := by
      have := q2.lt
      have := hx.2.2.2
      rw [List.length_append]
      show x.1.length + 1 ≤ _
      omega
    have P5 : rs.length - Tm.nextF (Tm.ws d.1 d.2 rs.length Tm.one) (Tm.ws d.1 d.2 rs.length (Tm.rdl rs)) rs.length x.2.1 < rs.length - x.2.1 := by
      have := q2.lt
      omega
    refine S.toX (β := List Nat × Nat × Nat) (x.1 ++ [x.2.1], Tm.nextF (Tm.ws d.1 d.2 rs.length Tm.one) (Tm.ws d.1 d.2 rs.length (Tm.rdl rs)) rs.length x.2.1, f) ⟨⟨P1, q2.le, P3, P4⟩, P5⟩ ?_ rfl
    walk_at "leq"
    rw [l1, Int.toNat_natCast, Nat.add_sub_cancel, nxe _ hlt, List.map_append, List.map_append, List.map_append]
    rfl
  · have he : x.2.1 = rs.length := by have := of_decide_eq_false hb; have := hx.2.1; omega
    have hz : Tm.rsF (Tm.ws d.1 d.2 rs.length Tm.one) (Tm.ws d.1 d.2 rs.length (Tm.rdl rs)) rs.length x.2.2 x.2.1 = [] := by
      rw [he]
      cases x.2.2 with
      | zero => rfl
      | succ f => rw [Tm.rsF, if_neg (Nat.lt_irrefl _)]
    rw [hx.1, hz, List.append_nil] at q
    exact S.retM rfl q
/-! stretches -/
theorem ok_stretches (m_len : mg "len" = none) (m_range : mg "range" = none) (G_make_ratio : Kn CX0 P w K mg base "make_ratio" 2 ["numerator", "denominator"] (Sp2 rInt rInt (fun _ d => d ≠ 0 ∧ Tm.Bd 8999 d) (fun n d => retI (rRat K) (Tm.mkR n d)))) (G_rests : Kn CX0 P w K mg base "rests" 4 ["discount", "rewards"] (Sp2 (rRat K) (rSeq K rInt) (fun d rs => Tm.Dis d ∧ Tm.Rws rs) (fun d rs => retN rInt ((Tm.restsF (Tm.ws d.1 d.2 rs.length Tm.one) (Tm.ws d.1 d.2 rs.length (Tm.rdl rs)) rs.length).map fun k : Nat => (k : Int))))) (G_scaled_points : Kn CX0 P w K mg base "scaled_points" 3 ["discount", "rewards"] (Sp2 (rRat K) (rSeq K rInt) (fun d rs => Tm.Dis d ∧ Tm.Rws rs) (fun d rs => retI (rT2 K (rLst K rInt) (rLst K rInt)) (Tm.pl d.1 d.2 rs.length Tm.one rs.length, Tm.pl d.1 d.2 rs.length (Tm.rdl rs) rs.length)))) {f : Addr} {fd : FuncData} (F : Fun K "stretches" "stretches" s_stretches f fd) : FnOk P w K mg base CX0 5 f fd ["discount", "rewards"] (Sp2 (rRat K) (rSeq K rInt) (fun d rs => Tm.Dis d ∧ Tm.Rws rs) (fun d rs => retN (rT3 K (rRat K) rInt rInt) (Tm.strL (Tm.ws d.1 d.2 rs.length Tm.one) (Tm.ws d.1 d.2 rs.length (Tm.rdl rs)) 0 (Tm.rsF (Tm.ws d.1 d.2 rs.length Tm.one) (Tm.ws d.1 d.2 rs.length (Tm.rdl rs)) rs.length rs.length 0)))) := by
  refine F.ok sc_stretches (fun vs H Q E h => Sp2.len h) (fun cdv A outer s H vs Q E hr h => ?_)
  obtain ⟨F0, v0, v1, d, rs, he, rfl, h0, h1, hp, q⟩ := h
  refine ⟨_, (pss_cons (ps_asg (p_call G_scaled_points (hr.mono (by decide)) (by rfl) (pa_cons (pv 0) (pa_cons (pv 1) pa_nil))) (p_gtup (K := K) (n := 2) rfl (pgs_cons (pg_name (i := 2) sc_stretches.nd rfl (Or.inl rfl)) (pgs_cons (pg_name (i := 3) sc_stretches.nd rfl (Or.inl rfl)) pgs_nil)))) (pss_cons (ps_set (i := 4) sc_stretches.nd rfl (Or.inl rfl) (p_call G_rests (hr.mono (by decide)) (by rfl) (pa_cons (pv 0) (pa_cons (pv 1) pa_nil)))) (pss_cons (ps_set (i := 5) sc_stretches.nd rfl (Or.inl rfl) (p_lst (K := K) pa_nil)) (pss_cons (ps_for PassesOwn.never rfl (pi_range1 (by rfl) m_range (pa_cons (p_sub (p_len (K := K) (by rfl) m_len (pv 4)) pe_int) pa_nil)) (pg_name (i := 6) sc_stretches.nd rfl (Or.inl rfl)) (pss_cons (ps_set (i := 7) sc_stretches.nd rfl (Or.inl rfl) (p_ixL (K := K) (pv 4) (pv 6))) (pss_cons (ps_set (i := 8) sc_stretches.nd rfl (Or.inl rfl) (p_ixL (K := K) (pv 4) (p_add (pv 6) pe_int))) (pss_cons (ps_set (i := 9) sc_stretches.nd rfl (Or.inl rfl) (p_call G_make_ratio (hr.mono (by decide)) (by rfl) (pa_cons (p_sub (p_ixL (K := K) (pv 3) (pv 8)) (p_ixL (K := K) (pv 3) (pv 7))) (pa_cons (p_sub (p_ixL (K := K) (pv 2) (pv 8)) (p_ixL (K := K) (pv 2) (pv 7))) pa_nil)))) (pss_one (ps_expr (pe_bm PySem.F.plainAttrs_list PySem.F.slot_list_append PySem.F.type_list_append mt_append (pv 5) (pa_cons (p_t3 (K := K) (pv 9) (pv 7) (pv 8)) pa_nil)))))))) (pss_one (ps_ret (pv 5))))))), ?_⟩
  refine body2 he h0 h1 ?_
  try dsimp only [cxOf, Cx.nox, Cx.wish]
  show S _ _ [.im (rRat K) d, .im (rSeq K rInt) rs, .un, .un, .un, .un, .un, .un, .un, .un] _
  have hp' := hp
  obtain ⟨hd, hr⟩ := hp
  obtain ⟨ha, hb, a0, b0⟩ := hd.bd
  have h60 := hr.1
  have up : Tm.Up (Tm.ws d.1 d.2 rs.length Tm.one) rs.length := fun i j hij _ => Tm.ws_one_up a0 b0 _ i j hij
  have rc := Tm.rests_ch (S := Tm.ws d.1 d.2 rs.length (Tm.rdl rs)) up
  have pd : Tm.Dis d ∧ Tm.Rws rs := ⟨hd, hr⟩
  have l1 := Tm.pl_len d.1 d.2 rs.length Tm.one rs.length
  have l2 := Tm.pl_len d.1 d.2 rs.length (Tm.rdl rs) rs.length
  have BB : ∀ (r : Nat → Int), (∀ i, Tm.Bd 31 (r i)) → ∀ i, Tm.Bd 9000 (Tm.rdl (Tm.pl d.1 d.2 rs.length r rs.length) i) := fun r hB i => by
    by_cases q : i ≤ rs.length
    · rw [Tm.pl_rdl q]
      exact (Tm.Bd.ws (m := 31) ha hb q fun i _ => hB i).le (by omega)
    · unfold Tm.rdl
      rw [List.getD_eq_getElem?_getD, List.getElem?_eq_none (by rw [Tm.pl_len]; omega)]
      exact Tm.Bd.zero
  have B1 := BB Tm.one fun i => Tm.Bd.one (by decide)
  have B2 := BB (Tm.rdl rs) hr.bd
  refine S.asgT (A := rT2 K (rLst K rInt) (rLst K rInt)) (by walk_at "ev") (tg_2 (tg_name 2) (tg_name 3)) ?_
  walk_at "nf"
  refine S.asg (A := rLst K rInt) (a := ((Tm.restsF (Tm.ws d.1 d.2 rs.length Tm.one) (Tm.ws d.1 d.2 rs.length (Tm.rdl rs)) rs.length).map fun k : Nat => (k : Int))) (by walk_at "ev") ?_
  walk_at "nf"
  refine S.asgN (A := rT3 K (rRat K) rInt rInt) (as := []) (by walk_at "ev") ?_
  walk_at "nf"
  have hll : (((Tm.restsF (Tm.ws d.1 d.2 rs.length Tm.one) (Tm.ws d.1 d.2 rs.length (Tm.rdl rs)) rs.length).map fun k : Nat => (k : Int))).length = (Tm.rsF (Tm.ws d.1 d.2 rs.length Tm.one) (Tm.ws d.1 d.2 rs.length (Tm.rdl rs)) rs.length rs.length 0).length + 1 := by rw [List.length_map]; rfl
  have hlen := rc.len
  refine S.forR (j := 6) (by walk_at "ev") ⟨by omega, by omega⟩ (fun i => [.im (rRat K) d, .im (rSeq K rInt) rs, .im (rLst K rInt) (Tm.pl d.1 d.2 rs.length Tm.one rs.length), .im (rLst K rInt) (Tm.pl d.1 d.2 rs.length (Tm.rdl rs) rs.length), .im (rLst K rInt) ((Tm.restsF (Tm.ws d.1 d.2 rs.length Tm.one) (Tm.ws d.1 d.2 rs.length (Tm.rdl rs)) rs.length).map fun k : Nat => (k : Int)), .mu (rT3 K (rRat K) rInt rInt) ((Tm.strL (Tm.ws d.1 d.2 rs.length Tm.one) (Tm.ws d.1 d.2 rs.length (Tm.rdl rs)) 0 (Tm.rsF (Tm.ws d.1 d.2 rs.length Tm.one) (Tm.ws d.1 d.2 rs.length (Tm.rdl rs)) rs.length rs.length 0)).take i), .un, .un, .un, .un]) (by refine Sub.of ?_; walk_at "leq" <;> first | rfl | omega | simp) (fun F1 i _ hi => ?_) ?_
  · walk_at "nf"
    have hi' : i < (Tm.rsF (Tm.ws d.1 d.2 rs.length Tm.one) (Tm.ws d.1 d.2 rs.length (Tm.rdl rs)) rs.length rs.length 0).length := by omega
    obtain ⟨x, hx⟩ : ∃ x, (0 :: (Tm.rsF (Tm.ws d.1 d.2 rs.length Tm.one) (Tm.ws d.1 d.2 rs.length (Tm.rdl rs)) rs.length rs.length 0))[i]? = some x := ⟨_, List.getElem?_eq_getElem (by rw [List.length_cons]; omega)⟩
    obtain ⟨y, hy⟩ : ∃ y, (0 :: (Tm.rsF (Tm.ws d.1 d.2 rs.length Tm.one) (Tm.ws d.1 d.2 rs.length (Tm.rdl rs)) rs.length rs.length 0))[i + 1]? = some y := ⟨_, List.getElem?_eq_getElem (by rw [List.length_cons]; omega)⟩
    have nr := rc.step i x y hx hy
    have nlt := nr.lt
    have nle := nr.le
    have x1 : atI ((Tm.restsF (Tm.ws d.1 d.2 rs.length Tm.one) (Tm.ws d.1 d.2 rs.length (Tm.rdl rs)) rs.length).map fun k : Nat => (k : Int)) (i : Int) = some (x : Int) := atI_nat (by rw [Tm.restsF, List.getElem?_map, hx]; rfl)
    have x2 : atI ((Tm.restsF (Tm.ws d.1 d.2 rs.length Tm.one) (Tm.ws d.1 d.2 rs.length (Tm.rdl rs)) rs.length).map fun k : Nat => (k : Int)) ((i : Int) + 1) = some (y : Int) := atI_nat (j := i + 1) (by rw [Tm.restsF, List.getElem?_map, hy]; rfl)
    have y1 : atI (Tm.pl d.1 d.2 rs.length Tm.one rs.length) (x : Int) = some (Tm.ws d.1 d.2 rs.length Tm.one x) := atI_nat (Tm.pl_at (by omega))
    have y2 : atI (Tm.pl d.1 d.2 rs.length Tm.one rs.length) (y : Int) = some (Tm.ws d.1 d.2 rs.length Tm.one y) := atI_nat (Tm.pl_at nle)
    have y3 : atI (Tm.pl d.1 d.2 rs.length (Tm.rdl rs) rs.length) (x : Int) = some (Tm.ws d.1 d.2 rs.length (Tm.rdl rs) x) := atI_nat (Tm.pl_at (by omega))
    have y4 : atI (Tm.pl d.1 d.2 rs.length (Tm.rdl rs) rs.length) (y : Int) = some (Tm.ws d.1 d.2 rs.length (Tm.rdl rs) y) := atI_nat (Tm.pl_at nle)
    have d0 := up x y nlt nle
    have w : ∀ k, k ≤ rs.length → Tm.Bd 3000 (Tm.ws d.1 d.2 rs.length Tm.one k) := fun k hk => (Tm.Bd.ws (m := 31) ha hb hk fun i _ => Tm.Bd.one (by decide)).le (by omega)
    have pm : Tm.ws d.1 d.2 rs.length Tm.one y - Tm.ws d.1 d.2 rs.length Tm.one x ≠ 0 ∧ Tm.Bd 8999 (Tm.ws d.1 d.2 rs.length Tm.one y - Tm.ws d.1 d.2 rs.length Tm.one x) := ⟨by omega, ((w y nle).sub (w x (by omega))).le (by decide)⟩
    walk_at "asg"
    walk_at "asg"
    walk_at "asg"
    refine S.one (S.app rfl (by walk_at "ev") (by rw [List.length_take]; omega) ?_)
    walk_at "nf"
    refine S.to1 ?_ rfl
    walk_at "leq"
    have g := Tm.strL_get (D := Tm.ws d.1 d.2 rs.length Tm.one) (S := Tm.ws d.1 d.2 rs.length (Tm.rdl rs)) 0 (Tm.rsF (Tm.ws d.1 d.2 rs.length Tm.one) (Tm.ws d.1 d.2 rs.length (Tm.rdl rs)) rs.length rs.length 0) i x y hx hy
    rw [List.take_add_one, g]
    rfl
  · have e : ((((Tm.restsF (Tm.ws d.1 d.2 rs.length Tm.one) (Tm.ws d.1 d.2 rs.length (Tm.rdl rs)) rs.length).map fun k : Nat => (k : Int)).length : Int) - 1).toNat = (Tm.strL (Tm.ws d.1 d.2 rs.length Tm.one) (Tm.ws d.1 d.2 rs.length (Tm.rdl rs)) 0 (Tm.rsF (Tm.ws d.1 d.2 rs.length Tm.one) (Tm.ws d.1 d.2 rs.length (Tm.rdl rs)) rs.length rs.length 0)).length := by rw [hll, Tm.strL_len]; omega
    rw [e, List.take_length]
    exact S.retM rfl q
/-! charges -/
theorem ok_charges (G_stretches : Kn CX0 P w K mg base "stretches" 5 ["discount", "rewards"] (Sp2 (rRat K) (rSeq K rInt) (fun d rs => Tm.Dis d ∧ Tm.Rws rs) (fun d rs => retN (rT3 K (rRat K) rInt rInt) (Tm.strL (Tm.ws d.1 d.2 rs.length Tm.one) (Tm.ws d.1 d.2 rs.length (Tm.rdl rs)) 0 (Tm.rsF (Tm.ws d.1 d.2 rs.length Tm.one) (Tm.ws d.1 d.2 rs.length (Tm.rdl rs)) rs.length rs.length 0))))) {f : Addr} {fd : FuncData} (F : Fun K "charges" "charges" s_charges f fd) : FnOk P w K mg base CX0 6 f fd ["discount", "rewards"] (Sp2 (rRat K) (rSeq K rInt) (fun d rs => Tm.Dis d ∧ Tm.Rws rs) (fun d rs => retN (rRat K) (Tm.chgOf (Tm.strL (Tm.ws d.1 d.2 rs.length Tm.one) (Tm.ws d.1 d.2 rs.length (Tm.rdl rs)) 0 (Tm.rsF (Tm.ws d.1 d.2 rs.length Tm.one) (Tm.ws d.1 d.2 rs.length (Tm.rdl rs)) rs.length rs.length 0))))) := by
  refine F.ok sc_charges (fun vs H Q E h => Sp2.len h) (fun cdv A outer s H vs Q E hr h => ?_)
  obtain ⟨F0, v0, v1, d, rs, he, rfl, h0, h1, hp, q⟩ := h
  refine ⟨_, (pss_cons (ps_set (i := 2) sc_charges.nd rfl (Or.inl rfl) (p_lst (K := K) pa_nil)) (pss_cons (ps_for PassesOwn.never rfl (pi_list (p_call G_stretches (hr.mono (by decide)) (by rfl) (pa_cons (pv 0) (pa_cons (pv 1) pa_nil)))) (p_gtup (K := K) (n := 3) rfl (pgs_cons (pg_name (i := 3) sc_charges.nd rfl (Or.inl rfl)) (pgs_cons (pg_name (i := 4) sc_charges.nd rfl (Or.inl rfl)) (pgs_cons (pg_name (i := 5) sc_charges.nd rfl (Or.inl rfl)) pgs_nil)))) (pss_one (ps_expr (pe_bm PySem.F.plainAttrs_list PySem.F.slot_list_extend PySem.F.type_list_extend mt_extend (pv 2) (pa_cons (p_rep (p_lst (K := K) (pa_cons (pv 3) pa_nil)) (p_sub (pv 5) (pv 4))) pa_nil))))) (pss_one (ps_ret (pv 2))))), ?_⟩
  refine body2 he h0 h1 ?_
  try dsimp only [cxOf, Cx.nox, Cx.wish]
  show S _ _ [.im (rRat K) d, .im (rSeq K rInt) rs, .un, .un, .un, .un] _
  have hp' := hp
  obtain ⟨hd, hr⟩ := hp
  obtain ⟨ha, hb, a0, b0⟩ := hd.bd
  have h60 := hr.1
  have up : Tm.Up (Tm.ws d.1 d.2 rs.length Tm.one) rs.length := fun i j hij _ => Tm.ws_one_up a0 b0 _ i j hij
  have rc := Tm.rests_ch (S := Tm.ws d.1 d.2 rs.length (Tm.rdl rs)) up
  have pd : Tm.Dis d ∧ Tm.Rws rs := ⟨hd, hr⟩
  have l1 := Tm.pl_len d.1 d.2 rs.length Tm.one rs.length
  have l2 := Tm.pl_len d.1 d.2 rs.length (Tm.rdl rs) rs.length
  have BB : ∀ (r : Nat → Int), (∀ i, Tm.Bd 31 (r i)) → ∀ i, Tm.Bd 9000 (Tm.rdl (Tm.pl d.1 d.2 rs.length r rs.length) i) := fun r hB i => by
    by_cases q : i ≤ rs.length
    · rw [Tm.pl_rdl q]
      exact (Tm.Bd.ws (m := 31) ha hb q fun i _ => hB i).le (by omega)
    · unfold Tm.rdl
      rw [List.getD_eq_getElem?_getD, List.getElem?_eq_none (by rw [Tm.pl_len]; omega)]
      exact Tm.Bd.zero
  have B1 := BB Tm.one fun i => Tm.Bd.one (by decide)
  have B2 := BB (Tm.rdl rs) hr.bd
  refine S.asgN (A := rRat K) (as := []) (by walk_at "ev") ?_
  walk_at "nf"
  refine S.forI (A := rT3 K (rRat K) rInt rInt) (as := (Tm.strL (Tm.ws d.1 d.2 rs.length Tm.one) (Tm.ws d.1 d.2 rs.length (Tm.rdl rs)) 0 (Tm.rsF (Tm.ws d.1 d.2 rs.length Tm.one) (Tm.ws d.1 d.2 rs.length (Tm.rdl rs)) rs.length rs.length 0))) (iw_list (by walk_at "ev")) (fun i => [.im (rRat K) d, .im (rSeq K rInt) rs, .mu (rRat K) (Tm.chgOf ((Tm.strL (Tm.ws d.1 d.2 rs.length Tm.one) (Tm.ws d.1 d.2 rs.length (Tm.rdl rs)) 0 (Tm.rsF (Tm.ws d.1 d.2 rs.length Tm.one) (Tm.ws d.1 d.2 rs.length (Tm.rdl rs)) rs.length rs.length 0)).take i)), .un, .un, .un]) (fun i t => [.im (rRat K) d, .im (rSeq K rInt) rs, .mu (rRat K) (Tm.chgOf ((Tm.strL (Tm.ws d.1 d.2 rs.length Tm.one) (Tm.ws d.1 d.2 rs.length (Tm.rdl rs)) 0 (Tm.rsF (Tm.ws d.1 d.2 rs.length Tm.one) (Tm.ws d.1 d.2 rs.length (Tm.rdl rs)) rs.length rs.length 0)).take i)), .im (rRat K) t.1, .im rInt t.2.1, .im rInt t.2.2]) (by refine Sub.of ?_; walk_at "leq" <;> first | rfl | omega | simp) (fun i t _ => tg_3 (tg_name 3) (tg_name 4) (tg_name 5)) (fun F1 i t _ ht => ?_) ?_
  · obtain ⟨x, y, _, _, nr, et⟩ := rc.str_get ht
    have nlt := nr.lt
    have nle := nr.le
    have pl := rc.chg_pre_len i
    have pl2 : (Tm.chgOf ((Tm.strL (Tm.ws d.1 d.2 rs.length Tm.one) (Tm.ws d.1 d.2 rs.length (Tm.rdl rs)) 0 (Tm.rsF (Tm.ws d.1 d.2 rs.length Tm.one) (Tm.ws d.1 d.2 rs.length (Tm.rdl rs)) rs.length rs.length 0)).take i)).length ≤ 60 := by omega
    have h1 : [t.1].length * (t.2.2 - t.2.1).toNat ≤ 100000 := by
      rw [et]
      show 1 * ((y : Int) - (x : Int)).toNat ≤ 100000
      omega
    have h2 : -4611686018427387904 ≤ t.2.2 - t.2.1 ∧ t.2.2 - t.2.1 < 4611686018427387904 := by
      rw [et]
      show -4611686018427387904 ≤ (y : Int) - (x : Int) ∧ (y : Int) - (x : Int) < 4611686018427387904
      omega
    refine S.one (S.ext (bs := List.replicate (t.2.2 - t.2.1).toNat t.1) rfl (en_is (by walk_at "ev") ?_) ?_ ?_)
    · exact rep1 _ _
    · rw [List.length_replicate, et]
      show _ + ((y : Int) - (x : Int)).toNat ≤ 100000
      omega
    walk_at "nf"
    refine S.to1 ?_ rfl
    walk_at "leq"
    exact (Tm.chg_pre i t ht).symm
  · rw [List.take_length]
    exact S.retM rfl q
/-! certificate -/
theorem ok_certificate (T_Company : ClF K C_Company ["discount", "projects"]) (G_charges : Kn CX0 P w K mg base "charges" 6 ["discount", "rewards"] (Sp2 (rRat K) (rSeq K rInt) (fun d rs => Tm.Dis d ∧ Tm.Rws rs) (fun d rs => retN (rRat K) (Tm.chgOf (Tm.strL (Tm.ws d.1 d.2 rs.length Tm.one) (Tm.ws d.1 d.2 rs.length (Tm.rdl rs)) 0 (Tm.rsF (Tm.ws d.1 d.2 rs.length Tm.one) (Tm.ws d.1 d.2 rs.length (Tm.rdl rs)) rs.length rs.length 0)))))) {f : Addr} {fd : FuncData} (F : Fun K "certificate" "certificate" s_certificate f fd) : FnOk P w K mg base CX0 7 f fd ["company"] (Sp1 (rCompany K C_Company) (fun c => Tm.COk c) (fun c => retN (rLst K (rRat K)) (Tm.certF c.1 c.2))) := by
  refine F.ok sc_certificate (fun vs H Q E h => Sp1.len h) (fun cdv A outer s H vs Q E hr h => ?_)
  obtain ⟨F0, v0, c, he, rfl, h0, hp, q⟩ := h
  refine ⟨_, (pss_one (ps_ret (pe_lc (own := [("rewards", 1)]) rfl sc_certificate.nd (pi_tup (p_fld2 (K := K) (pv 0))) (blkOk_by (own := [("rewards", 1)]) (N := ["company", "rewards"]) (sc := defScope s_certificate) (by decide +kernel)) (fun _ _ _ _ _ => (pg_name (i := 1) sc_certificate.nd rfl (Or.inl rfl))) (fun _ _ _ _ _ => pts_nil) (fun _ _ _ _ _ => (p_call G_charges (hr.mono (by decide)) (by rfl) (pa_cons (p_fld1 (K := K) (pv 0)) (pa_cons (pv 1) pa_nil))))))), ?_⟩
  refine body1 he h0 ?_
  try dsimp only [cxOf, Cx.nox, Cx.wish]
  show S _ _ [.im (rCompany K C_Company) c, .un] _
  have n10 := hp.p.1
  refine S.retL (en_is (en_mapL (A := rTup K rInt) (C := rLst K (rRat K)) (fun rs => Tm.chgs c.1.1 c.1.2 rs) (iw_tup (by walk_at "ev")) (by omega) (by decide) (fun a ha => ?_)) rfl) q
  exact e_frz (e_call2 (A0 := rRat K) (A1 := rSeq K rInt) (a0 := c.1) (a1 := a) (by walk_at "ev") (e_seqU (e_var rfl)) ⟨hp.d.1, hp.p.rws ha⟩ (retN_up _ _))
/-! check_offer -/
theorem ok_check_offer {f : Addr} {fd : FuncData} (F : Fun K "check_offer" "check_offer" s_check_offer f fd) : FnOk P w K mg base CX0 1 f fd ["offer"] (Sp1 (rRat K) (fun o => 0 ≤ o.1) (fun _ => retI rNon ())) := by
  refine F.ok sc_check_offer (fun vs H Q E h => Sp1.len h) (fun cdv A outer s H vs Q E hr h => ?_)
  obtain ⟨F0, v0, o, he, rfl, h0, hp, q⟩ := h
  refine ⟨_, (pss_one (ps_if (q_lt (p_fst (K := K) (pv 0)) pe_int) (pss_one ps_never) pss_nil)), ?_⟩
  refine body1 he h0 ?_
  show S _ _ [.im (rRat K) o] _
  refine S.one (S.ifs (k := false) (eb_is (by walk_at "ev") ?_) (fun h => nomatch h) fun _ => S.next (S.fall q))
  exact decide_eq_false (by omega)
/-! compare_ratios -/
theorem ok_compare_ratios (m_int : mg "int" = none) {f : Addr} {fd : FuncData} (F : Fun K "compare_ratios" "compare_ratios" s_compare_ratios f fd) : FnOk P w K mg base CX0 1 f fd ["first", "second"] (Sp2 (rRat K) (rRat K) (fun a b => Tm.Bd 100000 a.1 ∧ Tm.Bd 100000 a.2 ∧ Tm.Bd 100000 b.1 ∧ Tm.Bd 100000 b.2) (fun a b => retI rInt (Tm.cmpR a b))) := by
  refine F.ok sc_compare_ratios (fun vs H Q E h => Sp2.len h) (fun cdv A outer s H vs Q E hr h => ?_)
  obtain ⟨F0, v0, v1, a, b, he, rfl, h0, h1, hp, q⟩ := h
  refine ⟨_, (pss_cons (ps_set (i := 2) sc_compare_ratios.nd rfl (Or.inl rfl) (p_mul (p_fst (K := K) (pv 0)) (p_snd (K := K) (pv 1)))) (pss_cons (ps_set (i := 3) sc_compare_ratios.nd rfl (Or.inl rfl) (p_mul (p_fst (K := K) (pv 1)) (p_snd (K := K) (pv 0)))) (pss_one (ps_ret (p_sub (p_intB (by rfl) m_int (p_gt (pv 2) (pv 3))) (p_intB (by rfl) m_int (p_lt (pv 2) (pv 3)))))))), ?_⟩
  refine body2 he h0 h1 ?_
  show S _ _ [.im (rRat K) a, .im (rRat K) b, .un, .un] _
  obtain ⟨ha1, ha2, hb1, hb2⟩ := hp
  have m1 : CMulW a.1 b.2 := Tm.mul_ok ha1 hb2 (by decide)
  have m2 : CMulW b.1 a.2 := Tm.mul_ok hb1 ha2 (by decide)
  walk_at "asg"
  walk_at "asg"
  refine S.ret (ev_is (by walk_at "ev") ?_) q
  unfold Tm.cmpR
  simp only [decide_eq_true_eq]
  split
  · rw [if_neg (by omega)]; rfl
  · split <;> rfl
/-! merge_charges -/
theorem ok_merge_charges (m_len : mg "len" = none) (m_range : mg "range" = none) (m_sum : mg "sum" = none) (G_compare_ratios : Kn CX0 P w K mg base "compare_ratios" 1 ["first", "second"] (Sp2 (rRat K) (rRat K) (fun a b => Tm.Bd 100000 a.1 ∧ Tm.Bd 100000 a.2 ∧ Tm.Bd 100000 b.1 ∧ Tm.Bd 100000 b.2) (fun a b => retI rInt (Tm.cmpR a b)))) {f : Addr} {fd : FuncData} (F : Fun K "merge_charges" "merge_charges" s_merge_charges f fd) : FnOk P w K mg base CX0 2 f fd ["lists"] (Sp1 (rLst K (rSeq K (rRat K))) (fun css => Tm.MOk css) (fun css => retN (rT2 K rInt (rRat K)) (Tm.mgF css (Tm.totC css)))) := by
  refine F.ok sc_merge_charges (fun vs H Q E h => Sp1.len h) (fun cdv A outer s H vs Q E hr h => ?_)
  obtain ⟨F0, v0, css, he, rfl, h0, hp, q⟩ := h
  refine ⟨_, (pss_cons (ps_setLc (i := 1) (own := [("_", 2)]) rfl sc_merge_charges.nd rfl rfl (sw_true rfl rfl rfl (by decide +kernel)) (pi_list (pv 0)) (blkOk_by (own := [("_", 2)]) (N := ["lists", "positions", "_", "merged", "row", "best", "index", "charge"]) (sc := defScope s_merge_charges) (by decide +kernel)) (fun _ _ _ _ _ => (pg_name (i := 2) sc_merge_charges.nd rfl (Or.inl rfl))) (fun _ _ _ _ _ => pts_nil) (fun _ _ _ _ _ => pe_int)) (pss_cons (ps_set (i := 3) sc_merge_charges.nd rfl (Or.inl rfl) (p_lst (K := K) pa_nil)) (pss_cons (ps_for PassesOwn.never rfl (pi_range1 (by rfl) m_range (pa_cons (p_sum (K := K) rfl (by rfl) m_sum (pe_lc (own := [("row", 4)]) rfl sc_merge_charges.nd (pi_list (pv 0)) (blkOk_by (own := [("row", 4)]) (N := ["lists", "positions", "_", "merged", "row", "best", "index", "charge"]) (sc := defScope s_merge_charges) (by decide +kernel)) (fun _ _ _ _ _ => (pg_name (i := 4) sc_merge_charges.nd rfl (Or.inl rfl))) (fun _ _ _ _ _ => pts_nil) (fun _ _ _ _ _ => (p_lenQ (K := K) (by rfl) m_len (pv 4))))) pa_nil)) (pg_name (i := 2) sc_merge_charges.nd rfl (Or.inl rfl)) (pss_cons (ps_set (i := 5) sc_merge_charges.nd rfl (Or.inl rfl) pe_non) (pss_cons (ps_for PassesOwn.never rfl (pi_range1 (by rfl) m_range (pa_cons (p_len (K := K) (by rfl) m_len (pv 0)) pa_nil)) (pg_name (i := 6) sc_merge_charges.nd rfl (Or.inl rfl)) (pss_one (ps_if (q_lt (p_ixM (K := K) (pv 1) (pv 6)) (p_lenQ (K := K) (by rfl) m_len (p_ixL (K := K) (pv 0) (pv 6)))) (pss_cons (ps_set (i := 7) sc_merge_charges.nd rfl (Or.inl rfl) (p_ixQ (K := K) (p_ixL (K := K) (pv 0) (pv 6)) (p_ixM (K := K) (pv 1) (pv 6)))) (pss_one (ps_if ((pw_or (q_isN (pv 5) pe_non) (pw_or1 (q_gt (p_call G_compare_ratios (hr.mono (by decide)) (by rfl) (pa_cons (pv 7) (pa_cons (p_ixQ (K := K) (p_ixL (K := K) (pv 0) (pv 5)) (p_ixM (K := K) (pv 1) (pv 5))) pa_nil))) pe_int)))).pt (pss_one (ps_set (i := 5) sc_merge_charges.nd rfl (Or.inl rfl) (pv 6))) pss_nil))) pss_nil))) (pss_cons (ps_expr (pe_bm PySem.F.plainAttrs_list PySem.F.slot_list_append PySem.F.type_list_append mt_append (pv 3) (pa_cons (p_t2 (K := K) (pv 5) (p_ixQ (K := K) (p_ixL (K := K) (pv 0) (pv 5)) (p_ixM (K := K) (pv 1) (pv 5)))) pa_nil))) (pss_one (ps_asg (p_add (p_ixM (K := K) (pv 1) (pv 5)) pe_int) (pg_sub (pv 1) (pv 5) set_list))))))) (pss_one (ps_ret (pv 3)))))), ?_⟩
  refine body1 he h0 ?_
  try dsimp only [cxOf, Cx.nox, Cx.wish]
  show S _ _ [.im (rLst K (rSeq K (rRat K))) css, .un, .un, .un, .un, .un, .un, .un] _
  obtain ⟨l1, l2, hq⟩ := hp
  have hden : ∀ j k, 0 < (Tm.chC css j k).2 := fun j k => (hq j k).1
  refine S.asgN (A := rInt) (as := Tm.tkF css.length []) (en_is (en_mapL (A := rSeq K (rRat K)) (C := rInt) (fun _ => (0:Int)) (iw_list (by walk_at "ev")) ?_ (by decide) (fun a ha => (by walk_at "ev"))) ?_) ?_
  · omega
  · exact Tm.tkF_nil _
  walk_at "nf"
  refine S.asgN (A := rT2 K rInt (rRat K)) (as := []) (by walk_at "ev") ?_
  walk_at "nf"
  refine S.forR (j := 2) (n := (Tm.totC css : Int)) (ev_is (e_sum (e_frz (en_mapL (A := rSeq K (rRat K)) (C := rInt) (fun r => (r.length : Int)) (iw_list (by walk_at "ev")) (by omega) (by decide) (fun a ha => (by walk_at "ev"))))) (Tm.totC_int css)) ⟨by omega, by omega⟩ (fun i => [.im (rLst K (rSeq K (rRat K))) css, .mu rInt (Tm.tkF css.length (Tm.mpl (Tm.mgF css i))), .un, .mu (rT2 K rInt (rRat K)) (Tm.mgF css i), .un, .un, .un, .un]) ?_ (fun F1 i _ hi => ?_) ?_
  · refine Sub.of ?_
    walk_at "leq"
  · walk_at "nf"
    have ih := Tm.mgF_ok hden i (by omega)
    have ml := Tm.mgF_len css i
    obtain ⟨b, eb, b1, b2, b3⟩ := Tm.mgF_step hden ih (by omega)
    rw [b3]
    generalize Tm.mgF css i = m at ih ml eb b2
    have tl := Tm.tkF_len css.length (Tm.mpl m)
    refine S.asg (A := rOpt rInt) (a := none) e_nonO ?_
    walk_at "nf"
    refine S.forR (j := 6) (by walk_at "ev") ⟨by omega, by omega⟩ (fun j => [.im (rLst K (rSeq K (rRat K))) css, .mu rInt (Tm.tkF css.length (Tm.mpl m)), .im rInt (i : Int), .mu (rT2 K rInt (rRat K)) m, .un, .im (rOpt rInt) ((Tm.bstF css (Tm.cntP (Tm.mpl m)) j).map fun n : Nat => (n : Int)), .un, .un]) ?_ (fun F2 j _ hj => ?_) ?_
    · refine Sub.of ?_
      walk_at "leq"
      all_goals rfl
    · walk_at "nf"
      have hj' : j < css.length := by omega
      have a1 : atI (Tm.tkF css.length (Tm.mpl m)) (j : Int) = some (Tm.cntP (Tm.mpl m) j : Int) := atI_nat (Tm.tkF_get _ hj')
      have a2 : atI css (j : Int) = some (Tm.rcl css j) := atI_nat (Tm.rcl_at hj')
      by_cases z : Tm.cntP (Tm.mpl m) j < Tm.lenC css j
      · have a3 := Tm.chC_at z
        have z' : (Tm.cntP (Tm.mpl m) j : Int) < ((Tm.rcl css j).length : Int) := by have := z; unfold Tm.lenC at this; omega
        refine S.one (S.ifs (k := true) (eb_is (by walk_at "ev") (decide_eq_true z')) (fun _ => ?_) (fun h => nomatch h))
        refine S.assoc ?_
        refine S.asg (A := rRat K) (a := Tm.chC css j (Tm.cntP (Tm.mpl m) j)) (by walk_at "ev") ?_
        walk_at "nf"
        cases e : Tm.bstF css (Tm.cntP (Tm.mpl m)) j with
        | none =>
          refine S.ifs (k := true) (eb_or (k := true) (l := false) (eb_is (eb_isN (A := rInt) (by walk_at "ev")) rfl) (fun h => nomatch h)) (fun _ => ?_) (fun h => nomatch h)
          refine S.asg (A := rOpt rInt) (a := some (j : Int)) (e_some (by walk_at "ev")) ?_
          walk_at "nf"
          refine S.to1 ?_ rfl
          walk_at "leq"
          exact congrArg (Option.map fun n : Nat => (n : Int)) (Tm.bst_s1 z e).symm
        | some b' =>
          have ok := Tm.bst_ok (css := css) (pos := Tm.cntP (Tm.mpl m)) hden j
          rw [e] at ok
          obtain ⟨k1, k2, _⟩ := ok
          have a4 : atI (Tm.tkF css.length (Tm.mpl m)) (b' : Int) = some (Tm.cntP (Tm.mpl m) b' : Int) := atI_nat (Tm.tkF_get _ (by omega))
          have a5 : atI css (b' : Int) = some (Tm.rcl css b') := atI_nat (Tm.rcl_at (by omega))
          have a6 := Tm.chC_at k2
          have pc : Tm.Bd 100000 (Tm.chC css j (Tm.cntP (Tm.mpl m) j)).1 ∧ Tm.Bd 100000 (Tm.chC css j (Tm.cntP (Tm.mpl m) j)).2 ∧ Tm.Bd 100000 (Tm.chC css b' (Tm.cntP (Tm.mpl m) b')).1 ∧ Tm.Bd 100000 (Tm.chC css b' (Tm.cntP (Tm.mpl m) b')).2 := ⟨(hq _ _).2.1, (hq _ _).2.2, (hq _ _).2.1, (hq _ _).2.2⟩
          refine S.ifs (k := false || decide (0 < Tm.cmpR (Tm.chC css j (Tm.cntP (Tm.mpl m) j)) (Tm.chC css b' (Tm.cntP (Tm.mpl m) b')))) (eb_or (eb_is (eb_isN (A := rInt) (by walk_at "ev")) rfl) (fun _ => eb_cmp (e_gt (e_call2 (A0 := rRat K) (A1 := rRat K) (a0 := Tm.chC css j (Tm.cntP (Tm.mpl m) j)) (a1 := Tm.chC css b' (Tm.cntP (Tm.mpl m) b')) (e_var rfl) (e_ixQ (as := Tm.rcl css b') (e_xixL (by walk_at "ev") (e_varO (a := (b' : Int)) rfl) a5) (e_xixM rfl (e_varO (a := (b' : Int)) rfl) a4) a6) pc (retI_up _ _)) e_int))) (fun h => ?_) (fun h => ?_)
          · rw [Bool.false_or, decide_eq_true_eq] at h
            refine S.asg (A := rOpt rInt) (a := some (j : Int)) (e_some (by walk_at "ev")) ?_
            walk_at "nf"
            refine S.to1 ?_ rfl
            walk_at "leq"
            exact congrArg (Option.map fun n : Nat => (n : Int)) (Tm.bst_s2 z e h).symm
          · rw [Bool.false_or, decide_eq_false_iff_not] at h
            refine S.next (S.to1 ?_ rfl)
            walk_at "leq"
            exact congrArg (Option.map fun n : Nat => (n : Int)) (Tm.bst_s3 z e h).symm
      · have z' : ¬ (Tm.cntP (Tm.mpl m) j : Int) < ((Tm.rcl css j).length : Int) := by have := z; unfold Tm.lenC at this; omega
        refine S.one (S.ifs (k := false) (eb_is (by walk_at "ev") (decide_eq_false z')) (fun h => nomatch h) (fun _ => S.next ?_))
        refine S.to1 ?_ rfl
        walk_at "leq"
        rw [Tm.bst_s0 z]
    · rw [Int.toNat_natCast, eb]
      refine S.unO (a := (b : Int)) (i := 5) rfl ?_
      walk_at "nf"
      have a1 : atI (Tm.tkF css.length (Tm.mpl m)) (b : Int) = some (Tm.cntP (Tm.mpl m) b : Int) := atI_nat (Tm.tkF_get _ b1)
      have a2 : atI css (b : Int) = some (Tm.rcl css b) := atI_nat (Tm.rcl_at b1)
      have a3 := Tm.chC_at b2
      refine S.app (A := rT2 K rInt (rRat K)) (a := ((b : Int), Tm.chC css b (Tm.cntP (Tm.mpl m) b))) rfl (by walk_at "ev") (by omega) ?_
      walk_at "nf"
      refine S.one (S.setL (A := rInt) (n := (b : Int)) (a := (Tm.cntP (Tm.mpl m) b : Int) + 1) rfl (by walk_at "ev") (by walk_at "ev") (j := b) (by rw [tl]; exact Evl.ixN_nat b1) ?_)
      walk_at "nf"
      refine S.to1 ?_ rfl
      walk_at "leq"
      exact Tm.tkF_mg css m b1 _
  · rw [Int.toNat_natCast]
    exact S.retM rfl q
/-! best_plan -/
theorem ok_best_plan (G_certificate : Kn CX0 P w K mg base "certificate" 7 ["company"] (Sp1 (rCompany K C_Company) (fun c => Tm.COk c) (fun c => retN (rLst K (rRat K)) (Tm.certF c.1 c.2)))) (G_check_offer : Kn CX0 P w K mg base "check_offer" 1 ["offer"] (Sp1 (rRat K) (fun o => 0 ≤ o.1) (fun _ => retI rNon ()))) (G_compare_ratios : Kn CX0 P w K mg base "compare_ratios" 1 ["first", "second"] (Sp2 (rRat K) (rRat K) (fun a b => Tm.Bd 100000 a.1 ∧ Tm.Bd 100000 a.2 ∧ Tm.Bd 100000 b.1 ∧ Tm.Bd 100000 b.2) (fun a b => retI rInt (Tm.cmpR a b)))) (G_merge_charges : Kn CX0 P w K mg base "merge_charges" 2 ["lists"] (Sp1 (rLst K (rSeq K (rRat K))) (fun css => Tm.MOk css) (fun css => retN (rT2 K rInt (rRat K)) (Tm.mgF css (Tm.totC css))))) {f : Addr} {fd : FuncData} (F : Fun K "best_plan" "best_plan" s_best_plan f fd) : FnOk P w K mg base CX0 8 f fd ["company", "offer"] (Sp2 (rCompany K C_Company) (rRat K) (fun c o => Tm.COk c ∧ Tm.Offr o) (fun c o => retN rInt (Tm.bpF c o))) := by
  refine F.ok sc_best_plan (fun vs H Q E h => Sp2.len h) (fun cdv A outer s H vs Q E hr h => ?_)
  obtain ⟨F0, v0, v1, c, o, he, rfl, h0, h1, hp, q⟩ := h
  refine ⟨_, (pss_cons (ps_expr (p_call G_check_offer (hr.mono (by decide)) (by rfl) (pa_cons (pv 1) pa_nil))) (pss_cons (ps_set (i := 2) sc_best_plan.nd rfl (Or.inl rfl) (p_call G_merge_charges (hr.mono (by decide)) (by rfl) (pa_cons (p_call G_certificate (hr.mono (by decide)) (by rfl) (pa_cons (pv 0) pa_nil)) pa_nil))) (pss_one (ps_ret (pe_lc (own := [("index", 3), ("charge", 4)]) rfl sc_best_plan.nd (pi_list (pv 2)) (blkOk_by (own := [("index", 3), ("charge", 4)]) (N := ["company", "offer", "merged", "index", "charge"]) (sc := defScope s_best_plan) (by decide +kernel)) (fun _ _ _ _ _ => (p_gtup (K := K) (n := 2) rfl (pgs_cons (pg_name (i := 3) sc_best_plan.nd rfl (Or.inl rfl)) (pgs_cons (pg_name (i := 4) sc_best_plan.nd rfl (Or.inl rfl)) pgs_nil)))) (fun _ _ _ _ _ => (pts_one (q_gt (p_call G_compare_ratios (hr.mono (by decide)) (by rfl) (pa_cons (pv 4) (pa_cons (pv 1) pa_nil))) pe_int))) (fun _ _ _ _ _ => (pv 3))))))), ?_⟩
  refine body2 he h0 h1 ?_
  try dsimp only [cxOf, Cx.nox, Cx.wish]
  show S _ _ [.im (rCompany K C_Company) c, .im (rRat K) o, .un, .un, .un] _
  obtain ⟨ok, off⟩ := hp
  have off' := off
  obtain ⟨o0, o1, ob1, ob2⟩ := off
  have mok := Tm.cert_mok ok
  have hm := Tm.cert_mrg ok
  refine S.drop (A := rNon) (a := ()) (by walk_at "ev") ?_
  refine S.asg (A := rLst K (rT2 K rInt (rRat K))) (a := Tm.mgC c) (ev_is (e_frz (e_call1 (A0 := rLst K (rSeq K (rRat K))) (a0 := Tm.certF c.1 c.2) (e_lstQ (e_frz (e_call1 (A0 := rCompany K C_Company) (a0 := c) (e_var rfl) ok (retN_up _ _)))) mok (retN_up _ _))) rfl) ?_
  walk_at "nf"
  refine S.retL (en_is (en_lc (A := rT2 K rInt (rRat K)) (C := rInt) (fun e => e.1) (fun e => decide (0 < Tm.cmpR e.2 o)) (iw_list (by walk_at "ev")) (by rw [Tm.mgC_len]; have := mok.2.1; omega) (fun a ha => tgc_2 (tgc_name (by decide)) (tgc_name (by decide))) (fun a ha => ?_) (fun a ha _ => (by walk_at "ev"))) ?_) q
  · obtain ⟨e1, e2⟩ := Tm.mgC_mem ok ha
    have pc : Tm.Bd 100000 a.2.1 ∧ Tm.Bd 100000 a.2.2 ∧ Tm.Bd 100000 o.1 ∧ Tm.Bd 100000 o.2 := ⟨e2.1.le (by decide), e2.2.le (by decide), ob1.le (by decide), ob2.le (by decide)⟩
    exact (by walk_at "ev")
  · exact Tm.bpF_eq ok (by omega)
/-! add_ratios -/
theorem ok_add_ratios (G_make_ratio : Kn CX0 P w K mg base "make_ratio" 2 ["numerator", "denominator"] (Sp2 rInt rInt (fun _ d => d ≠ 0 ∧ Tm.Bd 8999 d) (fun n d => retI (rRat K) (Tm.mkR n d)))) {f : Addr} {fd : FuncData} (F : Fun K "add_ratios" "add_ratios" s_add_ratios f fd) : FnOk P w K mg base CX0 3 f fd ["first", "second"] (Sp2 (rRat K) (rRat K) (fun a b => a.2 ≠ 0 ∧ b.2 ≠ 0 ∧ Tm.Bd 4000 a.1 ∧ Tm.Bd 4000 a.2 ∧ Tm.Bd 4000 b.1 ∧ Tm.Bd 4000 b.2) (fun a b => retI (rRat K) (Tm.mkR (a.1 * b.2 + b.1 * a.2) (a.2 * b.2)))) := by
  refine F.ok sc_add_ratios (fun vs H Q E h => Sp2.len h) (fun cdv A outer s H vs Q E hr h => ?_)
  obtain ⟨F0, v0, v1, a, b, he, rfl, h0, h1, hp, q⟩ := h
  refine ⟨_, (pss_cons (ps_set (i := 2) sc_add_ratios.nd rfl (Or.inl rfl) (p_add (p_mul (p_fst (K := K) (pv 0)) (p_snd (K := K) (pv 1))) (p_mul (p_fst (K := K) (pv 1)) (p_snd (K := K) (pv 0))))) (pss_one (ps_ret (p_call G_make_ratio (hr.mono (by decide)) (by rfl) (pa_cons (pv 2) (pa_cons (p_mul (p_snd (K := K) (pv 0)) (p_snd (K := K) (pv 1))) pa_nil)))))), ?_⟩
  refine body2 he h0 h1 ?_
  show S _ _ [.im (rRat K) a, .im (rRat K) b, .un] _
  obtain ⟨a0, b0, ha1, ha2, hb1, hb2⟩ := hp
  have m1 : CMulW a.1 b.2 := Tm.mul_ok ha1 hb2 (by decide)
  have m2 : CMulW b.1 a.2 := Tm.mul_ok hb1 ha2 (by decide)
  have m3 : CMulW a.2 b.2 := Tm.mul_ok ha2 hb2 (by decide)
  walk_at "asg"
  have p : a.2 * b.2 ≠ 0 ∧ Tm.Bd 8999 (a.2 * b.2) := ⟨Int.mul_ne_zero a0 b0, (ha2.mul hb2).le (by decide)⟩
  exact S.ret (by walk_at "ev") q
/-! offer_alone -/
theorem ok_offer_alone (G_make_ratio : Kn CX0 P w K mg base "make_ratio" 2 ["numerator", "denominator"] (Sp2 rInt rInt (fun _ d => d ≠ 0 ∧ Tm.Bd 8999 d) (fun n d => retI (rRat K) (Tm.mkR n d)))) {f : Addr} {fd : FuncData} (F : Fun K "offer_alone" "offer_alone" s_offer_alone f fd) : FnOk P w K mg base CX0 3 f fd ["discount", "offer"] (Sp2 (rRat K) (rRat K) (fun d o => Tm.Dis d ∧ Tm.Offr o) (fun d o => retI (rRat K) (Tm.aloneF d o))) := by
  refine F.ok sc_offer_alone (fun vs H Q E h => Sp2.len h) (fun cdv A outer s H vs Q E hr h => ?_)
  obtain ⟨F0, v0, v1, d, o, he, rfl, h0, h1, hp, q⟩ := h
  refine ⟨_, (pss_one (ps_ret (p_call G_make_ratio (hr.mono (by decide)) (by rfl) (pa_cons (p_mul (p_fst (K := K) (pv 1)) (p_snd (K := K) (pv 0))) (pa_cons (p_mul (p_snd (K := K) (pv 1)) (p_sub (p_snd (K := K) (pv 0)) (p_fst (K := K) (pv 0)))) pa_nil))))), ?_⟩
  refine body2 he h0 h1 ?_
  show S _ _ [.im (rRat K) d, .im (rRat K) o] _
  obtain ⟨hd, o0, o1, ob1, ob2⟩ := hp
  obtain ⟨ha, hb, a0, b0⟩ := hd.bd
  have h2 := hd.2.1
  have m1 : CMulW o.1 d.2 := Tm.mul_ok ob1 hb (by decide)
  have m2 : CMulW o.2 (d.2 - d.1) := Tm.mul_ok ob2 (hb.sub ha) (by decide)
  have p : o.2 * (d.2 - d.1) ≠ 0 ∧ Tm.Bd 8999 (o.2 * (d.2 - d.1)) := ⟨Int.mul_ne_zero (by omega) (by omega), (ob2.mul (hb.sub ha)).le (by decide)⟩
  refine S.ret (ev_is (by walk_at "ev") ?_) q
  rfl
/-! scale -/
theorem ok_scale (m_max : mg "max" = none) (G_powers : Kn CX0 P w K mg base "powers" 1 ["base", "count"] (Sp2 rInt rInt (fun b n => Tm.Bd 10 b ∧ 0 ≤ n ∧ n ≤ 10000) (fun b n => retN rInt (Tm.powL b n.toNat)))) {f : Addr} {fd : FuncData} (F : Fun K "scale" "scale" s_scale f fd) : FnOk P w K mg base CX0 2 f fd ["discount", "count"] (Sp2 (rRat K) rInt (fun d n => Tm.Bd 10 d.2 ∧ 0 ≤ n ∧ n ≤ 10000) (fun d n => retI rInt (d.2 ^ (n.toNat - 1)))) := by
  refine F.ok sc_scale (fun vs H Q E h => Sp2.len h) (fun cdv A outer s H vs Q E hr h => ?_)
  obtain ⟨F0, v0, v1, d, n, he, rfl, h0, h1, hp, q⟩ := h
  refine ⟨_, (pss_one (ps_ret (p_ixL (K := K) (p_call G_powers (hr.mono (by decide)) (by rfl) (pa_cons (p_snd (K := K) (pv 0)) (pa_cons (p_max rfl (by rfl) m_max pe_int (pv 1)) pa_nil))) (p_neg pe_int)))), ?_⟩
  refine body2 he h0 h1 ?_
  show S _ _ [.im (rRat K) d, .im rInt n] _
  obtain ⟨hb, n0, n1⟩ := hp
  have p1 : Tm.Bd 10 d.2 ∧ 0 ≤ (if n > 1 then n else 1) ∧ (if n > 1 then n else 1) ≤ 10000 := ⟨hb, by split <;> omega, by split <;> omega⟩
  have h : atI (Tm.powL d.2 (if n > 1 then n else 1).toNat) (-1) = some (d.2 ^ (n.toNat - 1)) := by
    have e : (if n > 1 then n else 1).toNat = (n.toNat - 1) + 1 := by split <;> omega
    rw [e, Tm.powL_succ]
    exact atI_last _ _
  exact S.ret (by walk_at "ev") q
/-! steps_taken -/
theorem ok_steps_taken (m_len : mg "len" = none) (m_range : mg "range" = none) (T_Company : ClF K C_Company ["discount", "projects"]) {f : Addr} {fd : FuncData} (F : Fun K "steps_taken" "steps_taken" s_steps_taken f fd) : FnOk P w K mg base CX0 1 f fd ["company", "plan"] (Sp2 (rCompany K C_Company) (rLst K (rOpt rInt)) (fun c pl => Tm.COk c ∧ Tm.VP c.2 pl ∧ pl.length ≤ 1000) (fun c pl => retN rInt (Tm.tkF c.2.length pl))) := by
  refine F.ok sc_steps_taken (fun vs H Q E h => Sp2.len h) (fun cdv A outer s H vs Q E hr h => ?_)
  obtain ⟨F0, v0, v1, c, pl, he, rfl, h0, h1, hp, q⟩ := h
  refine ⟨_, (pss_cons (ps_setLc (i := 2) (own := [("_", 3)]) rfl sc_steps_taken.nd rfl rfl (sw_true rfl rfl rfl (by decide +kernel)) (pi_tup (p_fld2 (K := K) (pv 0))) (blkOk_by (own := [("_", 3)]) (N := ["company", "plan", "taken", "_", "day", "index"]) (sc := defScope s_steps_taken) (by decide +kernel)) (fun _ _ _ _ _ => (pg_name (i := 3) sc_steps_taken.nd rfl (Or.inl rfl))) (fun _ _ _ _ _ => pts_nil) (fun _ _ _ _ _ => pe_int)) (pss_cons (ps_for PassesOwn.never rfl (pi_range1 (by rfl) m_range (pa_cons (p_len (K := K) (by rfl) m_len (pv 1)) pa_nil)) (pg_name (i := 4) sc_steps_taken.nd rfl (Or.inl rfl)) (pss_cons (ps_set (i := 5) sc_steps_taken.nd rfl (Or.inl rfl) (p_ixL (K := K) (pv 1) (pv 4))) (pss_one (ps_if (q_notN (pv 5) pe_non) (pss_cons (ps_if ((pw_or (pt_not (q_chLL pe_int (pv 5) (p_lenM (K := K) (by rfl) m_len (pv 2)))) (pw_or1 (q_eqI (p_ixM (K := K) (pv 2) (pv 5)) (p_lenU (K := K) (by rfl) m_len (p_ixU (K := K) (p_fld2 (K := K) (pv 0)) (pv 5))))))).pt (pss_one ps_never) pss_nil) (pss_one (p_augL (K := K) (pv 2) (pv 5) pe_int ip_add))) pss_nil)))) (pss_one (ps_ret (pv 2))))), ?_⟩
  refine body2 he h0 h1 ?_
  try dsimp only [cxOf, Cx.nox, Cx.wish]
  show S _ _ [.im (rCompany K C_Company) c, .im (rLst K (rOpt rInt)) pl, .un, .un, .un, .un] _
  obtain ⟨ok, vp, pl0⟩ := hp
  have n10 := ok.p.1
  refine S.asgN (A := rInt) (as := Tm.tkF c.2.length (pl.take 0)) (en_is (en_mapL (A := rTup K rInt) (C := rInt) (fun _ => (0:Int)) (iw_tup (by walk_at "ev")) ?_ (by decide) (fun a ha => (by walk_at "ev"))) ?_) ?_
  · omega
  · exact Tm.tkF_nil _
  walk_at "nf"
  refine S.forR (j := 4) (by walk_at "ev") ⟨by omega, by omega⟩ (fun i => [.im (rCompany K C_Company) c, .im (rLst K (rOpt rInt)) pl, .mu rInt (Tm.tkF c.2.length (pl.take i)), .un, .un, .un]) ?_ (fun F1 i _ hi => ?_) ?_
  · refine Sub.of ?_
    walk_at "leq"
  · walk_at "nf"
    obtain ⟨o, ho⟩ : ∃ o, pl[i]? = some o := ⟨_, List.getElem?_eq_getElem (by omega)⟩
    have at1 : atI pl (i : Int) = some o := atI_nat ho
    refine S.asg (A := rOpt rInt) (a := o) (by walk_at "ev") ?_
    walk_at "nf"
    cases o with
    | none =>
      refine S.one (S.ifs (k := false) (eb_is (eb_notN (A := rInt) (by walk_at "ev")) rfl) (fun h => nomatch h) fun _ => S.next ?_)
      refine S.to1 ?_ rfl
      walk_at "leq"
      exact Tm.tkF_none ho
    | some x =>
      obtain ⟨x0, rs, hrs, hc⟩ := vp i x ho
      have xl : x.toNat < c.2.length := (List.getElem?_eq_some_iff.mp hrs).1
      have ll := Tm.tkF_len c.2.length (pl.take i)
      have at2 := Tm.tkF_at (n := c.2.length) (pl.take i) x0 xl
      have at3 : atI c.2 x = some rs := Tp.at_nat x0 hrs
      refine S.one (S.ifs (k := true) (eb_is (eb_notN (A := rInt) (by walk_at "ev")) rfl) (fun _ => ?_) (fun h => nomatch h))
      refine S.unO (i := 5) rfl ?_
      walk_at "nf"
      refine S.assoc (S.ifs (k := false) (eb_is (by walk_at "ev") ?_) (fun h => nomatch h) fun _ => S.next ?_)
      · rw [ll, decide_eq_true (by omega), decide_eq_true (by omega), decide_eq_false (by omega)]; rfl
      refine S.augS rfl (by walk_at "ev") at2 (j := x.toNat) ?_ (by walk_at "ev") ?_
      · rw [ll]; exact Tm.ixN_of x0 xl
      walk_at "nf"
      refine S.to1 ?_ rfl
      walk_at "leq"
      exact Tm.tkF_some ho x0 xl
  · rw [Int.toNat_natCast, List.take_length]
    exact S.retM rfl q
/-! plan_worth -/
theorem ok_plan_worth (m_len : mg "len" = none) (m_range : mg "range" = none) (T_Company : ClF K C_Company ["discount", "projects"]) (G_add_ratios : Kn CX0 P w K mg base "add_ratios" 3 ["first", "second"] (Sp2 (rRat K) (rRat K) (fun a b => a.2 ≠ 0 ∧ b.2 ≠ 0 ∧ Tm.Bd 4000 a.1 ∧ Tm.Bd 4000 a.2 ∧ Tm.Bd 4000 b.1 ∧ Tm.Bd 4000 b.2) (fun a b => retI (rRat K) (Tm.mkR (a.1 * b.2 + b.1 * a.2) (a.2 * b.2))))) (G_check_offer : Kn CX0 P w K mg base "check_offer" 1 ["offer"] (Sp1 (rRat K) (fun o => 0 ≤ o.1) (fun _ => retI rNon ()))) (G_day_weights : Kn CX0 P w K mg base "day_weights" 2 ["discount", "count"] (Sp2 (rRat K) rInt (fun d n => Tm.Bd 10 d.1 ∧ Tm.Bd 10 d.2 ∧ 0 ≤ n ∧ n ≤ 10000) (fun d n => retN rInt (Tm.wts d.1 d.2 n.toNat)))) (G_make_ratio : Kn CX0 P w K mg base "make_ratio" 2 ["numerator", "denominator"] (Sp2 rInt rInt (fun _ d => d ≠ 0 ∧ Tm.Bd 8999 d) (fun n d => retI (rRat K) (Tm.mkR n d)))) (G_offer_alone : Kn CX0 P w K mg base "offer_alone" 3 ["discount", "offer"] (Sp2 (rRat K) (rRat K) (fun d o => Tm.Dis d ∧ Tm.Offr o) (fun d o => retI (rRat K) (Tm.aloneF d o)))) (G_scale : Kn CX0 P w K mg base "scale" 2 ["discount", "count"] (Sp2 (rRat K) rInt (fun d n => Tm.Bd 10 d.2 ∧ 0 ≤ n ∧ n ≤ 10000) (fun d n => retI rInt (d.2 ^ (n.toNat - 1))))) (G_steps_taken : Kn CX0 P w K mg base "steps_taken" 1 ["company", "plan"] (Sp2 (rCompany K C_Company) (rLst K (rOpt rInt)) (fun c pl => Tm.COk c ∧ Tm.VP c.2 pl ∧ pl.length ≤ 1000) (fun c pl => retN rInt (Tm.tkF c.2.length pl)))) {f : Addr} {fd : FuncData} (F : Fun K "plan_worth" "plan_worth" s_plan_worth f fd) : FnOk P w K mg base CX0 4 f fd ["company", "plan", "offer"] (Sp3 (rCompany K C_Company) (rLst K (rOpt rInt)) (rRat K) (fun c pl o => Tm.COk c ∧ Tm.VP c.2 pl ∧ pl.length ≤ 210 ∧ Tm.Offr o) (fun c pl o => retI (rRat K) (Tm.pwF c pl o))) := by
  refine F.ok sc_plan_worth (fun vs H Q E h => Sp3.len h) (fun cdv A outer s H vs Q E hr h => ?_)
  obtain ⟨F0, v0, v1, v2, c, pl, o, he, rfl, h0, h1, h2, hp, q⟩ := h
  refine ⟨_, (pss_cons (ps_expr (p_call G_steps_taken (hr.mono (by decide)) (by rfl) (pa_cons (pv 0) (pa_cons (pv 1) pa_nil)))) (pss_cons (ps_expr (p_call G_check_offer (hr.mono (by decide)) (by rfl) (pa_cons (pv 2) pa_nil))) (pss_cons (ps_set (i := 3) sc_plan_worth.nd rfl (Or.inl rfl) (p_call G_day_weights (hr.mono (by decide)) (by rfl) (pa_cons (p_fld1 (K := K) (pv 0)) (pa_cons (p_len (K := K) (by rfl) m_len (pv 1)) pa_nil)))) (pss_cons (ps_setLc (i := 4) (own := [("_", 5)]) rfl sc_plan_worth.nd rfl rfl (sw_true rfl rfl rfl (by decide +kernel)) (pi_tup (p_fld2 (K := K) (pv 0))) (blkOk_by (own := [("_", 5)]) (N := ["company", "plan", "offer", "weights", "taken", "_", "total", "day", "index", "reward", "gain"]) (sc := defScope s_plan_worth) (by decide +kernel)) (fun _ _ _ _ _ => (pg_name (i := 5) sc_plan_worth.nd rfl (Or.inl rfl))) (fun _ _ _ _ _ => pts_nil) (fun _ _ _ _ _ => pe_int)) (pss_cons (ps_set (i := 6) sc_plan_worth.nd rfl (Or.inl rfl) pe_int) (pss_cons (ps_for PassesOwn.never rfl (pi_range1 (by rfl) m_range (pa_cons (p_len (K := K) (by rfl) m_len (pv 1)) pa_nil)) (pg_name (i := 7) sc_plan_worth.nd rfl (Or.inl rfl)) (pss_cons (ps_set (i := 8) sc_plan_worth.nd rfl (Or.inl rfl) (p_ixL (K := K) (pv 1) (pv 7))) (pss_one (ps_if (q_notN (pv 8) pe_non) (pss_cons (ps_set (i := 9) sc_plan_worth.nd rfl (Or.inl rfl) (p_ixU (K := K) (p_ixU (K := K) (p_fld2 (K := K) (pv 0)) (pv 8)) (p_ixM (K := K) (pv 4) (pv 8)))) (pss_cons (ps_aug (i := 6) sc_plan_worth.nd rfl (Or.inl rfl) (p_mul (p_ixL (K := K) (pv 3) (pv 7)) (p_sub (p_mul (pv 9) (p_snd (K := K) (pv 2))) (p_fst (K := K) (pv 2)))) ip_add) (pss_one (p_augL (K := K) (pv 4) (pv 8) pe_int ip_add)))) pss_nil)))) (pss_cons (ps_set (i := 10) sc_plan_worth.nd rfl (Or.inl rfl) (p_call G_make_ratio (hr.mono (by decide)) (by rfl) (pa_cons (pv 6) (pa_cons (p_mul (p_snd (K := K) (pv 2)) (p_call G_scale (hr.mono (by decide)) (by rfl) (pa_cons (p_fld1 (K := K) (pv 0)) (pa_cons (p_len (K := K) (by rfl) m_len (pv 1)) pa_nil)))) pa_nil)))) (pss_one (ps_ret (p_call G_add_ratios (hr.mono (by decide)) (by rfl) (pa_cons (pv 10) (pa_cons (p_call G_offer_alone (hr.mono (by decide)) (by rfl) (pa_cons (p_fld1 (K := K) (pv 0)) (pa_cons (pv 2) pa_nil))) pa_nil)))))))))))), ?_⟩
  refine body3 he h0 h1 h2 ?_
  try dsimp only [cxOf, Cx.nox, Cx.wish]
  show S _ _ [.im (rCompany K C_Company) c, .im (rLst K (rOpt rInt)) pl, .im (rRat K) o, .un, .un, .un, .un, .un, .un, .un, .un] _
  obtain ⟨ok, vp, pl0, off⟩ := hp
  have n10 := ok.p.1
  have hd := ok.d.1
  obtain ⟨ha, hb, a0, b0⟩ := hd.bd
  have ps1 : Tm.COk c ∧ Tm.VP c.2 pl ∧ pl.length ≤ 1000 := ⟨ok, vp, by omega⟩
  have off' := off
  obtain ⟨o0, o1, ob1, ob2⟩ := off
  have pw : Tm.Bd 10 c.1.1 ∧ Tm.Bd 10 c.1.2 ∧ 0 ≤ (pl.length : Int) ∧ (pl.length : Int) ≤ 10000 := ⟨ha, hb, by omega, by omega⟩
  refine S.drop (A := rLst K rInt) (a := Tm.tkF c.2.length pl) (by walk_at "ev") ?_
  refine S.drop (A := rNon) (a := ()) (by walk_at "ev") ?_
  refine S.asg (A := rLst K rInt) (by walk_at "ev") ?_
  walk_at "nf"
  rw [Int.toNat_natCast]
  refine S.asgN (A := rInt) (as := Tm.tkF c.2.length (pl.take 0)) (en_is (en_mapL (A := rTup K rInt) (C := rInt) (fun _ => (0:Int)) (iw_tup (by walk_at "ev")) ?_ (by decide) (fun a ha => (by walk_at "ev"))) ?_) ?_
  · omega
  · exact Tm.tkF_nil _
  walk_at "nf"
  walk_at "asg"
  refine S.forR (j := 7) (by walk_at "ev") ⟨by omega, by omega⟩ (fun i => [.im (rCompany K C_Company) c, .im (rLst K (rOpt rInt)) pl, .im (rRat K) o, .im (rLst K rInt) (Tm.wts c.1.1 c.1.2 pl.length), .mu rInt (Tm.tkF c.2.length (pl.take i)), .un, .im rInt (Tm.twF c.1 c.2 pl o pl.length i), .un, .un, .un, .un]) ?_ (fun F1 i _ hi => ?_) ?_
  · refine Sub.of ?_
    walk_at "leq"
    all_goals rfl
  · walk_at "nf"
    obtain ⟨oo, ho⟩ : ∃ oo, pl[i]? = some oo := ⟨_, List.getElem?_eq_getElem (by omega)⟩
    have at1 : atI pl (i : Int) = some oo := atI_nat ho
    refine S.asg (A := rOpt rInt) (a := oo) (by walk_at "ev") ?_
    walk_at "nf"
    cases oo with
    | none =>
      refine S.one (S.ifs (k := false) (eb_is (eb_notN (A := rInt) (by walk_at "ev")) rfl) (fun h => nomatch h) fun _ => S.next ?_)
      refine S.to1 ?_ rfl
      walk_at "leq"
      · exact Tm.tkF_none ho
      · rw [Tm.twF_succ, Tm.twT_none ho, Int.add_zero]
    | some x =>
      obtain ⟨x0, xl, hc⟩ := vp.vl i x ho
      have hc : Tm.cs pl i x.toNat < (Tm.rdp c.2 x.toNat).length := hc
      have hrs := Tm.rdp_at xl
      have ll := Tm.tkF_len c.2.length (pl.take i)
      have at2 : atI (Tm.tkF c.2.length (pl.take i)) x = some (Tm.cs pl i x.toNat : Int) := Tm.tkF_at (n := c.2.length) (pl.take i) x0 xl
      have at3 : atI c.2 x = some (Tm.rdp c.2 x.toNat) := Tp.at_nat x0 hrs
      have at4 := Tm.rdl_at (rs := Tm.rdp c.2 x.toNat) hc
      have at5 : atI (Tm.wts c.1.1 c.1.2 pl.length) (i : Int) = some (Tm.wt c.1.1 c.1.2 pl.length i) := atI_nat (Tm.wts_get (by omega))
      have wb : Tm.Bd 2100 (Tm.wt c.1.1 c.1.2 pl.length i) := (Tm.Bd.wt ha hb (by omega)).le (by omega)
      have rb : Tm.Bd 31 (Tm.rdl (Tm.rdp c.2 x.toNat) (Tm.cs pl i x.toNat)) := (ok.p.rws (Tm.rdp_mem xl)).bd _
      have m1 : CMulW (Tm.rdl (Tm.rdp c.2 x.toNat) (Tm.cs pl i x.toNat)) o.2 := Tm.mul_ok rb ob2 (by decide)
      have m2 : CMulW (Tm.wt c.1.1 c.1.2 pl.length i) (Tm.rdl (Tm.rdp c.2 x.toNat) (Tm.cs pl i x.toNat) * o.2 - o.1) := Tm.mul_ok wb (Tm.Bd.sub (n := 1431) (rb.mul ob2) (ob1.le (by decide))) (by decide)
      refine S.one (S.ifs (k := true) (eb_is (eb_notN (A := rInt) (by walk_at "ev")) rfl) (fun _ => ?_) (fun h => nomatch h))
      refine S.unO (i := 8) rfl ?_
      walk_at "nf"
      refine S.assoc ?_
      refine S.asg (A := rInt) (a := Tm.rdl (Tm.rdp c.2 x.toNat) (Tm.cs pl i x.toNat)) (by walk_at "ev") ?_
      walk_at "nf"
      refine S.assoc (S.aug rfl (by walk_at "ev") ?_)
      walk_at "nf"
      refine S.augS rfl (by walk_at "ev") at2 (j := x.toNat) ?_ (by walk_at "ev") ?_
      · rw [ll]; exact Tm.ixN_of x0 xl
      walk_at "nf"
      refine S.to1 ?_ rfl
      walk_at "leq"
      · exact Tm.tkF_some ho x0 xl
      · rw [Tm.twF_succ, Tm.twT_some ho]
  · rw [Int.toNat_natCast]
    have pb : Tm.Bd 2200 (c.1.2 ^ (pl.length - 1)) := (hb.pow _).le (by omega)
    have ps : Tm.Bd 10 c.1.2 ∧ 0 ≤ (pl.length : Int) ∧ (pl.length : Int) ≤ 10000 := ⟨hb, by omega, by omega⟩
    have es : (pl.length : Int).toNat - 1 = pl.length - 1 := by rw [Int.toNat_natCast]
    have m3 : CMulW o.2 (c.1.2 ^ ((pl.length : Int).toNat - 1)) := by rw [es]; exact Tm.mul_ok ob2 pb (by decide)
    have pm : o.2 * c.1.2 ^ ((pl.length : Int).toNat - 1) ≠ 0 ∧ Tm.Bd 8999 (o.2 * c.1.2 ^ ((pl.length : Int).toNat - 1)) := by rw [es]; exact ⟨Int.ne_of_gt (Int.mul_pos (by omega) (Int.pow_pos b0)), (ob2.mul pb).le (by decide)⟩
    refine S.asg (A := rRat K) (a := Tm.gainF c.1 c.2 pl o) (ev_is (by walk_at "ev") (by rw [Int.toNat_natCast]; rfl)) ?_
    walk_at "nf"
    have g1 := Tm.gain_bd hd ok.p pl off' pl0
    have g2 := Tm.alone_bd hd off'
    have g3 := Tm.gain_pos hd c.2 pl (o := o) (by omega)
    have g4 := Tm.alone_pos (o := o) hd (by omega)
    have pa : Tm.Dis c.1 ∧ Tm.Offr o := ⟨hd, off'⟩
    have pA : (Tm.gainF c.1 c.2 pl o).2 ≠ 0 ∧ (Tm.aloneF c.1 o).2 ≠ 0 ∧ Tm.Bd 4000 (Tm.gainF c.1 c.2 pl o).1 ∧ Tm.Bd 4000 (Tm.gainF c.1 c.2 pl o).2 ∧ Tm.Bd 4000 (Tm.aloneF c.1 o).1 ∧ Tm.Bd 4000 (Tm.aloneF c.1 o).2 := ⟨by omega, by omega, g1.1, g1.2, g2.1.le (by decide), g2.2.le (by decide)⟩
    refine S.ret (ev_is (by walk_at "ev") ?_) q
    rfl
/-! best_worth -/
theorem ok_best_worth (G_best_plan : KnK CX0 P w K mg base "best_plan" 8 1 ["offer"] ["company", "offer"] (Sp2 (rCompany K C_Company) (rRat K) (fun c o => Tm.COk c ∧ Tm.Offr o) (fun c o => retN rInt (Tm.bpF c o)))) (G_plan_worth : KnK CX0 P w K mg base "plan_worth" 4 2 ["offer"] ["company", "plan", "offer"] (Sp3 (rCompany K C_Company) (rLst K (rOpt rInt)) (rRat K) (fun c pl o => Tm.COk c ∧ Tm.VP c.2 pl ∧ pl.length ≤ 210 ∧ Tm.Offr o) (fun c pl o => retI (rRat K) (Tm.pwF c pl o)))) {f : Addr} {fd : FuncData} (F : Fun K "best_worth" "best_worth" s_best_worth f fd) : FnOk P w K mg base CX0 9 f fd ["company", "offer"] (Sp2 (rCompany K C_Company) (rRat K) (fun c o => Tm.COk c ∧ Tm.Offr o) (fun c o => retI (rRat K) (Tm.bwF c o))) := by
  refine F.ok sc_best_worth (fun vs H Q E h => Sp2.len h) (fun cdv A outer s H vs Q E hr h => ?_)
  obtain ⟨F0, v0, v1, c, o, he, rfl, h0, h1, hp, q⟩ := h
  refine ⟨_, (pss_one (ps_ret (p_callK2 G_plan_worth (hr.mono (by decide)) (by rfl) (pv 0) (p_callK1 G_best_plan (hr.mono (by decide)) (by rfl) (pv 0) (pv 1)) (pv 1)))), ?_⟩
  refine body2 he h0 h1 ?_
  show S _ _ [.im (rCompany K C_Company) c, .im (rRat K) o] _
  obtain ⟨ok, off⟩ := hp
  have pb : Tm.COk c ∧ Tm.Offr o := ⟨ok, off⟩
  have bl := Tm.bpF_ok ok off
  have pw : Tm.COk c ∧ Tm.VP c.2 ((Tm.bpF c o).map some) ∧ ((Tm.bpF c o).map some).length ≤ 210 ∧ Tm.Offr o := ⟨ok, bl.1, by rw [List.length_map]; omega, off⟩
  refine S.ret (ev_is (e_call3 (A0 := rCompany K C_Company) (A1 := rLst K (rOpt rInt)) (A2 := rRat K) (a0 := c) (a1 := (Tm.bpF c o).map some) (a2 := o) (e_var rfl) (e_lstO (e_frz (e_call2 (A0 := rCompany K C_Company) (A1 := rRat K) (a0 := c) (a1 := o) (e_var rfl) (e_var rfl) pb (retN_up _ _)))) (e_var rfl) pw (retI_up _ _)) ?_) q
  rfl
/-! law -/
theorem ok_law (m_list : mg "list" = none) (G_Company___init__ : KnC CX0 P w K mg base "Company" C_Company 4 ["self", "discount", "projects"] (SpI2 C_Company (rRat K) (rSeq K (rSeq K rInt)) (rCompany K C_Company) (fun d ps => Tm.Dis d ∧ Tm.POk ps) (fun d ps => (Tm.mkR d.1 d.2, ps)))) (G__law_cell : Kn CX0 P w K mg base "_law_cell" 1 ["_law_script", "_law_place"] (Sp2 (rLst K rInt) rInt (fun _ p => 0 ≤ p) (fun s p => retI rInt (Tm.cell s p)))) (G__law_discount : Kn CX0 P w K mg base "_law_discount" 1 ["_law_first", "_law_second"] (Sp2 rInt rInt (fun _ _ => True) (fun f s => retI (rRat K) (Tm.discF f s)))) (G__law_equals : Kn CX0 P w K mg base "_law_equals" 3 ["_law_told", "_law_top", "_law_bottom"] (Sp3 (rRat K) rInt rInt (fun t x y => Tm.Bd 9000 t.1 ∧ Tm.Bd 9000 t.2 ∧ Tm.Bd 9000 x ∧ Tm.Bd 9000 y) (fun t x y => retI rBl (Tm.isR t && decide (t.1 * y = x * t.2))))) (G__law_pay : Kn CX0 P w K mg base "_law_pay" 1 ["_law_first", "_law_second"] (Sp2 rInt rInt (fun f s => (0 ≤ f ∧ f < 10 ^ 10) ∧ 0 ≤ s ∧ s < 10 ^ 10) (fun f s => retI (rRat K) (Tm.payF f s)))) (G__law_plans : Kn CX0 P w K mg base "_law_plans" 1 ["_law_projects_here"] (Sp1 (rLst K (rLst K rInt)) (fun ps => ps.length ≤ 4 ∧ ∀ r ∈ ps, r.length ≤ 1000) (fun ps => retI (rLst K (rLst K rInt)) (Tm.allF ps 5)))) (G__law_projects : Kn CX0 P w K mg base "_law_projects" 2 ["_law_row_here", "_law_most", "_law_room"] (Sp3 (rLst K rInt) rInt rInt (fun row mo rm => 0 ≤ mo ∧ mo ≤ 10 ∧ 0 ≤ rm ∧ rm ≤ 60 ∧ 2 + mo + rm ≤ (row.length : Int) ∧ ∀ x ∈ row, 0 ≤ x ∧ x < 10 ^ 10) (fun row mo rm => retN (rLst K rInt) (Tm.prjsF row mo rm)))) (G__law_row : Kn CX0 P w K mg base "_law_row" 1 ["_law_cell_here", "_law_count"] (Sp2 rInt rInt (fun _ n => 0 ≤ n ∧ n ≤ 10000) (fun c n => retN rInt (Tm.rowF c n.toNat).1))) (G__law_valid : Kn CX0 P w K mg base "_law_valid" 2 ["_law_projects_here", "_law_plan"] (Sp2 (rLst K (rLst K rInt)) (rLst K (rOpt rInt)) (fun ps pl => ps.length ≤ 1000 ∧ pl.length ≤ 1000 ∧ Tm.VP ps pl) (fun ps pl => retI rBl true))) (G__law_worth : Kn CX0 P w K mg base "_law_worth" 1 ["_law_discount_here", "_law_projects_here", "_law_plan", "_law_pay_here"] (Sp4 (rRat K) (rLst K (rLst K rInt)) (rLst K (rOpt rInt)) (rRat K) (fun d ps pl o => Tm.Dis d ∧ Tm.POk ps ∧ Tm.VP ps pl ∧ pl.length ≤ 210 ∧ Tm.Offr o) (fun d ps pl o => retI (rT2 K rInt rInt) (Tm.lwF d ps pl o)))) (G_best_plan : KnK CX0 P w K mg base "best_plan" 8 1 ["offer"] ["company", "offer"] (Sp2 (rCompany K C_Company) (rRat K) (fun c o => Tm.COk c ∧ Tm.Offr o) (fun c o => retN rInt (Tm.bpF c o)))) (G_best_worth : KnK CX0 P w K mg base "best_worth" 9 1 ["offer"] ["company", "offer"] (Sp2 (rCompany K C_Company) (rRat K) (fun c o => Tm.COk c ∧ Tm.Offr o) (fun c o => retI (rRat K) (Tm.bwF c o)))) {f : Addr} {fd : FuncData} (F : Fun K "law" "law" s_law f fd) : FnOk P w K mg base CX0 10 f fd ["_law_script"] (Sp1 (rLst K rInt) (fun _ => True) (fun _ => retI rBl true)) := by
  refine F.ok sc_law (fun vs H Q E h => Sp1.len h) (fun cdv A outer s H vs Q E hr h => ?_)
  obtain ⟨F0, v0, ns, he, rfl, h0, hp, q⟩ := h
  refine ⟨_, (pss_cons (ps_set (i := 1) sc_law.nd rfl (Or.inl rfl) (p_call G__law_row (hr.mono (by decide)) (by rfl) (pa_cons (p_call G__law_cell (hr.mono (by decide)) (by rfl) (pa_cons (pv 0) (pa_cons pe_int pa_nil))) (pa_cons pe_int pa_nil)))) (pss_cons (ps_set (i := 2) sc_law.nd rfl (Or.inl rfl) (p_call G__law_discount (hr.mono (by decide)) (by rfl) (pa_cons (p_ixL (K := K) (pv 1) pe_int) (pa_cons (p_ixL (K := K) (pv 1) pe_int) pa_nil)))) (pss_cons (ps_set (i := 3) sc_law.nd rfl (Or.inl rfl) (p_call G__law_projects (hr.mono (by decide)) (by rfl) (pa_cons (p_slL (K := K) (pv 1) (po_some pe_int) po_none) (pa_cons pe_int (pa_cons pe_int pa_nil))))) (pss_cons (ps_set (i := 1) sc_law.nd rfl (Or.inl rfl) (p_call G__law_row (hr.mono (by decide)) (by rfl) (pa_cons (p_call G__law_cell (hr.mono (by decide)) (by rfl) (pa_cons (pv 0) (pa_cons pe_int pa_nil))) (pa_cons pe_int pa_nil)))) (pss_cons (ps_set (i := 4) sc_law.nd rfl (Or.inl rfl) (p_call G__law_pay (hr.mono (by decide)) (by rfl) (pa_cons (p_ixL (K := K) (pv 1) pe_int) (pa_cons (p_ixL (K := K) (pv 1) pe_int) pa_nil)))) (pss_cons (ps_set (i := 5) sc_law.nd rfl (Or.inl rfl) (p_lst (K := K) pa_nil)) (pss_cons (ps_set (i := 6) sc_law.nd rfl (Or.inl rfl) (p_call G__law_worth (hr.mono (by decide)) (by rfl) (pa_cons (pv 2) (pa_cons (pv 3) (pa_cons (pv 5) (pa_cons (pv 4) pa_nil)))))) (pss_cons (ps_for PassesOwn.never rfl (pi_list (p_call G__law_plans (hr.mono (by decide)) (by rfl) (pa_cons (pv 3) pa_nil))) (pg_name (i := 7) sc_law.nd rfl (Or.inl rfl)) (pss_cons (ps_set (i := 8) sc_law.nd rfl (Or.inl rfl) (p_call G__law_worth (hr.mono (by decide)) (by rfl) (pa_cons (pv 2) (pa_cons (pv 3) (pa_cons (pv 7) (pa_cons (pv 4) pa_nil)))))) (pss_one (ps_if (q_gt (p_mul (p_fst (K := K) (pv 8)) (p_snd (K := K) (pv 6))) (p_mul (p_fst (K := K) (pv 6)) (p_snd (K := K) (pv 8)))) (pss_cons (ps_set (i := 5) sc_law.nd rfl (Or.inl rfl) (pv 7)) (pss_one (ps_set (i := 6) sc_law.nd rfl (Or.inl rfl) (pv 8)))) pss_nil)))) (pss_cons (ps_set (i := 9) sc_law.nd rfl (Or.inl rfl) (p_make G_Company___init__ (hr.mono (by decide)) (by rfl) (pa_cons (pv 2) (pa_cons (pe_lc (own := [("_law_rewards", 10)]) rfl sc_law.nd (pi_list (pv 3)) (blkOk_by (own := [("_law_rewards", 10)]) (N := ["_law_script", "_law_row_here", "_law_discount_here", "_law_projects_here", "_law_pay_here", "_law_due", "_law_best", "_law_plan", "_law_value", "_law_company", "_law_rewards", "_law_told"]) (sc := defScope s_law) (by decide +kernel)) (fun _ _ _ _ _ => (pg_name (i := 10) sc_law.nd rfl (Or.inl rfl))) (fun _ _ _ _ _ => pts_nil) (fun _ _ _ _ _ => (p_lstOf (K := K) (by rfl) m_list (pv 10)))) pa_nil)))) (pss_cons (ps_if (pt_not (pt_val (p_call G__law_equals (hr.mono (by decide)) (by rfl) (pa_cons (p_callK1 G_best_worth (hr.mono (by decide)) (by rfl) (pv 9) (pv 4)) (pa_cons (p_fst (K := K) (pv 6)) (pa_cons (p_snd (K := K) (pv 6)) pa_nil)))))) (pss_one (ps_ret pe_bl)) pss_nil) (pss_cons (ps_set (i := 11) sc_law.nd rfl (Or.inl rfl) (p_callK1 G_best_plan (hr.mono (by decide)) (by rfl) (pv 9) (pv 4))) (pss_one (ps_ret (pe_and (p_call G__law_valid (hr.mono (by decide)) (by rfl) (pa_cons (pv 3) (pa_cons (pv 11) pa_nil))) (pe_one (p_eqD (K := K) hr.units (pv 11) (pv 5))))))))))))))))), ?_⟩
  refine body1 he h0 ?_
  try dsimp only [cxOf, Cx.nox, Cx.wish]
  show S _ _ [.im (rLst K rInt) ns, .un, .un, .un, .un, .un, .un, .un, .un, .un, .un, .un] _
  have p0 : (0 : Int) ≤ 74 ∧ (13 : Int) ≤ 10000 := by decide
  have z00 : (0 : Int) ≤ 0 := by decide
  have z01 : (0 : Int) ≤ 1 := by decide
  have z02 : (0 : Int) ≤ 2 := by decide
  have z03 : (0 : Int) ≤ 3 := by decide
  have z04 : (0 : Int) ≤ 4 := by decide
  refine S.asg (A := rLst K rInt) (by walk_at "ev") ?_
  walk_at "nf"
  have hrl := Tm.rowF_len (Tm.cell ns 0) (13 : Int).toNat
  have hrn := Tm.rowF_nn (Tm.cell ns 0) (13 : Int).toNat
  generalize (Tm.rowF (Tm.cell ns 0) (13 : Int).toNat).1 = row at hrl hrn ⊢
  have hrl : row.length = 13 := hrl
  obtain ⟨x, y, row, rfl⟩ : ∃ x y r, row = x :: y :: r := by
    match row, hrl with
    | x :: y :: r, _ => exact ⟨x, y, r, rfl⟩
  have r0 : atI (x :: y :: row) 0 = some x := Tm.rdl_at (rs := x :: y :: row) (i := 0) (by omega)
  have r1 : atI (x :: y :: row) 1 = some y := Tm.rdl_at (rs := x :: y :: row) (i := 1) (by omega)
  have hd0 := Tm.discF_ok x y
  have hl2 : row.length = 11 := by simpa using hrl
  have hx2 : ∀ z ∈ row, 0 ≤ z ∧ z < 10 ^ 10 := fun z hz => hrn z (by simp [hz])

  have pr : (0 : Int) ≤ 4 ∧ (4 : Int) ≤ 10 ∧ (0 : Int) ≤ 5 ∧ (5 : Int) ≤ 60 ∧ 2 + 4 + 5 ≤ ((cutA (x :: y :: row) (some 2) none).length : Int) ∧ ∀ z ∈ cutA (x :: y :: row) (some 2) none, 0 ≤ z ∧ z < 10 ^ 10 := by rw [Tm.cut2]; exact ⟨by decide, by decide, by decide, by decide, by omega, hx2⟩
  refine S.asg (A := rRat K) (by walk_at "ev") ?_
  walk_at "nf"
  generalize Tm.discF x y = d0 at hd0 ⊢
  refine S.asg (A := rLst K (rLst K rInt)) (by walk_at "ev") ?_
  walk_at "nf"
  rw [Tm.cut2]
  obtain ⟨hps, hpl, hpt⟩ := Tm.prjsF_ok row (most := 4) (room := 5) (by decide) (by decide) (by decide) (by decide)
  generalize Tm.prjsF row 4 5 = ps at hps hpl hpt ⊢
  have l10 := hps.1

  obtain ⟨c, c1, rfl⟩ : ∃ c : Tm.Co, c.1 = Tm.mkR d0.1 d0.2 ∧ c.2 = ps := ⟨(Tm.mkR d0.1 d0.2, ps), rfl, rfl⟩
  have ok : Tm.COk c := ⟨by rw [c1]; exact Tm.DisL.of hd0, hps⟩
  have mde : Tm.Made d0 c := ⟨hd0, ok, c1⟩
  have pc : Tm.Dis d0 ∧ Tm.POk c.2 := ⟨hd0, hps⟩

  have p2 : (0 : Int) ≤ 2 ∧ (2 : Int) ≤ 10000 := by decide
  refine S.asg (A := rLst K rInt) (by walk_at "ev") ?_
  walk_at "nf"
  have rol := Tm.rowF_len (Tm.cell ns 1) (2 : Int).toNat
  have ron := Tm.rowF_nn (Tm.cell ns 1) (2 : Int).toNat
  generalize (Tm.rowF (Tm.cell ns 1) (2 : Int).toNat).1 = ro at rol ron ⊢
  have rol : ro.length = 2 := rol
  have ro0 : atI ro 0 = some (Tm.rdl ro 0) := Tm.rdl_at (i := 0) (by omega)
  have ro1 : atI ro 1 = some (Tm.rdl ro 1) := Tm.rdl_at (i := 1) (by omega)

  have pf : (0 ≤ Tm.rdl ro 0 ∧ Tm.rdl ro 0 < 10 ^ 10) ∧ 0 ≤ Tm.rdl ro 1 ∧ Tm.rdl ro 1 < 10 ^ 10 := ⟨ron _ (Tm.rdl_mem (by omega)), ron _ (Tm.rdl_mem (by omega))⟩
  refine S.asg (A := rRat K) (a := Tm.payF (Tm.rdl ro 0) (Tm.rdl ro 1)) (by walk_at "ev") ?_
  walk_at "nf"
  have ok0 := Tm.payF_ok pf.1 pf.2
  generalize Tm.payF (Tm.rdl ro 0) (Tm.rdl ro 1) = P0 at ok0 ⊢
  have ok0 : Tm.Offr P0 := ⟨ok0.1, ok0.2.1, ok0.2.2.1.le (by decide), ok0.2.2.2.le (by decide)⟩
  obtain ⟨o, eo⟩ : ∃ o, o = P0 := ⟨_, rfl⟩
  rw [← eo] at ok0 ⊢
  have off := ok0
  have o1 : 0 < o.2 := by have := off.2.1; omega
  refine S.asg (A := rLst K rInt) (a := []) (e_frz (en_xlst ea_nil (by decide))) ?_
  walk_at "nf"
  have pw0 : Tm.Dis d0 ∧ Tm.POk c.2 ∧ Tm.VP c.2 (([] : List Int).map some) ∧ (([] : List Int).map some).length ≤ 210 ∧ Tm.Offr o := ⟨hd0, hps, (fun i x e => by simp at e), by decide, off⟩
  refine S.asg (A := rT2 K rInt rInt) (a := Tm.lwF d0 c.2 (([] : List Int).map some) o) (e_call4 (A0 := rRat K) (A1 := rLst K (rLst K rInt)) (A2 := rLst K (rOpt rInt)) (A3 := rRat K) (a0 := d0) (a1 := c.2) (a2 := ([] : List Int).map some) (a3 := o) (e_var rfl) (e_var rfl) (e_lstO (e_var rfl)) (e_var rfl) pw0 (retI_up _ _)) ?_
  walk_at "nf"
  obtain ⟨bv, bl⟩ := Tm.bpF_ok ok off
  have bl5 : (Tm.bpF c o).length ≤ 5 := by
    rw [Tm.bpF_len]
    have h1 := Tm.cutK_le (Tm.mgC c) (Tm.rv o)
    rw [Tm.mgC_len, Tm.totC_cert ok.d.1 ok.p] at h1
    omega
  obtain ⟨L1, L2, eL, hL⟩ := Tm.all_best ok off bl5
  have lw := fun p : List Int => mde.lw (p.map some) o1
  have lB : ∀ p ∈ Tm.allF c.2 5, Tm.Bd 9000 (Tm.lwF d0 c.2 (p.map some) o).1 ∧ Tm.Bd 9000 (Tm.lwF d0 c.2 (p.map some) o).2 := fun p hp => Tm.lw_bd hd0 hps (p.map some) off (by rw [List.length_map]; have := (Tm.all_mem.mp hp).1; omega)
  have pl : c.2.length ≤ 4 ∧ ∀ r ∈ c.2, r.length ≤ 1000 := ⟨by omega, fun r hr => Nat.le_trans (hps.rws hr).1 (by decide)⟩
  have nilm : ([] : List Int) ∈ Tm.allF c.2 5 := Tm.all_mem.mpr ⟨by decide, fun i x e => by simp at e⟩
  refine S.forNx (j := 7) (A := rLst K rInt) (as := Tm.allF c.2 5) (β := List Int × Tm.Rt) (iw_list (e_call1 (A0 := rLst K (rLst K rInt)) (a0 := c.2) (e_var rfl) pl (retI_up _ _))) (fun i z => z.1 ∈ Tm.allF c.2 5 ∧ z.2 = Tm.lwF d0 c.2 (z.1.map some) o ∧ (z.1 = Tm.bpF c o ∨ i ≤ L1.length ∧ Tm.rv z.2 < Tm.bestR c (Tm.rv o))) (fun i z => [.im (rLst K rInt) ns, .im (rLst K rInt) ro, .im (rRat K) d0, .im (rLst K (rLst K rInt)) c.2, .im (rRat K) o, .im (rLst K rInt) z.1, .im (rT2 K rInt rInt) z.2, .un, .un, .un, .un, .un]) ([], Tm.lwF d0 c.2 (([] : List Int).map some) o) ⟨nilm, rfl, ?_⟩ (by walk_at "les") (fun F1 i z p _ hz hp => ?_) (fun z hz => ?_)
  · by_cases h : ([] : List Int) = Tm.bpF c o
    · exact .inl h
    · refine .inr ⟨Nat.zero_le _, ?_⟩
      have hm : ([] : List Int) ∈ L1 := by
        have := Tm.all_pw c.2 5
        cases hl : L1 with
        | nil =>
          have h0 : (Tm.allF c.2 5)[0]? = some [] := by
            have : ∀ n, (Tm.allF c.2 n)[0]? = some [] := fun n => by
              induction n with
              | zero => rfl
              | succ n ih =>
                show (Tm.allF c.2 n ++ Tm.lvF c.2 (n + 1))[0]? = _
                have := (List.getElem?_eq_some_iff.mp ih).1
                rw [List.getElem?_append_left this]
                exact ih
            exact this 5
          rw [eL, hl] at h0
          exact absurd (Option.some.inj h0).symm h
        | cons a l =>
          have h0 : (Tm.allF c.2 5)[0]? = some [] := by
            have : ∀ n, (Tm.allF c.2 n)[0]? = some [] := fun n => by
              induction n with
              | zero => rfl
              | succ n ih =>
                show (Tm.allF c.2 n ++ Tm.lvF c.2 (n + 1))[0]? = _
                have := (List.getElem?_eq_some_iff.mp ih).1
                rw [List.getElem?_append_left this]
                exact ih
            exact this 5
          rw [eL, hl] at h0
          rw [show a = [] from Option.some.inj h0]
          exact .head _
      have := hL [] hm
      rw [← (lw []).2] at this
      exact this
  · walk_at "nf"
    obtain ⟨due, best⟩ := z
    obtain ⟨z1, z2, z3⟩ := hz
    dsimp only at z1 z2 z3 ⊢
    have hm := List.mem_of_getElem? hp
    obtain ⟨pl5, pv⟩ := Tm.all_mem.mp hm
    have pw : Tm.Dis d0 ∧ Tm.POk c.2 ∧ Tm.VP c.2 (p.map some) ∧ (p.map some).length ≤ 210 ∧ Tm.Offr o := ⟨hd0, hps, pv, by rw [List.length_map]; omega, off⟩
    have vB := lB p hm
    have bB := lB due z1
    rw [← z2] at bB
    have v1 := lw p
    have b1 := lw due
    rw [← z2] at b1
    have le := Tm.plan_le ok pv (Tm.rv o)
    have key : p = Tm.bpF c o ∨ (i < L1.length ∧ Tm.worthR c.1 c.2 (p.map some) (Tm.rv o) < Tm.bestR c (Tm.rv o)) ∨ L1.length < i := by
      rw [eL] at hp
      by_cases h1 : i < L1.length
      · rw [List.getElem?_append_left h1] at hp
        exact .inr (.inl ⟨h1, hL p (List.mem_of_getElem? hp)⟩)
      · by_cases h2 : i = L1.length
        · rw [h2, List.getElem?_append_right (Nat.le_refl _), Nat.sub_self] at hp
          exact .inl (Option.some.inj hp).symm
        · exact .inr (.inr (by omega))
    have bpw := Tm.bp_worth ok o
    refine S.asg (A := rT2 K rInt rInt) (a := Tm.lwF d0 c.2 (p.map some) o) (e_call4 (A0 := rRat K) (A1 := rLst K (rLst K rInt)) (A2 := rLst K (rOpt rInt)) (A3 := rRat K) (a0 := d0) (a1 := c.2) (a2 := p.map some) (a3 := o) (e_var rfl) (e_var rfl) (e_lstO (e_var rfl)) (e_var rfl) pw (retI_up _ _)) ?_
    walk_at "nf"
    obtain ⟨val, hv⟩ : ∃ v, v = Tm.lwF d0 c.2 (p.map some) o := ⟨_, rfl⟩
    rw [← hv] at vB v1 ⊢
    have m1 : CMulW val.1 best.2 := Tm.mul_ok vB.1 bB.2 (by decide)
    have m2 : CMulW best.1 val.2 := Tm.mul_ok bB.1 vB.2 (by decide)
    refine S.one (S.ifs (k := decide (best.1 * val.2 < val.1 * best.2)) (eb_is (eb_cmp (e_gt (e_mul (e_xfst (A := rInt) (B := rInt) (c := val) (e_var rfl)) (e_xsnd (A := rInt) (B := rInt) (c := best) (e_var rfl)) m1) (e_mul (e_xfst (A := rInt) (B := rInt) (c := best) (e_var rfl)) (e_xsnd (A := rInt) (B := rInt) (c := val) (e_var rfl)) m2))) rfl) (fun h => ?_) (fun h => ?_))
    · have h := (Tm.rv_lt b1.1 v1.1).mpr (of_decide_eq_true h)
      refine S.assoc (S.asg (A := rLst K rInt) (a := p) (e_var rfl) ?_)
      walk_at "nf"
      refine S.one (S.asg (A := rT2 K rInt rInt) (a := val) (e_var rfl) ?_)
      walk_at "nf"
      refine S.to (β := List Int × Tm.Rt) (p, val) ⟨hm, hv, ?_⟩ (by walk_at "les") rfl
      rcases key with k | ⟨k1, k2⟩ | k
      · exact .inl k
      · exact .inr ⟨k1, by rw [v1.2]; exact k2⟩
      · rcases z3 with y | y
        · exfalso
          rw [b1.2, v1.2, y, bpw] at h
          grind
        · exact absurd y.1 (by omega)
    · have h : ¬ Tm.rv best < Tm.rv val := fun y => (of_decide_eq_false h) ((Tm.rv_lt b1.1 v1.1).mp y)
      refine S.next (S.to (β := List Int × Tm.Rt) (due, best) ⟨z1, z2, ?_⟩ (by walk_at "les") rfl)
      rcases z3 with y | y
      · exact .inl y
      · rcases key with k | ⟨k1, k2⟩ | k
        · exfalso
          rw [v1.2, k, bpw] at h
          exact h y.2
        · exact .inr ⟨k1, y.2⟩
        · exact absurd y.1 (by omega)
  · obtain ⟨due, best⟩ := z
    obtain ⟨z1, z2, z3⟩ := hz
    dsimp only at z1 z2 z3 ⊢
    have eD : due = Tm.bpF c o := by
      rcases z3 with y | y
      · exact y
      · have l := congrArg List.length eL
        rw [List.length_append, List.length_cons] at l
        exact absurd y.1 (by omega)
    subst eD
    subst z2
    refine S.asg (A := rCompany K C_Company) (a := c) (ev_is (e_make2 (A := rRat K) (B := rSeq K (rSeq K rInt)) (R := rCompany K C_Company) (a := d0) (b := c.2) (by walk_at "ev") (e_seqL (e_frz (en_is (en_mapL (A := rLst K rInt) (C := rSeq K rInt) (fun a => a) (iw_list (by walk_at "ev")) (by omega) (by decide) (fun a ha => (by walk_at "ev"))) (List.map_id' _)))) pc) (by rw [← c1])) ?_
    walk_at "nf"
    have pb : Tm.COk c ∧ Tm.Offr o := ⟨ok, off⟩
    have wB := Tm.bw_bd ok off
    have lwB := lB _ z1
    have be := mde.bw_eq o1
    have pe : Tm.Bd 9000 (Tm.bwF c o).1 ∧ Tm.Bd 9000 (Tm.bwF c o).2 ∧ Tm.Bd 9000 (Tm.lwF d0 c.2 ((Tm.bpF c o).map some) o).1 ∧ Tm.Bd 9000 (Tm.lwF d0 c.2 ((Tm.bpF c o).map some) o).2 := ⟨wB.1.le (by decide), wB.2.le (by decide), lwB.1, lwB.2⟩
    obtain ⟨lv, hlv⟩ : ∃ v, v = Tm.lwF d0 c.2 ((Tm.bpF c o).map some) o := ⟨_, rfl⟩
    rw [← hlv] at pe be ⊢
    refine S.ifs (k := false) (eb_is (eb_not (eb_B (e_call3 (A0 := rRat K) (A1 := rInt) (A2 := rInt) (a0 := Tm.bwF c o) (a1 := lv.1) (a2 := lv.2) (e_call2 (A0 := rCompany K C_Company) (A1 := rRat K) (a0 := c) (a1 := o) (e_var rfl) (by walk_at "ev") pb (retI_up _ _)) (e_xfst (A := rInt) (B := rInt) (c := lv) (e_var rfl)) (e_xsnd (A := rInt) (B := rInt) (c := lv) (e_var rfl)) pe (retI_up _ _)))) (by rw [be]; rfl)) (fun h => nomatch h) fun _ => S.next ?_
    refine S.asg (A := rLst K rInt) (a := Tm.bpF c o) (e_frz (e_call2 (A0 := rCompany K C_Company) (A1 := rRat K) (a0 := c) (a1 := o) (e_var rfl) (by walk_at "ev") pb (retN_up _ _))) ?_
    walk_at "nf"
    have pv : c.2.length ≤ 1000 ∧ ((Tm.bpF c o).map some).length ≤ 1000 ∧ Tm.VP c.2 ((Tm.bpF c o).map some) := ⟨by omega, by rw [List.length_map]; omega, bv⟩
    exact S.ret (A := rBl) (a := true && true) (e_andV (e_call2 (A0 := rLst K (rLst K rInt)) (A1 := rLst K (rOpt rInt)) (a0 := c.2) (a1 := (Tm.bpF c o).map some) (e_var rfl) (e_lstO (e_var rfl)) pv (retI_up _ _)) (fun _ => ev_is (e_eqD (A := rLst K rInt) (a := Tm.bpF c o) (b := Tm.bpF c o) (e_var rfl) (e_var rfl) inferInstance (by decide)) (by simp))) q
end
theorem all_mk {l : PySem.W.OpenLaw} {w : World} {K : PySem.W.Frag} {h : Heap} {mg : Str → Option Value} {fa : Addr} (X : K.In h) (G : h.Ns mainGlobals mg) (hfa : mg "law" = some (.ref fa))
    {C_Company : Addr}
    {f1 : Addr} {od1 an1 : Option Addr} {sl1 : Array (Option Value)} {oc1 kV1 dc1 pm1 cd1 ct1 : Value}
    {f2 : Addr} {od2 an2 : Option Addr} {sl2 : Array (Option Value)} {oc2 kV2 dc2 pm2 cd2 ct2 : Value}
    {f3 : Addr} {od3 an3 : Option Addr} {sl3 : Array (Option Value)} {oc3 kV3 dc3 pm3 cd3 ct3 : Value}
    {f4 : Addr} {od4 an4 : Option Addr} {sl4 : Array (Option Value)} {oc4 kV4 dc4 pm4 cd4 ct4 : Value}
    {f5 : Addr} {od5 an5 : Option Addr} {sl5 : Array (Option Value)} {oc5 kV5 dc5 pm5 cd5 ct5 : Value}
    {f6 : Addr} {od6 an6 : Option Addr} {sl6 : Array (Option Value)} {oc6 kV6 dc6 pm6 cd6 ct6 : Value}
    {f7 : Addr} {od7 an7 : Option Addr} {sl7 : Array (Option Value)} {oc7 kV7 dc7 pm7 cd7 ct7 : Value}
    {f8 : Addr} {od8 an8 : Option Addr} {sl8 : Array (Option Value)} {oc8 kV8 dc8 pm8 cd8 ct8 : Value}
    {f9 : Addr} {od9 an9 : Option Addr} {sl9 : Array (Option Value)} {oc9 kV9 dc9 pm9 cd9 ct9 : Value}
    {f10 : Addr} {od10 an10 : Option Addr} {sl10 : Array (Option Value)} {oc10 kV10 dc10 pm10 cd10 ct10 : Value}
    {f11 : Addr} {od11 an11 : Option Addr} {sl11 : Array (Option Value)} {oc11 kV11 dc11 pm11 cd11 ct11 : Value}
    {f12 : Addr} {od12 an12 : Option Addr} {sl12 : Array (Option Value)} {oc12 kV12 dc12 pm12 cd12 ct12 : Value}
    {f13 : Addr} {od13 an13 : Option Addr} {sl13 : Array (Option Value)} {oc13 kV13 dc13 pm13 cd13 ct13 : Value}
    {f14 : Addr} {od14 an14 : Option Addr} {sl14 : Array (Option Value)} {oc14 kV14 dc14 pm14 cd14 ct14 : Value}
    {f15 : Addr} {od15 an15 : Option Addr} {sl15 : Array (Option Value)} {oc15 kV15 dc15 pm15 cd15 ct15 : Value}
    {f16 : Addr} {od16 an16 : Option Addr} {sl16 : Array (Option Value)} {oc16 kV16 dc16 pm16 cd16 ct16 : Value}
    {f17 : Addr} {od17 an17 : Option Addr} {sl17 : Array (Option Value)} {oc17 kV17 dc17 pm17 cd17 ct17 : Value}
    {f18 : Addr} {od18 an18 : Option Addr} {sl18 : Array (Option Value)} {oc18 kV18 dc18 pm18 cd18 ct18 : Value}
    {f19 : Addr} {od19 an19 : Option Addr} {sl19 : Array (Option Value)} {oc19 kV19 dc19 pm19 cd19 ct19 : Value}
    {f20 : Addr} {od20 an20 : Option Addr} {sl20 : Array (Option Value)} {oc20 kV20 dc20 pm20 cd20 ct20 : Value}
    {f21 : Addr} {od21 an21 : Option Addr} {sl21 : Array (Option Value)} {oc21 kV21 dc21 pm21 cd21 ct21 : Value}
    {f22 : Addr} {od22 an22 : Option Addr} {sl22 : Array (Option Value)} {oc22 kV22 dc22 pm22 cd22 ct22 : Value}
    {f23 : Addr} {od23 an23 : Option Addr} {sl23 : Array (Option Value)} {oc23 kV23 dc23 pm23 cd23 ct23 : Value}
    {f24 : Addr} {od24 an24 : Option Addr} {sl24 : Array (Option Value)} {oc24 kV24 dc24 pm24 cd24 ct24 : Value}
    {f25 : Addr} {od25 an25 : Option Addr} {sl25 : Array (Option Value)} {oc25 kV25 dc25 pm25 cd25 ct25 : Value}
    {f26 : Addr} {od26 an26 : Option Addr} {sl26 : Array (Option Value)} {oc26 kV26 dc26 pm26 cd26 ct26 : Value}
    {f27 : Addr} {od27 an27 : Option Addr} {sl27 : Array (Option Value)} {oc27 kV27 dc27 pm27 cd27 ct27 : Value}
    {f28 : Addr} {od28 an28 : Option Addr} {sl28 : Array (Option Value)} {oc28 kV28 dc28 pm28 cd28 ct28 : Value}
    {f29 : Addr} {od29 an29 : Option Addr} {sl29 : Array (Option Value)} {oc29 kV29 dc29 pm29 cd29 ct29 : Value}
    {f30 : Addr} {od30 an30 : Option Addr} {sl30 : Array (Option Value)} {oc30 kV30 dc30 pm30 cd30 ct30 : Value}
    {f31 : Addr} {od31 an31 : Option Addr} {sl31 : Array (Option Value)} {oc31 kV31 dc31 pm31 cd31 ct31 : Value}
    {f32 : Addr} {od32 an32 : Option Addr} {sl32 : Array (Option Value)} {oc32 kV32 dc32 pm32 cd32 ct32 : Value}
    {f33 : Addr} {od33 an33 : Option Addr} {sl33 : Array (Option Value)} {oc33 kV33 dc33 pm33 cd33 ct33 : Value}
    {f34 : Addr} {od34 an34 : Option Addr} {sl34 : Array (Option Value)} {oc34 kV34 dc34 pm34 cd34 ct34 : Value}
    {f35 : Addr} {od35 an35 : Option Addr} {sl35 : Array (Option Value)} {oc35 kV35 dc35 pm35 cd35 ct35 : Value}
    {f36 : Addr} {od36 an36 : Option Addr} {sl36 : Array (Option Value)} {oc36 kV36 dc36 pm36 cd36 ct36 : Value}
    {f37 : Addr} {od37 an37 : Option Addr} {sl37 : Array (Option Value)} {oc37 kV37 dc37 pm37 cd37 ct37 : Value}
    {gt_GREATEST_DENOMINATOR : Tok}
    {gt_GREATEST_REWARD : Tok}
    {gt_MOST_PROJECTS : Tok}
    {gt_MOST_REWARDS : Tok}
    (aC_Company : PySem.W.nsIn K mainGlobals "Company" = some (some (.ref C_Company)))
    (pg_Company : PySem.W.plainGet K C_Company Str.empty = true)
    (hd_Company : PySem.W.hasDictIn K C_Company = true)
    (po_Company : PySem.W.plainOver K C_Company = true)
    (sa_Company : PySem.W.findIn K (.ref C_Company) "__setattr__" = some (some (.builtin "object.__setattr__")))
    (mk_Company : PySem.W.makesIn K C_Company = true)
    (kc_Company : PySem.W.keepIn K (.ref C_Company) = true)
    (n_Company_discount : PySem.W.findIn K (.ref C_Company) "discount" = some none)
    (n_Company_projects : PySem.W.findIn K (.ref C_Company) "projects" = some none)
    (a1 : PySem.W.nsIn K mainGlobals "gcd" = some (some (.ref f1))) (l1 : K.lookup f1 = some ⟨oc1, od1, .func (PySem.W.fnOf "gcd" "gcd" (defArgs s_gcd) (defBody s_gcd) (defScope s_gcd) .none kV1 dc1 pm1 an1 cd1 ct1), sl1⟩) (c1 : PySem.W.codeIn K cd1 "gcd" = true) (k1 : PySem.W.keepIn K (.ref f1) = true)
    (a2 : PySem.W.nsIn K mainGlobals "make_ratio" = some (some (.ref f2))) (l2 : K.lookup f2 = some ⟨oc2, od2, .func (PySem.W.fnOf "make_ratio" "make_ratio" (defArgs s_make_ratio) (defBody s_make_ratio) (defScope s_make_ratio) .none kV2 dc2 pm2 an2 cd2 ct2), sl2⟩) (c2 : PySem.W.codeIn K cd2 "make_ratio" = true) (k2 : PySem.W.keepIn K (.ref f2) = true)
    (a3 : PySem.W.nsIn K mainGlobals "checked_discount" = some (some (.ref f3))) (l3 : K.lookup f3 = some ⟨oc3, od3, .func (PySem.W.fnOf "checked_discount" "checked_discount" (defArgs s_checked_discount) (defBody s_checked_discount) (defScope s_checked_discount) .none kV3 dc3 pm3 an3 cd3 ct3), sl3⟩) (c3 : PySem.W.codeIn K cd3 "checked_discount" = true) (k3 : PySem.W.keepIn K (.ref f3) = true)
    (a4 : PySem.W.nsIn K mainGlobals "checked_projects" = some (some (.ref f4))) (l4 : K.lookup f4 = some ⟨oc4, od4, .func (PySem.W.fnOf "checked_projects" "checked_projects" (defArgs s_checked_projects) (defBody s_checked_projects) (defScope s_checked_projects) .none kV4 dc4 pm4 an4 cd4 ct4), sl4⟩) (c4 : PySem.W.codeIn K cd4 "checked_projects" = true) (k4 : PySem.W.keepIn K (.ref f4) = true)
    (a5 : PySem.W.findIn K (.ref C_Company) "__init__" = some (some (.ref f5))) (i5 : PySem.W.isFn K (.ref f5) = true) (l5 : K.lookup f5 = some ⟨oc5, od5, .func (PySem.W.fnOf "__init__" "Company.__init__" (defArgs s_Company___init__) (defBody s_Company___init__) (defScope s_Company___init__) .none kV5 dc5 pm5 an5 cd5 ct5), sl5⟩) (c5 : PySem.W.codeIn K cd5 "Company.__init__" = true) (k5 : PySem.W.keepIn K (.ref f5) = true)
    (a6 : PySem.W.nsIn K mainGlobals "_law_cell" = some (some (.ref f6))) (l6 : K.lookup f6 = some ⟨oc6, od6, .func (PySem.W.fnOf "_law_cell" "_law_cell" (defArgs s__law_cell) (defBody s__law_cell) (defScope s__law_cell) .none kV6 dc6 pm6 an6 cd6 ct6), sl6⟩) (c6 : PySem.W.codeIn K cd6 "_law_cell" = true) (k6 : PySem.W.keepIn K (.ref f6) = true)
    (a7 : PySem.W.nsIn K mainGlobals "_law_discount" = some (some (.ref f7))) (l7 : K.lookup f7 = some ⟨oc7, od7, .func (PySem.W.fnOf "_law_discount" "_law_discount" (defArgs s__law_discount) (defBody s__law_discount) (defScope s__law_discount) .none kV7 dc7 pm7 an7 cd7 ct7), sl7⟩) (c7 : PySem.W.codeIn K cd7 "_law_discount" = true) (k7 : PySem.W.keepIn K (.ref f7) = true)
    (a8 : PySem.W.nsIn K mainGlobals "_law_gcd" = some (some (.ref f8))) (l8 : K.lookup f8 = some ⟨oc8, od8, .func (PySem.W.fnOf "_law_gcd" "_law_gcd" (defArgs s__law_gcd) (defBody s__law_gcd) (defScope s__law_gcd) .none kV8 dc8 pm8 an8 cd8 ct8), sl8⟩) (c8 : PySem.W.codeIn K cd8 "_law_gcd" = true) (k8 : PySem.W.keepIn K (.ref f8) = true)
    (a9 : PySem.W.nsIn K mainGlobals "_law_integer" = some (some (.ref f9))) (l9 : K.lookup f9 = some ⟨oc9, od9, .func (PySem.W.fnOf "_law_integer" "_law_integer" (defArgs s__law_integer) (defBody s__law_integer) (defScope s__law_integer) .none kV9 dc9 pm9 an9 cd9 ct9), sl9⟩) (c9 : PySem.W.codeIn K cd9 "_law_integer" = true) (k9 : PySem.W.keepIn K (.ref f9) = true)
    (a10 : PySem.W.nsIn K mainGlobals "_law_ratio" = some (some (.ref f10))) (l10 : K.lookup f10 = some ⟨oc10, od10, .func (PySem.W.fnOf "_law_ratio" "_law_ratio" (defArgs s__law_ratio) (defBody s__law_ratio) (defScope s__law_ratio) .none kV10 dc10 pm10 an10 cd10 ct10), sl10⟩) (c10 : PySem.W.codeIn K cd10 "_law_ratio" = true) (k10 : PySem.W.keepIn K (.ref f10) = true)
    (a11 : PySem.W.nsIn K mainGlobals "_law_equals" = some (some (.ref f11))) (l11 : K.lookup f11 = some ⟨oc11, od11, .func (PySem.W.fnOf "_law_equals" "_law_equals" (defArgs s__law_equals) (defBody s__law_equals) (defScope s__law_equals) .none kV11 dc11 pm11 an11 cd11 ct11), sl11⟩) (c11 : PySem.W.codeIn K cd11 "_law_equals" = true) (k11 : PySem.W.keepIn K (.ref f11) = true)
    (a12 : PySem.W.nsIn K mainGlobals "_law_pay" = some (some (.ref f12))) (l12 : K.lookup f12 = some ⟨oc12, od12, .func (PySem.W.fnOf "_law_pay" "_law_pay" (defArgs s__law_pay) (defBody s__law_pay) (defScope s__law_pay) .none kV12 dc12 pm12 an12 cd12 ct12), sl12⟩) (c12 : PySem.W.codeIn K cd12 "_law_pay" = true) (k12 : PySem.W.keepIn K (.ref f12) = true)
    (a13 : PySem.W.nsIn K mainGlobals "_law_plans" = some (some (.ref f13))) (l13 : K.lookup f13 = some ⟨oc13, od13, .func (PySem.W.fnOf "_law_plans" "_law_plans" (defArgs s__law_plans) (defBody s__law_plans) (defScope s__law_plans) .none kV13 dc13 pm13 an13 cd13 ct13), sl13⟩) (c13 : PySem.W.codeIn K cd13 "_law_plans" = true) (k13 : PySem.W.keepIn K (.ref f13) = true)
    (a14 : PySem.W.nsIn K mainGlobals "_law_reward" = some (some (.ref f14))) (l14 : K.lookup f14 = some ⟨oc14, od14, .func (PySem.W.fnOf "_law_reward" "_law_reward" (defArgs s__law_reward) (defBody s__law_reward) (defScope s__law_reward) .none kV14 dc14 pm14 an14 cd14 ct14), sl14⟩) (c14 : PySem.W.codeIn K cd14 "_law_reward" = true) (k14 : PySem.W.keepIn K (.ref f14) = true)
    (a15 : PySem.W.nsIn K mainGlobals "_law_projects" = some (some (.ref f15))) (l15 : K.lookup f15 = some ⟨oc15, od15, .func (PySem.W.fnOf "_law_projects" "_law_projects" (defArgs s__law_projects) (defBody s__law_projects) (defScope s__law_projects) .none kV15 dc15 pm15 an15 cd15 ct15), sl15⟩) (c15 : PySem.W.codeIn K cd15 "_law_projects" = true) (k15 : PySem.W.keepIn K (.ref f15) = true)
    (a16 : PySem.W.nsIn K mainGlobals "_law_row" = some (some (.ref f16))) (l16 : K.lookup f16 = some ⟨oc16, od16, .func (PySem.W.fnOf "_law_row" "_law_row" (defArgs s__law_row) (defBody s__law_row) (defScope s__law_row) .none kV16 dc16 pm16 an16 cd16 ct16), sl16⟩) (c16 : PySem.W.codeIn K cd16 "_law_row" = true) (k16 : PySem.W.keepIn K (.ref f16) = true)
    (a17 : PySem.W.nsIn K mainGlobals "_law_valid" = some (some (.ref f17))) (l17 : K.lookup f17 = some ⟨oc17, od17, .func (PySem.W.fnOf "_law_valid" "_law_valid" (defArgs s__law_valid) (defBody s__law_valid) (defScope s__law_valid) .none kV17 dc17 pm17 an17 cd17 ct17), sl17⟩) (c17 : PySem.W.codeIn K cd17 "_law_valid" = true) (k17 : PySem.W.keepIn K (.ref f17) = true)
    (a18 : PySem.W.nsIn K mainGlobals "_law_worth" = some (some (.ref f18))) (l18 : K.lookup f18 = some ⟨oc18, od18, .func (PySem.W.fnOf "_law_worth" "_law_worth" (defArgs s__law_worth) (defBody s__law_worth) (defScope s__law_worth) .none kV18 dc18 pm18 an18 cd18 ct18), sl18⟩) (c18 : PySem.W.codeIn K cd18 "_law_worth" = true) (k18 : PySem.W.keepIn K (.ref f18) = true)
    (a19 : PySem.W.nsIn K mainGlobals "next_rest" = some (some (.ref f19))) (l19 : K.lookup f19 = some ⟨oc19, od19, .func (PySem.W.fnOf "next_rest" "next_rest" (defArgs s_next_rest) (defBody s_next_rest) (defScope s_next_rest) .none kV19 dc19 pm19 an19 cd19 ct19), sl19⟩) (c19 : PySem.W.codeIn K cd19 "next_rest" = true) (k19 : PySem.W.keepIn K (.ref f19) = true)
    (a20 : PySem.W.nsIn K mainGlobals "powers" = some (some (.ref f20))) (l20 : K.lookup f20 = some ⟨oc20, od20, .func (PySem.W.fnOf "powers" "powers" (defArgs s_powers) (defBody s_powers) (defScope s_powers) .none kV20 dc20 pm20 an20 cd20 ct20), sl20⟩) (c20 : PySem.W.codeIn K cd20 "powers" = true) (k20 : PySem.W.keepIn K (.ref f20) = true)
    (a21 : PySem.W.nsIn K mainGlobals "day_weights" = some (some (.ref f21))) (l21 : K.lookup f21 = some ⟨oc21, od21, .func (PySem.W.fnOf "day_weights" "day_weights" (defArgs s_day_weights) (defBody s_day_weights) (defScope s_day_weights) .none kV21 dc21 pm21 an21 cd21 ct21), sl21⟩) (c21 : PySem.W.codeIn K cd21 "day_weights" = true) (k21 : PySem.W.keepIn K (.ref f21) = true)
    (a22 : PySem.W.nsIn K mainGlobals "scaled_points" = some (some (.ref f22))) (l22 : K.lookup f22 = some ⟨oc22, od22, .func (PySem.W.fnOf "scaled_points" "scaled_points" (defArgs s_scaled_points) (defBody s_scaled_points) (defScope s_scaled_points) .none kV22 dc22 pm22 an22 cd22 ct22), sl22⟩) (c22 : PySem.W.codeIn K cd22 "scaled_points" = true) (k22 : PySem.W.keepIn K (.ref f22) = true)
    (a23 : PySem.W.nsIn K mainGlobals "rests" = some (some (.ref f23))) (l23 : K.lookup f23 = some ⟨oc23, od23, .func (PySem.W.fnOf "rests" "rests" (defArgs s_rests) (defBody s_rests) (defScope s_rests) .none kV23 dc23 pm23 an23 cd23 ct23), sl23⟩) (c23 : PySem.W.codeIn K cd23 "rests" = true) (k23 : PySem.W.keepIn K (.ref f23) = true)
    (a24 : PySem.W.nsIn K mainGlobals "stretches" = some (some (.ref f24))) (l24 : K.lookup f24 = some ⟨oc24, od24, .func (PySem.W.fnOf "stretches" "stretches" (defArgs s_stretches) (defBody s_stretches) (defScope s_stretches) .none kV24 dc24 pm24 an24 cd24 ct24), sl24⟩) (c24 : PySem.W.codeIn K cd24 "stretches" = true) (k24 : PySem.W.keepIn K (.ref f24) = true)
    (a25 : PySem.W.nsIn K mainGlobals "charges" = some (some (.ref f25))) (l25 : K.lookup f25 = some ⟨oc25, od25, .func (PySem.W.fnOf "charges" "charges" (defArgs s_charges) (defBody s_charges) (defScope s_charges) .none kV25 dc25 pm25 an25 cd25 ct25), sl25⟩) (c25 : PySem.W.codeIn K cd25 "charges" = true) (k25 : PySem.W.keepIn K (.ref f25) = true)
    (a26 : PySem.W.nsIn K mainGlobals "certificate" = some (some (.ref f26))) (l26 : K.lookup f26 = some ⟨oc26, od26, .func (PySem.W.fnOf "certificate" "certificate" (defArgs s_certificate) (defBody s_certificate) (defScope s_certificate) .none kV26 dc26 pm26 an26 cd26 ct26), sl26⟩) (c26 : PySem.W.codeIn K cd26 "certificate" = true) (k26 : PySem.W.keepIn K (.ref f26) = true)
    (a27 : PySem.W.nsIn K mainGlobals "check_offer" = some (some (.ref f27))) (l27 : K.lookup f27 = some ⟨oc27, od27, .func (PySem.W.fnOf "check_offer" "check_offer" (defArgs s_check_offer) (defBody s_check_offer) (defScope s_check_offer) .none kV27 dc27 pm27 an27 cd27 ct27), sl27⟩) (c27 : PySem.W.codeIn K cd27 "check_offer" = true) (k27 : PySem.W.keepIn K (.ref f27) = true)
    (a28 : PySem.W.nsIn K mainGlobals "compare_ratios" = some (some (.ref f28))) (l28 : K.lookup f28 = some ⟨oc28, od28, .func (PySem.W.fnOf "compare_ratios" "compare_ratios" (defArgs s_compare_ratios) (defBody s_compare_ratios) (defScope s_compare_ratios) .none kV28 dc28 pm28 an28 cd28 ct28), sl28⟩) (c28 : PySem.W.codeIn K cd28 "compare_ratios" = true) (k28 : PySem.W.keepIn K (.ref f28) = true)
    (a29 : PySem.W.nsIn K mainGlobals "merge_charges" = some (some (.ref f29))) (l29 : K.lookup f29 = some ⟨oc29, od29, .func (PySem.W.fnOf "merge_charges" "merge_charges" (defArgs s_merge_charges) (defBody s_merge_charges) (defScope s_merge_charges) .none kV29 dc29 pm29 an29 cd29 ct29), sl29⟩) (c29 : PySem.W.codeIn K cd29 "merge_charges" = true) (k29 : PySem.W.keepIn K (.ref f29) = true)
    (a30 : PySem.W.nsIn K mainGlobals "best_plan" = some (some (.ref f30))) (l30 : K.lookup f30 = some ⟨oc30, od30, .func (PySem.W.fnOf "best_plan" "best_plan" (defArgs s_best_plan) (defBody s_best_plan) (defScope s_best_plan) .none kV30 dc30 pm30 an30 cd30 ct30), sl30⟩) (c30 : PySem.W.codeIn K cd30 "best_plan" = true) (k30 : PySem.W.keepIn K (.ref f30) = true)
    (a31 : PySem.W.nsIn K mainGlobals "add_ratios" = some (some (.ref f31))) (l31 : K.lookup f31 = some ⟨oc31, od31, .func (PySem.W.fnOf "add_ratios" "add_ratios" (defArgs s_add_ratios) (defBody s_add_ratios) (defScope s_add_ratios) .none kV31 dc31 pm31 an31 cd31 ct31), sl31⟩) (c31 : PySem.W.codeIn K cd31 "add_ratios" = true) (k31 : PySem.W.keepIn K (.ref f31) = true)
    (a32 : PySem.W.nsIn K mainGlobals "offer_alone" = some (some (.ref f32))) (l32 : K.lookup f32 = some ⟨oc32, od32, .func (PySem.W.fnOf "offer_alone" "offer_alone" (defArgs s_offer_alone) (defBody s_offer_alone) (defScope s_offer_alone) .none kV32 dc32 pm32 an32 cd32 ct32), sl32⟩) (c32 : PySem.W.codeIn K cd32 "offer_alone" = true) (k32 : PySem.W.keepIn K (.ref f32) = true)
    (a33 : PySem.W.nsIn K mainGlobals "scale" = some (some (.ref f33))) (l33 : K.lookup f33 = some ⟨oc33, od33, .func (PySem.W.fnOf "scale" "scale" (defArgs s_scale) (defBody s_scale) (defScope s_scale) .none kV33 dc33 pm33 an33 cd33 ct33), sl33⟩) (c33 : PySem.W.codeIn K cd33 "scale" = true) (k33 : PySem.W.keepIn K (.ref f33) = true)
    (a34 : PySem.W.nsIn K mainGlobals "steps_taken" = some (some (.ref f34))) (l34 : K.lookup f34 = some ⟨oc34, od34, .func (PySem.W.fnOf "steps_taken" "steps_taken" (defArgs s_steps_taken) (defBody s_steps_taken) (defScope s_steps_taken) .none kV34 dc34 pm34 an34 cd34 ct34), sl34⟩) (c34 : PySem.W.codeIn K cd34 "steps_taken" = true) (k34 : PySem.W.keepIn K (.ref f34) = true)
    (a35 : PySem.W.nsIn K mainGlobals "plan_worth" = some (some (.ref f35))) (l35 : K.lookup f35 = some ⟨oc35, od35, .func (PySem.W.fnOf "plan_worth" "plan_worth" (defArgs s_plan_worth) (defBody s_plan_worth) (defScope s_plan_worth) .none kV35 dc35 pm35 an35 cd35 ct35), sl35⟩) (c35 : PySem.W.codeIn K cd35 "plan_worth" = true) (k35 : PySem.W.keepIn K (.ref f35) = true)
    (a36 : PySem.W.nsIn K mainGlobals "best_worth" = some (some (.ref f36))) (l36 : K.lookup f36 = some ⟨oc36, od36, .func (PySem.W.fnOf "best_worth" "best_worth" (defArgs s_best_worth) (defBody s_best_worth) (defScope s_best_worth) .none kV36 dc36 pm36 an36 cd36 ct36), sl36⟩) (c36 : PySem.W.codeIn K cd36 "best_worth" = true) (k36 : PySem.W.keepIn K (.ref f36) = true)
    (a37 : PySem.W.nsIn K mainGlobals "law" = some (some (.ref f37))) (l37 : K.lookup f37 = some ⟨oc37, od37, .func (PySem.W.fnOf "law" "law" (defArgs s_law) (defBody s_law) (defScope s_law) .none kV37 dc37 pm37 an37 cd37 ct37), sl37⟩) (c37 : PySem.W.codeIn K cd37 "law" = true) (k37 : PySem.W.keepIn K (.ref f37) = true)
    (z_abs : PySem.W.nsIn K mainGlobals "abs" = some none)
    (z_bool : PySem.W.nsIn K mainGlobals "bool" = some none)
    (z_int : PySem.W.nsIn K mainGlobals "int" = some none)
    (z_isinstance : PySem.W.nsIn K mainGlobals "isinstance" = some none)
    (z_len : PySem.W.nsIn K mainGlobals "len" = some none)
    (z_list : PySem.W.nsIn K mainGlobals "list" = some none)
    (z_max : PySem.W.nsIn K mainGlobals "max" = some none)
    (z_min : PySem.W.nsIn K mainGlobals "min" = some none)
    (z_range : PySem.W.nsIn K mainGlobals "range" = some none)
    (z_sum : PySem.W.nsIn K mainGlobals "sum" = some none)
    (z_tuple : PySem.W.nsIn K mainGlobals "tuple" = some none)
    (zg_GREATEST_DENOMINATOR : PySem.W.nsIn K mainGlobals "GREATEST_DENOMINATOR" = some (some (.int 1000 gt_GREATEST_DENOMINATOR)))
    (zg_GREATEST_REWARD : PySem.W.nsIn K mainGlobals "GREATEST_REWARD" = some (some (.int 1000000000 gt_GREATEST_REWARD)))
    (zg_MOST_PROJECTS : PySem.W.nsIn K mainGlobals "MOST_PROJECTS" = some (some (.int 10 gt_MOST_PROJECTS)))
    (zg_MOST_REWARDS : PySem.W.nsIn K mainGlobals "MOST_REWARDS" = some (some (.int 60 gt_MOST_REWARDS))) :
    ∃ fd : FuncData, (∀ (s : Shared) (v : Value), BindsTo s fd ⟨[v], []⟩ [("_law_script", v)]) ∧ ∀ base : Heap, K.In base → base.Ns mainGlobals mg → FnOk l.prog w K mg base CX0 10 fa fd ["_law_script"] (Sp1 (rLst K rInt) (fun _ => True) (fun _ => retI rBl true)) := by
  have e := hfa.symm.trans (PySem.W.mg_of X G a37)
  cases e
  have m_abs := PySem.W.mg_none_of X G z_abs
  have m_bool := PySem.W.mg_none_of X G z_bool
  have m_int := PySem.W.mg_none_of X G z_int
  have m_isinstance := PySem.W.mg_none_of X G z_isinstance
  have m_len := PySem.W.mg_none_of X G z_len
  have m_list := PySem.W.mg_none_of X G z_list
  have m_max := PySem.W.mg_none_of X G z_max
  have m_min := PySem.W.mg_none_of X G z_min
  have m_range := PySem.W.mg_none_of X G z_range
  have m_sum := PySem.W.mg_none_of X G z_sum
  have m_tuple := PySem.W.mg_none_of X G z_tuple
  have g_GREATEST_DENOMINATOR : GlV mg "GREATEST_DENOMINATOR" rInt (1000) := GlV.int (PySem.W.mg_of X G zg_GREATEST_DENOMINATOR)
  have g_GREATEST_REWARD : GlV mg "GREATEST_REWARD" rInt (1000000000) := GlV.int (PySem.W.mg_of X G zg_GREATEST_REWARD)
  have g_MOST_PROJECTS : GlV mg "MOST_PROJECTS" rInt (10) := GlV.int (PySem.W.mg_of X G zg_MOST_PROJECTS)
  have g_MOST_REWARDS : GlV mg "MOST_REWARDS" rInt (60) := GlV.int (PySem.W.mg_of X G zg_MOST_REWARDS)
  have T_Company : ClF K C_Company ["discount", "projects"] := ⟨⟨pg_Company, hd_Company, po_Company, sa_Company⟩, fun n hn => match n, hn with | _, .head _ => n_Company_discount | _, .tail _ (.head _) => n_Company_projects⟩
  have F1 := fun_mk (st := s_gcd) l1 c1 k1
  have b1 := F1.binds (ps := ["first", "second"]) fun _ _ _ _ _ _ us hl => match us, hl with | [_, _], _ => rfl
  have F2 := fun_mk (st := s_make_ratio) l2 c2 k2
  have b2 := F2.binds (ps := ["numerator", "denominator"]) fun _ _ _ _ _ _ us hl => match us, hl with | [_, _], _ => rfl
  have F3 := fun_mk (st := s_checked_discount) l3 c3 k3
  have b3 := F3.binds (ps := ["discount"]) fun _ _ _ _ _ _ us hl => match us, hl with | [_], _ => rfl
  have F4 := fun_mk (st := s_checked_projects) l4 c4 k4
  have b4 := F4.binds (ps := ["projects"]) fun _ _ _ _ _ _ us hl => match us, hl with | [_], _ => rfl
  have F5 := fun_mk (st := s_Company___init__) l5 c5 k5
  have b5 := F5.binds (ps := ["self", "discount", "projects"]) fun _ _ _ _ _ _ us hl => match us, hl with | [_, _, _], _ => rfl
  have F6 := fun_mk (st := s__law_cell) l6 c6 k6
  have b6 := F6.binds (ps := ["_law_script", "_law_place"]) fun _ _ _ _ _ _ us hl => match us, hl with | [_, _], _ => rfl
  have F7 := fun_mk (st := s__law_discount) l7 c7 k7
  have b7 := F7.binds (ps := ["_law_first", "_law_second"]) fun _ _ _ _ _ _ us hl => match us, hl with | [_, _], _ => rfl
  have F8 := fun_mk (st := s__law_gcd) l8 c8 k8
  have b8 := F8.binds (ps := ["_law_first", "_law_second"]) fun _ _ _ _ _ _ us hl => match us, hl with | [_, _], _ => rfl
  have F9 := fun_mk (st := s__law_integer) l9 c9 k9
  have b9 := F9.binds (ps := ["_law_told"]) fun _ _ _ _ _ _ us hl => match us, hl with | [_], _ => rfl
  have F10 := fun_mk (st := s__law_ratio) l10 c10 k10
  have b10 := F10.binds (ps := ["_law_told"]) fun _ _ _ _ _ _ us hl => match us, hl with | [_], _ => rfl
  have F11 := fun_mk (st := s__law_equals) l11 c11 k11
  have b11 := F11.binds (ps := ["_law_told", "_law_top", "_law_bottom"]) fun _ _ _ _ _ _ us hl => match us, hl with | [_, _, _], _ => rfl
  have F12 := fun_mk (st := s__law_pay) l12 c12 k12
  have b12 := F12.binds (ps := ["_law_first", "_law_second"]) fun _ _ _ _ _ _ us hl => match us, hl with | [_, _], _ => rfl
  have F13 := fun_mk (st := s__law_plans) l13 c13 k13
  have b13 := F13.binds (ps := ["_law_projects_here"]) fun _ _ _ _ _ _ us hl => match us, hl with | [_], _ => rfl
  have F14 := fun_mk (st := s__law_reward) l14 c14 k14
  have b14 := F14.binds (ps := ["_law_raw", "_law_mode"]) fun _ _ _ _ _ _ us hl => match us, hl with | [_, _], _ => rfl
  have F15 := fun_mk (st := s__law_projects) l15 c15 k15
  have b15 := F15.binds (ps := ["_law_row_here", "_law_most", "_law_room"]) fun _ _ _ _ _ _ us hl => match us, hl with | [_, _, _], _ => rfl
  have F16 := fun_mk (st := s__law_row) l16 c16 k16
  have b16 := F16.binds (ps := ["_law_cell_here", "_law_count"]) fun _ _ _ _ _ _ us hl => match us, hl with | [_, _], _ => rfl
  have F17 := fun_mk (st := s__law_valid) l17 c17 k17
  have b17 := F17.binds (ps := ["_law_projects_here", "_law_plan"]) fun _ _ _ _ _ _ us hl => match us, hl with | [_, _], _ => rfl
  have F18 := fun_mk (st := s__law_worth) l18 c18 k18
  have b18 := F18.binds (ps := ["_law_discount_here", "_law_projects_here", "_law_plan", "_law_pay_here"]) fun _ _ _ _ _ _ us hl => match us, hl with | [_, _, _, _], _ => rfl
  have F19 := fun_mk (st := s_next_rest) l19 c19 k19
  have b19 := F19.binds (ps := ["days", "sums", "start"]) fun _ _ _ _ _ _ us hl => match us, hl with | [_, _, _], _ => rfl
  have F20 := fun_mk (st := s_powers) l20 c20 k20
  have b20 := F20.binds (ps := ["base", "count"]) fun _ _ _ _ _ _ us hl => match us, hl with | [_, _], _ => rfl
  have F21 := fun_mk (st := s_day_weights) l21 c21 k21
  have b21 := F21.binds (ps := ["discount", "count"]) fun _ _ _ _ _ _ us hl => match us, hl with | [_, _], _ => rfl
  have F22 := fun_mk (st := s_scaled_points) l22 c22 k22
  have b22 := F22.binds (ps := ["discount", "rewards"]) fun _ _ _ _ _ _ us hl => match us, hl with | [_, _], _ => rfl
  have F23 := fun_mk (st := s_rests) l23 c23 k23
  have b23 := F23.binds (ps := ["discount", "rewards"]) fun _ _ _ _ _ _ us hl => match us, hl with | [_, _], _ => rfl
  have F24 := fun_mk (st := s_stretches) l24 c24 k24
  have b24 := F24.binds (ps := ["discount", "rewards"]) fun _ _ _ _ _ _ us hl => match us, hl with | [_, _], _ => rfl
  have F25 := fun_mk (st := s_charges) l25 c25 k25
  have b25 := F25.binds (ps := ["discount", "rewards"]) fun _ _ _ _ _ _ us hl => match us, hl with | [_, _], _ => rfl
  have F26 := fun_mk (st := s_certificate) l26 c26 k26
  have b26 := F26.binds (ps := ["company"]) fun _ _ _ _ _ _ us hl => match us, hl with | [_], _ => rfl
  have F27 := fun_mk (st := s_check_offer) l27 c27 k27
  have b27 := F27.binds (ps := ["offer"]) fun _ _ _ _ _ _ us hl => match us, hl with | [_], _ => rfl
  have F28 := fun_mk (st := s_compare_ratios) l28 c28 k28
  have b28 := F28.binds (ps := ["first", "second"]) fun _ _ _ _ _ _ us hl => match us, hl with | [_, _], _ => rfl
  have F29 := fun_mk (st := s_merge_charges) l29 c29 k29
  have b29 := F29.binds (ps := ["lists"]) fun _ _ _ _ _ _ us hl => match us, hl with | [_], _ => rfl
  have F30 := fun_mk (st := s_best_plan) l30 c30 k30
  have b30 : KBn K (PySem.W.fnOf "best_plan" "best_plan" (defArgs s_best_plan) (defBody s_best_plan) (defScope s_best_plan) .none kV30 dc30 pm30 an30 cd30 ct30) ["company", "offer"] 1 ["offer"] (fun us ws => us ++ ws) (fun vs zs => vs ++ zs) := ⟨fun s us ws _ h1 h2 => match us, ws, h1, h2 with | [_], [_], _, _ => .of_eq rfl, fun r1 r2 => r1.append r2⟩
  have F31 := fun_mk (st := s_add_ratios) l31 c31 k31
  have b31 := F31.binds (ps := ["first", "second"]) fun _ _ _ _ _ _ us hl => match us, hl with | [_, _], _ => rfl
  have F32 := fun_mk (st := s_offer_alone) l32 c32 k32
  have b32 := F32.binds (ps := ["discount", "offer"]) fun _ _ _ _ _ _ us hl => match us, hl with | [_, _], _ => rfl
  have F33 := fun_mk (st := s_scale) l33 c33 k33
  have b33 := F33.binds (ps := ["discount", "count"]) fun _ _ _ _ _ _ us hl => match us, hl with | [_, _], _ => rfl
  have F34 := fun_mk (st := s_steps_taken) l34 c34 k34
  have b34 := F34.binds (ps := ["company", "plan"]) fun _ _ _ _ _ _ us hl => match us, hl with | [_, _], _ => rfl
  have F35 := fun_mk (st := s_plan_worth) l35 c35 k35
  have b35 : KBn K (PySem.W.fnOf "plan_worth" "plan_worth" (defArgs s_plan_worth) (defBody s_plan_worth) (defScope s_plan_worth) .none kV35 dc35 pm35 an35 cd35 ct35) ["company", "plan", "offer"] 2 ["offer"] (fun us ws => us ++ ws) (fun vs zs => vs ++ zs) := ⟨fun s us ws _ h1 h2 => match us, ws, h1, h2 with | [_, _], [_], _, _ => .of_eq rfl, fun r1 r2 => r1.append r2⟩
  have F36 := fun_mk (st := s_best_worth) l36 c36 k36
  have b36 : KBn K (PySem.W.fnOf "best_worth" "best_worth" (defArgs s_best_worth) (defBody s_best_worth) (defScope s_best_worth) .none kV36 dc36 pm36 an36 cd36 ct36) ["company", "offer"] 1 ["offer"] (fun us ws => us ++ ws) (fun vs zs => vs ++ zs) := ⟨fun s us ws _ h1 h2 => match us, ws, h1, h2 with | [_], [_], _, _ => .of_eq rfl, fun r1 r2 => r1.append r2⟩
  have F37 := fun_mk (st := s_law) l37 c37 k37
  refine ⟨PySem.W.fnOf "law" "law" (defArgs s_law) (defBody s_law) (defScope s_law) .none kV37 dc37 pm37 an37 cd37 ct37, fun s v => .of_eq rfl, fun base _ _ => ?_⟩
  have G_gcd : Kn CX0 l.prog w K mg base "gcd" 1 ["first", "second"] (Sp2 rInt rInt (fun _ _ => True) (fun a b => retI rInt (Int.gcd a b : Int))) := ⟨_, _, ok_gcd m_abs F1, F1.kp, b1, PySem.W.mg_of X G a1⟩
  have G_make_ratio : Kn CX0 l.prog w K mg base "make_ratio" 2 ["numerator", "denominator"] (Sp2 rInt rInt (fun _ d => d ≠ 0 ∧ Tm.Bd 8999 d) (fun n d => retI (rRat K) (Tm.mkR n d))) := ⟨_, _, ok_make_ratio G_gcd F2, F2.kp, b2, PySem.W.mg_of X G a2⟩
  have G_checked_discount : Kn CX0 l.prog w K mg base "checked_discount" 3 ["discount"] (Sp1 (rRat K) (fun d => Tm.Dis d) (fun d => retI (rRat K) (Tm.mkR d.1 d.2))) := ⟨_, _, ok_checked_discount g_GREATEST_DENOMINATOR G_make_ratio F3, F3.kp, b3, PySem.W.mg_of X G a3⟩
  have G_checked_projects : Kn CX0 l.prog w K mg base "checked_projects" 1 ["projects"] (Sp1 (rSeq K (rSeq K rInt)) (fun ps => Tm.POk ps) (fun ps => retI (rTup K (rTup K rInt)) ps)) := ⟨_, _, ok_checked_projects m_len m_range m_tuple g_GREATEST_REWARD g_MOST_PROJECTS g_MOST_REWARDS F4, F4.kp, b4, PySem.W.mg_of X G a4⟩
  have G_Company___init__ : KnC CX0 l.prog w K mg base "Company" C_Company 4 ["self", "discount", "projects"] (SpI2 C_Company (rRat K) (rSeq K (rSeq K rInt)) (rCompany K C_Company) (fun d ps => Tm.Dis d ∧ Tm.POk ps) (fun d ps => (Tm.mkR d.1 d.2, ps))) := ⟨_, _, ok_Company___init__ T_Company G_checked_discount G_checked_projects F5, ⟨mk_Company, a5, i5, kc_Company⟩, b5, PySem.W.mg_of X G aC_Company⟩
  have G__law_cell : Kn CX0 l.prog w K mg base "_law_cell" 1 ["_law_script", "_law_place"] (Sp2 (rLst K rInt) rInt (fun _ p => 0 ≤ p) (fun s p => retI rInt (Tm.cell s p))) := ⟨_, _, ok__law_cell m_len F6, F6.kp, b6, PySem.W.mg_of X G a6⟩
  have G__law_discount : Kn CX0 l.prog w K mg base "_law_discount" 1 ["_law_first", "_law_second"] (Sp2 rInt rInt (fun _ _ => True) (fun f s => retI (rRat K) (Tm.discF f s))) := ⟨_, _, ok__law_discount m_int F7, F7.kp, b7, PySem.W.mg_of X G a7⟩
  have G__law_gcd : Kn CX0 l.prog w K mg base "_law_gcd" 1 ["_law_first", "_law_second"] (Sp2 rInt rInt (fun a b => 0 ≤ a ∧ 0 ≤ b) (fun a b => retI rInt (Int.gcd a b : Int))) := ⟨_, _, ok__law_gcd m_int F8, F8.kp, b8, PySem.W.mg_of X G a8⟩
  have G__law_integer : Kn CX0 l.prog w K mg base "_law_integer" 1 ["_law_told"] (Sp1 rInt (fun _ => True) (fun _ => retI rBl true)) := ⟨_, _, ok__law_integer m_bool m_int m_isinstance F9, F9.kp, b9, PySem.W.mg_of X G a9⟩
  have G__law_ratio : Kn CX0 l.prog w K mg base "_law_ratio" 2 ["_law_told"] (Sp1 (rRat K) (fun _ => True) (fun t => retI rBl (Tm.isR t))) := ⟨_, _, ok__law_ratio m_abs m_isinstance m_len m_tuple G__law_gcd G__law_integer F10, F10.kp, b10, PySem.W.mg_of X G a10⟩
  have G__law_equals : Kn CX0 l.prog w K mg base "_law_equals" 3 ["_law_told", "_law_top", "_law_bottom"] (Sp3 (rRat K) rInt rInt (fun t x y => Tm.Bd 9000 t.1 ∧ Tm.Bd 9000 t.2 ∧ Tm.Bd 9000 x ∧ Tm.Bd 9000 y) (fun t x y => retI rBl (Tm.isR t && decide (t.1 * y = x * t.2)))) := ⟨_, _, ok__law_equals G__law_ratio F11, F11.kp, b11, PySem.W.mg_of X G a11⟩
  have G__law_pay : Kn CX0 l.prog w K mg base "_law_pay" 1 ["_law_first", "_law_second"] (Sp2 rInt rInt (fun f s => (0 ≤ f ∧ f < 10 ^ 10) ∧ 0 ≤ s ∧ s < 10 ^ 10) (fun f s => retI (rRat K) (Tm.payF f s))) := ⟨_, _, ok__law_pay m_int F12, F12.kp, b12, PySem.W.mg_of X G a12⟩
  have G__law_plans : Kn CX0 l.prog w K mg base "_law_plans" 1 ["_law_projects_here"] (Sp1 (rLst K (rLst K rInt)) (fun ps => ps.length ≤ 4 ∧ ∀ r ∈ ps, r.length ≤ 1000) (fun ps => retI (rLst K (rLst K rInt)) (Tm.allF ps 5))) := ⟨_, _, ok__law_plans m_len m_list m_range F13, F13.kp, b13, PySem.W.mg_of X G a13⟩
  have G__law_reward : Kn CX0 l.prog w K mg base "_law_reward" 1 ["_law_raw", "_law_mode"] (Sp2 rInt rInt (fun r _ => Tm.Bd 100 r) (fun r m => retI rInt (Tm.rewF r m))) := ⟨_, _, ok__law_reward m_int F14, F14.kp, b14, PySem.W.mg_of X G a14⟩
  have G__law_projects : Kn CX0 l.prog w K mg base "_law_projects" 2 ["_law_row_here", "_law_most", "_law_room"] (Sp3 (rLst K rInt) rInt rInt (fun row mo rm => 0 ≤ mo ∧ mo ≤ 10 ∧ 0 ≤ rm ∧ rm ≤ 60 ∧ 2 + mo + rm ≤ (row.length : Int) ∧ ∀ x ∈ row, 0 ≤ x ∧ x < 10 ^ 10) (fun row mo rm => retN (rLst K rInt) (Tm.prjsF row mo rm))) := ⟨_, _, ok__law_projects m_int m_len m_list m_min m_range G__law_reward F15, F15.kp, b15, PySem.W.mg_of X G a15⟩
  have G__law_row : Kn CX0 l.prog w K mg base "_law_row" 1 ["_law_cell_here", "_law_count"] (Sp2 rInt rInt (fun _ n => 0 ≤ n ∧ n ≤ 10000) (fun c n => retN rInt (Tm.rowF c n.toNat).1)) := ⟨_, _, ok__law_row m_int m_range F16, F16.kp, b16, PySem.W.mg_of X G a16⟩
  have G__law_valid : Kn CX0 l.prog w K mg base "_law_valid" 2 ["_law_projects_here", "_law_plan"] (Sp2 (rLst K (rLst K rInt)) (rLst K (rOpt rInt)) (fun ps pl => ps.length ≤ 1000 ∧ pl.length ≤ 1000 ∧ Tm.VP ps pl) (fun ps pl => retI rBl true)) := ⟨_, _, ok__law_valid m_isinstance m_len m_list m_range G__law_integer F17, F17.kp, b17, PySem.W.mg_of X G a17⟩
  have G__law_worth : Kn CX0 l.prog w K mg base "_law_worth" 1 ["_law_discount_here", "_law_projects_here", "_law_plan", "_law_pay_here"] (Sp4 (rRat K) (rLst K (rLst K rInt)) (rLst K (rOpt rInt)) (rRat K) (fun d ps pl o => Tm.Dis d ∧ Tm.POk ps ∧ Tm.VP ps pl ∧ pl.length ≤ 210 ∧ Tm.Offr o) (fun d ps pl o => retI (rT2 K rInt rInt) (Tm.lwF d ps pl o))) := ⟨_, _, ok__law_worth m_len m_range F18, F18.kp, b18, PySem.W.mg_of X G a18⟩
  have G_next_rest : Kn CX0 l.prog w K mg base "next_rest" 1 ["days", "sums", "start"] (Sp3 (rLst K rInt) (rLst K rInt) rInt (fun ds ss s => ds.length = ss.length ∧ 0 ≤ s ∧ s + 1 < (ds.length : Int) ∧ (ds.length : Int) ≤ 1000 ∧ (∀ i, Tm.Bd 9000 (Tm.rdl ds i)) ∧ ∀ i, Tm.Bd 9000 (Tm.rdl ss i)) (fun ds ss s => retI rInt (Tm.nextF (Tm.rdl ds) (Tm.rdl ss) (ds.length - 1) s.toNat : Int))) := ⟨_, _, ok_next_rest m_len m_range F19, F19.kp, b19, PySem.W.mg_of X G a19⟩
  have G_powers : Kn CX0 l.prog w K mg base "powers" 1 ["base", "count"] (Sp2 rInt rInt (fun b n => Tm.Bd 10 b ∧ 0 ≤ n ∧ n ≤ 10000) (fun b n => retN rInt (Tm.powL b n.toNat))) := ⟨_, _, ok_powers m_range F20, F20.kp, b20, PySem.W.mg_of X G a20⟩
  have G_day_weights : Kn CX0 l.prog w K mg base "day_weights" 2 ["discount", "count"] (Sp2 (rRat K) rInt (fun d n => Tm.Bd 10 d.1 ∧ Tm.Bd 10 d.2 ∧ 0 ≤ n ∧ n ≤ 10000) (fun d n => retN rInt (Tm.wts d.1 d.2 n.toNat))) := ⟨_, _, ok_day_weights m_range G_powers F21, F21.kp, b21, PySem.W.mg_of X G a21⟩
  have G_scaled_points : Kn CX0 l.prog w K mg base "scaled_points" 3 ["discount", "rewards"] (Sp2 (rRat K) (rSeq K rInt) (fun d rs => Tm.Dis d ∧ Tm.Rws rs) (fun d rs => retI (rT2 K (rLst K rInt) (rLst K rInt)) (Tm.pl d.1 d.2 rs.length Tm.one rs.length, Tm.pl d.1 d.2 rs.length (Tm.rdl rs) rs.length))) := ⟨_, _, ok_scaled_points m_len m_range G_day_weights F22, F22.kp, b22, PySem.W.mg_of X G a22⟩
  have G_rests : Kn CX0 l.prog w K mg base "rests" 4 ["discount", "rewards"] (Sp2 (rRat K) (rSeq K rInt) (fun d rs => Tm.Dis d ∧ Tm.Rws rs) (fun d rs => retN rInt ((Tm.restsF (Tm.ws d.1 d.2 rs.length Tm.one) (Tm.ws d.1 d.2 rs.length (Tm.rdl rs)) rs.length).map fun k : Nat => (k : Int)))) := ⟨_, _, ok_rests m_len G_next_rest G_scaled_points F23, F23.kp, b23, PySem.W.mg_of X G a23⟩
  have G_stretches : Kn CX0 l.prog w K mg base "stretches" 5 ["discount", "rewards"] (Sp2 (rRat K) (rSeq K rInt) (fun d rs => Tm.Dis d ∧ Tm.Rws rs) (fun d rs => retN (rT3 K (rRat K) rInt rInt) (Tm.strL (Tm.ws d.1 d.2 rs.length Tm.one) (Tm.ws d.1 d.2 rs.length (Tm.rdl rs)) 0 (Tm.rsF (Tm.ws d.1 d.2 rs.length Tm.one) (Tm.ws d.1 d.2 rs.length (Tm.rdl rs)) rs.length rs.length 0)))) := ⟨_, _, ok_stretches m_len m_range G_make_ratio G_rests G_scaled_points F24, F24.kp, b24, PySem.W.mg_of X G a24⟩
  have G_charges : Kn CX0 l.prog w K mg base "charges" 6 ["discount", "rewards"] (Sp2 (rRat K) (rSeq K rInt) (fun d rs => Tm.Dis d ∧ Tm.Rws rs) (fun d rs => retN (rRat K) (Tm.chgOf (Tm.strL (Tm.ws d.1 d.2 rs.length Tm.one) (Tm.ws d.1 d.2 rs.length (Tm.rdl rs)) 0 (Tm.rsF (Tm.ws d.1 d.2 rs.length Tm.one) (Tm.ws d.1 d.2 rs.length (Tm.rdl rs)) rs.length rs.length 0))))) := ⟨_, _, ok_charges G_stretches F25, F25.kp, b25, PySem.W.mg_of X G a25⟩
  have G_certificate : Kn CX0 l.prog w K mg base "certificate" 7 ["company"] (Sp1 (rCompany K C_Company) (fun c => Tm.COk c) (fun c => retN (rLst K (rRat K)) (Tm.certF c.1 c.2))) := ⟨_, _, ok_certificate T_Company G_charges F26, F26.kp, b26, PySem.W.mg_of X G a26⟩
  have G_check_offer : Kn CX0 l.prog w K mg base "check_offer" 1 ["offer"] (Sp1 (rRat K) (fun o => 0 ≤ o.1) (fun _ => retI rNon ())) := ⟨_, _, ok_check_offer F27, F27.kp, b27, PySem.W.mg_of X G a27⟩
  have G_compare_ratios : Kn CX0 l.prog w K mg base "compare_ratios" 1 ["first", "second"] (Sp2 (rRat K) (rRat K) (fun a b => Tm.Bd 100000 a.1 ∧ Tm.Bd 100000 a.2 ∧ Tm.Bd 100000 b.1 ∧ Tm.Bd 100000 b.2) (fun a b => retI rInt (Tm.cmpR a b))) := ⟨_, _, ok_compare_ratios m_int F28, F28.kp, b28, PySem.W.mg_of X G a28⟩
  have G_merge_charges : Kn CX0 l.prog w K mg base "merge_charges" 2 ["lists"] (Sp1 (rLst K (rSeq K (rRat K))) (fun css => Tm.MOk css) (fun css => retN (rT2 K rInt (rRat K)) (Tm.mgF css (Tm.totC css)))) := ⟨_, _, ok_merge_charges m_len m_range m_sum G_compare_ratios F29, F29.kp, b29, PySem.W.mg_of X G a29⟩
  have G_best_plan : KnK CX0 l.prog w K mg base "best_plan" 8 1 ["offer"] ["company", "offer"] (Sp2 (rCompany K C_Company) (rRat K) (fun c o => Tm.COk c ∧ Tm.Offr o) (fun c o => retN rInt (Tm.bpF c o))) := ⟨_, _, ok_best_plan G_certificate G_check_offer G_compare_ratios G_merge_charges F30, F30.kp, b30, PySem.W.mg_of X G a30⟩
  have G_add_ratios : Kn CX0 l.prog w K mg base "add_ratios" 3 ["first", "second"] (Sp2 (rRat K) (rRat K) (fun a b => a.2 ≠ 0 ∧ b.2 ≠ 0 ∧ Tm.Bd 4000 a.1 ∧ Tm.Bd 4000 a.2 ∧ Tm.Bd 4000 b.1 ∧ Tm.Bd 4000 b.2) (fun a b => retI (rRat K) (Tm.mkR (a.1 * b.2 + b.1 * a.2) (a.2 * b.2)))) := ⟨_, _, ok_add_ratios G_make_ratio F31, F31.kp, b31, PySem.W.mg_of X G a31⟩
  have G_offer_alone : Kn CX0 l.prog w K mg base "offer_alone" 3 ["discount", "offer"] (Sp2 (rRat K) (rRat K) (fun d o => Tm.Dis d ∧ Tm.Offr o) (fun d o => retI (rRat K) (Tm.aloneF d o))) := ⟨_, _, ok_offer_alone G_make_ratio F32, F32.kp, b32, PySem.W.mg_of X G a32⟩
  have G_scale : Kn CX0 l.prog w K mg base "scale" 2 ["discount", "count"] (Sp2 (rRat K) rInt (fun d n => Tm.Bd 10 d.2 ∧ 0 ≤ n ∧ n ≤ 10000) (fun d n => retI rInt (d.2 ^ (n.toNat - 1)))) := ⟨_, _, ok_scale m_max G_powers F33, F33.kp, b33, PySem.W.mg_of X G a33⟩
  have G_steps_taken : Kn CX0 l.prog w K mg base "steps_taken" 1 ["company", "plan"] (Sp2 (rCompany K C_Company) (rLst K (rOpt rInt)) (fun c pl => Tm.COk c ∧ Tm.VP c.2 pl ∧ pl.length ≤ 1000) (fun c pl => retN rInt (Tm.tkF c.2.length pl))) := ⟨_, _, ok_steps_taken m_len m_range T_Company F34, F34.kp, b34, PySem.W.mg_of X G a34⟩
  have G_plan_worth : KnK CX0 l.prog w K mg base "plan_worth" 4 2 ["offer"] ["company", "plan", "offer"] (Sp3 (rCompany K C_Company) (rLst K (rOpt rInt)) (rRat K) (fun c pl o => Tm.COk c ∧ Tm.VP c.2 pl ∧ pl.length ≤ 210 ∧ Tm.Offr o) (fun c pl o => retI (rRat K) (Tm.pwF c pl o))) := ⟨_, _, ok_plan_worth m_len m_range T_Company G_add_ratios G_check_offer G_day_weights G_make_ratio G_offer_alone G_scale G_steps_taken F35, F35.kp, b35, PySem.W.mg_of X G a35⟩
  have G_best_worth : KnK CX0 l.prog w K mg base "best_worth" 9 1 ["offer"] ["company", "offer"] (Sp2 (rCompany K C_Company) (rRat K) (fun c o => Tm.COk c ∧ Tm.Offr o) (fun c o => retI (rRat K) (Tm.bwF c o))) := ⟨_, _, ok_best_worth G_best_plan G_plan_worth F36, F36.kp, b36, PySem.W.mg_of X G a36⟩
  exact ok_law m_list G_Company___init__ G__law_cell G__law_discount G__law_equals G__law_pay G__law_plans G__law_projects G__law_row G__law_valid G__law_worth G_best_plan G_best_worth F37
end Lw
open PySem PySem.W PyProof.Rows
set_option maxHeartbeats 0 in
theorem PySem.Challenge.cw_projectdays_k46_whole_small_companies_by_holds : PySem.Challenge.rw_projectdays_k46_whole_small_companies_by.Holds := by
  w_on; o_law; k_head; (case hw => w_witness2)
  k_fill
  refine L2.walk_of (l := PySem.Challenge.rw_projectdays_k46_whole_small_companies_by) (n := 63) (k := 10) (x := "_law_script") (CX := fun _ => L2.CX0) (sp := fun w => Tp.Sp1 (Tp.rLst _ Tp.rInt) (fun _ => True) (fun _ => Tp.retI Tp.rBl true)) rfl (by decide) rfl ⟨rfl, by decide, by decide⟩ (fun w h Y => PySem.W.kIn_of Y) ?F (fun w H a ns hl ho hS => ⟨H, _, ns, Evl.Ex.refl H, rfl, ⟨a, _, rfl, hS, Tp.A2.of_map _ _ fun _ _ => rfl⟩, trivial, fun v H' F' _ r => r⟩) (fun _ _ _ _ _ h => h)
  case F =>
    intro w mg fa h KX G hmg
    refine' Lw.all_mk KX G hmg ?aC_Company ?pg_Company ?hd_Company ?po_Company ?sa_Company ?mk_Company ?kc_Company ?n_Company_discount ?n_Company_projects ?a1 ?l1 ?c1 ?k1 ?a2 ?l2 ?c2 ?k2 ?a3 ?l3 ?c3 ?k3 ?a4 ?l4 ?c4 ?k4 ?a5 ?i5 ?l5 ?c5 ?k5 ?a6 ?l6 ?c6 ?k6 ?a7 ?l7 ?c7 ?k7 ?a8 ?l8 ?c8 ?k8 ?a9 ?l9 ?c9 ?k9 ?a10 ?l10 ?c10 ?k10 ?a11 ?l11 ?c11 ?k11 ?a12 ?l12 ?c12 ?k12 ?a13 ?l13 ?c13 ?k13 ?a14 ?l14 ?c14 ?k14 ?a15 ?l15 ?c15 ?k15 ?a16 ?l16 ?c16 ?k16 ?a17 ?l17 ?c17 ?k17 ?a18 ?l18 ?c18 ?k18 ?a19 ?l19 ?c19 ?k19 ?a20 ?l20 ?c20 ?k20 ?a21 ?l21 ?c21 ?k21 ?a22 ?l22 ?c22 ?k22 ?a23 ?l23 ?c23 ?k23 ?a24 ?l24 ?c24 ?k24 ?a25 ?l25 ?c25 ?k25 ?a26 ?l26 ?c26 ?k26 ?a27 ?l27 ?c27 ?k27 ?a28 ?l28 ?c28 ?k28 ?a29 ?l29 ?c29 ?k29 ?a30 ?l30 ?c30 ?k30 ?a31 ?l31 ?c31 ?k31 ?a32 ?l32 ?c32 ?k32 ?a33 ?l33 ?c33 ?k33 ?a34 ?l34 ?c34 ?k34 ?a35 ?l35 ?c35 ?k35 ?a36 ?l36 ?c36 ?k36 ?a37 ?l37 ?c37 ?k37 ?z_abs ?z_bool ?z_int ?z_isinstance ?z_len ?z_list ?z_max ?z_min ?z_range ?z_sum ?z_tuple ?zg_GREATEST_DENOMINATOR ?zg_GREATEST_REWARD ?zg_MOST_PROJECTS ?zg_MOST_REWARDS
    (case aC_Company => k_is); (case pg_Company => k_is); (case hd_Company => k_is); (case po_Company => k_is); (case sa_Company => k_is); (case mk_Company => k_is); (case kc_Company => k_is); (case n_Company_discount => k_is); (case n_Company_projects => k_is); (case a1 => k_is); (case l1 => k_is); (case c1 => k_is); (case k1 => k_is); (case a2 => k_is); (case l2 => k_is); (case c2 => k_is); (case k2 => k_is); (case a3 => k_is); (case l3 => k_is); (case c3 => k_is); (case k3 => k_is); (case a4 => k_is); (case l4 => k_is); (case c4 => k_is); (case k4 => k_is); (case a5 => k_is); (case i5 => k_is); (case l5 => k_is); (case c5 => k_is); (case k5 => k_is); (case a6 => k_is); (case l6 => k_is); (case c6 => k_is); (case k6 => k_is); (case a7 => k_is); (case l7 => k_is); (case c7 => k_is); (case k7 => k_is); (case a8 => k_is); (case l8 => k_is); (case c8 => k_is); (case k8 => k_is); (case a9 => k_is); (case l9 => k_is); (case c9 => k_is); (case k9 => k_is); (case a10 => k_is); (case l10 => k_is); (case c10 => k_is); (case k10 => k_is); (case a11 => k_is); (case l11 => k_is); (case c11 => k_is); (case k11 => k_is); (case a12 => k_is); (case l12 => k_is); (case c12 => k_is); (case k12 => k_is); (case a13 => k_is); (case l13 => k_is); (case c13 => k_is); (case k13 => k_is); (case a14 => k_is); (case l14 => k_is); (case c14 => k_is); (case k14 => k_is); (case a15 => k_is); (case l15 => k_is); (case c15 => k_is); (case k15 => k_is); (case a16 => k_is); (case l16 => k_is); (case c16 => k_is); (case k16 => k_is); (case a17 => k_is); (case l17 => k_is); (case c17 => k_is); (case k17 => k_is); (case a18 => k_is); (case l18 => k_is); (case c18 => k_is); (case k18 => k_is); (case a19 => k_is); (case l19 => k_is); (case c19 => k_is); (case k19 => k_is); (case a20 => k_is); (case l20 => k_is); (case c20 => k_is); (case k20 => k_is); (case a21 => k_is); (case l21 => k_is); (case c21 => k_is); (case k21 => k_is); (case a22 => k_is); (case l22 => k_is); (case c22 => k_is); (case k22 => k_is); (case a23 => k_is); (case l23 => k_is); (case c23 => k_is); (case k23 => k_is); (case a24 => k_is); (case l24 => k_is); (case c24 => k_is); (case k24 => k_is); (case a25 => k_is); (case l25 => k_is); (case c25 => k_is); (case k25 => k_is); (case a26 => k_is); (case l26 => k_is); (case c26 => k_is); (case k26 => k_is); (case a27 => k_is); (case l27 => k_is); (case c27 => k_is); (case k27 => k_is); (case a28 => k_is); (case l28 => k_is); (case c28 => k_is); (case k28 => k_is); (case a29 => k_is); (case l29 => k_is); (case c29 => k_is); (case k29 => k_is); (case a30 => k_is); (case l30 => k_is); (case c30 => k_is); (case k30 => k_is); (case a31 => k_is); (case l31 => k_is); (case c31 => k_is); (case k31 => k_is); (case a32 => k_is); (case l32 => k_is); (case c32 => k_is); (case k32 => k_is); (case a33 => k_is); (case l33 => k_is); (case c33 => k_is); (case k33 => k_is); (case a34 => k_is); (case l34 => k_is); (case c34 => k_is); (case k34 => k_is); (case a35 => k_is); (case l35 => k_is); (case c35 => k_is); (case k35 => k_is); (case a36 => k_is); (case l36 => k_is); (case c36 => k_is); (case k36 => k_is); (case a37 => k_is); (case l37 => k_is); (case c37 => k_is); (case k37 => k_is); (case z_abs => k_is); (case z_bool => k_is); (case z_int => k_is); (case z_isinstance => k_is); (case z_len => k_is); (case z_list => k_is); (case z_max => k_is); (case z_min => k_is); (case z_range => k_is); (case z_sum => k_is); (case z_tuple => k_is); (case zg_GREATEST_DENOMINATOR => k_is); (case zg_GREATEST_REWARD => k_is); (case zg_MOST_PROJECTS => k_is); (case zg_MOST_REWARDS => k_is)
