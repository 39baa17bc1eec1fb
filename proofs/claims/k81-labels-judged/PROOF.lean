import PyProof.Rows.All
import Wide.All
import OpenK.AllK
import Wide.FinOn
import HandS.ForMost
import HandS.ForExc
import HandS.Walk
import HandS.Evl
import HandS.Wide
import HandS.Property
import HandS.CallSlots
import HandS.SortInts
import HandS.Codes
import HandS.ExcOwn
import HandS.WordsExc
import HandS.Zip
import HandS.ClsMeth
import HandS.ExcIs
import HandS.IsInst
import PyProof.ListStr
import HandS.TryMany
import PySem.Challenge.RW_damphouse_k81_crew_labels_judged
set_option Elab.async false
set_option linter.all false
set_option maxRecDepth 100000
set_option maxHeartbeats 4000000
set_option autoImplicit false
/-! Gn: typed states over the hand layer. -/
namespace Gn
open PySem L2

/-! ### data -/
abbrev Tx := List Nat
def Tx.s (t : Tx) : Str := ⟨t.toArray⟩
theorem Tx.s_inj {a b : Tx} (h : Tx.s a = Tx.s b) : a = b := by
  unfold Tx.s at h
  injection h with h
  simpa using h
/-- data of any kind -/
inductive D where
  | non | bl (b : Bool) | int (i : Int) | str (t : Tx) | lst (xs : List D) | tup (xs : List D)
structure Gx where
  K : PySem.W.Frag
  ca : Str → Addr
class Rp (α : Type) where
  rp : Gx → Hp → V → α → Prop
  mono : ∀ {g : Gx} {H H' : Hp} {v : V} {x : α}, Same H H' → rp g H v x → rp g H' v x
open Rp (rp)

instance instRpInt : Rp Int := ⟨fun _ _ v x => v = .int x, fun _ h => h⟩
instance instRpBool : Rp Bool := ⟨fun _ _ v x => v = .bl x, fun _ h => h⟩
instance instRpUnit : Rp Unit := ⟨fun _ _ v _ => v = .non, fun _ h => h⟩
instance instRpTx : Rp Tx := ⟨fun _ _ v x => v = .str (Tx.s x), fun _ h => h⟩
instance instRpOpt {α : Type} [Rp α] : Rp (Option α) := ⟨fun g H v x => match x with | none => v = .non | some y => rp g H v y, fun {g H H' v x} s h => by
  cases x with
  | none => exact h
  | some y => exact Rp.mono s h⟩
def rps {α : Type} [Rp α] (g : Gx) (H : Hp) : List V → List α → Prop
  | [], [] => True
  | v :: vs, x :: xs => rp g H v x ∧ rps g H vs xs
  | _, _ => False
section
variable {α : Type} [Rp α] {g : Gx} {H H' : Hp}
theorem rps_mono (s : Same H H') : ∀ {vs : List V} {xs : List α}, rps g H vs xs → rps g H' vs xs
  | [], [], _ => trivial
  | _ :: _, _ :: _, h => ⟨Rp.mono s h.1, rps_mono s h.2⟩
  | [], _ :: _, h => h.elim
  | _ :: _, [], h => h.elim
theorem rps_len : ∀ {vs : List V} {xs : List α}, rps g H vs xs → vs.length = xs.length
  | [], [], _ => rfl
  | _ :: _, _ :: _, h => congrArg (· + 1) (rps_len h.2)
  | [], _ :: _, h => h.elim
  | _ :: _, [], h => h.elim
theorem rps_get : ∀ {vs : List V} {xs : List α} {i : Nat} {x : α}, rps g H vs xs → xs[i]? = some x → ∃ v, vs[i]? = some v ∧ rp g H v x
  | v :: vs, y :: xs, 0, x, h, e => by
    simp at e; subst e; exact ⟨v, rfl, h.1⟩
  | v :: vs, y :: xs, i + 1, x, h, e => by
    obtain ⟨w, e1, r⟩ := rps_get (i := i) h.2 (by simpa using e)
    exact ⟨w, by simpa using e1, r⟩
  | [], [], _, _, _, e => by simp at e
  | [], _ :: _, _, _, h, _ => h.elim
  | _ :: _, [], _, _, h, _ => h.elim
theorem rps_get2 : ∀ {vs : List V} {xs : List α} {i : Nat} {v : V}, rps g H vs xs → vs[i]? = some v → ∃ x, xs[i]? = some x ∧ rp g H v x
  | v :: vs, y :: xs, 0, x, h, e => by
    simp at e; subst e; exact ⟨y, rfl, h.1⟩
  | v :: vs, y :: xs, i + 1, x, h, e => by
    obtain ⟨w, e1, r⟩ := rps_get2 (i := i) h.2 (by simpa using e)
    exact ⟨w, by simpa using e1, r⟩
  | [], [], _, _, _, e => by simp at e
  | [], _ :: _, _, _, h, _ => h.elim
  | _ :: _, [], _, _, h, _ => h.elim
theorem rps_app : ∀ {vs ws : List V} {xs ys : List α}, rps g H vs xs → rps g H ws ys → rps g H (vs ++ ws) (xs ++ ys)
  | [], _, [], _, _, h => h
  | _ :: _, _, _ :: _, _, h, h2 => ⟨h.1, rps_app h.2 h2⟩
  | [], _, _ :: _, _, h, _ => h.elim
  | _ :: _, _, [], _, h, _ => h.elim
theorem rps_take : ∀ {vs : List V} {xs : List α} (n : Nat), rps g H vs xs → rps g H (vs.take n) (xs.take n)
  | _, _, 0, _ => trivial
  | [], [], _ + 1, _ => trivial
  | _ :: _, _ :: _, n + 1, h => ⟨h.1, rps_take n h.2⟩
  | [], _ :: _, _ + 1, h => h.elim
  | _ :: _, [], _ + 1, h => h.elim
theorem rps_drop : ∀ {vs : List V} {xs : List α} (n : Nat), rps g H vs xs → rps g H (vs.drop n) (xs.drop n)
  | _, _, 0, h => h
  | [], [], _ + 1, _ => trivial
  | _ :: _, _ :: _, n + 1, h => rps_drop n h.2
  | [], _ :: _, _ + 1, h => h.elim
  | _ :: _, [], _ + 1, h => h.elim
theorem rps_set {v : V} {x : α} (r : rp g H v x) : ∀ {vs : List V} {xs : List α} (i : Nat), rps g H vs xs → rps g H (vs.set i v) (xs.set i x)
  | [], [], _, h => h
  | _ :: _, _ :: _, 0, h => ⟨r, h.2⟩
  | _ :: _, _ :: _, i + 1, h => ⟨h.1, rps_set r i h.2⟩
  | [], _ :: _, _, h => h.elim
  | _ :: _, [], _, h => h.elim
theorem rps_rev : ∀ {vs : List V} {xs : List α}, rps g H vs xs → rps g H vs.reverse xs.reverse
  | [], [], _ => trivial
  | v :: vs, x :: xs, h => by
    rw [List.reverse_cons, List.reverse_cons]
    exact rps_app (rps_rev h.2) ⟨h.1, trivial⟩
  | [], _ :: _, h => h.elim
  | _ :: _, [], h => h.elim
theorem rps_rep {vs : List V} {xs : List α} (h : rps g H vs xs) : ∀ n, rps g H (List.replicate n vs).flatten (List.replicate n xs).flatten
  | 0 => trivial
  | n + 1 => by
    rw [List.replicate_succ, List.replicate_succ, List.flatten_cons, List.flatten_cons]
    exact rps_app h (rps_rep h n)
end
theorem rps_int {g : Gx} {H : Hp} : ∀ {vs : List V} {xs : List Int}, rps g H vs xs ↔ vs = xs.map V.int
  | [], [] => by simp [rps]
  | v :: vs, x :: xs => by
    have := rps_int (g := g) (H := H) (vs := vs) (xs := xs)
    show (v = V.int x ∧ rps g H vs xs) ↔ _
    rw [this]; simp
  | [], _ :: _ => by simp [rps]
  | _ :: _, [] => by simp [rps]
theorem rps_bl {g : Gx} {H : Hp} : ∀ {vs : List V} {xs : List Bool}, rps g H vs xs ↔ vs = xs.map V.bl
  | [], [] => by simp [rps]
  | v :: vs, x :: xs => by
    have := rps_bl (g := g) (H := H) (vs := vs) (xs := xs)
    show (v = V.bl x ∧ rps g H vs xs) ↔ _
    rw [this]; simp
  | [], _ :: _ => by simp [rps]
  | _ :: _, [] => by simp [rps]
theorem rps_tx {g : Gx} {H : Hp} : ∀ {vs : List V} {xs : List Tx}, rps g H vs xs ↔ vs = xs.map (fun t => V.str (Tx.s t))
  | [], [] => by simp [rps]
  | v :: vs, x :: xs => by
    have := rps_tx (g := g) (H := H) (vs := vs) (xs := xs)
    show (v = V.str (Tx.s x) ∧ rps g H vs xs) ↔ _
    rw [this]; simp
  | [], _ :: _ => by simp [rps]
  | _ :: _, [] => by simp [rps]
instance instRpList {α : Type} [Rp α] : Rp (List α) := ⟨fun g H v xs => ∃ p vs, v = .ref p ∧ H p = some (.lst vs) ∧ rps g H vs xs, fun s ⟨p, vs, e, h, r⟩ => ⟨p, vs, e, s _ _ h, rps_mono s r⟩⟩
instance instRpProd {α β : Type} [Rp α] [Rp β] : Rp (α × β) := ⟨fun g H v x => ∃ p a b, v = .ref p ∧ H p = some (.tup [a, b]) ∧ rp g H a x.1 ∧ rp g H b x.2, fun s ⟨p, a, b, e, h, r1, r2⟩ => ⟨p, a, b, e, s _ _ h, Rp.mono s r1, Rp.mono s r2⟩⟩
structure T3 (α β γ : Type) where
  a : α
  b : β
  c : γ
structure T4 (α β γ δ : Type) where
  a : α
  b : β
  c : γ
  d : δ
structure T5 (α β γ δ ε : Type) where
  a : α
  b : β
  c : γ
  d : δ
  e : ε
structure T6 (α β γ δ ε ζ : Type) where
  a : α
  b : β
  c : γ
  d : δ
  e : ε
  f : ζ
instance instRpT3 {α β γ : Type} [Rp α] [Rp β] [Rp γ] : Rp (T3 α β γ) := ⟨fun g H v x => ∃ p a b c, v = .ref p ∧ H p = some (.tup [a, b, c]) ∧ rp g H a x.a ∧ rp g H b x.b ∧ rp g H c x.c, fun s ⟨p, a, b, c, e, h, r1, r2, r3⟩ => ⟨p, a, b, c, e, s _ _ h, Rp.mono s r1, Rp.mono s r2, Rp.mono s r3⟩⟩
instance instRpT4 {α β γ δ : Type} [Rp α] [Rp β] [Rp γ] [Rp δ] : Rp (T4 α β γ δ) := ⟨fun g H v x => ∃ p a b c d, v = .ref p ∧ H p = some (.tup [a, b, c, d]) ∧ rp g H a x.a ∧ rp g H b x.b ∧ rp g H c x.c ∧ rp g H d x.d,
  fun s ⟨p, a, b, c, d, e, h, r1, r2, r3, r4⟩ => ⟨p, a, b, c, d, e, s _ _ h, Rp.mono s r1, Rp.mono s r2, Rp.mono s r3, Rp.mono s r4⟩⟩
instance instRpT5 {α β γ δ ε : Type} [Rp α] [Rp β] [Rp γ] [Rp δ] [Rp ε] : Rp (T5 α β γ δ ε) := ⟨fun g H v x => ∃ p a b c d e, v = .ref p ∧ H p = some (.tup [a, b, c, d, e]) ∧ rp g H a x.a ∧ rp g H b x.b ∧ rp g H c x.c ∧ rp g H d x.d ∧ rp g H e x.e,
  fun s ⟨p, a, b, c, d, f, e, h, r1, r2, r3, r4, r5⟩ => ⟨p, a, b, c, d, f, e, s _ _ h, Rp.mono s r1, Rp.mono s r2, Rp.mono s r3, Rp.mono s r4, Rp.mono s r5⟩⟩
instance instRpT6 {α β γ δ ε ζ : Type} [Rp α] [Rp β] [Rp γ] [Rp δ] [Rp ε] [Rp ζ] : Rp (T6 α β γ δ ε ζ) := ⟨fun g H v x => ∃ p a b c d e f, v = .ref p ∧ H p = some (.tup [a, b, c, d, e, f]) ∧ rp g H a x.a ∧ rp g H b x.b ∧ rp g H c x.c ∧ rp g H d x.d ∧ rp g H e x.e ∧ rp g H f x.f,
  fun s ⟨p, a, b, c, d, f, f', e, h, r1, r2, r3, r4, r5, r6⟩ => ⟨p, a, b, c, d, f, f', e, s _ _ h, Rp.mono s r1, Rp.mono s r2, Rp.mono s r3, Rp.mono s r4, Rp.mono s r5, Rp.mono s r6⟩⟩
mutual
def rpD (H : Hp) : V → D → Prop
  | v, .non => v = .non
  | v, .bl b => v = .bl b
  | v, .int i => v = .int i
  | v, .str t => v = .str (Tx.s t)
  | v, .lst xs => ∃ p vs, v = .ref p ∧ H p = some (.lst vs) ∧ rpDs H vs xs
  | v, .tup xs => ∃ p vs, v = .ref p ∧ H p = some (.tup vs) ∧ rpDs H vs xs
def rpDs (H : Hp) : List V → List D → Prop
  | [], [] => True
  | v :: vs, x :: xs => rpD H v x ∧ rpDs H vs xs
  | _, _ => False
end
mutual
theorem rpD_mono {H H' : Hp} (s : Same H H') : ∀ {v : V} {x : D}, rpD H v x → rpD H' v x
  | _, .non, h => by simpa [rpD] using h
  | _, .bl _, h => by simpa [rpD] using h
  | _, .int _, h => by simpa [rpD] using h
  | _, .str _, h => by simpa [rpD] using h
  | _, .lst xs, h => by
    simp only [rpD] at h ⊢
    obtain ⟨p, vs, e, h, r⟩ := h
    exact ⟨p, vs, e, s _ _ h, rpDs_mono s r⟩
  | _, .tup xs, h => by
    simp only [rpD] at h ⊢
    obtain ⟨p, vs, e, h, r⟩ := h
    exact ⟨p, vs, e, s _ _ h, rpDs_mono s r⟩
theorem rpDs_mono {H H' : Hp} (s : Same H H') : ∀ {vs : List V} {xs : List D}, rpDs H vs xs → rpDs H' vs xs
  | [], [], _ => by simp [rpDs]
  | v :: vs, x :: xs, h => by
    simp only [rpDs] at h ⊢
    exact ⟨rpD_mono s h.1, rpDs_mono s h.2⟩
  | [], _ :: _, h => by simp [rpDs] at h
  | _ :: _, [], h => by simp [rpDs] at h
end
instance instRpD : Rp D := ⟨fun _ H v x => rpD H v x, fun s h => rpD_mono s h⟩
/-- into data of any kind -/
class ToD (α : Type) [Rp α] where
  d : α → D
  ok : ∀ {g : Gx} {H : Hp} {v : V} {x : α}, rp g H v x → rpD H v (d x)
theorem rps_d {α : Type} [Rp α] [ToD α] {g : Gx} {H : Hp} : ∀ {vs : List V} {xs : List α}, rps g H vs xs → rpDs H vs (xs.map ToD.d)
  | [], [], _ => by simp [rpDs]
  | v :: vs, x :: xs, h => by
    rw [List.map_cons, rpDs]
    exact ⟨ToD.ok h.1, rps_d h.2⟩
  | [], _ :: _, h => h.elim
  | _ :: _, [], h => h.elim
instance : ToD Int := ⟨.int, fun h => by rw [rpD]; exact h⟩
instance : ToD Bool := ⟨.bl, fun h => by rw [rpD]; exact h⟩
instance : ToD Unit := ⟨fun _ => .non, fun h => by rw [rpD]; exact h⟩
instance : ToD Tx := ⟨.str, fun h => by rw [rpD]; exact h⟩
instance : ToD D := ⟨id, fun h => h⟩
instance {α : Type} [Rp α] [ToD α] : ToD (List α) := ⟨fun xs => .lst (xs.map ToD.d), fun ⟨p, vs, e, h, r⟩ => by rw [rpD]; exact ⟨p, vs, e, h, rps_d r⟩⟩
instance {α : Type} [Rp α] [ToD α] : ToD (Option α) := ⟨fun x => match x with | none => .non | some y => ToD.d y, fun {g H v x} h => by
  cases x with
  | none => show rpD H v .non; rw [rpD]; exact h
  | some y => exact ToD.ok (α := α) (g := g) h⟩
instance {α β : Type} [Rp α] [Rp β] [ToD α] [ToD β] : ToD (α × β) := ⟨fun x => .tup [ToD.d x.1, ToD.d x.2], fun ⟨p, a, b, e, h, r1, r2⟩ => by
  rw [rpD]; exact ⟨p, _, e, h, by rw [rpDs, rpDs, rpDs]; exact ⟨ToD.ok r1, ToD.ok r2, trivial⟩⟩⟩
instance {α β γ : Type} [Rp α] [Rp β] [Rp γ] [ToD α] [ToD β] [ToD γ] : ToD (T3 α β γ) := ⟨fun x => .tup [ToD.d x.a, ToD.d x.b, ToD.d x.c], fun ⟨p, a, b, c, e, h, r1, r2, r3⟩ => by
  rw [rpD]; exact ⟨p, _, e, h, by rw [rpDs, rpDs, rpDs, rpDs]; exact ⟨ToD.ok r1, ToD.ok r2, ToD.ok r3, trivial⟩⟩⟩

/-! ### slots and states -/
inductive Bd : Type 1 where
  | un
  | kp {α : Type} [i : Rp α] (x : α)
  | bo {α : Type} [i : Rp α] (x : α)
  | ow {α : Type} [i : Rp α] (xs : List α)
  | io (p : Addr) {α : Type} [i : Rp α] (xs : List α)
structure Bs where
  F0 : Hp
  A0 : Hp
  ps : List Addr
  P : Hp
def Bd.isO : Bd → Prop
  | .un => False
  | @Bd.kp _ _ _ => False
  | @Bd.bo _ _ _ => False
  | @Bd.ow _ _ _ => True
  | @Bd.io _ _ _ _ => True
def SlotOk (g : Gx) (F A H : Hp) (o : Option (Option V)) : Bd → Prop
  | .un => True
  | @Bd.kp _ _ x => ∃ v, o = some (some v) ∧ rp g F v x
  | @Bd.bo _ _ x => ∃ v, o = some (some v) ∧ rp g A v x
  | @Bd.ow _ _ xs => ∃ p vs, o = some (some (.ref p)) ∧ H p = some (.lst vs) ∧ rps g F vs xs ∧ F p = none ∧ A p = none
  | @Bd.io p _ _ xs => ∃ vs, o = some (some (.ref p)) ∧ H p = some (.lst vs) ∧ rps g F vs xs ∧ F p = none ∧ A p = none
/-- a slot that holds a list of its own, at p -/
def Own (E : List Bd) (σ : St) (i : Nat) (p : Addr) : Prop := σ[i]? = some (some (.ref p)) ∧ ∃ b, E[i]? = some b ∧ b.isO
structure Sta (g : Gx) (B : Bs) (F A : Hp) (E : List Bd) (σ : St) (H : Hp) : Prop where
  len : E.length = σ.length
  fa : Same F A
  ah : Same A H
  f0 : Same B.F0 F
  a0 : Same B.A0 A
  fr : ∀ a, B.F0 a = none → (B.A0 a ≠ none ∨ a ∈ B.ps) → F a = none
  inn : ∀ a ∈ B.ps, H a ≠ none ∧ A a = none
  sl : ∀ (i : Nat) (b : Bd), E[i]? = some b → SlotOk g F A H σ[i]? b
  ne : ∀ i j p, Own E σ i p → Own E σ j p → i = j
  pr : ∀ a o, B.P a = some o → H a = some o ∧ A a = none ∧ ∀ i, ¬ Own E σ i a
section
variable {g : Gx} {B : Bs} {F A F' A' H H' : Hp} {E E' : List Bd} {σ : St}
theorem Own.lt {i : Nat} {p : Addr} (h : Own E σ i p) : i < E.length := by
  obtain ⟨_, b, e, _⟩ := h
  exact (List.getElem?_eq_some_iff.mp e).1
/-- an owned slot's list -/
theorem Sta.own (s : Sta g B F A E σ H) {i : Nat} {p : Addr} (h : Own E σ i p) : F p = none ∧ A p = none ∧ ∃ vs, H p = some (.lst vs) := by
  obtain ⟨h1, b, e, h2⟩ := h
  have q := s.sl i b e
  cases b with
  | un => exact h2.elim
  | kp x => exact h2.elim
  | bo x => exact h2.elim
  | ow xs =>
    obtain ⟨p', vs, e1, e2, _, e3, e4⟩ := q
    rw [h1] at e1; cases e1
    exact ⟨e3, e4, vs, e2⟩
  | io p' xs =>
    obtain ⟨vs, e1, e2, _, e3, e4⟩ := q
    rw [h1] at e1; cases e1
    exact ⟨e3, e4, vs, e2⟩
theorem SlotOk.mono {o : Option (Option V)} {b : Bd} (hF : Same F F') (hA : Same A A') (hH : ∀ p, o = some (some (.ref p)) → b.isO → (∀ vs, H p = some (.lst vs) → H' p = some (.lst vs)) ∧ F' p = none ∧ A' p = none) (h : SlotOk g F A H o b) : SlotOk g F' A' H' o b := by
  cases b with
  | un => trivial
  | kp x => obtain ⟨v, e, r⟩ := h; exact ⟨v, e, Rp.mono hF r⟩
  | bo x => obtain ⟨v, e, r⟩ := h; exact ⟨v, e, Rp.mono hA r⟩
  | ow xs =>
    obtain ⟨p, vs, e, e2, r, e3, e4⟩ := h
    obtain ⟨k, n1, n2⟩ := hH p e trivial
    exact ⟨p, vs, e, k vs e2, rps_mono hF r, n1, n2⟩
  | io p xs =>
    obtain ⟨vs, e, e2, r, e3, e4⟩ := h
    obtain ⟨k, n1, n2⟩ := hH p e trivial
    exact ⟨vs, e, k vs e2, rps_mono hF r, n1, n2⟩
/-- the general step: frozen parts grow by objects that are new, what is owned stays -/
theorem Sta.grow (s : Sta g B F A E σ H) (hF : Same F F') (hFA : Same F' A') (hA : Same A A') (hAH : Same A' H') (nF : ∀ a, F a = none → H a ≠ none → F' a = none) (nA : ∀ a, A a = none → H a ≠ none → A' a = none)
    (kH : ∀ a o, A a = none → H a = some o → H' a = some o) : Sta g B F' A' E σ H' where
  len := s.len
  fa := hFA
  ah := hAH
  f0 := s.f0.trans hF
  a0 := s.a0.trans hA
  fr := fun a h1 h2 => by
    refine nF a (s.fr a h1 h2) ?_
    rcases h2 with h2 | h2
    · cases e : B.A0 a with
      | none => exact absurd e h2
      | some o => rw [s.ah _ _ (s.a0 _ _ e)]; exact fun z => nomatch z
    · exact (s.inn a h2).1
  inn := fun a h => by
    obtain ⟨h1, h2⟩ := s.inn a h
    refine ⟨?_, nA a h2 h1⟩
    cases e : H a with
    | none => exact absurd e h1
    | some o => rw [kH a o h2 e]; exact fun z => nomatch z
  sl := fun i b e => (s.sl i b e).mono hF hA fun p e1 h => by
    have o : Own E σ i p := ⟨e1, _, e, h⟩
    obtain ⟨f1, f2, vs, f3⟩ := s.own o
    refine ⟨fun vs h => kH p _ f2 h, nF p f1 ?_, nA p f2 ?_⟩ <;> (rw [f3]; exact fun z => nomatch z)
  ne := s.ne
  pr := fun a o e => by
    obtain ⟨h1, h2, h3⟩ := s.pr a o e
    exact ⟨kH a o h2 h1, nA a h2 (by rw [h1]; exact fun z => nomatch z), h3⟩
/-- a new object -/
structure New (B : Bs) (F A : Hp) (E : List Bd) (σ : St) (H : Hp) (p : Addr) (o : HO) : Prop where
  at_ : H p = some o
  f : F p = none
  a : A p = none
  ne : ∀ i, ¬ Own E σ i p
  ps : p ∉ B.ps
  P : B.P p = none
theorem Same.upd {H : Hp} {p : Addr} {o : HO} (h : H p = none) : Same H (upd H p o) := fun b x e => by
  rw [upd_ne (ne_of_none e h)]
  exact e
theorem Sta.alloc (s : Sta g B F A E σ H) {p : Addr} {o : HO} (h : H p = none) : Sta g B F A E σ (upd H p o) ∧ New B F A E σ (upd H p o) p o := by
  have hA : A p = none := s.ah.free h
  have hF : F p = none := s.fa.free hA
  refine ⟨s.grow (Same.refl _) s.fa (Same.refl _) (s.ah.trans (Same.upd h)) (fun _ e _ => e) (fun _ e _ => e) (fun a u _ e => by rw [upd_ne (ne_of_none e h)]; exact e), upd_same, hF, hA, fun i q => ?_, fun q => (s.inn p q).1 h, ?_⟩
  · obtain ⟨_, _, vs, e⟩ := s.own q
    rw [h] at e; cases e
  · cases e : B.P p with
    | none => rfl
    | some u => have := (s.pr p u e).1; rw [h] at this; cases this
/-- it is frozen -/
theorem Sta.keep (s : Sta g B F A E σ H) {p : Addr} {o : HO} (n : New B F A E σ H p o) : ∃ F' A', Sta g B F' A' E σ H ∧ Same F F' ∧ Same A A' ∧ F' p = some o := by
  refine ⟨upd F p o, upd A p o, ?_, Same.upd n.f, Same.upd n.a, upd_same⟩
  have k1 : ∀ a, a ≠ p → (upd F p o) a = F a := fun a h => upd_ne h
  have k2 : ∀ a, a ≠ p → (upd A p o) a = A a := fun a h => upd_ne h
  refine ⟨s.len, fun a u e => ?_, fun a u e => ?_, s.f0.trans (Same.upd n.f), s.a0.trans (Same.upd n.a), fun a h1 h2 => ?_, fun a h => ⟨(s.inn a h).1, ?_⟩, fun i b e => ?_, s.ne, fun a u e => ?_⟩
  · by_cases h : a = p
    · subst h; rw [upd_same] at e ⊢; exact e
    · rw [k1 a h] at e; rw [k2 a h]; exact s.fa _ _ e
  · by_cases h : a = p
    · subst h; rw [upd_same] at e; cases e; exact n.at_
    · rw [k2 a h] at e; exact s.ah _ _ e
  · by_cases h : a = p
    · subst h
      rcases h2 with h2 | h2
      · cases e : B.A0 a with
        | none => exact absurd e h2
        | some u => have := s.a0 _ _ e; rw [n.a] at this; cases this
      · exact absurd h2 n.ps
    · rw [k1 a h]; exact s.fr a h1 h2
  · rw [k2 a (fun z => n.ps (z ▸ h))]; exact (s.inn a h).2
  · refine (s.sl i b e).mono (Same.upd n.f) (Same.upd n.a) fun q e1 h => ?_
    have o' : Own E σ i q := ⟨e1, _, e, h⟩
    have hq : q ≠ p := fun z => n.ne i (z ▸ o')
    obtain ⟨f1, f2, _⟩ := s.own o'
    exact ⟨fun _ h => h, by rw [k1 q hq]; exact f1, by rw [k2 q hq]; exact f2⟩
  · obtain ⟨h1, h2, h3⟩ := s.pr a u e
    refine ⟨h1, ?_, h3⟩
    rw [k2 a (fun z => by rw [z, n.P] at e; cases e)]; exact h2
/-- a slot gets a value -/
theorem own_set {i j : Nat} {b : Bd} {v : V} {p : Addr} (h : Own (E.set i b) (σ.set i (some v)) j p) : (j = i ∧ v = .ref p ∧ b.isO) ∨ (j ≠ i ∧ Own E σ j p) := by
  obtain ⟨h1, c, h2, h3⟩ := h
  by_cases hj : j = i
  · subst hj
    left
    have hl : j < σ.length := by
      have := (List.getElem?_eq_some_iff.mp h1).1
      simpa using this
    rw [List.getElem?_set_self hl] at h1
    refine ⟨rfl, by simpa using h1, ?_⟩
    by_cases hE : j < E.length
    · rw [List.getElem?_set_self hE] at h2
      cases h2
      exact h3
    · rw [List.getElem?_eq_none (by simpa using hE)] at h2; cases h2
  · right
    rw [List.getElem?_set_ne (Ne.symm hj)] at h1 h2
    exact ⟨hj, h1, c, h2, h3⟩
theorem Sta.set (s : Sta g B F A E σ H) {i : Nat} {b : Bd} {v : V} (hb : SlotOk g F A H (some (some v)) b) (hn : ∀ p, v = .ref p → b.isO → (∀ j, j ≠ i → ¬ Own E σ j p) ∧ B.P p = none) : Sta g B F A (E.set i b) (σ.set i (some v)) H where
  len := by simpa using s.len
  fa := s.fa
  ah := s.ah
  f0 := s.f0
  a0 := s.a0
  fr := s.fr
  inn := s.inn
  sl := fun j c e => by
    by_cases hj : j = i
    · subst hj
      have hl : j < E.length := by
        have := (List.getElem?_eq_some_iff.mp e).1
        simpa using this
      rw [List.getElem?_set_self hl] at e
      rw [List.getElem?_set_self (by rw [← s.len]; exact hl)]
      cases e
      exact hb
    · rw [List.getElem?_set_ne (Ne.symm hj)] at e ⊢
      exact s.sl j c e
  ne := fun j k p h1 h2 => by
    rcases own_set h1 with ⟨e1, e2, e3⟩ | ⟨e1, e2⟩
    · rcases own_set h2 with ⟨f1, f2, f3⟩ | ⟨f1, f2⟩
      · rw [e1, f1]
      · exact absurd f2 ((hn p e2 e3).1 k f1)
    · rcases own_set h2 with ⟨f1, f2, f3⟩ | ⟨f1, f2⟩
      · exact absurd e2 ((hn p f2 f3).1 j e1)
      · exact s.ne j k p e2 f2
  pr := fun a o e => by
    obtain ⟨h1, h2, h3⟩ := s.pr a o e
    refine ⟨h1, h2, fun j q => ?_⟩
    rcases own_set q with ⟨e1, e2, e3⟩ | ⟨e1, e2⟩
    · have := (hn a e2 e3).2
      rw [e] at this; cases this
    · exact h3 j e2
theorem Sta.setk {α : Type} [Rp α] (s : Sta g B F A E σ H) {i : Nat} {x : α} {v : V} (h : rp g F v x) : Sta g B F A (E.set i (.kp x)) (σ.set i (some v)) H := s.set ⟨v, rfl, h⟩ fun _ _ z => z.elim
theorem Sta.setb {α : Type} [Rp α] (s : Sta g B F A E σ H) {i : Nat} {x : α} {v : V} (h : rp g A v x) : Sta g B F A (E.set i (.bo x)) (σ.set i (some v)) H := s.set ⟨v, rfl, h⟩ fun _ _ z => z.elim
theorem Sta.seto {α : Type} [Rp α] (s : Sta g B F A E σ H) {i : Nat} {xs : List α} {p : Addr} {vs : List V} (n : New B F A E σ H p (.lst vs)) (h : rps g F vs xs) : Sta g B F A (E.set i (.ow xs)) (σ.set i (some (.ref p))) H :=
  s.set ⟨p, vs, rfl, n.at_, h, n.f, n.a⟩ fun q e _ => by cases e; exact ⟨fun j _ => n.ne j, n.P⟩
/-- fewer is known -/
inductive Le : Bd → Bd → Prop
  | refl {b} : Le b b
  | un {b} : Le b .un
  | kb {α : Type} [Rp α] {x : α} : Le (.kp x) (.bo x)
inductive LeE : List Bd → List Bd → Prop
  | nil : LeE [] []
  | cons {b c : Bd} {E E' : List Bd} : Le b c → LeE E E' → LeE (b :: E) (c :: E')
theorem LeE.refl : ∀ {E : List Bd}, LeE E E
  | [] => .nil
  | _ :: _ => .cons .refl LeE.refl
theorem LeE.length {E E' : List Bd} (h : LeE E E') : E.length = E'.length := by
  induction h with
  | nil => rfl
  | cons _ _ ih => rw [List.length_cons, List.length_cons, ih]
theorem LeE.get {E E' : List Bd} (h : LeE E E') : ∀ {i : Nat} {c : Bd}, E'[i]? = some c → ∃ b, E[i]? = some b ∧ Le b c := by
  induction h with
  | nil => intro i c e; simp at e
  | cons l _ ih =>
    intro i c e
    cases i with
    | zero => simp at e; subst e; exact ⟨_, rfl, l⟩
    | succ i => simpa using ih (by simpa using e)
theorem Sta.weak (s : Sta g B F A E σ H) (l : LeE E E') : Sta g B F A E' σ H := by
  have back : ∀ i p, Own E' σ i p → Own E σ i p := fun i p h => by
    obtain ⟨h1, c, e, h2⟩ := h
    obtain ⟨b, e1, lb⟩ := l.get e
    cases lb with
    | refl => exact ⟨h1, _, e1, h2⟩
    | un => exact h2.elim
    | kb => exact h2.elim
  refine ⟨l.length.symm.trans s.len, s.fa, s.ah, s.f0, s.a0, s.fr, s.inn, fun i c e => ?_, fun i j p h1 h2 => s.ne i j p (back i p h1) (back j p h2), fun a o e => ?_⟩
  · obtain ⟨b, e1, lb⟩ := l.get e
    have q := s.sl i b e1
    cases lb with
    | refl => exact q
    | un => trivial
    | kb => obtain ⟨v, e, r⟩ := q; exact ⟨v, e, Rp.mono s.fa r⟩
  · obtain ⟨h1, h2, h3⟩ := s.pr a o e
    exact ⟨h1, h2, fun i q => h3 i (back i a q)⟩
/-- an owned list becomes frozen -/
theorem Sta.freeze {α : Type} [Rp α] (s : Sta g B F A E σ H) {i : Nat} {xs : List α} (e : E[i]? = some (.ow xs)) (hps : ∀ p, σ[i]? = some (some (.ref p)) → p ∉ B.ps) : ∃ F' A', Sta g B F' A' (E.set i (.kp xs)) σ H ∧ Same F F' ∧ Same A A' := by
  obtain ⟨p, vs, e1, e2, r, e3, e4⟩ := s.sl i _ e
  have ow : Own E σ i p := ⟨e1, _, e, trivial⟩
  have hs : σ.set i (some (.ref p)) = σ := by
    apply List.ext_getElem?
    intro j
    by_cases h : j = i
    · subst h
      rw [List.getElem?_set_self (List.getElem?_eq_some_iff.mp e1).1, e1]
    · rw [List.getElem?_set_ne (Ne.symm h)]
  have su : Sta g B F A (E.set i .un) σ H := by
    have := s.set (i := i) (b := .un) (v := .ref p) trivial fun _ _ z => z.elim
    rwa [hs] at this
  have n : New B F A (E.set i .un) σ H p (.lst vs) := by
    refine ⟨e2, e3, e4, fun j q => ?_, hps p e1, ?_⟩
    · rw [← hs] at q
      rcases own_set q with ⟨_, _, z⟩ | ⟨h1, h2⟩
      · exact z
      · exact h1 (s.ne j i p h2 ow)
    · cases z : B.P p with
      | none => rfl
      | some u => exact absurd ow ((s.pr p u z).2.2 i)
  obtain ⟨F', A', s', hF, hA, hp⟩ := su.keep n
  refine ⟨F', A', ?_, hF, hA⟩
  have := s'.set (i := i) (b := .kp xs) (v := .ref p) ⟨.ref p, rfl, p, vs, rfl, hp, rps_mono hF r⟩ fun _ _ z => z.elim
  rwa [hs, List.set_set] at this
end
end Gn
/-! Gn: outcomes, expressions. -/
namespace Gn
open PySem L2
open Rp (rp)

/-! ### outcomes -/
inductive R (α : Type) where
  | ok (a : α) | ex (c : Str) (d : D) | bad
inductive Stp (S ρ : Type) where
  | go (s : S) | brk (s : S) | ret (r : ρ)
def R.bind {α β : Type} (m : R α) (f : α → R β) : R β := match m with
  | .ok a => f a
  | .ex c d => .ex c d
  | .bad => .bad
/-- a part that may be undefined -/
def ob {α β : Type} (o : Option α) (f : α → R β) : R β := match o with
  | some a => f a
  | none => .bad
def gd {β : Type} (c : Bool) (m : R β) : R β := if c = true then m else .bad
def loopR {α S ρ : Type} : List α → S → (α → S → R (Stp S ρ)) → R (Stp S ρ)
  | [], s, _ => .ok (.go s)
  | x :: xs, s, f => match f x s with
    | .ok (.go s') => loopR xs s' f
    | r => r
def foldR {α S : Type} : List α → S → (α → S → R S) → R S
  | [], s, _ => .ok s
  | x :: xs, s, f => (f x s).bind fun s' => foldR xs s' f
def whileR {S ρ : Type} (c : S → R Bool) (f : S → R (Stp S ρ)) : Nat → S → R (Stp S ρ)
  | 0, _ => .bad
  | n + 1, s => (c s).bind fun b => if b = true then (match f s with
    | .ok (.go s') => whileR c f n s'
    | r => r) else .ok (.go s)
/-- what a comprehension gives: each item is left out or gives one; S is carried -/
def compR {α β S : Type} : List α → S → (α → S → R (Option β × S)) → R (List β × S)
  | [], s, _ => .ok ([], s)
  | x :: xs, s, f => (f x s).bind fun r => (compR xs r.2 f).bind fun q => .ok ((match r.1 with | some y => y :: q.1 | none => q.1), q.2)
def mapR {α β : Type} : List α → (α → R β) → R (List β)
  | [], _ => .ok []
  | x :: xs, f => (f x).bind fun y => (mapR xs f).bind fun ys => .ok (y :: ys)
def filR {α β : Type} : List α → (α → R (Option β)) → R (List β)
  | [], _ => .ok []
  | x :: xs, f => (f x).bind fun y => (filR xs f).bind fun ys => .ok (match y with | some z => z :: ys | none => ys)
theorem bind_cases {α β : Type} {m : R α} {f : α → R β} {r : R β} (h : m.bind f = r) : (∃ a, m = .ok a ∧ f a = r) ∨ (∃ c d, m = .ex c d ∧ r = .ex c d) ∨ r = .bad := by
  cases m with
  | ok a => exact .inl ⟨a, rfl, h⟩
  | ex c d => exact .inr (.inl ⟨c, d, rfl, h.symm⟩)
  | bad => exact .inr (.inr h.symm)
theorem bind_ok {α β : Type} {m : R α} {f : α → R β} {b : β} (h : m.bind f = .ok b) : ∃ a, m = .ok a ∧ f a = .ok b := by
  cases m with
  | ok a => exact ⟨a, rfl, h⟩
  | ex c d => cases h
  | bad => cases h
theorem ob_ne {α β : Type} {o : Option α} {f : α → R β} {r : R β} (h : ob o f = r) (n : r ≠ .bad) : ∃ a, o = some a ∧ f a = r := by
  cases o with
  | some a => exact ⟨a, rfl, h⟩
  | none => exact absurd h.symm n
theorem gd_ne {β : Type} {c : Bool} {m r : R β} (h : gd c m = r) (n : r ≠ .bad) : c = true ∧ m = r := by
  unfold gd at h
  by_cases hc : c = true
  · rw [if_pos hc] at h; exact ⟨hc, h⟩
  · rw [if_neg hc] at h; exact absurd h.symm n
/-- never raises -/
theorem ok_ne {α : Type} {a : α} : (R.ok a) ≠ R.bad := fun h => nomatch h

/-! ### expressions -/
def Px (g : Gx) (B : Bs) (E E' : List Bd) (te : TE) {α : Type} [Rp α] (x : α) : Prop :=
  ∀ F A σ H, Sta g B F A E σ H → ∀ Q : VK, (∀ F' A' H' v, Sta g B F' A' E' σ H' → Same F F' → rp g F' v x → Q v H') → te σ H Q
def PxT (g : Gx) (B : Bs) (E E' : List Bd) (tt : TT) (b : Bool) : Prop :=
  ∀ F A σ H, Sta g B F A E σ H → ∀ Q : Bool → Hp → Prop, (∀ F' A' H', Sta g B F' A' E' σ H' → Same F F' → Q b H') → tt σ H Q
section
variable {g : Gx} {B : Bs} {E E1 E2 E3 E' : List Bd} {ta tb tc te : TE} {tt tu : TT} {α β γ : Type} [Rp α] [Rp β] [Rp γ]

theorem px_v {i : Nat} {x : α} (h : E[i]? = some (.kp x)) : Px g B E E (tVar i) x := fun F A σ H s Q k => by
  obtain ⟨v, e, r⟩ := s.sl i _ h
  exact ⟨v, e, k F A H v s (Same.refl _) r⟩
/-- values that lean on no heap -/
class At (α : Type) [Rp α] : Prop where
  any : ∀ {g : Gx} {H H' : Hp} {v : V} {x : α}, rp g H v x → rp g H' v x
instance : At Int := ⟨fun h => h⟩
instance : At Bool := ⟨fun h => h⟩
instance : At Unit := ⟨fun h => h⟩
instance : At Tx := ⟨fun h => h⟩
instance [At α] : At (Option α) := ⟨fun {g H H' v x} h => by
  cases x with
  | none => exact h
  | some y => exact At.any (α := α) (H := H) h⟩
theorem rps_any [At α] {H H' : Hp} : ∀ {vs : List V} {xs : List α}, rps g H vs xs → rps g H' vs xs
  | [], [], _ => trivial
  | _ :: _, _ :: _, h => ⟨At.any h.1, rps_any h.2⟩
  | [], _ :: _, h => h.elim
  | _ :: _, [], h => h.elim
theorem px_vb [At α] {i : Nat} {x : α} (h : E[i]? = some (.bo x)) : Px g B E E (tVar i) x := fun F A σ H s Q k => by
  obtain ⟨v, e, r⟩ := s.sl i _ h
  exact ⟨v, e, k F A H v s (Same.refl _) (At.any r)⟩
theorem px_int {n : Int} : Px g B E E (tC (.int n)) n := fun F A _ H s _ k => k F A H _ s (Same.refl _) rfl
theorem px_bl {b : Bool} : Px g B E E (tC (.bl b)) b := fun F A _ H s _ k => k F A H _ s (Same.refl _) rfl
theorem px_non : Px g B E E (tC .non) () := fun F A _ H s _ k => k F A H _ s (Same.refl _) rfl
theorem px_str {z : Str} {t : Tx} (e : z = Tx.s t) : Px g B E E (tC (.str z)) t := fun F A _ H s _ k => k F A H _ s (Same.refl _) (congrArg V.str e)
theorem px_some {x : α} (h : Px g B E E' te x) : Px g B E E' te (some x) := fun F A σ H s Q k => h F A σ H s Q fun F' A' H' v s' e r => k F' A' H' v s' e r
theorem px_none (h : Px g B E E' te ()) : Px g B E E' te (none : Option α) := fun F A σ H s Q k => h F A σ H s Q fun F' A' H' v s' e r => k F' A' H' v s' e r
/-- an optional value that is there -/
theorem px_get {x : Option α} {y : α} (h : Px g B E E' te x) (e : x = some y) : Px g B E E' te y := fun F A σ H s Q k => h F A σ H s Q fun F' A' H' v s' f r => k F' A' H' v s' f (by subst e; exact r)
theorem px_eq {x y : α} (h : Px g B E E' te x) (e : x = y) : Px g B E E' te y := e ▸ h
theorem px_d [ToD α] {x : α} (h : Px g B E E' te x) : Px g B E E' te (ToD.d x) := fun F A σ H s Q k => h F A σ H s Q fun F' A' H' v s' e r => k F' A' H' v s' e (ToD.ok r)
theorem px_weak {x : α} (l : LeE E1 E) (h : Px g B E E' te x) : Px g B E1 E' te x := fun F A σ H s Q k => h F A σ H (s.weak l) Q k

/-- a two-place operation on values -/
def R2x (g : Gx) (B : Bs) (E : List Bd) (r : R2) (x : α) (y : β) (z : γ) : Prop :=
  ∀ F A σ H v w, Sta g B F A E σ H → rp g F v x → rp g F w y → ∀ Q : VK, (∀ F' A' H' u, Sta g B F' A' E σ H' → Same F F' → rp g F' u z → Q u H') → r v w H Q
/-- .. that only reads its first operand -/
def R2h (g : Gx) (B : Bs) (E : List Bd) (r : R2) (x : α) (y : β) (z : γ) : Prop :=
  ∀ F A σ H v w, Sta g B F A E σ H → rp g H v x → rp g F w y → ∀ Q : VK, (∀ F' A' H' u, Sta g B F' A' E σ H' → Same F F' → rp g F' u z → Q u H') → r v w H Q
theorem R2h.x {r : R2} {x : α} {y : β} {z : γ} (h : R2h g B E r x y z) : R2x g B E r x y z := fun F A σ H v w s rx ry Q k => h F A σ H v w s (Rp.mono (s.fa.trans s.ah) rx) ry Q k
theorem px_op {r : R2} {x : α} {y : β} {z : γ} (ha : Px g B E E1 ta x) (hb : Px g B E1 E2 tb y) (hr : R2x g B E2 r x y z) : Px g B E E2 (tOp r ta tb) z := fun F A σ H s Q k =>
  ha F A σ H s _ fun F1 A1 H1 v s1 e1 rv => hb F1 A1 σ H1 s1 _ fun F2 A2 H2 w s2 e2 rw => hr F2 A2 σ H2 v w s2 (Rp.mono e2 rv) rw Q fun F3 A3 H3 u s3 e3 ru => k F3 A3 H3 u s3 ((e1.trans e2).trans e3) ru
/-- a slot that can be read -/
inductive Rd1 : {α : Type} → [Rp α] → Bd → α → Prop
  | kp {α : Type} [Rp α] {x : α} : Rd1 (.kp x) x
  | bo {α : Type} [Rp α] {x : α} : Rd1 (.bo x) x
  | ow {α : Type} [Rp α] {xs : List α} : Rd1 (.ow xs) xs
  | io {α : Type} [Rp α] {p : Addr} {xs : List α} : Rd1 (.io p xs) xs
theorem Rd1.at {x : α} {b : Bd} (h : Rd1 b x) {F A H : Hp} {o : Option (Option V)} (fa : Same F A) (ah : Same A H) (q : SlotOk g F A H o b) : ∃ v, o = some (some v) ∧ rp g H v x := by
  cases h with
  | kp => obtain ⟨v, e, r⟩ := q; exact ⟨v, e, Rp.mono (fa.trans ah) r⟩
  | bo => obtain ⟨v, e, r⟩ := q; exact ⟨v, e, Rp.mono ah r⟩
  | ow => obtain ⟨p, vs, e, e2, r, _⟩ := q; exact ⟨.ref p, e, p, vs, rfl, e2, rps_mono (fa.trans ah) r⟩
  | io => obtain ⟨vs, e, e2, r, _⟩ := q; exact ⟨.ref _, e, _, vs, rfl, e2, rps_mono (fa.trans ah) r⟩
/-- the first operand is a slot -/
theorem px_opV {r : R2} {i : Nat} {b : Bd} {x : α} {y : β} {z : γ} (hb : Px g B E E2 tb y) (hi : E[i]? = some b) (hi2 : E2[i]? = some b) (h : Rd1 b x) (hr : R2h g B E2 r x y z) : Px g B E E2 (tOp r (tVar i) tb) z := fun F A σ H s Q k => by
  obtain ⟨v, e, _⟩ := h.at s.fa s.ah (s.sl i b hi)
  refine ⟨v, e, hb F A σ H s _ fun F2 A2 H2 w s2 e2 rw => ?_⟩
  obtain ⟨v', e', rv⟩ := h.at s2.fa s2.ah (s2.sl i b hi2)
  rw [e] at e'; cases e'
  exact hr F2 A2 σ H2 v w s2 rv rw Q fun F3 A3 H3 u s3 e3 ru => k F3 A3 H3 u s3 (e2.trans e3) ru
def R1x (g : Gx) (B : Bs) (E : List Bd) (r : V → Hp → VK → Prop) (x : α) (z : γ) : Prop :=
  ∀ F A σ H v, Sta g B F A E σ H → rp g F v x → ∀ Q : VK, (∀ F' A' H' u, Sta g B F' A' E σ H' → Same F F' → rp g F' u z → Q u H') → r v H Q
def R1h (g : Gx) (B : Bs) (E : List Bd) (r : V → Hp → VK → Prop) (x : α) (z : γ) : Prop :=
  ∀ F A σ H v, Sta g B F A E σ H → rp g H v x → ∀ Q : VK, (∀ F' A' H' u, Sta g B F' A' E σ H' → Same F F' → rp g F' u z → Q u H') → r v H Q
theorem R1h.x {r : V → Hp → VK → Prop} {x : α} {z : γ} (h : R1h g B E r x z) : R1x g B E r x z := fun F A σ H v s rx Q k => h F A σ H v s (Rp.mono (s.fa.trans s.ah) rx) Q k
theorem px_un {r : V → Hp → VK → Prop} {x : α} {z : γ} (ha : Px g B E E1 ta x) (hr : R1x g B E1 r x z) : Px g B E E1 (tUn r ta) z := fun F A σ H s Q k =>
  ha F A σ H s _ fun F1 A1 H1 v s1 e1 rv => hr F1 A1 σ H1 v s1 rv Q fun F3 A3 H3 u s3 e3 ru => k F3 A3 H3 u s3 (e1.trans e3) ru
/-- a built-in of one argument -/
theorem px_cb1 {r : List V → Hp → VK → Prop} {x : α} {z : γ} (ha : Px g B E E1 ta x) (hr : R1x g B E1 (fun v => r [v]) x z) : Px g B E E1 (tCB r (tCons ta tNil)) z := fun F A σ H s Q k =>
  ha F A σ H s _ fun F1 A1 H1 v s1 e1 rv => hr F1 A1 σ H1 v s1 rv Q fun F3 A3 H3 u s3 e3 ru => k F3 A3 H3 u s3 (e1.trans e3) ru
theorem px_cb1V {r : List V → Hp → VK → Prop} {i : Nat} {b : Bd} {x : α} {z : γ} (hi : E[i]? = some b) (h : Rd1 b x) (hr : R1h g B E (fun v => r [v]) x z) : Px g B E E (tCB r (tCons (tVar i) tNil)) z := fun F A σ H s Q k => by
  obtain ⟨v, e, rv⟩ := h.at s.fa s.ah (s.sl i b hi)
  exact ⟨v, e, hr F A σ H v s rv Q fun F3 A3 H3 u s3 e3 ru => k F3 A3 H3 u s3 e3 ru⟩
theorem px_cb2 {r : List V → Hp → VK → Prop} {x : α} {y : β} {z : γ} (ha : Px g B E E1 ta x) (hb : Px g B E1 E2 tb y) (hr : R2x g B E2 (fun v w => r [v, w]) x y z) : Px g B E E2 (tCB r (tCons ta (tCons tb tNil))) z := fun F A σ H s Q k =>
  ha F A σ H s _ fun F1 A1 H1 v s1 e1 rv => hb F1 A1 σ H1 s1 _ fun F2 A2 H2 w s2 e2 rw => hr F2 A2 σ H2 v w s2 (Rp.mono e2 rv) rw Q fun F3 A3 H3 u s3 e3 ru => k F3 A3 H3 u s3 ((e1.trans e2).trans e3) ru

/-! ints -/
theorem r2_I0 {f : Int → Int → γ} {k : Int → Int → V} {i j : Int} (h : ∀ H, rp g H (k i j) (f i j)) : R2x g B E (rI0 k) i j (f i j) := fun F A σ H v w s rv rw Q q => by
  have rv : v = .int i := rv
  have rw : w = .int j := rw
  subst rv; subst rw
  exact ⟨i, j, rfl, rfl, q F A H _ s (Same.refl _) (h F)⟩
theorem r2_I {C : Int → Int → Prop} {f : Int → Int → γ} {k : Int → Int → V} {i j : Int} (hc : C i j) (h : ∀ H, rp g H (k i j) (f i j)) : R2x g B E (rI C k) i j (f i j) := fun F A σ H v w s rv rw Q q => by
  have rv : v = .int i := rv
  have rw : w = .int j := rw
  subst rv; subst rw
  exact ⟨i, j, rfl, rfl, hc, q F A H _ s (Same.refl _) (h F)⟩
theorem r2_add {i j : Int} : R2x g B E (rI0 fun i j => .int (i + j)) i j (i + j) := r2_I0 (f := fun i j => i + j) fun _ => rfl
theorem r2_sub {i j : Int} : R2x g B E (rI0 fun i j => .int (i - j)) i j (i - j) := r2_I0 (f := fun i j => i - j) fun _ => rfl
theorem r2_lt {i j : Int} : R2x g B E (rI0 fun i j => .bl (decide (i < j))) i j (decide (i < j)) := r2_I0 (f := fun i j => decide (i < j)) fun _ => rfl
theorem r2_le {i j : Int} : R2x g B E (rI0 fun i j => .bl (decide (i ≤ j))) i j (decide (i ≤ j)) := r2_I0 (f := fun i j => decide (i ≤ j)) fun _ => rfl
theorem r2_gt {i j : Int} : R2x g B E (rI0 fun i j => .bl (decide (j < i))) i j (decide (j < i)) := r2_I0 (f := fun i j => decide (j < i)) fun _ => rfl
theorem r2_ge {i j : Int} : R2x g B E (rI0 fun i j => .bl (decide (j ≤ i))) i j (decide (j ≤ i)) := r2_I0 (f := fun i j => decide (j ≤ i)) fun _ => rfl
/-- one factor is small -/
def mulOk (i j : Int) : Bool := (decide (-(2 ^ 64) < i) && decide (i < 2 ^ 64)) || (decide (-(2 ^ 64) < j) && decide (j < 2 ^ 64))
theorem r2_mul {i j : Int} (h : mulOk i j = true) : R2x g B E (rI CMul fun i j => .int (i * j)) i j (i * j) := r2_I (f := fun i j => i * j) (by
  unfold mulOk at h
  simp only [Bool.or_eq_true, Bool.and_eq_true, decide_eq_true_eq] at h
  exact h) fun _ => rfl
def divOk (j : Int) : Bool := decide (0 < j) && decide (j < 1073741824)
theorem r2_div {i j : Int} (h : divOk j = true) : R2x g B E (rI CDiv fun i j => .int (i / j)) i j (i / j) := r2_I (f := fun i j => i / j) (by
  unfold divOk at h
  simp only [Bool.and_eq_true, decide_eq_true_eq] at h
  exact h) fun _ => rfl
theorem r2_mod {i j : Int} (h : decide (0 < j) = true) : R2x g B E (rI (fun _ j => 0 < j) fun i j => .int (i % j)) i j (i % j) := r2_I (f := fun i j => i % j) (of_decide_eq_true h) fun _ => rfl
theorem r2_pow {i j : Int} (h : (decide (0 ≤ j) && decide (j ≤ 1000000) && decide (i.natAbs < 2 ^ 64)) = true) : R2x g B E (rI CPow fun i j => .int (i ^ j.toNat)) i j (i ^ j.toNat) := r2_I (f := fun i j => i ^ j.toNat) (by
  simp only [Bool.and_eq_true, decide_eq_true_eq] at h
  exact ⟨h.1.1, h.1.2, h.2⟩) fun _ => rfl
theorem r1_neg {i : Int} : R1x g B E (rU fun i => .int (-i)) i (-i) := fun F A σ H v s rv Q q => by
  have rv : v = .int i := rv
  subst rv
  exact ⟨i, rfl, q F A H _ s (Same.refl _) rfl⟩

/-! equality of flat things -/
class Fl (α : Type) [Rp α] [DecidableEq α] : Prop where
  eq : ∀ {g : Gx} {H H' : Hp} {v w : V} {x y : α}, rp g H v x → rp g H' w y → (v = w ↔ x = y) ∧ scal v w = true
instance : Fl Int := ⟨fun {g H H' v w x y} h h' => by
  have h : v = .int x := h
  have h' : w = .int y := h'
  subst h; subst h'
  exact ⟨⟨fun e => V.int.inj e, fun e => e ▸ rfl⟩, rfl⟩⟩
instance : Fl Bool := ⟨fun {g H H' v w x y} h h' => by
  have h : v = .bl x := h
  have h' : w = .bl y := h'
  subst h; subst h'
  exact ⟨⟨fun e => V.bl.inj e, fun e => e ▸ rfl⟩, rfl⟩⟩
instance : Fl Tx := ⟨fun {g H H' v w x y} h h' => by
  have h : v = .str (Tx.s x) := h
  have h' : w = .str (Tx.s y) := h'
  subst h; subst h'
  exact ⟨⟨fun e => Tx.s_inj (V.str.inj e), fun e => e ▸ rfl⟩, rfl⟩⟩
theorem r2_eq [DecidableEq α] [Fl α] {x y : α} : R2x g B E rEq x y (decide (x = y)) := fun F A σ H v w s rv rw Q q => by
  obtain ⟨e, c⟩ := Fl.eq rv rw
  exact ⟨c, q F A H _ s (Same.refl _) (by show V.bl _ = V.bl _; rw [decide_eq_decide.mpr e])⟩
theorem r2_ne [DecidableEq α] [Fl α] {x y : α} : R2x g B E rNe x y (!decide (x = y)) := fun F A σ H v w s rv rw Q q => by
  obtain ⟨e, c⟩ := Fl.eq rv rw
  exact ⟨c, q F A H _ s (Same.refl _) (by show V.bl _ = V.bl _; rw [decide_eq_decide.mpr e])⟩
theorem px_isN {x : Option α} (hx : ∀ {H : Hp} {v : V} {y : α}, rp g H v y → v ≠ .non) (h : Px g B E E1 ta x) : Px g B E E1 (tIsN ta) x.isNone := fun F A σ H s Q k =>
  h F A σ H s _ fun F' A' H' v s' e r => k F' A' H' _ s' e (by
    cases x with
    | none =>
      have r : v = .non := r
      subst r; rfl
    | some y =>
      show V.bl _ = V.bl false
      rw [decide_eq_false (hx r)])
theorem px_notN {x : Option α} (hx : ∀ {H : Hp} {v : V} {y : α}, rp g H v y → v ≠ .non) (h : Px g B E E1 ta x) : Px g B E E1 (tNotN ta) x.isSome := fun F A σ H s Q k =>
  h F A σ H s _ fun F' A' H' v s' e r => k F' A' H' _ s' e (by
    cases x with
    | none =>
      have r : v = .non := r
      subst r; rfl
    | some y =>
      show V.bl _ = V.bl true
      rw [decide_eq_false (hx r)]; rfl)
theorem nn_int {H : Hp} {v : V} {y : Int} (h : rp g H v y) : v ≠ .non := by
  have h : v = .int y := h
  subst h; exact fun z => nomatch z
theorem nn_bl {H : Hp} {v : V} {y : Bool} (h : rp g H v y) : v ≠ .non := by
  have h : v = .bl y := h
  subst h; exact fun z => nomatch z
theorem nn_tx {H : Hp} {v : V} {y : Tx} (h : rp g H v y) : v ≠ .non := by
  have h : v = .str (Tx.s y) := h
  subst h; exact fun z => nomatch z
theorem nn_lst {H : Hp} {v : V} {y : List α} (h : rp g H v y) : v ≠ .non := by
  obtain ⟨p, _, h, _⟩ := h
  subst h; exact fun z => nomatch z
theorem nn_prod {H : Hp} {v : V} {y : α × β} (h : rp g H v y) : v ≠ .non := by
  obtain ⟨p, _, _, h, _⟩ := h
  subst h; exact fun z => nomatch z

/-! and, or, not, tests -/
theorem px_and {x y : Bool} (ha : Px g B E E1 ta x) (hb : x = true → Px g B E1 E2 tb y) (hn : x = false → E1 = E2) : Px g B E E2 (tAndV ta tb) (x && y) := fun F A σ H s Q k =>
  ha F A σ H s _ fun F1 A1 H1 v s1 e1 rv => by
    have rv : v = .bl x := rv
    subst rv
    refine ⟨x, rfl, ?_⟩
    cases x with
    | true => exact iteT (hb rfl F1 A1 σ H1 s1 Q fun F2 A2 H2 v s2 e2 r => k F2 A2 H2 v s2 (e1.trans e2) r)
    | false => exact iteF (k F1 A1 H1 _ (hn rfl ▸ s1) e1 rfl)
theorem px_or {x y : Bool} (ha : Px g B E E1 ta x) (hb : x = false → Px g B E1 E2 tb y) (hn : x = true → E1 = E2) : Px g B E E2 (tOrV ta tb) (x || y) := fun F A σ H s Q k =>
  ha F A σ H s _ fun F1 A1 H1 v s1 e1 rv => by
    have rv : v = .bl x := rv
    subst rv
    refine ⟨x, rfl, ?_⟩
    cases x with
    | false => exact iteF (hb rfl F1 A1 σ H1 s1 Q fun F2 A2 H2 v s2 e2 r => k F2 A2 H2 v s2 (e1.trans e2) r)
    | true => exact iteT (k F1 A1 H1 _ (hn rfl ▸ s1) e1 rfl)
theorem px_not {x : Bool} (ha : Px g B E E1 ta x) : Px g B E E1 (tNotV ta) (!x) := fun F A σ H s Q k =>
  ha F A σ H s _ fun F1 A1 H1 v s1 e1 rv => by
    have rv : v = .bl x := rv
    subst rv
    exact ⟨x, rfl, k F1 A1 H1 _ s1 e1 rfl⟩
theorem pt_test {x : Bool} (h : Px g B E E1 te x) : PxT g B E E1 (tTest te) x := fun F A σ H s Q k =>
  h F A σ H s _ fun F1 A1 H1 v s1 e1 rv => by
    have rv : v = .bl x := rv
    subst rv
    exact ⟨x, rfl, k F1 A1 H1 s1 e1⟩
theorem pt_B {x : Bool} (h : Px g B E E1 te x) : PxT g B E E1 (tB te) x := fun F A σ H s Q k =>
  h F A σ H s _ fun F1 A1 H1 v s1 e1 rv => by
    have rv : v = .bl x := rv
    subst rv
    exact ⟨x, rfl, k F1 A1 H1 s1 e1⟩
theorem pt_and {x y : Bool} (ha : PxT g B E E1 tt x) (hb : x = true → PxT g B E1 E2 tu y) (hn : x = false → E1 = E2) : PxT g B E E2 (tAnd tt tu) (x && y) := fun F A σ H s Q k =>
  ha F A σ H s _ fun F1 A1 H1 s1 e1 => by
    cases x with
    | true => exact iteT (hb rfl F1 A1 σ H1 s1 Q fun F2 A2 H2 s2 e2 => k F2 A2 H2 s2 (e1.trans e2))
    | false => exact iteF (k F1 A1 H1 (hn rfl ▸ s1) e1)
theorem pt_or {x y : Bool} (ha : PxT g B E E1 tt x) (hb : x = false → PxT g B E1 E2 tu y) (hn : x = true → E1 = E2) : PxT g B E E2 (tOr tt tu) (x || y) := fun F A σ H s Q k =>
  ha F A σ H s _ fun F1 A1 H1 s1 e1 => by
    cases x with
    | false => exact iteF (hb rfl F1 A1 σ H1 s1 Q fun F2 A2 H2 s2 e2 => k F2 A2 H2 s2 (e1.trans e2))
    | true => exact iteT (k F1 A1 H1 (hn rfl ▸ s1) e1)
theorem pt_not {x : Bool} (ha : PxT g B E E1 tt x) : PxT g B E E1 (tNot tt) (!x) := fun F A σ H s Q k =>
  ha F A σ H s _ fun F1 A1 H1 s1 e1 => k F1 A1 H1 s1 e1
theorem pt_eq {x y : Bool} (h : PxT g B E E1 tt x) (e : x = y) : PxT g B E E1 tt y := e ▸ h
theorem px_if {c : Bool} {x : α} (hc : PxT g B E E1 tt c) (ha : c = true → Px g B E1 E2 ta x) (hb : c = false → Px g B E1 E2 tb x) : Px g B E E2 (tIf tt ta tb) x := fun F A σ H s Q k =>
  hc F A σ H s _ fun F1 A1 H1 s1 e1 => by
    cases c with
    | true => exact iteT (ha rfl F1 A1 σ H1 s1 Q fun F2 A2 H2 v s2 e2 r => k F2 A2 H2 v s2 (e1.trans e2) r)
    | false => exact iteF (hb rfl F1 A1 σ H1 s1 Q fun F2 A2 H2 v s2 e2 r => k F2 A2 H2 v s2 (e1.trans e2) r)
/-- a < b <= c -/
theorem px_chain {r r' : R2} {x : α} {y : β} {z : γ} {b b' : Bool} (ha : Px g B E E1 ta x) (hb : Px g B E1 E2 tb y) (hr : R2x g B E2 r x y b) (hc : b = true → Px g B E2 E3 tc z) (hr' : b = true → R2x g B E3 r' y z b') (hn : b = false → E2 = E3) :
    Px g B E E3 (tChain r r' ta tb tc) (b && b') := fun F A σ H s Q k =>
  ha F A σ H s _ fun F1 A1 H1 v s1 e1 rv => hb F1 A1 σ H1 s1 _ fun F2 A2 H2 w s2 e2 rw => hr F2 A2 σ H2 v w s2 (Rp.mono e2 rv) rw _ fun F3 A3 H3 u s3 e3 ru => by
    have ru : u = .bl b := ru
    subst ru
    refine ⟨b, rfl, ?_⟩
    cases b with
    | true =>
      exact iteT (hc rfl F3 A3 σ H3 s3 _ fun F4 A4 H4 u s4 e4 ru => hr' rfl F4 A4 σ H4 w u s4 (Rp.mono (e3.trans e4) rw) ru Q fun F5 A5 H5 u s5 e5 r5 => k F5 A5 H5 u s5 ((((e1.trans e2).trans e3).trans e4).trans e5) r5)
    | false => exact iteF (k F3 A3 H3 _ (hn rfl ▸ s3) ((e1.trans e2).trans e3) rfl)
end
end Gn
/-! Gn: lists, tuples, texts. -/
namespace Gn
open PySem L2
open Rp (rp)

def rl {α : Type} [Rp α] (g : Gx) (F H : Hp) (v : V) (xs : List α) : Prop := ∃ p vs, v = .ref p ∧ H p = some (.lst vs) ∧ rps g F vs xs
/-- a list that is read: what it has is kept; it stands as long as st holds of the slots -/
def PxL (g : Gx) (B : Bs) (E E' : List Bd) (te : TE) {α : Type} [Rp α] (xs : List α) (st : List Bd → Prop) : Prop :=
  ∀ F A σ H, Sta g B F A E σ H → ∀ Q : VK, (∀ F' A' H' v, Sta g B F' A' E' σ H' → Same F F' → (∀ F2 A2 H2 E2, Sta g B F2 A2 E2 σ H2 → Same F' F2 → st E2 → rl g F2 H2 v xs) → Q v H') → te σ H Q
/-- a new list -/
def PxN (g : Gx) (B : Bs) (E E' : List Bd) (te : TE) {α : Type} [Rp α] (xs : List α) : Prop :=
  ∀ F A σ H, Sta g B F A E σ H → ∀ Q : VK, (∀ F' A' H' p vs, Sta g B F' A' E' σ H' → Same F F' → New B F' A' E' σ H' p (.lst vs) → rps g F' vs xs → Q (.ref p) H') → te σ H Q
/-- items of a display -/
def PxS (g : Gx) (B : Bs) (E E' : List Bd) (ta : TA) {α : Type} [Rp α] (xs : List α) : Prop :=
  ∀ F A σ H, Sta g B F A E σ H → ∀ Q : List V → Hp → Prop, (∀ F' A' H' vs, Sta g B F' A' E' σ H' → Same F F' → rps g F' vs xs → Q vs H') → ta σ H Q
/-- a part of a slice -/
def PxO (g : Gx) (B : Bs) (E E' : List Bd) (to : TO) (o : Option Int) : Prop :=
  ∀ F A σ H, Sta g B F A E σ H → ∀ Q : Option Int → Hp → Prop, (∀ F' A' H', Sta g B F' A' E' σ H' → Same F F' → Q o H') → to σ H Q
inductive RdL : {α : Type} → [Rp α] → Bd → List α → Prop
  | kp {α : Type} [Rp α] {xs : List α} : RdL (.kp xs) xs
  | bo {α : Type} [Rp α] [At α] {xs : List α} : RdL (.bo xs) xs
  | ow {α : Type} [Rp α] {xs : List α} : RdL (.ow xs) xs
  | io {α : Type} [Rp α] {p : Addr} {xs : List α} : RdL (.io p xs) xs
section
variable {g : Gx} {B : Bs} {E E1 E2 E3 E' : List Bd} {ta tb tc te : TE} {tt tu : TT} {α β γ : Type} [Rp α] [Rp β] [Rp γ]
theorem RdL.at {xs : List α} {b : Bd} (h : RdL b xs) {F A H : Hp} {o : Option (Option V)} (fa : Same F A) (ah : Same A H) (q : SlotOk g F A H o b) : ∃ v, o = some (some v) ∧ rl g F H v xs := by
  cases h with
  | kp => obtain ⟨v, e, p, vs, r1, r2, r3⟩ := q; exact ⟨v, e, p, vs, r1, ah _ _ (fa _ _ r2), r3⟩
  | bo => obtain ⟨v, e, p, vs, r1, r2, r3⟩ := q; exact ⟨v, e, p, vs, r1, ah _ _ r2, rps_any r3⟩
  | ow => obtain ⟨p, vs, e, e2, r, _⟩ := q; exact ⟨.ref p, e, p, vs, rfl, e2, r⟩
  | io => obtain ⟨vs, e, e2, r, _⟩ := q; exact ⟨.ref _, e, _, vs, rfl, e2, r⟩
theorem pl_k {xs : List α} (h : Px g B E E' te xs) : PxL g B E E' te xs (fun _ => True) := fun F A σ H s Q k => h F A σ H s Q fun F' A' H' v s' e r => k F' A' H' v s' e fun F2 A2 H2 E2 s2 e2 _ => by
  obtain ⟨p, vs, r1, r2, r3⟩ := r
  exact ⟨p, vs, r1, s2.ah _ _ (s2.fa _ _ (e2 _ _ r2)), rps_mono e2 r3⟩
theorem pl_s {i : Nat} {b : Bd} {xs : List α} (hi : E[i]? = some b) (h : RdL b xs) : PxL g B E E (tVar i) xs (fun E2 => E2[i]? = some b) := fun F A σ H s Q k => by
  obtain ⟨v, e, _⟩ := h.at s.fa s.ah (s.sl i b hi)
  refine ⟨v, e, k F A H v s (Same.refl _) fun F2 A2 H2 E2 s2 e2 hb => ?_⟩
  obtain ⟨v', e', rv⟩ := h.at s2.fa s2.ah (s2.sl i b hb)
  rw [e] at e'; cases e'
  exact rv
theorem PxN.px {xs : List α} (h : PxN g B E E' te xs) : Px g B E E' te xs := fun F A σ H s Q k => h F A σ H s Q fun F' A' H' p vs s' e n r => by
  obtain ⟨F2, A2, s2, hF, hA, hp⟩ := s'.keep n
  exact k F2 A2 H' _ s2 (e.trans hF) ⟨p, vs, rfl, hp, rps_mono hF r⟩
theorem PxN.l {xs : List α} (h : PxN g B E E' te xs) : PxL g B E E' te xs (fun _ => True) := pl_k h.px
/-- a new list laid -/
theorem new_of {F F' A' H' : Hp} {σ : St} {vs : List V} {xs : List α} {Q : VK} (s : Sta g B F' A' E σ H') (e : Same F F') (r : rps g F' vs xs) (k : ∀ F' A' H' p vs, Sta g B F' A' E σ H' → Same F F' → New B F' A' E σ H' p (.lst vs) → rps g F' vs xs → Q (.ref p) H') :
    ∀ p, H' p = none → Q (.ref p) (upd H' p (.lst vs)) := fun p hp => by
  obtain ⟨s2, n⟩ := s.alloc (o := .lst vs) hp
  exact k _ _ _ p vs s2 e n r
/-! displays -/
theorem ps_nil : PxS g B E E tNil ([] : List α) := fun F A σ H s Q k => k F A H [] s (Same.refl _) trivial
theorem ps_cons {tr : TA} {x : α} {xs : List α} (h : Px g B E E1 te x) (hr : PxS g B E1 E2 tr xs) : PxS g B E E2 (tCons te tr) (x :: xs) := fun F A σ H s Q k =>
  h F A σ H s _ fun F1 A1 H1 v s1 e1 r1 => hr F1 A1 σ H1 s1 _ fun F2 A2 H2 vs s2 e2 r2 => k F2 A2 H2 (v :: vs) s2 (e1.trans e2) ⟨Rp.mono e2 r1, r2⟩
theorem pn_lst {t : TA} {xs : List α} (h : PxS g B E E1 t xs) (hl : xs.length ≤ 1000) : PxN g B E E1 (tLst t) xs := fun F A σ H s Q k =>
  h F A σ H s _ fun F1 A1 H1 vs s1 e1 r1 => ⟨by rw [rps_len r1]; exact Nat.le_trans hl (by decide), new_of s1 e1 r1 k⟩
theorem px_tup2 {x : α} {y : β} (ha : Px g B E E1 ta x) (hb : Px g B E1 E2 tb y) : Px g B E E2 (tTup (tCons ta (tCons tb tNil))) (x, y) := fun F A σ H s Q k =>
  ha F A σ H s _ fun F1 A1 H1 v s1 e1 rv => hb F1 A1 σ H1 s1 _ fun F2 A2 H2 w s2 e2 rw => ⟨by show 2 ≤ sizeLine; decide, fun p hp => by
    obtain ⟨s3, n⟩ := s2.alloc (o := .tup [v, w]) hp
    obtain ⟨F4, A4, s4, hF, hA, hp4⟩ := s3.keep n
    exact k F4 A4 _ _ s4 ((e1.trans e2).trans hF) ⟨p, v, w, rfl, hp4, Rp.mono (e2.trans hF) rv, Rp.mono hF rw⟩⟩
theorem px_tup3 {δ : Type} [Rp δ] {td : TE} {x : α} {y : β} {z : γ} (ha : Px g B E E1 ta x) (hb : Px g B E1 E2 tb y) (hc : Px g B E2 E3 tc z) : Px g B E E3 (tTup (tCons ta (tCons tb (tCons tc tNil)))) (T3.mk x y z) := fun F A σ H s Q k =>
  ha F A σ H s _ fun F1 A1 H1 v s1 e1 rv => hb F1 A1 σ H1 s1 _ fun F2 A2 H2 w s2 e2 rw => hc F2 A2 σ H2 s2 _ fun F3 A3 H3 u s3 e3 ru => ⟨by show 3 ≤ sizeLine; decide, fun p hp => by
    obtain ⟨s4, n⟩ := s3.alloc (o := .tup [v, w, u]) hp
    obtain ⟨F5, A5, s5, hF, hA, hp5⟩ := s4.keep n
    exact k F5 A5 _ _ s5 (((e1.trans e2).trans e3).trans hF) ⟨p, v, w, u, rfl, hp5, Rp.mono ((e2.trans e3).trans hF) rv, Rp.mono (e3.trans hF) rw, Rp.mono hF ru⟩⟩
theorem px_tup4 {δ : Type} [Rp δ] {E4 : List Bd} {td : TE} {x : α} {y : β} {z : γ} {d : δ} (ha : Px g B E E1 ta x) (hb : Px g B E1 E2 tb y) (hc : Px g B E2 E3 tc z) (hd : Px g B E3 E4 td d) : Px g B E E4 (tTup (tCons ta (tCons tb (tCons tc (tCons td tNil))))) (T4.mk x y z d) := fun F A σ H s Q k =>
  ha F A σ H s _ fun F1 A1 H1 v s1 e1 rv => hb F1 A1 σ H1 s1 _ fun F2 A2 H2 w s2 e2 rw => hc F2 A2 σ H2 s2 _ fun F3 A3 H3 u s3 e3 ru => hd F3 A3 σ H3 s3 _ fun F4 A4 H4 t s4 e4 rt => ⟨by show 4 ≤ sizeLine; decide, fun p hp => by
    obtain ⟨s5, n⟩ := s4.alloc (o := .tup [v, w, u, t]) hp
    obtain ⟨F5, A5, s5, hF, hA, hp5⟩ := s5.keep n
    exact k F5 A5 _ _ s5 ((((e1.trans e2).trans e3).trans e4).trans hF) ⟨p, v, w, u, t, rfl, hp5, Rp.mono (((e2.trans e3).trans e4).trans hF) rv, Rp.mono ((e3.trans e4).trans hF) rw, Rp.mono (e4.trans hF) ru, Rp.mono hF rt⟩⟩
theorem px_tup5 {δ ε : Type} [Rp δ] [Rp ε] {E4 E5 : List Bd} {td tf : TE} {x : α} {y : β} {z : γ} {d : δ} {f : ε} (ha : Px g B E E1 ta x) (hb : Px g B E1 E2 tb y) (hc : Px g B E2 E3 tc z) (hd : Px g B E3 E4 td d) (hf : Px g B E4 E5 tf f) : Px g B E E5 (tTup (tCons ta (tCons tb (tCons tc (tCons td (tCons tf tNil)))))) (T5.mk x y z d f) := fun F A σ H s Q k =>
  ha F A σ H s _ fun F1 A1 H1 v s1 e1 rv => hb F1 A1 σ H1 s1 _ fun F2 A2 H2 w s2 e2 rw => hc F2 A2 σ H2 s2 _ fun F3 A3 H3 u s3 e3 ru => hd F3 A3 σ H3 s3 _ fun F4 A4 H4 t s4 e4 rt => hf F4 A4 σ H4 s4 _ fun F6 A6 H6 t' s6 e6 rt' => ⟨by show 5 ≤ sizeLine; decide, fun p hp => by
    obtain ⟨s5, n⟩ := s6.alloc (o := .tup [v, w, u, t, t']) hp
    obtain ⟨F5, A5, s5, hF, hA, hp5⟩ := s5.keep n
    exact k F5 A5 _ _ s5 (((((e1.trans e2).trans e3).trans e4).trans e6).trans hF) ⟨p, v, w, u, t, t', rfl, hp5, Rp.mono ((((e2.trans e3).trans e4).trans e6).trans hF) rv, Rp.mono (((e3.trans e4).trans e6).trans hF) rw, Rp.mono ((e4.trans e6).trans hF) ru, Rp.mono (e6.trans hF) rt, Rp.mono hF rt'⟩⟩
theorem px_tup6 {δ ε ζ : Type} [Rp δ] [Rp ε] [Rp ζ] {E4 E5 E6 : List Bd} {td tf tg : TE} {x : α} {y : β} {z : γ} {d : δ} {f : ε} {h : ζ} (ha : Px g B E E1 ta x) (hb : Px g B E1 E2 tb y) (hc : Px g B E2 E3 tc z) (hd : Px g B E3 E4 td d) (hf : Px g B E4 E5 tf f) (hh : Px g B E5 E6 tg h) : Px g B E E6 (tTup (tCons ta (tCons tb (tCons tc (tCons td (tCons tf (tCons tg tNil))))))) (T6.mk x y z d f h) := fun F A σ H s Q k =>
  ha F A σ H s _ fun F1 A1 H1 v s1 e1 rv => hb F1 A1 σ H1 s1 _ fun F2 A2 H2 w s2 e2 rw => hc F2 A2 σ H2 s2 _ fun F3 A3 H3 u s3 e3 ru => hd F3 A3 σ H3 s3 _ fun F4 A4 H4 t s4 e4 rt => hf F4 A4 σ H4 s4 _ fun F6 A6 H6 t' s6 e6 rt' => hh F6 A6 σ H6 s6 _ fun F7 A7 H7 t7 s7 e7 rt7 => ⟨by show 6 ≤ sizeLine; decide, fun p hp => by
    obtain ⟨s5, n⟩ := s7.alloc (o := .tup [v, w, u, t, t', t7]) hp
    obtain ⟨F5, A5, s5, hF, hA, hp5⟩ := s5.keep n
    exact k F5 A5 _ _ s5 ((((((e1.trans e2).trans e3).trans e4).trans e6).trans e7).trans hF) ⟨p, v, w, u, t, t', t7, rfl, hp5, Rp.mono (((((e2.trans e3).trans e4).trans e6).trans e7).trans hF) rv, Rp.mono ((((e3.trans e4).trans e6).trans e7).trans hF) rw, Rp.mono (((e4.trans e6).trans e7).trans hF) ru, Rp.mono ((e6.trans e7).trans hF) rt, Rp.mono (e7.trans hF) rt', Rp.mono hF rt7⟩⟩
/-! subscripts -/
theorem map_atI {δ ε : Type} {xs : List δ} {ys : List ε} (hl : xs.length = ys.length) {i : Int} : ixN xs.length i = ixN ys.length i := by rw [hl]
theorem px_idx {st : List Bd → Prop} {xs : List α} {i : Int} {y : α} (ha : PxL g B E E1 ta xs st) (hb : Px g B E1 E2 tb i) (hst : st E2) (e : atI xs i = some y) : Px g B E E2 (tOp (rIxL g.K) ta tb) y := fun F A σ H s Q k =>
  ha F A σ H s _ fun F1 A1 H1 v s1 e1 rv => hb F1 A1 σ H1 s1 _ fun F2 A2 H2 w s2 e2 rw => by
    obtain ⟨p, vs, ev, hp, r⟩ := rv F2 A2 H2 E2 s2 e2 hst
    have rw : w = .int i := rw
    subst rw; subst ev
    unfold atI at e
    cases h : ixN xs.length i with
    | none => rw [h] at e; cases e
    | some j =>
      rw [h] at e
      obtain ⟨u, e3, ru⟩ := rps_get r (show xs[j]? = some y from e)
      refine ⟨p, vs, i, u, rfl, rfl, .of hp, ?_, k F2 A2 H2 u s2 (e1.trans e2) ru⟩
      unfold atI
      rw [rps_len r, h]
      exact e3
theorem px_t0 {x : α × β} (ha : Px g B E E1 ta x) : Px g B E E1 (tOp (rIxT g.K) ta (tC (.int 0))) x.1 := fun F A σ H s Q k =>
  ha F A σ H s _ fun F1 A1 H1 v s1 e1 ⟨p, a, b, ev, hp, r1, r2⟩ => ⟨p, [a, b], 0, a, ev, rfl, .of (s1.ah _ _ (s1.fa _ _ hp)), rfl, k F1 A1 H1 _ s1 e1 r1⟩
theorem px_t1 {x : α × β} (ha : Px g B E E1 ta x) : Px g B E E1 (tOp (rIxT g.K) ta (tC (.int 1))) x.2 := fun F A σ H s Q k =>
  ha F A σ H s _ fun F1 A1 H1 v s1 e1 ⟨p, a, b, ev, hp, r1, r2⟩ => ⟨p, [a, b], 1, b, ev, rfl, .of (s1.ah _ _ (s1.fa _ _ hp)), rfl, k F1 A1 H1 _ s1 e1 r2⟩
theorem px_t30 {x : T3 α β γ} (ha : Px g B E E1 ta x) : Px g B E E1 (tOp (rIxT g.K) ta (tC (.int 0))) x.a := fun F A σ H s Q k =>
  ha F A σ H s _ fun F1 A1 H1 v s1 e1 ⟨p, a, b, c, ev, hp, r1, r2, r3⟩ => ⟨p, [a, b, c], 0, a, ev, rfl, .of (s1.ah _ _ (s1.fa _ _ hp)), rfl, k F1 A1 H1 _ s1 e1 r1⟩
theorem px_t31 {x : T3 α β γ} (ha : Px g B E E1 ta x) : Px g B E E1 (tOp (rIxT g.K) ta (tC (.int 1))) x.b := fun F A σ H s Q k =>
  ha F A σ H s _ fun F1 A1 H1 v s1 e1 ⟨p, a, b, c, ev, hp, r1, r2, r3⟩ => ⟨p, [a, b, c], 1, b, ev, rfl, .of (s1.ah _ _ (s1.fa _ _ hp)), rfl, k F1 A1 H1 _ s1 e1 r2⟩
theorem px_t32 {x : T3 α β γ} (ha : Px g B E E1 ta x) : Px g B E E1 (tOp (rIxT g.K) ta (tC (.int 2))) x.c := fun F A σ H s Q k =>
  ha F A σ H s _ fun F1 A1 H1 v s1 e1 ⟨p, a, b, c, ev, hp, r1, r2, r3⟩ => ⟨p, [a, b, c], 2, c, ev, rfl, .of (s1.ah _ _ (s1.fa _ _ hp)), rfl, k F1 A1 H1 _ s1 e1 r3⟩
theorem tx_size (t : Tx) : (Tx.s t).length = t.length := by show t.toArray.size = t.length; simp
theorem tx_list (t : Tx) : (Tx.s t).cps.toList = t := by show t.toArray.toList = t; simp
def sz (n : Nat) : Bool := decide (n ≤ 16777216)
theorem sz_ok {n : Nat} (h : sz n = true) : n ≤ sizeLine := of_decide_eq_true h
theorem px_idxS {t : Tx} {i : Int} {c : Nat} (ha : Px g B E E1 ta t) (hb : Px g B E1 E2 tb i) (hz : sz t.length = true) (e : atI t i = some c) : Px g B E E2 (tOp rIxS ta tb) ([c] : Tx) := fun F A σ H s Q k =>
  ha F A σ H s _ fun F1 A1 H1 v s1 e1 rv => hb F1 A1 σ H1 s1 _ fun F2 A2 H2 w s2 e2 rw => by
    have rv : v = .str (Tx.s t) := rv
    have rw : w = .int i := rw
    exact ⟨Tx.s t, i, c, rv, rw, by rw [tx_size]; exact sz_ok hz, by rw [tx_list]; exact e, k F2 A2 H2 _ s2 (e1.trans e2) rfl⟩
/-! slices -/
theorem po_no : PxO g B E E tNoPart none := fun F A σ H s Q k => k F A H s (Same.refl _)
theorem po_yes {i : Int} (h : Px g B E E1 te i) : PxO g B E E1 (tPart te) (some i) := fun F A σ H s Q k => h F A σ H s _ fun F1 A1 H1 v s1 e1 rv => ⟨i, rv, k F1 A1 H1 s1 e1⟩
def cutL {δ : Type} (xs : List δ) (lo hi : Option Int) : List δ := (xs.drop (HT.sIx xs.length 0 lo)).take (HT.sIx xs.length xs.length hi - HT.sIx xs.length 0 lo)
theorem rps_cut {F : Hp} {vs : List V} {xs : List α} (h : rps g F vs xs) (lo hi : Option Int) : rps g F (cutV vs lo hi) (cutL xs lo hi) := by
  unfold cutV cutL
  rw [rps_len h]
  exact rps_take _ (rps_drop _ h)
theorem pn_sl {tl th : TO} {st : List Bd → Prop} {xs : List α} {lo hi : Option Int} (ha : PxL g B E E1 te xs st) (hl : PxO g B E1 E2 tl lo) (hh : PxO g B E2 E3 th hi) (hst : st E3) : PxN g B E E3 (tSl (rSlL g.K) te tl th) (cutL xs lo hi) := fun F A σ H s Q k =>
  ha F A σ H s _ fun F1 A1 H1 v s1 e1 rv => hl F1 A1 σ H1 s1 _ fun F2 A2 H2 s2 e2 => hh F2 A2 σ H2 s2 _ fun F3 A3 H3 s3 e3 => by
    obtain ⟨p, vs, ev, hp, r⟩ := rv F3 A3 H3 E3 s3 (e2.trans e3) hst
    exact ⟨p, vs, ev, .of hp, new_of s3 ((e1.trans e2).trans e3) (rps_cut r lo hi) k⟩
theorem px_slS {tl th : TO} {t : Tx} {lo hi : Option Int} (ha : Px g B E E1 te t) (hl : PxO g B E1 E2 tl lo) (hh : PxO g B E2 E3 th hi) (hz : sz t.length = true) : Px g B E E3 (tSl rSlS te tl th) (cutL t lo hi : Tx) := fun F A σ H s Q k =>
  ha F A σ H s _ fun F1 A1 H1 v s1 e1 rv => hl F1 A1 σ H1 s1 _ fun F2 A2 H2 s2 e2 => hh F2 A2 σ H2 s2 _ fun F3 A3 H3 s3 e3 => by
    have rv : v = .str (Tx.s t) := rv
    refine ⟨Tx.s t, rv, by rw [tx_size]; exact sz_ok hz, k F3 A3 H3 _ s3 ((e1.trans e2).trans e3) ?_⟩
    show V.str (cutS (Tx.s t) lo hi) = V.str (Tx.s (cutL t lo hi))
    unfold cutS cutL
    rw [tx_list, tx_size]
    rfl
/-! list operators -/
theorem pn_cat {st st' : List Bd → Prop} {xs ys : List α} (ha : PxL g B E E1 ta xs st) (hb : PxL g B E1 E2 tb ys st') (hst : st E2) (hst' : st' E2) (hz : sz (xs.length + ys.length) = true) : PxN g B E E2 (tOp rCat ta tb) (xs ++ ys) := fun F A σ H s Q k =>
  ha F A σ H s _ fun F1 A1 H1 v s1 e1 rv => hb F1 A1 σ H1 s1 _ fun F2 A2 H2 w s2 e2 rw => by
    obtain ⟨p, vs, ev, hp, r⟩ := rv F2 A2 H2 E2 s2 e2 hst
    obtain ⟨q, ws, ew, hq, r'⟩ := rw F2 A2 H2 E2 s2 (Same.refl _) hst'
    exact ⟨p, q, vs, ws, ev, ew, hp, hq, by rw [rps_len r, rps_len r']; exact sz_ok hz, new_of s2 (e1.trans e2) (rps_app r r') k⟩
def repOk (n : Nat) (k : Int) : Bool := decide (-(2 ^ 63) ≤ k) && decide (k < 2 ^ 63) && sz (n * k.toNat)
def repL {δ : Type} (xs : List δ) (k : Int) : List δ := (List.replicate k.toNat xs).flatten
theorem pn_rep {st : List Bd → Prop} {xs : List α} {n : Int} (ha : PxL g B E E1 ta xs st) (hb : Px g B E1 E2 tb n) (hst : st E2) (hz : repOk xs.length n = true) : PxN g B E E2 (tOp rRep ta tb) (repL xs n) := fun F A σ H s Q k =>
  ha F A σ H s _ fun F1 A1 H1 v s1 e1 rv => hb F1 A1 σ H1 s1 _ fun F2 A2 H2 w s2 e2 rw => by
    obtain ⟨p, vs, ev, hp, r⟩ := rv F2 A2 H2 E2 s2 e2 hst
    have rw : w = .int n := rw
    unfold repOk at hz
    simp only [Bool.and_eq_true, decide_eq_true_eq] at hz
    exact ⟨p, n, vs, ev, rw, hp, hz.1.1, hz.1.2, by rw [rps_len r]; exact sz_ok hz.2, new_of s2 (e1.trans e2) (rps_rep r _) k⟩
theorem px_len {st : List Bd → Prop} {xs : List α} (ha : PxL g B E E1 ta xs st) (hst : st E1) : Px g B E E1 (tCB (fun xs H Q => ∃ p ys, xs = [.ref p] ∧ (SqL g.K H p ys ∨ SqT g.K H p ys) ∧ Q (.int ys.length) H) (tCons ta tNil)) (xs.length : Int) := fun F A σ H s Q k =>
  ha F A σ H s _ fun F1 A1 H1 v s1 e1 rv => by
    obtain ⟨p, vs, ev, hp, r⟩ := rv F1 A1 H1 E1 s1 (Same.refl _) hst
    subst ev
    exact ⟨p, vs, rfl, .inl (.of hp), by rw [rps_len r]; exact k F1 A1 H1 _ s1 e1 rfl⟩
theorem px_lenS {t : Tx} (ha : Px g B E E1 ta t) (hz : sz t.length = true) : Px g B E E1 (tCB (fun xs H Q => ∃ z : Str, xs = [.str z] ∧ z.length ≤ sizeLine ∧ Q (.int z.length) H) (tCons ta tNil)) (t.length : Int) := fun F A σ H s Q k =>
  ha F A σ H s _ fun F1 A1 H1 v s1 e1 rv => by
    have rv : v = .str (Tx.s t) := rv
    subst rv
    exact ⟨Tx.s t, rfl, by rw [tx_size]; exact sz_ok hz, by rw [tx_size]; exact k F1 A1 H1 _ s1 e1 rfl⟩
theorem px_sum {st : List Bd → Prop} {xs : List Int} (ha : PxL g B E E1 ta xs st) (hst : st E1) : Px g B E E1 (tCB (rSum g.K) (tCons ta tNil)) xs.sum := fun F A σ H s Q k =>
  ha F A σ H s _ fun F1 A1 H1 v s1 e1 rv => by
    obtain ⟨p, vs, ev, hp, r⟩ := rv F1 A1 H1 E1 s1 (Same.refl _) hst
    subst ev
    rw [rps_int.mp r] at hp
    exact ⟨p, xs, rfl, .of hp, k F1 A1 H1 _ s1 e1 rfl⟩
theorem px_any {st : List Bd → Prop} {xs : List Bool} (ha : PxL g B E E1 ta xs st) (hst : st E1) : Px g B E E1 (tCB (rAny g.K) (tCons ta tNil)) (xs.any id) := fun F A σ H s Q k =>
  ha F A σ H s _ fun F1 A1 H1 v s1 e1 rv => by
    obtain ⟨p, vs, ev, hp, r⟩ := rv F1 A1 H1 E1 s1 (Same.refl _) hst
    subst ev
    rw [rps_bl.mp r] at hp
    exact ⟨p, xs, rfl, .of hp, k F1 A1 H1 _ s1 e1 rfl⟩
theorem px_all {st : List Bd → Prop} {xs : List Bool} (ha : PxL g B E E1 ta xs st) (hst : st E1) : Px g B E E1 (tCB (rAll g.K) (tCons ta tNil)) (xs.all id) := fun F A σ H s Q k =>
  ha F A σ H s _ fun F1 A1 H1 v s1 e1 rv => by
    obtain ⟨p, vs, ev, hp, r⟩ := rv F1 A1 H1 E1 s1 (Same.refl _) hst
    subst ev
    rw [rps_bl.mp r] at hp
    exact ⟨p, xs, rfl, .of hp, k F1 A1 H1 _ s1 e1 rfl⟩
theorem max_un {xs : List Int} {m n : Int} (hm : xs.max? = some m) (h1 : n ∈ xs) (h2 : ∀ y, y ∈ xs → y ≤ n) : n = m := by
  have h := List.max?_eq_some_iff.mp hm
  have a := h.2 n h1
  have b := h2 m h.1
  omega
theorem min_un {xs : List Int} {m n : Int} (hm : xs.min? = some m) (h1 : n ∈ xs) (h2 : ∀ y, y ∈ xs → n ≤ y) : n = m := by
  have h := List.min?_eq_some_iff.mp hm
  have a := h.2 n h1
  have b := h2 m h.1
  omega
theorem px_max {st : List Bd → Prop} {xs : List Int} {m : Int} (ha : PxL g B E E1 ta xs st) (hst : st E1) (hm : xs.max? = some m) : Px g B E E1 (tCB (rMax g.K) (tCons ta tNil)) m := fun F A σ H s Q k =>
  ha F A σ H s _ fun F1 A1 H1 v s1 e1 rv => by
    obtain ⟨p, vs, ev, hp, r⟩ := rv F1 A1 H1 E1 s1 (Same.refl _) hst
    subst ev
    rw [rps_int.mp r] at hp
    refine ⟨p, xs, rfl, .of hp, ?_, fun n h1 h2 => ?_⟩
    · cases xs with
      | nil => cases hm
      | cons _ _ => exact Nat.succ_pos _
    · rw [max_un hm h1 h2]; exact k F1 A1 H1 _ s1 e1 rfl
theorem px_min {st : List Bd → Prop} {xs : List Int} {m : Int} (ha : PxL g B E E1 ta xs st) (hst : st E1) (hm : xs.min? = some m) : Px g B E E1 (tCB (rMin g.K) (tCons ta tNil)) m := fun F A σ H s Q k =>
  ha F A σ H s _ fun F1 A1 H1 v s1 e1 rv => by
    obtain ⟨p, vs, ev, hp, r⟩ := rv F1 A1 H1 E1 s1 (Same.refl _) hst
    subst ev
    rw [rps_int.mp r] at hp
    refine ⟨p, xs, rfl, .of hp, ?_, fun n h1 h2 => ?_⟩
    · cases xs with
      | nil => cases hm
      | cons _ _ => exact Nat.succ_pos _
    · rw [min_un hm h1 h2]; exact k F1 A1 H1 _ s1 e1 rfl
theorem px_max2 {i j : Int} (ha : Px g B E E1 ta i) (hb : Px g B E1 E2 tb j) : Px g B E E2 (tCB (fun xs H Q => ∃ i j, xs = [V.int i, .int j] ∧ Q (.int (if j > i then j else i)) H) (tCons ta (tCons tb tNil))) (max i j) := fun F A σ H s Q k =>
  ha F A σ H s _ fun F1 A1 H1 v s1 e1 rv => hb F1 A1 σ H1 s1 _ fun F2 A2 H2 w s2 e2 rw => by
    have rv : v = .int i := rv
    have rw : w = .int j := rw
    subst rv; subst rw
    exact ⟨i, j, rfl, k F2 A2 H2 _ s2 (e1.trans e2) (by show V.int _ = V.int _; congr 1; split <;> omega)⟩
theorem px_min2 {i j : Int} (ha : Px g B E E1 ta i) (hb : Px g B E1 E2 tb j) : Px g B E E2 (tCB (fun xs H Q => ∃ i j, xs = [V.int i, .int j] ∧ Q (.int (if j < i then j else i)) H) (tCons ta (tCons tb tNil))) (min i j) := fun F A σ H s Q k =>
  ha F A σ H s _ fun F1 A1 H1 v s1 e1 rv => hb F1 A1 σ H1 s1 _ fun F2 A2 H2 w s2 e2 rw => by
    have rv : v = .int i := rv
    have rw : w = .int j := rw
    subst rv; subst rw
    exact ⟨i, j, rfl, k F2 A2 H2 _ s2 (e1.trans e2) (by show V.int _ = V.int _; congr 1; split <;> omega)⟩
theorem px_abs {i : Int} (ha : Px g B E E1 ta i) : Px g B E E1 (tCB (fun xs H Q => ∃ i, xs = [V.int i] ∧ Q (.int (if i < 0 then -i else i)) H) (tCons ta tNil)) (i.natAbs : Int) := fun F A σ H s Q k =>
  ha F A σ H s _ fun F1 A1 H1 v s1 e1 rv => by
    have rv : v = .int i := rv
    subst rv
    exact ⟨i, rfl, k F1 A1 H1 _ s1 e1 (by show V.int _ = V.int _; congr 1; split <;> omega)⟩
abbrev rInt1 : List V → Hp → VK → Prop := fun xs H Q => (∃ i, xs = [.int i] ∧ Q (.int i) H) ∨ ∃ k, xs = [.bl k] ∧ Q (.int (if k then 1 else 0)) H
theorem px_intI {i : Int} (ha : Px g B E E1 ta i) : Px g B E E1 (tCB rInt1 (tCons ta tNil)) i := fun F A σ H s Q k =>
  ha F A σ H s _ fun F1 A1 H1 v s1 e1 rv => .inl ⟨i, by rw [show v = V.int i from rv], k F1 A1 H1 _ s1 e1 rfl⟩
theorem px_intB {b : Bool} (ha : Px g B E E1 ta b) : Px g B E E1 (tCB rInt1 (tCons ta tNil)) (if b = true then (1 : Int) else 0) := fun F A σ H s Q k =>
  ha F A σ H s _ fun F1 A1 H1 v s1 e1 rv => .inr ⟨b, by rw [show v = V.bl b from rv], k F1 A1 H1 _ s1 e1 rfl⟩
/-! in -/
class FlI (α : Type) [Rp α] [DecidableEq α] : Prop where
  ok : ∀ {g : Gx} {H : Hp} {v : V} {x : α}, rp g H v x → flatV v = true
  eq : ∀ {g : Gx} {H H' : Hp} {v w : V} {x y : α}, rp g H v x → rp g H' w y → eqV w v = decide (y = x)
instance : FlI Int := ⟨fun {g H v x} h => by
  have h : v = .int x := h
  subst h; rfl, fun {g H H' v w x y} h h' => by
  have h : v = .int x := h
  have h' : w = .int y := h'
  subst h; subst h'
  show (y == x) = _
  exact Bool.beq_eq_decide_eq y x⟩
instance : FlI Tx := ⟨fun {g H v x} h => by
  have h : v = .str (Tx.s x) := h
  subst h; rfl, fun {g H H' v w x y} h h' => by
  have h : v = .str (Tx.s x) := h
  have h' : w = .str (Tx.s y) := h'
  subst h; subst h'
  show (Tx.s y == Tx.s x) = _
  by_cases e : y = x
  · subst e; simp
  · rw [decide_eq_false e]
    exact beq_eq_false_iff_ne.mpr fun z => e (Tx.s_inj z)⟩
theorem inV_eq [DecidableEq α] [FlI α] {F F' : Hp} {v : V} {x : α} (h : rp g F v x) : ∀ {vs : List V} {xs : List α}, rps g F' vs xs → inV v vs = decide (x ∈ xs) ∧ vs.all flatV = true
  | [], [], _ => ⟨rfl, rfl⟩
  | w :: vs, y :: xs, r => by
    obtain ⟨a, b⟩ := inV_eq h r.2
    refine ⟨?_, by rw [List.all_cons, FlI.ok r.1, b]; rfl⟩
    show (eqV w v || inV v vs) = _
    rw [a, FlI.eq h r.1]
    by_cases e : y = x
    · subst e; simp
    · rw [decide_eq_false e, Bool.false_or, decide_eq_decide]
      simp only [List.mem_cons]
      exact ⟨.inr, fun z => z.elim (fun q => absurd q.symm e) id⟩
  | [], _ :: _, h => h.elim
  | _ :: _, [], h => h.elim
theorem px_in [DecidableEq α] [FlI α] {st : List Bd → Prop} {x : α} {xs : List α} (ha : Px g B E E1 ta x) (hb : PxL g B E1 E2 tb xs st) (hst : st E2) : Px g B E E2 (tOp (rIn g.K false) ta tb) (decide (x ∈ xs)) := fun F A σ H s Q k =>
  ha F A σ H s _ fun F1 A1 H1 v s1 e1 rv => hb F1 A1 σ H1 s1 _ fun F2 A2 H2 w s2 e2 rw => by
    obtain ⟨p, vs, ev, hp, r⟩ := rw F2 A2 H2 E2 s2 (Same.refl _) hst
    obtain ⟨a, b⟩ := inV_eq rv r
    exact ⟨p, vs, ev, .inl (.of hp), FlI.ok rv, b, k F2 A2 H2 _ s2 (e1.trans e2) (congrArg V.bl a)⟩
theorem px_nin [DecidableEq α] [FlI α] {st : List Bd → Prop} {x : α} {xs : List α} (ha : Px g B E E1 ta x) (hb : PxL g B E1 E2 tb xs st) (hst : st E2) : Px g B E E2 (tOp (rIn g.K true) ta tb) (!decide (x ∈ xs)) := fun F A σ H s Q k =>
  ha F A σ H s _ fun F1 A1 H1 v s1 e1 rv => hb F1 A1 σ H1 s1 _ fun F2 A2 H2 w s2 e2 rw => by
    obtain ⟨p, vs, ev, hp, r⟩ := rw F2 A2 H2 E2 s2 (Same.refl _) hst
    obtain ⟨a, b⟩ := inV_eq rv r
    exact ⟨p, vs, ev, .inl (.of hp), FlI.ok rv, b, k F2 A2 H2 _ s2 (e1.trans e2) (by show V.bl (!inV v vs) = _; rw [a])⟩
/-! list(xs), sorted(xs) -/
theorem pn_list {st : List Bd → Prop} {xs : List α} (ha : PxL g B E E1 ta xs st) (hst : st E1) : PxN g B E E1 (tCB (fun xs H Q => ∃ p ys, xs = [.ref p] ∧ (SqL g.K H p ys ∨ SqT g.K H p ys) ∧ ∀ l, H l = none → Q (.ref l) (upd H l (.lst ys))) (tCons ta tNil)) xs := fun F A σ H s Q k =>
  ha F A σ H s _ fun F1 A1 H1 v s1 e1 rv => by
    obtain ⟨p, vs, ev, hp, r⟩ := rv F1 A1 H1 E1 s1 (Same.refl _) hst
    subst ev
    exact ⟨p, vs, rfl, .inl (.of hp), new_of s1 e1 r k⟩
def srt (xs : List Int) : List Int := xs.mergeSort (fun a b => decide (a ≤ b))
theorem srt_perm (xs : List Int) : (srt xs).Perm xs := List.mergeSort_perm _ _
theorem srt_pw (xs : List Int) : (srt xs).Pairwise (· ≤ ·) := by
  have h := List.pairwise_mergeSort (le := fun a b : Int => decide (a ≤ b)) (fun a b c h1 h2 => by simp only [decide_eq_true_eq] at *; omega) (fun a b => by simp only [Bool.or_eq_true, decide_eq_true_eq]; omega) xs
  exact h.imp fun h => of_decide_eq_true h
theorem srt_un {xs ys : List Int} (p : ys.Perm xs) (s : ys.Pairwise (· ≤ ·)) : ys = srt xs :=
  List.Perm.eq_of_pairwise (le := (· ≤ ·)) (fun a b _ _ h1 h2 => Int.le_antisymm h1 h2) s (srt_pw xs) (p.trans (srt_perm xs).symm)
theorem pn_sorted {st : List Bd → Prop} {xs : List Int} (ha : PxL g B E E1 ta xs st) (hst : st E1) : PxN g B E E1 (tCB (rSortedI g.K) (tCons ta tNil)) (srt xs) := fun F A σ H s Q k =>
  ha F A σ H s _ fun F1 A1 H1 v s1 e1 rv => by
    obtain ⟨p, vs, ev, hp, r⟩ := rv F1 A1 H1 E1 s1 (Same.refl _) hst
    subst ev
    rw [rps_int.mp r] at hp
    refine ⟨p, xs, rfl, .of hp, fun ns' q pe so hq => ?_⟩
    rw [srt_un pe so]
    exact new_of s1 e1 (rps_int.mpr rfl) k q hq
/-! texts -/
theorem px_addS {a b : Tx} (ha : Px g B E E1 ta a) (hb : Px g B E1 E2 tb b) (hz : sz (a.length + b.length) = true) : Px g B E E2 (tOp (fun x y H Q => ∃ i j, x = V.str i ∧ y = .str j ∧ i.length + j.length ≤ sizeLine ∧ Q (.str (i ++ j)) H) ta tb) (a ++ b : Tx) := fun F A σ H s Q k =>
  ha F A σ H s _ fun F1 A1 H1 v s1 e1 rv => hb F1 A1 σ H1 s1 _ fun F2 A2 H2 w s2 e2 rw => by
    have rv : v = .str (Tx.s a) := rv
    have rw : w = .str (Tx.s b) := rw
    subst rv; subst rw
    refine ⟨Tx.s a, Tx.s b, rfl, rfl, by rw [tx_size, tx_size]; exact sz_ok hz, k F2 A2 H2 _ s2 (e1.trans e2) ?_⟩
    show V.str (Tx.s a ++ Tx.s b) = V.str (Tx.s (a ++ b))
    have e : a.toArray ++ b.toArray = (a ++ b).toArray := by simp
    show V.str (Str.mk (a.toArray ++ b.toArray)) = V.str (Str.mk (a ++ b).toArray)
    rw [e]
end
end Gn
/-! Gn: statements, calls, defs. -/
namespace Gn
open PySem L2
open Rp (rp)

/-- the base is narrowed -/
def Nest (g : Gx) (B B' : Bs) : Prop := B'.ps = B.ps ∧ ∀ F A E σ H, Sta g B' F A E σ H → Sta g B F A E σ H
theorem Nest.refl {g : Gx} {B : Bs} : Nest g B B := ⟨rfl, fun _ _ _ _ _ h => h⟩
theorem Nest.trans {g : Gx} {B B' B'' : Bs} (a : Nest g B B') (b : Nest g B' B'') : Nest g B B'' := ⟨b.1.trans a.1, fun F A E σ H h => a.2 F A E σ H (b.2 F A E σ H h)⟩
/-- the base moved to where one stands -/
def Bs.to (B : Bs) (F A : Hp) : Bs := ⟨F, A, B.ps, B.P⟩
section
variable {g : Gx} {B : Bs} {F A H : Hp} {E : List Bd} {σ : St}
theorem Sta.rebase (s : Sta g B F A E σ H) : Sta g (B.to F A) F A E σ H ∧ Nest g B (B.to F A) := by
  refine ⟨⟨s.len, s.fa, s.ah, Same.refl _, Same.refl _, fun a h _ => h, s.inn, s.sl, s.ne, s.pr⟩, rfl, fun F' A' E' σ' H' q => ⟨q.len, q.fa, q.ah, s.f0.trans q.f0, s.a0.trans q.a0, fun a h1 h2 => ?_, q.inn, q.sl, q.ne, q.pr⟩⟩
  refine q.fr a (s.fr a h1 h2) ?_
  rcases h2 with h2 | h2
  · left
    show A a ≠ none
    cases e : B.A0 a with
    | none => exact absurd e h2
    | some o => rw [s.a0 _ _ e]; exact fun z => nomatch z
  · exact .inr h2
/-- a new object is set aside -/
def Bs.aside (B : Bs) (p : Addr) (o : HO) : Bs := ⟨B.F0, B.A0, B.ps, upd B.P p o⟩
theorem Sta.aside (s : Sta g B F A E σ H) {p : Addr} {o : HO} (n : New B F A E σ H p o) : Sta g (B.aside p o) F A E σ H ∧ Nest g B (B.aside p o) := by
  refine ⟨⟨s.len, s.fa, s.ah, s.f0, s.a0, s.fr, s.inn, s.sl, s.ne, fun a u e => ?_⟩, rfl, fun F' A' E' σ' H' q => ⟨q.len, q.fa, q.ah, q.f0, q.a0, q.fr, q.inn, q.sl, q.ne, fun a u e => q.pr a u ?_⟩⟩
  · have e : (upd B.P p o) a = some u := e
    by_cases h : a = p
    · subst h; rw [upd_same] at e; cases e; exact ⟨n.at_, n.a, n.ne⟩
    · rw [upd_ne h] at e; exact s.pr a u e
  · show (upd B.P p o) a = some u
    rw [upd_ne (fun z => by rw [z, n.P] at e; cases e)]; exact e
/-- what is set aside is a new object again -/
theorem Sta.back {p : Addr} {o : HO} (s : Sta g (B.aside p o) F A E σ H) (hP : B.P p = none) (hps : p ∉ B.ps) : Sta g B F A E σ H ∧ New B F A E σ H p o := by
  obtain ⟨h1, h2, h3⟩ := s.pr p o (by show (upd B.P p o) p = some o; exact upd_same)
  refine ⟨⟨s.len, s.fa, s.ah, s.f0, s.a0, s.fr, s.inn, s.sl, s.ne, fun a u e => s.pr a u ?_⟩, h1, s.fa.free h2, h2, h3, hps, hP⟩
  show (upd B.P p o) a = some u
  rw [upd_ne (fun z => by rw [z, hP] at e; cases e)]; exact e
/-- it is changed -/
theorem Sta.aside_set {p : Addr} {o o' : HO} (s : Sta g (B.aside p o) F A E σ H) (hP : B.P p = none) (hps : p ∉ B.ps) : Sta g (B.aside p o') F A E σ (upd H p o') := by
  obtain ⟨s1, n⟩ := s.back hP hps
  have k : ∀ a, a ≠ p → (upd H p o') a = H a := fun a h => upd_ne h
  have s2 : Sta g B F A E σ (upd H p o') := by
    refine ⟨s1.len, s1.fa, fun a u e => ?_, s1.f0, s1.a0, s1.fr, fun a h => ?_, fun i b e => ?_, s1.ne, fun a u e => ?_⟩
    · rw [k a (ne_of_none e n.a)]; exact s1.ah _ _ e
    · rw [k a (fun z => hps (z ▸ h))]; exact s1.inn a h
    · refine (s1.sl i b e).mono (Same.refl _) (Same.refl _) fun q e1 h => ?_
      have ow : Own E σ i q := ⟨e1, _, e, h⟩
      obtain ⟨f1, f2, _⟩ := s1.own ow
      exact ⟨fun vs z => by rw [k q (fun w => n.ne i (w ▸ ow))]; exact z, f1, f2⟩
    · obtain ⟨h1, h2, h3⟩ := s1.pr a u e
      exact ⟨by rw [k a (fun z => by rw [z, hP] at e; cases e)]; exact h1, h2, h3⟩
  exact (s2.aside (o := o') ⟨upd_same, n.f, n.a, n.ne, n.ps, n.P⟩).1
end

/-! ### statements -/
def Sx (g : Gx) (B : Bs) (E : List Bd) (t : TS) (D : Ends) : Prop := ∀ F A σ H, Sta g B F A E σ H → t D σ H
def Sp' (g : Gx) (B : Bs) (E : List Bd) : St → Hp → Prop := fun σ H => ∃ F A, Sta g B F A E σ H
section
variable {g : Gx} {B : Bs} {E E1 E2 E3 E' : List Bd} {ta tb tc te : TE} {tt : TT} {t u : TS} {D : Ends} {α β γ : Type} [Rp α] [Rp β] [Rp γ]
theorem sx_weak (l : LeE E E') (h : Sx g B E' t D) : Sx g B E t D := fun F A σ H s => h F A σ H (s.weak l)
theorem sx_nest {B' : Bs} (n : Nest g B B') (h : Sx g B E t D) : Sx g B' E t D := fun F A σ H s => h F A σ H (n.2 F A E σ H s)
theorem sx_next (h : ∀ σ H, Sp' g B E σ H → D.nx σ H) : Sx g B E tNext D := fun F A σ H s => h σ H ⟨F, A, s⟩
theorem sx_brk (h : ∀ σ H, Sp' g B E σ H → D.bk σ H) : Sx g B E tBreak D := fun F A σ H s => h σ H ⟨F, A, s⟩
theorem sx_cont (h : ∀ σ H, Sp' g B E σ H → D.ct σ H) : Sx g B E tCont D := fun F A σ H s => h σ H ⟨F, A, s⟩
/-- a statement's own end -/
abbrev Wr (D : Ends) (u : TS) : Ends := { D with nx := u D }
theorem sx_seq (h : Sx g B E t { D with nx := u D }) : Sx g B E (tSeq t u) D := h
/-- what comes behind is the rest -/
theorem nx_of (h : Sx g B E u D) : ∀ σ H, Sp' g B E σ H → (Wr D u).nx σ H := fun σ H ⟨F, A, s⟩ => h F A σ H s
theorem sx_asg {i : Nat} {x : α} (hx : Px g B E E1 te x) (h : ∀ σ H, Sp' g B (E1.set i (.kp x)) σ H → D.nx σ H) : Sx g B E (tAsg te (gName i)) D := fun F A σ H s =>
  hx F A σ H s _ fun F1 A1 H1 v s1 e1 r => h _ _ ⟨F1, A1, s1.setk r⟩
theorem sx_asgO {i : Nat} {xs : List α} (hx : PxN g B E E1 te xs) (h : ∀ σ H, Sp' g B (E1.set i (.ow xs)) σ H → D.nx σ H) : Sx g B E (tAsg te (gName i)) D := fun F A σ H s =>
  hx F A σ H s _ fun F1 A1 H1 p vs s1 e1 n r => h _ _ ⟨F1, A1, s1.seto n r⟩
theorem sx_drop {x : α} (hx : Px g B E E1 te x) (h : ∀ σ H, Sp' g B E1 σ H → D.nx σ H) : Sx g B E (tDrop te) D := fun F A σ H s =>
  hx F A σ H s _ fun F1 A1 H1 v s1 e1 r => h _ _ ⟨F1, A1, s1⟩
theorem sx_if {c : Bool} (hc : PxT g B E E1 tt c) (h1 : c = true → Sx g B E1 t D) (h2 : c = false → Sx g B E1 u D) : Sx g B E (tIfS tt t u) D := fun F A σ H s =>
  hc F A σ H s _ fun F1 A1 H1 s1 e1 => by
    cases c with
    | true => exact iteT (h1 rfl F1 A1 σ H1 s1)
    | false => exact iteF (h2 rfl F1 A1 σ H1 s1)
theorem sx_cut (h : ∀ M : St → Hp → Prop, (∀ σ H, Sp' g B E' σ H → M σ H) → Sx g B E t { D with nx := M }) (k : Sx g B E' u D) : Sx g B E (Evl.tCut t u) D := fun F A σ H s =>
  ⟨Sp' g B E', h _ (fun _ _ h => h) F A σ H s, fun σ' H' ⟨F', A', s'⟩ => k F' A' σ' H' s'⟩
/-- a list of its own becomes frozen -/
theorem sx_freeze {i : Nat} {xs : List α} (e : E[i]? = some (.ow xs)) (hps : B.ps = [] ∨ ∃ j, i ≠ j ∧ ∃ (β : Type) (_ : Rp β) (p : Addr) (ys : List β), B.ps = [p] ∧ E[j]? = some (.io p ys)) (h : Sx g B (E.set i (.kp xs)) t D) : Sx g B E t D := fun F A σ H s => by
  obtain ⟨F', A', s', _⟩ := s.freeze e (fun p hp hm => by
    rcases hps with hps | ⟨j, hij, β, _, q, ys, hps, ej⟩
    · rw [hps] at hm; cases hm
    · rw [hps] at hm
      have e1 : p = q := by simpa using hm
      subst e1
      obtain ⟨vs, e2, _⟩ := s.sl j _ ej
      exact hij (s.ne i j p ⟨hp, _, e, trivial⟩ ⟨e2, _, ej, trivial⟩))
  exact h F' A' σ H s'
/-! changes of lists of one's own -/
/-- the slot's list after a change -/
def Bd.put {δ : Type} [Rp δ] (b : Bd) (xs : List δ) : Bd := match b with
  | @Bd.io p _ _ _ => .io p xs
  | _ => .ow xs
theorem Sta.write {F A H : Hp} {σ : St} (s : Sta g B F A E σ H) {i : Nat} {p : Addr} {vs ws : List V} {b : Bd} {ys : List β} (hb : E[i]? = some b) (ho : b.isO) (hp : σ[i]? = some (some (.ref p))) (r : rps g F ws ys) : Sta g B F A (E.set i (b.put ys)) σ (upd H p (.lst ws)) := by
  have ow : Own E σ i p := ⟨hp, b, hb, ho⟩
  obtain ⟨f1, f2, vs', f3⟩ := s.own ow
  have k : ∀ a, a ≠ p → (upd H p (.lst ws)) a = H a := fun a h => upd_ne h
  have hi : i < E.length := (List.getElem?_eq_some_iff.mp hb).1
  have own' : ∀ j q, Own (E.set i (b.put ys)) σ j q → Own E σ j q := fun j q ⟨h1, c, h2, h3⟩ => by
    by_cases hj : j = i
    · subst hj
      exact ⟨h1, b, hb, ho⟩
    · rw [List.getElem?_set_ne (Ne.symm hj)] at h2
      exact ⟨h1, c, h2, h3⟩
  refine ⟨by simpa using s.len, s.fa, fun a u e => ?_, s.f0, s.a0, s.fr, fun a h => ?_, fun j c e => ?_, fun j j' q h1 h2 => s.ne j j' q (own' j q h1) (own' j' q h2), fun a u e => ?_⟩
  · rw [k a (ne_of_none e f2)]; exact s.ah _ _ e
  · obtain ⟨h1, h2⟩ := s.inn a h
    refine ⟨?_, h2⟩
    by_cases h : a = p
    · subst h; rw [upd_same]; exact fun z => nomatch z
    · rw [k a h]; exact h1
  · by_cases hj : j = i
    · subst hj
      rw [List.getElem?_set_self hi] at e
      cases e
      have q := s.sl j b hb
      cases b with
      | un => exact ho.elim
      | kp x => exact ho.elim
      | bo x => exact ho.elim
      | ow xs => exact ⟨p, ws, hp, upd_same, r, f1, f2⟩
      | io p' xs =>
        obtain ⟨vs2, e1, _⟩ := q
        rw [hp] at e1; cases e1
        exact ⟨ws, hp, upd_same, r, f1, f2⟩
    · rw [List.getElem?_set_ne (Ne.symm hj)] at e
      refine (s.sl j c e).mono (Same.refl _) (Same.refl _) fun q e1 h => ?_
      have ow' : Own E σ j q := ⟨e1, _, e, h⟩
      obtain ⟨g1, g2, _⟩ := s.own ow'
      have hq : q ≠ p := fun z => hj (s.ne j i p (z ▸ ow') ow)
      exact ⟨fun vs z => by rw [k q hq]; exact z, g1, g2⟩
  · obtain ⟨h1, h2, h3⟩ := s.pr a u e
    exact ⟨by rw [k a (fun z => h3 i (z ▸ ow))]; exact h1, h2, fun j q => h3 j (own' j a q)⟩
theorem own_at {F A H : Hp} {σ : St} (s : Sta g B F A E σ H) {i : Nat} {b : Bd} {xs : List α} (hb : E[i]? = some b) (ho : b.isO) (h : RdL b xs) : ∃ p vs, σ[i]? = some (some (.ref p)) ∧ H p = some (.lst vs) ∧ rps g F vs xs := by
  have q := s.sl i b hb
  cases h with
  | kp => exact ho.elim
  | bo => exact ho.elim
  | ow => obtain ⟨p, vs, e, e2, r, _⟩ := q; exact ⟨p, vs, e, e2, r⟩
  | io => obtain ⟨vs, e, e2, r, _⟩ := q; exact ⟨_, vs, e, e2, r⟩
theorem sx_append {i : Nat} {b : Bd} {xs : List α} {x : α} (hi : E[i]? = some b) (hx : Px g B E E1 te x) (hi1 : E1[i]? = some b) (ho : b.isO) (h : RdL b xs) (hz : sz (xs.length + 1) = true) (k : ∀ σ H, Sp' g B (E1.set i (b.put (xs ++ [x]))) σ H → D.nx σ H) :
    Sx g B E (tDrop (tBM g.K "list" rAppend (tVar i) (tCons te tNil))) D := fun F A σ H s => by
  obtain ⟨p, vs, e, hp, r⟩ := own_at s hi ho h
  refine ⟨.ref p, e, .inl ⟨rfl, _, .of hp⟩, hx F A σ H s _ fun F1 A1 H1 v s1 e1 rv => ?_⟩
  obtain ⟨p', vs', e', hp', r'⟩ := own_at s1 hi1 ho h
  rw [e] at e'; cases e'
  exact ⟨p, vs', v, rfl, rfl, hp', by rw [rps_len r']; exact Nat.lt_of_lt_of_le (Nat.lt_succ_self _) (sz_ok hz), k _ _ ⟨F1, A1, s1.write (vs := vs') hi1 ho e (rps_app r' ⟨rv, trivial⟩)⟩⟩
def setI {δ : Type} (xs : List δ) (i : Int) (x : δ) : Option (List δ) := (ixN xs.length i).map fun j => xs.set j x
theorem sx_setitem {i : Nat} {b : Bd} {xs ys : List α} {x : α} {j : Int} (hx : Px g B E E1 te x) (hi1 : E1[i]? = some b) (hj : Px g B E1 E2 tb j) (hi2 : E2[i]? = some b) (ho : b.isO) (h : RdL b xs) (e : setI xs j x = some ys) (k : ∀ σ H, Sp' g B (E2.set i (b.put ys)) σ H → D.nx σ H) :
    Sx g B E (tAsg te (gSub (tVar i) tb rSetL)) D := fun F A σ H s =>
  hx F A σ H s _ fun F1 A1 H1 v s1 e1 rv => by
    obtain ⟨p, vs, ep, hp, r⟩ := own_at s1 hi1 ho h
    refine ⟨.ref p, ep, hj F1 A1 σ H1 s1 _ fun F2 A2 H2 w s2 e2 rw => ?_⟩
    obtain ⟨p', vs', e', hp', r'⟩ := own_at s2 hi2 ho h
    rw [ep] at e'; cases e'
    have rw : w = .int j := rw
    subst rw
    unfold setI at e
    cases hn : ixN xs.length j with
    | none => rw [hn] at e; cases e
    | some n =>
      rw [hn] at e
      cases e
      exact ⟨p, vs', j, n, rfl, rfl, hp', by rw [rps_len r']; exact hn, k _ _ ⟨F2, A2, s2.write (vs := vs') hi2 ho ep (rps_set (Rp.mono e2 rv) n r')⟩⟩
/-- x += e of ints -/
theorem sx_aug {i : Nat} {x y z : Int} {f : Int → Int → Int} (hi : E[i]? = some (.kp x)) (hy : Px g B E E1 te y) (e : f x y = z) (k : ∀ σ H, Sp' g B (E1.set i (.kp z)) σ H → D.nx σ H) : Sx g B E (tAug i te (ipI f)) D := fun F A σ H s => by
  obtain ⟨v, e0, rv⟩ := s.sl i _ hi
  have rv : v = .int x := rv
  subst rv
  refine ⟨_, e0, hy F A σ H s _ fun F1 A1 H1 w s1 e1 rw => ?_⟩
  have rw : w = .int y := rw
  subst rw
  exact ⟨x, y, rfl, rfl, k _ _ ⟨F1, A1, s1.setk (x := z) (by show V.int _ = V.int z; rw [e])⟩⟩
end

/-! ### promises -/
/-- the lists that a def may change: their contents afterwards -/
inductive Cn : Type 1 where
  | mk {α : Type} [i : Rp α] (xs : List α)
inductive Out : Type 1 where
  | ret {α : Type} [i : Rp α] (y : α) (outs : List Cn)
  | exc (c : Str) (d : D)
  | new {α : Type} [i : Rp α] (ys : List α) (outs : List Cn)
/-- an argument: kept; read only; a list that may be changed -/
inductive Ca : Type 1 where
  | k {α : Type} [i : Rp α] (x : α)
  | b {α : Type} [i : Rp α] (x : α)
  | m {α : Type} [i : Rp α] (xs : List α)
def less (H : Hp) (ps : List Addr) : Hp := fun a => if a ∈ ps then none else H a
theorem less_same (H : Hp) (ps : List Addr) : Same (less H ps) H := fun a o e => by
  unfold less at e
  split at e
  · cases e
  · exact e
theorem less_in {H : Hp} {ps : List Addr} {a : Addr} (h : a ∈ ps) : less H ps a = none := by unfold less; rw [if_pos h]
theorem less_out {H : Hp} {ps : List Addr} {a : Addr} (h : a ∉ ps) : less H ps a = H a := by unfold less; rw [if_neg h]
/-- the arguments stand so; qs: the lists that may be changed, of ps -/
def InOk (g : Gx) (F H : Hp) (ps : List Addr) : List V → List Ca → List Addr → Prop
  | [], [], qs => qs = []
  | v :: vs, @Ca.k _ _ x :: cs, qs => rp g F v x ∧ InOk g F H ps vs cs qs
  | v :: vs, @Ca.b _ _ x :: cs, qs => rp g (less H ps) v x ∧ InOk g F H ps vs cs qs
  | v :: vs, @Ca.m _ _ xs :: cs, qs => ∃ p ws qs', v = .ref p ∧ qs = p :: qs' ∧ H p = some (.lst ws) ∧ rps g F ws xs ∧ F p = none ∧ InOk g F H ps vs cs qs'
  | _, _, _ => False
def CnOk (g : Gx) (F H : Hp) : List Addr → List Cn → Prop
  | [], [] => True
  | p :: ps, @Cn.mk _ _ xs :: cs => (∃ ws, H p = some (.lst ws) ∧ rps g F ws xs ∧ F p = none) ∧ CnOk g F H ps cs
  | _, _ => False
/-- how an exception of these words lies -/
def PayOk (H : Hp) (dx : Option Addr) : D → Prop
  | .non => dx = none
  | .tup [.str f, d] => ∃ a v, dx = some a ∧ H a = some (.xd [(Tx.s f, v)]) ∧ rpD H v d
  | _ => False
structure Grow (F H F' H' : Hp) (ps : List Addr) : Prop where
  f : Same F F'
  fh : Same F' H'
  new : ∀ a, F a = none → H a ≠ none → F' a = none
  h : ∀ a o, a ∉ ps → H a = some o → H' a = some o
def FinOk (g : Gx) (F H : Hp) (ps : List Addr) (Q : VK) (X : XK) : Out → Prop
  | @Out.ret _ _ y outs => ∀ F' H' v, Grow F H F' H' ps → CnOk g F' H' ps outs → rp g F' v y → Q v H'
  | .exc c d => ∀ F' H' dx, Grow F H F' H' ps → (∀ p ∈ ps, H' p ≠ none) → PayOk H' dx d → X (.ref (g.ca c)) dx H'
  | @Out.new _ _ ys outs => ∀ F' H' p ws, Grow F H F' H' ps → CnOk g F' H' ps outs → H p = none → H' p = some (.lst ws) → rps g F' ws ys → F' p = none → Q (.ref p) H'
def spOf (g : Gx) (rel : List Ca → Out → Prop) : Sp := fun vs H Q X => ∃ F cs ps o, Same F H ∧ ps.Nodup ∧ InOk g F H ps vs cs ps ∧ rel cs o ∧ FinOk g F H ps Q X o

/-! calls -/
inductive Ar : Type 1 where
  | k {α : Type} [i : Rp α] (x : α)
  | s (i : Nat)
def ArOk (g : Gx) (F : Hp) (σ : St) : List V → List Ar → Prop
  | [], [] => True
  | v :: vs, @Ar.k _ _ x :: as => rp g F v x ∧ ArOk g F σ vs as
  | v :: vs, .s i :: as => σ[i]? = some (some v) ∧ ArOk g F σ vs as
  | _, _ => False
theorem ArOk.mono {g : Gx} {F F' : Hp} {σ : St} (s : Same F F') : ∀ {vs : List V} {as : List Ar}, ArOk g F σ vs as → ArOk g F' σ vs as
  | [], [], _ => trivial
  | _ :: _, @Ar.k _ _ _ :: _, h => ⟨Rp.mono s h.1, ArOk.mono s h.2⟩
  | _ :: _, .s _ :: _, h => ⟨h.1, ArOk.mono s h.2⟩
  | [], @Ar.k _ _ _ :: _, h => h.elim
  | [], .s _ :: _, h => h.elim
  | _ :: _, [], h => h.elim
def PxA (g : Gx) (B : Bs) (E E' : List Bd) (ta : TA) (as : List Ar) : Prop :=
  ∀ F A σ H, Sta g B F A E σ H → ∀ Q : List V → Hp → Prop, (∀ F' A' H' vs, Sta g B F' A' E' σ H' → Same F F' → ArOk g F' σ vs as → Q vs H') → ta σ H Q
/-- what the callee gets; ms: the slots whose lists it may change -/
inductive Rs (E : List Bd) : List Ar → List Ca → List Nat → Prop
  | nil : Rs E [] [] []
  | k {α : Type} [Rp α] {x : α} {as cs ms} : Rs E as cs ms → Rs E (.k x :: as) (.k x :: cs) ms
  | kb {α : Type} [Rp α] {x : α} {as cs ms} : Rs E as cs ms → Rs E (.k x :: as) (.b x :: cs) ms
  | sk {α : Type} [Rp α] {x : α} {i : Nat} {as cs ms} : E[i]? = some (.kp x) → Rs E as cs ms → Rs E (.s i :: as) (.k x :: cs) ms
  | sb {α : Type} [Rp α] {x : α} {b : Bd} {i : Nat} {as cs ms} : E[i]? = some b → Rd1 b x → Rs E as cs ms → Rs E (.s i :: as) (.b x :: cs) ms
  | m {α : Type} [Rp α] {xs : List α} {b : Bd} {i : Nat} {as cs ms} : E[i]? = some b → b.isO → RdL b xs → Rs E as cs ms → Rs E (.s i :: as) (.m xs :: cs) (i :: ms)
/-- the slots that are read only are none of those that may be changed -/
inductive Apart (E : List Bd) (ms : List Nat) : List Ar → List Ca → Prop
  | nil : Apart E ms [] []
  | k {α β : Type} [Rp α] [Rp β] {x : α} {y : β} {as cs} : Apart E ms as cs → Apart E ms (.k x :: as) (.k y :: cs)
  | kb {α β : Type} [Rp α] [Rp β] {x : α} {y : β} {as cs} : Apart E ms as cs → Apart E ms (.k x :: as) (.b y :: cs)
  | sk {β : Type} [Rp β] {y : β} {i : Nat} {as cs} : Apart E ms as cs → Apart E ms (.s i :: as) (.k y :: cs)
  | sb {β : Type} [Rp β] {y : β} {i : Nat} {as cs} : i ∉ ms → Apart E ms as cs → Apart E ms (.s i :: as) (.b y :: cs)
  | m {β : Type} [Rp β] {y : List β} {i : Nat} {as cs} : Apart E ms as cs → Apart E ms (.s i :: as) (.m y :: cs)
def puts (E : List Bd) : List Nat → List Cn → List Bd
  | i :: ms, @Cn.mk _ _ xs :: cs => puts (E.set i (((E[i]?).getD .un).put xs)) ms cs
  | _, _ => E
section
variable {g : Gx} {B : Bs} {E E1 E2 E3 E' : List Bd} {ta tb tc te : TE} {α β γ : Type} [Rp α] [Rp β] [Rp γ]
theorem pa_n : PxA g B E E tNil [] := fun F A σ H s Q k => k F A H [] s (Same.refl _) trivial
theorem pa_k {tr : TA} {x : α} {as : List Ar} (h : Px g B E E1 te x) (hr : PxA g B E1 E2 tr as) : PxA g B E E2 (tCons te tr) (.k x :: as) := fun F A σ H s Q k =>
  h F A σ H s _ fun F1 A1 H1 v s1 e1 r1 => hr F1 A1 σ H1 s1 _ fun F2 A2 H2 vs s2 e2 r2 => k F2 A2 H2 (v :: vs) s2 (e1.trans e2) ⟨Rp.mono e2 r1, r2⟩
theorem slot_v {F A H : Hp} {σ : St} (s : Sta g B F A E σ H) {i : Nat} {b : Bd} (hb : E[i]? = some b) (hu : b ≠ .un) : ∃ v, σ[i]? = some (some v) := by
  have q := s.sl i b hb
  cases b with
  | un => exact absurd rfl hu
  | kp x => obtain ⟨v, e, _⟩ := q; exact ⟨v, e⟩
  | bo x => obtain ⟨v, e, _⟩ := q; exact ⟨v, e⟩
  | ow x => obtain ⟨p, vs, e, _⟩ := q; exact ⟨_, e⟩
  | io p x => obtain ⟨vs, e, _⟩ := q; exact ⟨_, e⟩
theorem pa_s {tr : TA} {i : Nat} {b : Bd} {as : List Ar} (hb : E[i]? = some b) (hu : b ≠ .un) (hr : PxA g B E E2 tr as) : PxA g B E E2 (tCons (tVar i) tr) (.s i :: as) := fun F A σ H s Q k => by
  obtain ⟨v, e⟩ := slot_v s hb hu
  exact ⟨v, e, hr F A σ H s _ fun F2 A2 H2 vs s2 e2 r2 => k F2 A2 H2 (v :: vs) s2 e2 ⟨e, r2⟩⟩
/-- the addresses of the slots -/
def AdOk (σ : St) : List Nat → List Addr → Prop
  | [], [] => True
  | i :: ms, p :: ps => σ[i]? = some (some (.ref p)) ∧ AdOk σ ms ps
  | _, _ => False
theorem AdOk.mem {σ : St} : ∀ {ms : List Nat} {ps : List Addr} {p : Addr}, AdOk σ ms ps → p ∈ ps → ∃ i ∈ ms, σ[i]? = some (some (.ref p))
  | i :: ms, q :: ps, p, h, hm => by
    rcases List.mem_cons.mp hm with e | hm
    · subst e; exact ⟨i, List.mem_cons_self, h.1⟩
    · obtain ⟨j, hj, e⟩ := h.2.mem hm
      exact ⟨j, List.mem_cons_of_mem _ hj, e⟩
  | [], [], _, _, hm => by cases hm
  | [], _ :: _, _, h, _ => h.elim
  | _ :: _, [], _, h, _ => h.elim
theorem rs_ads {F A H : Hp} {σ : St} (s : Sta g B F A E σ H) : ∀ {as : List Ar} {cs : List Ca} {ms : List Nat}, Rs E as cs ms → (∃ ps, AdOk σ ms ps) ∧ ∀ i ∈ ms, ∃ b, E[i]? = some b ∧ b.isO := by
  intro as cs ms h
  induction h with
  | nil => exact ⟨⟨[], trivial⟩, fun i hi => nomatch hi⟩
  | k _ ih => exact ih
  | kb _ ih => exact ih
  | sk _ _ ih => exact ih
  | sb _ _ _ ih => exact ih
  | m e ho hr _ ih =>
    obtain ⟨⟨ps, h⟩, h2⟩ := ih
    obtain ⟨p, vs, e1, _⟩ := own_at s e ho hr
    refine ⟨⟨p :: ps, e1, h⟩, fun i hi => ?_⟩
    rcases List.mem_cons.mp hi with q | q
    · subst q; exact ⟨_, e, ho⟩
    · exact h2 i q
theorem ads_nodup {F A H : Hp} {σ : St} (s : Sta g B F A E σ H) : ∀ {ms : List Nat} {ps : List Addr}, AdOk σ ms ps → ms.Nodup → (∀ i ∈ ms, ∃ b, E[i]? = some b ∧ b.isO) → ps.Nodup
  | [], [], _, _, _ => List.nodup_nil
  | i :: ms, p :: ps, h, nd, ho => by
    refine List.nodup_cons.mpr ⟨fun hm => ?_, ads_nodup s h.2 (List.nodup_cons.mp nd).2 fun j hj => ho j (List.mem_cons_of_mem _ hj)⟩
    obtain ⟨j, hj, e⟩ := h.2.mem hm
    obtain ⟨b, hb, hbo⟩ := ho i List.mem_cons_self
    obtain ⟨c, hc, hco⟩ := ho j (List.mem_cons_of_mem _ hj)
    have : i = j := s.ne i j p ⟨h.1, b, hb, hbo⟩ ⟨e, c, hc, hco⟩
    exact (List.nodup_cons.mp nd).1 (this ▸ hj)
  | [], _ :: _, h, _, _ => h.elim
  | _ :: _, [], h, _, _ => h.elim
theorem rp_less {F A H : Hp} {σ : St} (s : Sta g B F A E σ H) {ps : List Addr} (hps : ∀ p ∈ ps, A p = none) : Same A (less H ps) := fun a o e => by
  rw [less_out (fun h => by rw [hps a h] at e; cases e)]
  exact s.ah _ _ e
theorem in_ok {F A H : Hp} {σ : St} (s : Sta g B F A E σ H) {ps0 : List Addr} {ms0 : List Nat} (had0 : AdOk σ ms0 ps0) (ho0 : ∀ i ∈ ms0, ∃ b, E[i]? = some b ∧ b.isO) :
    ∀ {as : List Ar} {cs : List Ca} {ms : List Nat} {vs : List V} {ps : List Addr}, Rs E as cs ms → Apart E ms0 as cs → ArOk g F σ vs as → AdOk σ ms ps → InOk g F H ps0 vs cs ps := by
  have hA : ∀ p ∈ ps0, A p = none := fun p hp => by
    obtain ⟨i, hi, e⟩ := had0.mem hp
    obtain ⟨b, hb, hbo⟩ := ho0 i hi
    exact (s.own ⟨e, b, hb, hbo⟩).2.1
  have sA := rp_less s hA
  intro as cs ms vs ps h
  induction h generalizing vs ps with
  | nil =>
    intro _ ha hd
    cases vs with
    | cons _ _ => exact ha.elim
    | nil =>
      cases ps with
      | nil => rfl
      | cons _ _ => exact hd.elim
  | k _ ih =>
    intro ap ha hd
    cases ap with
    | k ap => cases vs with
      | nil => exact ha.elim
      | cons v vs => exact ⟨ha.1, ih ap ha.2 hd⟩
  | kb _ ih =>
    intro ap ha hd
    cases ap with
    | kb ap => cases vs with
      | nil => exact ha.elim
      | cons v vs => exact ⟨Rp.mono (s.fa.trans sA) ha.1, ih ap ha.2 hd⟩
  | sk e _ ih =>
    intro ap ha hd
    cases ap with
    | sk ap => cases vs with
      | nil => exact ha.elim
      | cons v vs =>
        obtain ⟨v', e1, r⟩ := s.sl _ _ e
        rw [ha.1] at e1; cases e1
        exact ⟨r, ih ap ha.2 hd⟩
  | sb e hr _ ih =>
    rename_i b i as cs ms _
    intro ap ha hd
    cases ap with
    | sb hn ap => cases vs with
      | nil => exact ha.elim
      | cons v vs =>
        refine ⟨?_, ih ap ha.2 hd⟩
        have q := s.sl _ _ e
        cases hr with
        | kp => obtain ⟨v', e1, r⟩ := q; rw [ha.1] at e1; cases e1; exact Rp.mono (s.fa.trans sA) r
        | bo => obtain ⟨v', e1, r⟩ := q; rw [ha.1] at e1; cases e1; exact Rp.mono sA r
        | ow =>
          obtain ⟨p, ws, e1, e2, r, _⟩ := q
          rw [ha.1] at e1; cases e1
          refine ⟨p, ws, rfl, ?_, rps_mono (s.fa.trans sA) r⟩
          rw [less_out fun hm => ?_]; exact e2
          obtain ⟨j, hj, ej⟩ := had0.mem hm
          obtain ⟨c, hc, hco⟩ := ho0 j hj
          exact hn (s.ne _ _ p ⟨ha.1, _, e, trivial⟩ ⟨ej, c, hc, hco⟩ ▸ hj)
        | io =>
          obtain ⟨ws, e1, e2, r, _⟩ := q
          rw [ha.1] at e1; cases e1
          refine ⟨_, ws, rfl, ?_, rps_mono (s.fa.trans sA) r⟩
          rw [less_out fun hm => ?_]; exact e2
          obtain ⟨j, hj, ej⟩ := had0.mem hm
          obtain ⟨c, hc, hco⟩ := ho0 j hj
          exact hn (s.ne _ _ _ ⟨ha.1, _, e, trivial⟩ ⟨ej, c, hc, hco⟩ ▸ hj)
  | m e ho hr _ ih =>
    intro ap ha hd
    cases ap with
    | m ap => cases vs with
      | nil => exact ha.elim
      | cons v vs => cases ps with
        | nil => exact hd.elim
        | cons p ps =>
          obtain ⟨p', ws, e1, e2, r⟩ := own_at s e ho hr
          rw [hd.1] at e1; cases e1
          have e3 : v = .ref p := by have := ha.1; rw [hd.1] at this; exact (Option.some.inj (Option.some.inj this)).symm
          exact ⟨p, ws, ps, e3, rfl, e2, r, (s.own ⟨hd.1, _, e, ho⟩).1, ih ap ha.2 hd.2⟩
/-- behind a call: the frozen part as the callee left it -/
theorem after_call2 {F A H F' H' : Hp} {σ : St} {E' : List Bd} (s : Sta g B F A E σ H) {ms : List Nat} {ps : List Addr} (had : AdOk σ ms ps) (ho : ∀ i ∈ ms, ∃ b, E[i]? = some b ∧ b.isO) (gr : Grow F H F' H' ps) (hin : ∀ p ∈ ps, H' p ≠ none) (hf : ∀ p ∈ ps, F' p = none)
    (len : E'.length = E.length) (get : ∀ (i : Nat) (b : Bd), E'[i]? = some b → b = .un ∨ (i ∉ ms ∧ E[i]? = some b) ∨ (i ∈ ms ∧ ∃ p ∈ ps, σ[i]? = some (some (.ref p)) ∧ ∀ A', A' p = none → SlotOk g F' A' H' σ[i]? b)) :
    ∃ A', (∀ a, F' a = none → A' a = A a) ∧ Sta g B F' A' E' σ H' := by
  have hA : ∀ p ∈ ps, A p = none := fun p hp => by
    obtain ⟨i, hi, e⟩ := had.mem hp
    obtain ⟨b, hb, hbo⟩ := ho i hi
    exact (s.own ⟨e, b, hb, hbo⟩).2.1
  let A' : Hp := fun a => match F' a with | some o => some o | none => A a
  have a1 : ∀ a o, F' a = some o → A' a = some o := fun a o e => by show (match F' a with | some o => some o | none => A a) = _; rw [e]
  have a2 : ∀ a, F' a = none → A' a = A a := fun a e => by show (match F' a with | some o => some o | none => A a) = _; rw [e]
  have hFA : ∀ a o, F' a = some o → A a = none ∨ A a = some o := fun a o e => by
    cases h : F a with
    | some u =>
      have := gr.f _ _ h
      rw [e] at this; cases this
      exact .inr (s.fa _ _ h)
    | none =>
      left
      cases h2 : A a with
      | none => rfl
      | some u =>
        have := gr.new a h (by rw [s.ah _ _ h2]; exact fun z => nomatch z)
        rw [e] at this; cases this
  have ownIn : ∀ i p, Own E' σ i p → Own E σ i p := fun i p ⟨e1, b, hb, hbo⟩ => by
    rcases get i b hb with z | ⟨h1, h2⟩ | ⟨h1, q, hq, e2, _⟩
    · subst z; exact hbo.elim
    · exact ⟨e1, b, h2, hbo⟩
    · obtain ⟨c, hc, hco⟩ := ho i h1
      exact ⟨e1, c, hc, hco⟩
  refine ⟨A', a2, len.trans s.len, a1, fun a o e => ?_, s.f0.trans gr.f, fun a o e => ?_, fun a h1 h2 => ?_, fun a h => ?_, fun i b e => ?_, fun i j p h1 h2 => s.ne i j p (ownIn i p h1) (ownIn j p h2), fun a o e => ?_⟩
  · cases h : F' a with
    | some u => rw [a1 a u h] at e; cases e; exact gr.fh _ _ h
    | none =>
      rw [a2 a h] at e
      refine gr.h a o (fun hm => ?_) (s.ah _ _ e)
      rw [hA a hm] at e; cases e
  · have e1 := s.a0 _ _ e
    cases h : F' a with
    | some u =>
      rcases hFA a u h with z | z
      · rw [z] at e1; cases e1
      · rw [z] at e1; cases e1; exact a1 a _ h
    | none => rw [a2 a h]; exact e1
  · refine gr.new a (s.fr a h1 h2) ?_
    rcases h2 with h2 | h2
    · cases e : B.A0 a with
      | none => exact absurd e h2
      | some o => rw [s.ah _ _ (s.a0 _ _ e)]; exact fun z => nomatch z
    · exact (s.inn a h2).1
  · obtain ⟨h1, h2⟩ := s.inn a h
    have hF : F' a = none := by
      by_cases hm : a ∈ ps
      · exact hf a hm
      · exact gr.new a (s.fa.free h2) h1
    refine ⟨?_, by rw [a2 a hF]; exact h2⟩
    by_cases hm : a ∈ ps
    · exact hin a hm
    · cases e : H a with
      | none => exact absurd e h1
      | some o => rw [gr.h a o hm e]; exact fun z => nomatch z
  · rcases get i b e with z | ⟨h1, h2⟩ | ⟨h1, p, hp, e1, sl⟩
    · subst z; trivial
    · refine (s.sl i b h2).mono gr.f (fun a o e => ?_) fun p e1 h => ?_
      · cases h : F' a with
        | some u =>
          rcases hFA a u h with z | z
          · rw [z] at e; cases e
          · rw [z] at e; cases e; exact a1 a _ h
        | none => rw [a2 a h]; exact e
      · have ow : Own E σ i p := ⟨e1, _, h2, h⟩
        obtain ⟨f1, f2, vs, f3⟩ := s.own ow
        have hp : p ∉ ps := fun hm => by
          obtain ⟨j, hj, ej⟩ := had.mem hm
          obtain ⟨c, hc, hco⟩ := ho j hj
          exact h1 (s.ne i j p ow ⟨ej, c, hc, hco⟩ ▸ hj)
        have hF' : F' p = none := gr.new p f1 (by rw [f3]; exact fun z => nomatch z)
        exact ⟨fun vs z => gr.h p _ hp z, hF', by rw [a2 p hF']; exact f2⟩
    · exact sl A' (by rw [a2 p (hf p hp)]; exact hA p hp)
  · obtain ⟨h1, h2, h3⟩ := s.pr a o e
    have hp : a ∉ ps := fun hm => by
      obtain ⟨j, hj, ej⟩ := had.mem hm
      obtain ⟨c, hc, hco⟩ := ho j hj
      exact h3 j ⟨ej, c, hc, hco⟩
    have hF : F' a = none := gr.new a (s.fa.free h2) (by rw [h1]; exact fun z => nomatch z)
    exact ⟨gr.h a o hp h1, by rw [a2 a hF]; exact h2, fun i q => h3 i (ownIn i a q)⟩
theorem after_call {F A H F' H' : Hp} {σ : St} {E' : List Bd} (s : Sta g B F A E σ H) {ms : List Nat} {ps : List Addr} (had : AdOk σ ms ps) (ho : ∀ i ∈ ms, ∃ b, E[i]? = some b ∧ b.isO) (gr : Grow F H F' H' ps) (hin : ∀ p ∈ ps, H' p ≠ none) (hf : ∀ p ∈ ps, F' p = none)
    (len : E'.length = E.length) (get : ∀ (i : Nat) (b : Bd), E'[i]? = some b → b = .un ∨ (i ∉ ms ∧ E[i]? = some b) ∨ (i ∈ ms ∧ ∃ p ∈ ps, σ[i]? = some (some (.ref p)) ∧ ∀ A', A' p = none → SlotOk g F' A' H' σ[i]? b)) :
    ∃ A', Sta g B F' A' E' σ H' := by
  obtain ⟨A', _, h⟩ := after_call2 s had ho gr hin hf len get
  exact ⟨A', h⟩
theorem puts_len : ∀ {ms : List Nat} {cs : List Cn} {E : List Bd}, (puts E ms cs).length = E.length
  | [], [], _ => rfl
  | [], _ :: _, _ => rfl
  | _ :: _, [], _ => rfl
  | i :: ms, @Cn.mk _ _ xs :: cs, E => by unfold puts; rw [puts_len]; simp
/-- the slot's own address, if it is told -/
def Bd.io1 (b : Bd) (p : Addr) : Prop := match b with
  | @Bd.io q _ _ _ => q = p
  | _ => True
theorem puts_get {F' H' : Hp} {σ : St} : ∀ {ms : List Nat} {ps : List Addr} {cs : List Cn} {E1 : List Bd}, AdOk σ ms ps → CnOk g F' H' ps cs → ms.Nodup → (∀ i ∈ ms, ∃ b, E1[i]? = some b ∧ b.isO ∧ ∀ p, σ[i]? = some (some (.ref p)) → b.io1 p) →
    ∀ (i : Nat) (b : Bd), (puts E1 ms cs)[i]? = some b → (i ∉ ms ∧ E1[i]? = some b) ∨ (i ∈ ms ∧ ∃ p ∈ ps, σ[i]? = some (some (.ref p)) ∧ ∀ A' : Hp, A' p = none → SlotOk g F' A' H' σ[i]? b)
  | [], [], [], E1, _, _, _, _, i, b, h => .inl ⟨by simp, h⟩
  | j :: ms, p :: ps, @Cn.mk _ _ xs :: cs, E1, had, hcn, nd, ho, i, b, h => by
    obtain ⟨c, hc, hco, hio⟩ := ho j List.mem_cons_self
    obtain ⟨nj, nd'⟩ := List.nodup_cons.mp nd
    obtain ⟨⟨ws, w1, w2, w3⟩, hcn'⟩ := hcn
    have hjl : j < E1.length := (List.getElem?_eq_some_iff.mp hc).1
    have e0 : puts E1 (j :: ms) (@Cn.mk _ _ xs :: cs) = puts (E1.set j (c.put xs)) ms cs := by
      show puts (E1.set j (((E1[j]?).getD .un).put xs)) ms cs = _
      rw [hc]; rfl
    rw [e0] at h
    rcases puts_get had.2 hcn' nd' (fun k hk => by
      obtain ⟨d, hd, hdo, hdi⟩ := ho k (List.mem_cons_of_mem _ hk)
      have hkj : k ≠ j := fun z => nj (z ▸ hk)
      exact ⟨d, by rw [List.getElem?_set_ne (Ne.symm hkj)]; exact hd, hdo, hdi⟩) i b h with ⟨h1, h2⟩ | ⟨h1, q, hq, h2, h3⟩
    · by_cases hj : i = j
      · subst hj
        rw [List.getElem?_set_self hjl] at h2
        cases h2
        refine .inr ⟨List.mem_cons_self, p, List.mem_cons_self, had.1, fun A' hA' => ?_⟩
        have hp := hio p had.1
        cases c with
        | un => exact hco.elim
        | kp x => exact hco.elim
        | bo x => exact hco.elim
        | ow x => exact ⟨p, ws, had.1, w1, w2, w3, hA'⟩
        | io q x =>
          have hp : q = p := hp
          subst hp
          exact ⟨ws, had.1, w1, w2, w3, hA'⟩
      · rw [List.getElem?_set_ne (Ne.symm hj)] at h2
        exact .inl ⟨by simp [hj, h1], h2⟩
    · exact .inr ⟨List.mem_cons_of_mem _ h1, q, List.mem_cons_of_mem _ hq, h2, h3⟩
  | [], [], _ :: _, _, _, h, _, _, _, _, _ => h.elim
  | [], _ :: _, _, _, h, _, _, _, _, _, _ => h.elim
  | _ :: _, [], _, _, h, _, _, _, _, _, _ => h.elim
  | _ :: _, _ :: _, [], _, _, h, _, _, _, _, _ => h.elim
theorem cn_at {F' H' : Hp} : ∀ {ps : List Addr} {cs : List Cn}, CnOk g F' H' ps cs → ∀ p ∈ ps, F' p = none ∧ H' p ≠ none
  | q :: ps, @Cn.mk _ _ xs :: cs, h, p, hp => by
    obtain ⟨⟨ws, w1, w2, w3⟩, h'⟩ := h
    rcases List.mem_cons.mp hp with e | hp
    · subst e; exact ⟨w3, by rw [w1]; exact fun z => nomatch z⟩
    · exact cn_at h' p hp
  | [], _, _, p, hp => by cases hp
  | _ :: _, [], h, _, _ => h.elim
theorem sl_io {F A H : Hp} {σ : St} (s : Sta g B F A E σ H) {i : Nat} {b : Bd} (hb : E[i]? = some b) : ∀ p, σ[i]? = some (some (.ref p)) → b.io1 p := fun p e => by
  have q := s.sl i b hb
  cases b with
  | io q' x =>
    obtain ⟨vs, e1, _⟩ := q
    rw [e] at e1; cases e1
    rfl
  | un => trivial
  | kp x => trivial
  | bo x => trivial
  | ow x => trivial
/-- a call of a def that keeps such a promise -/
theorem run_sp {rel : List Ca → Out → Prop} {X : XK} {as : List Ar} {cs : List Ca} {ms : List Nat} {x : α} {outs : List Cn} (hr : Rs E as cs ms) (ap : Apart E ms as cs) (nd : ms.Nodup) (hrel : rel cs (.ret x outs)) {F A H : Hp} {σ : St} {vs : List V} (s : Sta g B F A E σ H) (ha : ArOk g F σ vs as) {Q : VK}
    (k : ∀ F' A' H' v, Sta g B F' A' (puts E ms outs) σ H' → Same F F' → rp g F' v x → Q v H') : spOf g rel vs H Q X := by
  obtain ⟨⟨ps, had⟩, ho⟩ := rs_ads s hr
  refine ⟨F, cs, ps, .ret x outs, s.fa.trans s.ah, ads_nodup s had nd ho, in_ok s had ho hr ap ha had, hrel, fun F' H' v gr cn r => ?_⟩
  have c := cn_at cn
  obtain ⟨A', s'⟩ := after_call s had ho gr (fun p hp => (c p hp).2) (fun p hp => (c p hp).1) puts_len fun i b e => .inr (puts_get had cn nd (fun i hi => by
    obtain ⟨b, hb, hbo⟩ := ho i hi
    exact ⟨b, hb, hbo, sl_io s hb⟩) i b e)
  exact k F' A' H' v s' gr.f r
theorem px_call {rel : List Ca → Out → Prop} {X : XK} {as : List Ar} {cs : List Ca} {ms : List Nat} {x : α} {outs : List Cn} {t : TA} (ha : PxA g B E E1 t as) (hr : Rs E1 as cs ms) (ap : Apart E1 ms as cs) (nd : ms.Nodup) (hrel : rel cs (.ret x outs)) : Px g B E (puts E1 ms outs) (tCall (spOf g rel) [] X t) x := fun F A σ H s Q k =>
  ha F A σ H s _ fun F1 A1 H1 vs s1 e1 r1 => by
    show spOf g rel (vs ++ []) H1 Q X
    rw [List.append_nil]
    exact run_sp hr ap nd hrel s1 r1 fun F' A' H' v s' e r => k F' A' H' v s' (e1.trans e) r
theorem px_callN {rel : List Ca → Out → Prop} {X : XK} {as : List Ar} {cs : List Ca} {ms : List Nat} {xs : List α} {outs : List Cn} {t : TA} (ha : PxA g B E E1 t as) (hr : Rs E1 as cs ms) (ap : Apart E1 ms as cs) (nd : ms.Nodup) (hrel : rel cs (.new xs outs)) : PxN g B E (puts E1 ms outs) (tCall (spOf g rel) [] X t) xs := fun F A σ H s Q k =>
  ha F A σ H s _ fun F1 A1 H1 vs s1 e1 r1 => by
    show spOf g rel (vs ++ []) H1 Q X
    rw [List.append_nil]
    obtain ⟨⟨ps, had⟩, ho⟩ := rs_ads s1 hr
    refine ⟨F1, cs, ps, .new xs outs, s1.fa.trans s1.ah, ads_nodup s1 had nd ho, in_ok s1 had ho hr ap r1 had, hrel, fun F' H' p ws gr cn hp hp' r hf => ?_⟩
    have c := cn_at cn
    have get := puts_get had cn nd (fun i hi => by
      obtain ⟨b, hb, hbo⟩ := ho i hi
      exact ⟨b, hb, hbo, sl_io s1 hb⟩)
    obtain ⟨A', hA', s'⟩ := after_call2 s1 had ho gr (fun p hp => (c p hp).2) (fun p hp => (c p hp).1) puts_len fun i b e => .inr (get i b e)
    have hA : A1 p = none := s1.ah.free hp
    refine k F' A' H' p ws s' (e1.trans gr.f) ⟨hp', hf, by rw [hA' p hf]; exact hA, fun i q => ?_, fun m => (s1.inn p m).1 hp, ?_⟩ r
    · obtain ⟨e1', b, hb, hbo⟩ := q
      rcases get i b hb with ⟨_, h2⟩ | ⟨hi, _⟩
      · obtain ⟨_, _, _, z⟩ := s1.own ⟨e1', b, h2, hbo⟩
        rw [hp] at z; cases z
      · obtain ⟨c', hc, hco⟩ := ho i hi
        obtain ⟨_, _, _, z⟩ := s1.own ⟨e1', c', hc, hco⟩
        rw [hp] at z; cases z
    · cases e : B.P p with
      | none => rfl
      | some u => have := (s1.pr p u e).1; rw [hp] at this; cases this
/-- an expression that raises -/
def PxE (g : Gx) (B : Bs) (E : List Bd) (te : TE) : Prop := ∀ F A σ H, Sta g B F A E σ H → ∀ Q : VK, te σ H Q
/-- where an exception goes -/
def XkOk (g : Gx) (B : Bs) (X : XK) (c : Str) (d : D) : Prop := ∀ F A E σ H' dx, Sta g B F A E σ H' → PayOk H' dx d → X (.ref (g.ca c)) dx H'
theorem XkOk.nest {B' : Bs} {X : XK} {c : Str} {d : D} (n : Nest g B B') (h : XkOk g B X c d) : XkOk g B' X c d := fun F A E σ H' dx s p => h F A E σ H' dx (n.2 _ _ _ _ _ s) p
theorem run_spE {rel : List Ca → Out → Prop} {X : XK} {as : List Ar} {cs : List Ca} {c : Str} {d : D} (hr : Rs E as cs []) (ap : Apart E [] as cs) (hrel : rel cs (.exc c d)) (hX : XkOk g B X c d) {F A H : Hp} {σ : St} {vs : List V} (s : Sta g B F A E σ H) (ha : ArOk g F σ vs as) {Q : VK} : spOf g rel vs H Q X := by
  obtain ⟨⟨ps, had⟩, ho⟩ := rs_ads s hr
  refine ⟨F, cs, ps, .exc c d, s.fa.trans s.ah, ads_nodup s had List.nodup_nil ho, in_ok s had ho hr ap ha had, hrel, fun F' H' dx gr hp pay => ?_⟩
  cases ps with
  | cons _ _ => exact had.elim
  | nil =>
    obtain ⟨A', s'⟩ := after_call (E' := E) s had ho gr (fun p hp => nomatch hp) (fun p hp => nomatch hp) rfl fun i b e => .inr (.inl ⟨by simp, e⟩)
    exact hX _ _ _ _ H' dx s' pay
theorem pe_callX {rel : List Ca → Out → Prop} {X : XK} {as : List Ar} {cs : List Ca} {c : Str} {d : D} {t : TA} (ha : PxA g B E E1 t as) (hr : Rs E1 as cs []) (ap : Apart E1 [] as cs) (hrel : rel cs (.exc c d)) (hX : XkOk g B X c d) : PxE g B E (tCall (spOf g rel) [] X t) := fun F A σ H s Q =>
  ha F A σ H s _ fun F1 A1 H1 vs s1 e1 r1 => by
    show spOf g rel (vs ++ []) H1 Q X
    rw [List.append_nil]
    exact run_spE hr ap hrel hX s1 r1
theorem pe_op1 {r : R2} (h : PxE g B E ta) : PxE g B E (tOp r ta tb) := fun F A σ H s Q => h F A σ H s _
theorem pe_op2 {r : R2} {x : α} (ha : Px g B E E1 ta x) (h : PxE g B E1 tb) : PxE g B E (tOp r ta tb) := fun F A σ H s Q => ha F A σ H s _ fun F1 A1 H1 v s1 e1 rv => h F1 A1 σ H1 s1 _
theorem sx_exprE {D : Ends} {i : TG} (h : PxE g B E te) : Sx g B E (tAsg te i) D := fun F A σ H s => h F A σ H s _
theorem sx_dropE {D : Ends} (h : PxE g B E te) : Sx g B E (tDrop te) D := fun F A σ H s => h F A σ H s _
theorem sx_retE {D : Ends} (h : PxE g B E te) : Sx g B E (tRet te) D := fun F A σ H s => h F A σ H s _
/-- return -/
def DRt (g : Gx) (B : Bs) (rt : VK) : Out → Prop
  | @Out.ret _ _ y outs => ∀ F A E σ H v, Sta g B F A E σ H → CnOk g F H B.ps outs → rp g F v y → rt v H
  | .exc _ _ => True
  | @Out.new _ _ ys outs => ∀ F A E σ H p ws, Sta g B F A E σ H → CnOk g F H B.ps outs → H p = some (.lst ws) → rps g F ws ys → F p = none → A p = none → p ∉ B.ps → rt (.ref p) H
theorem DRt.nest {B' : Bs} {rt : VK} {o : Out} (n : Nest g B B') (h : DRt g B rt o) : DRt g B' rt o := by
  cases o with
  | ret y outs => exact fun F A E σ H v s c r => h F A E σ H v (n.2 _ _ _ _ _ s) (n.1 ▸ c) r
  | exc _ _ => trivial
  | new ys outs => exact fun F A E σ H p ws s c e r f a m => h F A E σ H p ws (n.2 _ _ _ _ _ s) (n.1 ▸ c) e r f a (n.1 ▸ m)
/-- the io slots' lists in the end -/
inductive Fi (E : List Bd) : List Addr → List Cn → Prop
  | nil : Fi E [] []
  | cons {α : Type} [Rp α] {xs : List α} {i : Nat} {p : Addr} {ps cs} : E[i]? = some (.io p xs) → Fi E ps cs → Fi E (p :: ps) (.mk xs :: cs)
theorem fi_ok {F A H : Hp} {σ : St} (s : Sta g B F A E σ H) : ∀ {ps : List Addr} {cs : List Cn}, Fi E ps cs → CnOk g F H ps cs := by
  intro ps cs h
  induction h with
  | nil => trivial
  | cons e _ ih =>
    obtain ⟨vs, _, e2, r, e3, _⟩ := s.sl _ _ e
    exact ⟨⟨vs, e2, r, e3⟩, ih⟩
theorem sx_ret {D : Ends} {x : α} {outs : List Cn} (hx : Px g B E E1 te x) (hf : Fi E1 B.ps outs) (h : DRt g B D.rt (.ret x outs)) : Sx g B E (tRet te) D := fun F A σ H s =>
  hx F A σ H s _ fun F1 A1 H1 v s1 e1 r => h F1 A1 E1 σ H1 v s1 (fi_ok s1 hf) r
theorem sx_retN {D : Ends} {outs : List Cn} (hf : Fi E B.ps outs) (h : DRt g B D.rt (.ret () outs)) : Sx g B E tRetN D := fun F A σ H s => h F A E σ H .non s (fi_ok s hf) rfl
/-- the body's end without a return -/
theorem sx_fall {D : Ends} {outs : List Cn} (hf : Fi E B.ps outs) (h : ∀ F A σ H, Sta g B F A E σ H → CnOk g F H B.ps outs → D.nx σ H) : ∀ σ H, Sp' g B E σ H → D.nx σ H := fun σ H ⟨F, A, s⟩ => h F A σ H s (fi_ok s hf)
end
end Gn
/-! Gn: loops, comprehensions, defs. -/
namespace Gn
open PySem L2
open Rp (rp)

/-! ### what is walked -/
structure Src (g : Gx) (B1 : Bs) (J : It) {α : Type} [Rp α] (xs : List α) : Prop where
  goes : ∀ i F A E σ H, i < xs.length → Sta g B1 F A E σ H → J.go i H
  stops : ∀ F A E σ H, Sta g B1 F A E σ H → J.stop xs.length H
  yld : ∀ B' i F A E σ H v H' x, Nest g B1 B' → xs[i]? = some x → Sta g B' F A E σ H → J.yld i H v H' → ∃ F' A', Sta g B' F' A' E σ H' ∧ rp g F' v x
def Sr (g : Gx) (B : Bs) (E E1 : List Bd) (wi : TI) {α : Type} [Rp α] (xs : List α) : Prop :=
  ∀ F A σ H, Sta g B F A E σ H → ∀ R : It → Hp → Prop, (∀ F' A' H' J B1, Sta g B1 F' A' E1 σ H' → Nest g B B1 → Same F F' → Src g B1 J xs → R J H') → wi σ H R
/-- a target -/
def Tg (g : Gx) (tg : TG) {α : Type} [Rp α] (f : List Bd → α → List Bd) : Prop :=
  ∀ B F A E σ H v x, Sta g B F A E σ H → rp g F v x → ∀ Q : St → Hp → Prop, (∀ F' A' σ', Sta g B F' A' (f E x) σ' H → Q σ' H) → tg v σ H Q
def rng (lo hi : Int) : List Int := (List.range (hi - lo).toNat).map fun (i : Nat) => lo + (i : Int)
def rgOk (j : Int) : Bool := decide (-(2 ^ 62) ≤ j) && decide (j < 2 ^ 62)
section
variable {g : Gx} {B : Bs} {E E1 E2 E3 E' : List Bd} {ta tb tc te : TE} {α β γ : Type} [Rp α] [Rp β] [Rp γ]
theorem tg_n {i : Nat} : Tg g (gName i) (fun E (x : α) => E.set i (.kp x)) := fun B F A E σ H v x s r Q k => k F A _ (s.setk r)
theorem tg_p {i j : Nat} : Tg g (gTup g.K 2 (gCons (gName i) (gCons (gName j) gNil))) (fun E (x : α × β) => (E.set i (.kp x.1)).set j (.kp x.2)) := fun B F A E σ H v x s ⟨p, a, b, e, hp, r1, r2⟩ Q k =>
  ⟨p, [a, b], e, .of (s.ah _ _ (s.fa _ _ hp)), rfl, a, [b], rfl, b, [], rfl, rfl, k F A _ ((s.setk r1).setk r2)⟩
theorem tg_t {i j l : Nat} : Tg g (gTup g.K 3 (gCons (gName i) (gCons (gName j) (gCons (gName l) gNil)))) (fun E (x : T3 α β γ) => ((E.set i (.kp x.a)).set j (.kp x.b)).set l (.kp x.c)) := fun B F A E σ H v x s ⟨p, a, b, c, e, hp, r1, r2, r3⟩ Q k =>
  ⟨p, [a, b, c], e, .of (s.ah _ _ (s.fa _ _ hp)), rfl, a, [b, c], rfl, b, [c], rfl, c, [], rfl, rfl, k F A _ (((s.setk r1).setk r2).setk r3)⟩
theorem tg_q {δ : Type} [Rp δ] {i j l m : Nat} : Tg g (gTup g.K 4 (gCons (gName i) (gCons (gName j) (gCons (gName l) (gCons (gName m) gNil))))) (fun E (x : T4 α β γ δ) => (((E.set i (.kp x.a)).set j (.kp x.b)).set l (.kp x.c)).set m (.kp x.d)) := fun B F A E σ H v x s ⟨p, a, b, c, d, e, hp, r1, r2, r3, r4⟩ Q k =>
  ⟨p, [a, b, c, d], e, .of (s.ah _ _ (s.fa _ _ hp)), rfl, a, [b, c, d], rfl, b, [c, d], rfl, c, [d], rfl, d, [], rfl, rfl, k F A _ ((((s.setk r1).setk r2).setk r3).setk r4)⟩
theorem tg_5 {δ ε : Type} [Rp δ] [Rp ε] {i j l m n : Nat} : Tg g (gTup g.K 5 (gCons (gName i) (gCons (gName j) (gCons (gName l) (gCons (gName m) (gCons (gName n) gNil)))))) (fun E (x : T5 α β γ δ ε) => ((((E.set i (.kp x.a)).set j (.kp x.b)).set l (.kp x.c)).set m (.kp x.d)).set n (.kp x.e)) := fun B F A E σ H v x s ⟨p, a, b, c, d, f, e, hp, r1, r2, r3, r4, r5⟩ Q k =>
  ⟨p, [a, b, c, d, f], e, .of (s.ah _ _ (s.fa _ _ hp)), rfl, a, [b, c, d, f], rfl, b, [c, d, f], rfl, c, [d, f], rfl, d, [f], rfl, f, [], rfl, rfl, k F A _ (((((s.setk r1).setk r2).setk r3).setk r4).setk r5)⟩
/-- unpacking in an assignment -/
theorem sx_asgT {D : Ends} {tg : TG} {x : α} {f : List Bd → α → List Bd} (hx : Px g B E E1 te x) (ht : Tg g tg f) (h : ∀ σ H, Sp' g B (f E1 x) σ H → D.nx σ H) : Sx g B E (tAsg te tg) D := fun F A σ H s =>
  hx F A σ H s _ fun F1 A1 H1 v s1 e1 r => ht B F1 A1 E1 σ H1 v x s1 r _ fun F' A' σ' s' => h _ _ ⟨F', A', s'⟩
theorem rng_len {lo hi : Int} : (rng lo hi).length = (hi - lo).toNat := by unfold rng; simp
theorem rng_get {lo hi : Int} {i : Nat} {x : Int} (h : (rng lo hi)[i]? = some x) : i < (hi - lo).toNat ∧ x = lo + i := by
  unfold rng at h
  rw [List.getElem?_map] at h
  cases e : (List.range (hi - lo).toNat)[i]? with
  | none => rw [e] at h; cases h
  | some j =>
    rw [e] at h
    obtain ⟨h1, h2⟩ := List.getElem?_eq_some_iff.mp e
    simp at h1 h2
    subst h2
    cases h
    exact ⟨by simpa using h1, rfl⟩
theorem src_rng {B1 : Bs} {lo hi : Int} : Src g B1 (Itr lo (hi - lo).toNat) (rng lo hi) where
  goes := fun i F A E σ H h _ => by rw [rng_len] at h; exact h
  stops := fun F A E σ H _ => by rw [rng_len]; exact Nat.le_refl _
  yld := fun B' i F A E σ H v H' x n hx s y => by
    obtain ⟨e, ev⟩ := y
    subst e
    exact ⟨F, A, s, by rw [(rng_get hx).2]; exact ev⟩
theorem sr_r1 {n : Int} (h : Px g B E E1 ta n) (hn : rgOk n = true) : Sr g B E E1 (iRng1 (tCons ta tNil)) (rng 0 n) := fun F A σ H s R k =>
  h F A σ H s _ fun F1 A1 H1 v s1 e1 rv => by
    have rv : v = .int n := rv
    subst rv
    unfold rgOk at hn
    simp only [Bool.and_eq_true, decide_eq_true_eq] at hn
    refine ⟨n, rfl, hn.1, hn.2, ?_⟩
    have := k F1 A1 H1 (Itr 0 (n - 0).toNat) B s1 Nest.refl e1 src_rng
    rwa [Int.sub_zero] at this
theorem sr_r2 {lo n : Int} (ha : Px g B E E1 ta lo) (hb : Px g B E1 E2 tb n) (hl : rgOk lo = true) (hn : rgOk n = true) : Sr g B E E2 (iRng2 (tCons ta (tCons tb tNil))) (rng lo n) := fun F A σ H s R k =>
  ha F A σ H s _ fun F1 A1 H1 v s1 e1 rv => hb F1 A1 σ H1 s1 _ fun F2 A2 H2 w s2 e2 rw => by
    have rv : v = .int lo := rv
    have rw : w = .int n := rw
    subst rv; subst rw
    unfold rgOk at hn hl
    simp only [Bool.and_eq_true, decide_eq_true_eq] at hn hl
    exact ⟨lo, n, rfl, ⟨hl.1, hl.2, hn.1, hn.2⟩, k F2 A2 H2 _ B s2 Nest.refl (e1.trans e2) src_rng⟩
/-- range(i, j, -1) -/
def rngD (i j : Int) : List Int := (List.range (i - j).toNat).map fun (k : Nat) => i - (k : Int)
theorem rngD_len {lo hi : Int} : (rngD lo hi).length = (lo - hi).toNat := by unfold rngD; simp
theorem sr_rD {lo n : Int} (ha : Px g B E E1 ta lo) (hb : Px g B E1 E2 tb n) (hc : Px g B E2 E3 tc (-1 : Int)) (hl : rgOk lo = true) (hn : rgOk n = true) : Sr g B E E3 (iRng3 (tCons ta (tCons tb (tCons tc tNil)))) (rngD lo n) := fun F A σ H s R k =>
  ha F A σ H s _ fun F1 A1 H1 v s1 e1 rv => hb F1 A1 σ H1 s1 _ fun F2 A2 H2 w s2 e2 rw => hc F2 A2 σ H2 s2 _ fun F3 A3 H3 u s3 e3 ru => by
    have rv : v = .int lo := rv
    have rw : w = .int n := rw
    have ru : u = .int (-1) := ru
    subst rv; subst rw; subst ru
    unfold rgOk at hn hl
    simp only [Bool.and_eq_true, decide_eq_true_eq] at hn hl
    refine ⟨lo, n, -1, (lo - n).toNat, rfl, RgC.neg hl.1 hl.2 hn.1 hn.2, k F3 A3 H3 _ B s3 Nest.refl ((e1.trans e2).trans e3) ⟨fun i F A E σ H h _ => by rw [rngD_len] at h; exact h, fun F A E σ H _ => by rw [rngD_len]; exact Nat.le_refl _, fun B' i F A E σ H v H' x nB hx s y => ?_⟩⟩
    obtain ⟨e, ev⟩ := y
    subst e
    refine ⟨F, A, s, ?_⟩
    unfold rngD at hx
    rw [List.getElem?_map] at hx
    cases e : (List.range (lo - n).toNat)[i]? with
    | none => rw [e] at hx; cases hx
    | some j =>
      rw [e] at hx
      obtain ⟨h1, h2⟩ := List.getElem?_eq_some_iff.mp e
      simp at h1 h2
      subst h2
      cases hx
      show v = V.int _
      rw [ev]
      congr 1
      show lo + (i : Int) * (-1) = lo - (i : Int)
      omega
theorem sr_list {xs : List α} (h : Px g B E E1 te xs) : Sr g B E E1 (iList g.K te) xs := fun F A σ H s R k =>
  h F A σ H s _ fun F1 A1 H1 v s1 e1 ⟨p, vs, ev, hp, r⟩ => by
    obtain ⟨s2, n⟩ := s1.rebase
    refine ⟨p, ev, ⟨vs, .of (s1.ah _ _ (s1.fa _ _ hp))⟩, k F1 A1 H1 (Itl g.K p) _ s2 n e1 ?_⟩
    have at_ : ∀ {F A E σ H}, Sta g (B.to F1 A1) F A E σ H → SqL g.K H p vs := fun s => .of (s.ah _ _ (s.a0 _ _ (s1.fa _ _ hp)))
    refine ⟨fun i F A E σ H hi s => ?_, fun F A E σ H s => ⟨vs, at_ s, by rw [rps_len r]; exact Nat.le_refl _⟩, fun B' i F A E σ H v' H' x nB hx s y => ?_⟩
    · rw [← rps_len r] at hi
      exact ⟨vs, vs[i], at_ s, by simp [hi]⟩
    · obtain ⟨e, y⟩ := y
      subst e
      obtain ⟨u, hu, ru⟩ := rps_get r hx
      have s0 := nB.2 _ _ _ _ _ s
      have := y vs (at_ s0)
      rw [hu] at this
      cases this
      exact ⟨F, A, s, Rp.mono s0.f0 ru⟩
/-- over a borrowed list of flat things -/
theorem sr_listb [At α] {xs : List α} {i : Nat} (h : E[i]? = some (.bo xs)) : Sr g B E E (iList g.K (tVar i)) xs := fun F A σ H s R k => by
  obtain ⟨v, e, p, vs, ev, hp, r⟩ := s.sl i _ h
  obtain ⟨s2, n⟩ := s.rebase
  refine ⟨v, e, p, ev, ⟨vs, .of (s.ah _ _ hp)⟩, k F A H (Itl g.K p) _ s2 n (Same.refl _) ?_⟩
  have at_ : ∀ {F' A' E σ H}, Sta g (B.to F A) F' A' E σ H → SqL g.K H p vs := fun s => .of (s.ah _ _ (s.a0 _ _ hp))
  refine ⟨fun i F A E σ H hi s => ?_, fun F A E σ H s => ⟨vs, at_ s, by rw [rps_len r]; exact Nat.le_refl _⟩, fun B' i F A E σ H v' H' x nB hx s y => ?_⟩
  · rw [← rps_len r] at hi
    exact ⟨vs, vs[i], at_ s, by simp [hi]⟩
  · obtain ⟨e, y⟩ := y
    subst e
    obtain ⟨u, hu, ru⟩ := rps_get r hx
    have := y vs (at_ (nB.2 _ _ _ _ _ s))
    rw [hu] at this
    cases this
    exact ⟨F, A, s, At.any ru⟩
theorem sr_str {t : Tx} (h : Px g B E E1 te t) : Sr g B E E1 (iStr te) (t.map fun c => ([c] : Tx)) := fun F A σ H s R k =>
  h F A σ H s _ fun F1 A1 H1 v s1 e1 rv => by
    have rv : v = .str (Tx.s t) := rv
    refine ⟨Tx.s t, rv, k F1 A1 H1 (Its (Tx.s t)) B s1 Nest.refl e1 ⟨fun i F A E σ H hi s => ?_, fun F A E σ H s => ?_, fun B' i F A E σ H v' H' x nB hx s y => ?_⟩⟩
    · show i < t.toArray.size
      simpa using hi
    · show t.toArray.size ≤ _
      simp
    · obtain ⟨e, c, hc, ev⟩ := y
      subst e
      refine ⟨F, A, s, ?_⟩
      have hc : t.toArray[i]? = some c := hc
      rw [List.getElem?_map] at hx
      simp at hc
      rw [hc] at hx
      cases hx
      exact ev
/-- enumerate(list) -/
def enumL {δ : Type} (xs : List δ) : List (Int × δ) := (xs.zipIdx 0).map fun x => ((x.2 : Int), x.1)
theorem enumL_get {δ : Type} {xs : List δ} {i : Nat} {x : Int × δ} (h : (enumL xs)[i]? = some x) : x.1 = (i : Int) ∧ xs[i]? = some x.2 := by
  unfold enumL at h
  rw [List.getElem?_map, List.getElem?_zipIdx] at h
  cases e : xs[i]? with
  | none => rw [e] at h; cases h
  | some y => rw [e] at h; cases h; exact ⟨by simp, rfl⟩
theorem enumL_len {δ : Type} {xs : List δ} : (enumL xs).length = xs.length := by unfold enumL; simp
theorem sr_enum {xs : List α} (h : Px g B E E1 te xs) : Sr g B E E1 (iEnum g.K (tCons te tNil)) (enumL xs) := fun F A σ H s R k =>
  h F A σ H s _ fun F1 A1 H1 v s1 e1 ⟨p, vs, ev, hp, r⟩ => by
    subst ev
    obtain ⟨s2, n⟩ := s1.rebase
    refine ⟨p, vs, rfl, .of (s1.ah _ _ (s1.fa _ _ hp)), k F1 A1 H1 (Ite g.K p) _ s2 n e1 ?_⟩
    have at_ : ∀ {F A E σ H}, Sta g (B.to F1 A1) F A E σ H → SqL g.K H p vs := fun s => .of (s.ah _ _ (s.a0 _ _ (s1.fa _ _ hp)))
    have w := walk_enum (K := g.K) (a := p) (xs := vs)
    have hl : (enumL xs).length = vs.length := by rw [enumL_len, rps_len r]
    refine ⟨fun i F A E σ H hi s => w.goes i H (hl ▸ hi) (at_ s), fun F A E σ H s => hl ▸ w.stops H (at_ s), fun B' i F A E σ H v' H' x nB hx s y => ?_⟩
    obtain ⟨hx1, hx2⟩ := enumL_get hx
    have hi : i < vs.length := by rw [rps_len r]; exact (List.getElem?_eq_some_iff.mp hx2).1
    have s0 := nB.2 _ _ _ _ _ s
    obtain ⟨T, a, b, e1, nT, e2, e3, e4⟩ := w.yields i H v' H' hi (at_ s0) y
    obtain ⟨u, hu, ru⟩ := rps_get r hx2
    have e4 : vs[i]? = some b := e4
    have e3 : some (V.int ((i : Nat) : Int)) = some a := e3
    have e5 : b = u := Option.some.inj (e4.symm.trans hu)
    have e6 : a = V.int ((i : Nat) : Int) := (Option.some.inj e3).symm
    subst e5; subst e6
    subst e1; subst e2
    obtain ⟨s3, nn⟩ := s.alloc (o := .tup [.int ((i : Nat) : Int), b]) nT
    obtain ⟨F4, A4, s4, hF, hA, hp4⟩ := s3.keep nn
    exact ⟨F4, A4, s4, T, _, _, rfl, hp4, by rw [hx1]; rfl, Rp.mono (s0.f0.trans hF) ru⟩
/-- zip(list, list) -/
theorem sr_zip {xs : List α} {ys : List β} (h : Px g B E E1 ta xs) (h' : Px g B E1 E2 tb ys) : Sr g B E E2 (iZip g.K (tCons ta (tCons tb tNil))) (xs.zip ys) := fun F A σ H s R k =>
  h F A σ H s _ fun F0 A0 H0 v0 s0 e0 ⟨p, vs, ev, hp, r⟩ => h' F0 A0 σ H0 s0 _ fun F1 A1 H1 v s1 e0' ⟨q, ws, ew, hq, r'⟩ => by
    subst ev; subst ew
    obtain ⟨s2, n⟩ := s1.rebase
    have hp1 := e0' _ _ hp
    refine ⟨p, q, vs, ws, rfl, .of (s1.ah _ _ (s1.fa _ _ hp1)), .of (s1.ah _ _ (s1.fa _ _ hq)), k F1 A1 H1 (Itz g.K p q) _ s2 n (e0.trans e0') ?_⟩
    have at_ : ∀ {F A E σ H}, Sta g (B.to F1 A1) F A E σ H → SqL g.K H p vs ∧ SqL g.K H q ws := fun s => ⟨.of (s.ah _ _ (s.a0 _ _ (s1.fa _ _ hp1))), .of (s.ah _ _ (s.a0 _ _ (s1.fa _ _ hq)))⟩
    have w := walk_zip (K := g.K) (a := p) (b := q) (xs := vs) (ys := ws) (n := (xs.zip ys).length) (by rw [List.length_zip, rps_len r, rps_len r'])
    refine ⟨fun i F A E σ H hi s => w.goes i H hi (at_ s), fun F A E σ H s => w.stops H (at_ s), fun B' i F A E σ H v' H' x nB hx s y => ?_⟩
    have hi : i < (xs.zip ys).length := (List.getElem?_eq_some_iff.mp hx).1
    have sB := nB.2 _ _ _ _ _ s
    obtain ⟨T, a, b, e1, nT, e2, e3, e4⟩ := w.yields i H v' H' hi (at_ sB) y
    obtain ⟨hx1, hx2⟩ := List.getElem?_zip_eq_some.mp hx
    obtain ⟨u, hu, ru⟩ := rps_get r hx1
    obtain ⟨u', hu', ru'⟩ := rps_get r' hx2
    have e3 : vs[i]? = some a := e3
    have e4 : ws[i]? = some b := e4
    have e5 : a = u := Option.some.inj (e3.symm.trans hu)
    have e6 : b = u' := Option.some.inj (e4.symm.trans hu')
    subst e5; subst e6
    subst e1; subst e2
    obtain ⟨s3, nn⟩ := s.alloc (o := .tup [a, b]) nT
    obtain ⟨F4, A4, s4, hF, hA, hp4⟩ := s3.keep nn
    exact ⟨F4, A4, s4, T, _, _, rfl, hp4, Rp.mono (e0'.trans (sB.f0.trans hF)) ru, Rp.mono (sB.f0.trans hF) ru'⟩
end

/-! ### for -/
theorem loopR_bad {α S ρ : Type} {f : α → S → R (Stp S ρ)} : ∀ {xs : List α} {s : S}, loopR xs s f ≠ .bad → True := fun _ => trivial
section
variable {g : Gx} {B : Bs} {E E1 E2 E3 E' : List Bd} {ta tb' tc te : TE} {α β γ : Type} [Rp α] [Rp β] [Rp γ]
theorem for_core {S ρ : Type} {xs : List α} {Ei : S → List Bd} {body : α → S → R (Stp S ρ)} {out : R (Stp S ρ)} {J : It} {tg : TG} {tb : TS} {f : List Bd → α → List Bd} {D : Ends} {fin : ρ → Out} {X : Str → Gn.D → Prop} {B1 : Bs}
    (src : Src g B1 J xs) (htg : Tg g tg f) (hne : out ≠ .bad)
    (hret : ∀ y, out = .ok (.ret y) → DRt g B1 D.rt (fin y)) (hexc : ∀ c d, out = .ex c d → X c d)
    (hb : ∀ B' x s r' (D' : Ends), Nest g B1 B' → x ∈ xs → body x s = r' → r' ≠ .bad →
      (∀ s', r' = .ok (.go s') → ∀ σ H, Sp' g B' (Ei s') σ H → D'.nx σ H) → (∀ s', r' = .ok (.go s') → ∀ σ H, Sp' g B' (Ei s') σ H → D'.ct σ H) → (∀ s', r' = .ok (.brk s') → ∀ σ H, Sp' g B' (Ei s') σ H → D'.bk σ H) →
      (∀ y, r' = .ok (.ret y) → DRt g B' D'.rt (fin y)) → (∀ c d, r' = .ex c d → X c d) → Sx g B' (f (Ei s) x) tb D')
    (hk : ∀ s', (out = .ok (.go s') ∨ out = .ok (.brk s')) → ∀ σ H, Sp' g B1 (Ei s') σ H → D.nx σ H) :
    ∀ (i : Nat) (s : S) (σ : St) (H : Hp), i ≤ xs.length → loopR (xs.drop i) s body = out → Sp' g B1 (Ei s) σ H → 
    ∃ W : Nat → Nat → St → Hp → Prop, (∃ m, W i m σ H) ∧ ∀ i m σ H, W i m σ H →
      (J.stop i H ∧ D.nx σ H) ∨ (J.go i H ∧ ∃ N : St → Hp → Prop, (∀ σ' H', N σ' H' → ∃ m', m' < m ∧ W (i + 1) m' σ' H') ∧ ∀ x H', J.yld i H x H' → tg x σ H' fun σ2 H2 => tb { D with nx := N, ct := N, bk := D.nx } σ2 H2) := by
  intro i s σ H hi hL hs
  refine ⟨fun i m σ H => m = xs.length - i ∧ i ≤ xs.length ∧ ∃ s, loopR (xs.drop i) s body = out ∧ Sp' g B1 (Ei s) σ H, ⟨xs.length - i, rfl, hi, s, hL, hs⟩, ?_⟩
  rintro i m σ H ⟨rfl, hi, s, hL, F, A, hs⟩
  by_cases hlt : i < xs.length
  · right
    have hd : xs.drop i = xs[i] :: xs.drop (i + 1) := List.drop_eq_getElem_cons hlt
    rw [hd] at hL
    refine ⟨src.goes i F A _ σ H hlt hs, fun σ' H' => ∃ s', body xs[i] s = .ok (.go s') ∧ Sp' g B1 (Ei s') σ' H', fun σ' H' hN => ?_, fun v H' hy => ?_⟩
    · obtain ⟨s', h1, h2⟩ := hN
      unfold loopR at hL
      rw [h1] at hL
      exact ⟨xs.length - (i + 1), by omega, rfl, hlt, s', hL, h2⟩
    · obtain ⟨F', A', s2, rv⟩ := src.yld B1 i F A _ σ H v H' xs[i] Nest.refl (by simp [hlt]) hs hy
      refine htg B1 F' A' _ σ H' v xs[i] s2 rv _ fun F2 A2 σ2 s3 => ?_
      cases hr : body xs[i] s with
      | bad =>
        unfold loopR at hL
        rw [hr] at hL
        exact absurd hL.symm hne
      | ex c d =>
        unfold loopR at hL
        rw [hr] at hL
        exact hb B1 xs[i] s _ _ Nest.refl (List.getElem_mem hlt) hr (fun z => nomatch z) (fun s' z => nomatch z) (fun s' z => nomatch z) (fun s' z => nomatch z) (fun y z => nomatch z) (fun c' d' z => by cases z; exact hexc c d hL.symm) F2 A2 σ2 H' s3
      | ok st =>
        cases st with
        | go s' => exact hb B1 xs[i] s _ { D with nx := fun σ' H' => ∃ s'', (R.ok (Stp.go s') : R (Stp S ρ)) = .ok (.go s'') ∧ Sp' g B1 (Ei s'') σ' H', ct := fun σ' H' => ∃ s'', (R.ok (Stp.go s') : R (Stp S ρ)) = .ok (.go s'') ∧ Sp' g B1 (Ei s'') σ' H', bk := D.nx } Nest.refl (List.getElem_mem hlt) hr (fun z => nomatch z) (fun s'' z σ3 H3 h => ⟨s'', z, h⟩) (fun s'' z σ3 H3 h => ⟨s'', z, h⟩) (fun s' z => nomatch z) (fun y z => nomatch z) (fun c' d' z => nomatch z) F2 A2 σ2 H' s3
        | brk s' =>
          unfold loopR at hL
          rw [hr] at hL
          exact hb B1 xs[i] s _ _ Nest.refl (List.getElem_mem hlt) hr (fun z => nomatch z) (fun s' z => nomatch z) (fun s' z => nomatch z) (fun s'' z σ3 H3 h => by cases z; exact hk s' (.inr hL.symm) σ3 H3 h) (fun y z => nomatch z) (fun c' d' z => nomatch z) F2 A2 σ2 H' s3
        | ret y =>
          unfold loopR at hL
          rw [hr] at hL
          exact hb B1 xs[i] s _ _ Nest.refl (List.getElem_mem hlt) hr (fun z => nomatch z) (fun s' z => nomatch z) (fun s' z => nomatch z) (fun s' z => nomatch z) (fun y' z => by cases z; exact hret y hL.symm) (fun c' d' z => nomatch z) F2 A2 σ2 H' s3
  · left
    have e : i = xs.length := by omega
    subst e
    rw [List.drop_length] at hL
    exact ⟨src.stops F A _ σ H hs, hk s (.inl hL.symm) σ H ⟨F, A, hs⟩⟩
theorem sx_for {S ρ : Type} {xs : List α} {Ei : S → List Bd} {body : α → S → R (Stp S ρ)} {s0 : S} {out : R (Stp S ρ)} {wi : TI} {tg : TG} {tb : TS} {f : List Bd → α → List Bd} {D : Ends} {fin : ρ → Out} {X : Bs → Str → Gn.D → Prop}
    (hX : ∀ B B' c d, Nest g B B' → X B c d → X B' c d)
    (hsrc : Sr g B E E1 wi xs) (htg : Tg g tg f) (h0 : LeE E1 (Ei s0)) (hL : loopR xs s0 body = out) (hne : out ≠ .bad)
    (hret : ∀ y, out = .ok (.ret y) → DRt g B D.rt (fin y)) (hexc : ∀ c d, out = .ex c d → X B c d)
    (hb : ∀ B' x s r' (D' : Ends), Nest g B B' → x ∈ xs → body x s = r' → r' ≠ .bad →
      (∀ s', r' = .ok (.go s') → ∀ σ H, Sp' g B' (Ei s') σ H → D'.nx σ H) → (∀ s', r' = .ok (.go s') → ∀ σ H, Sp' g B' (Ei s') σ H → D'.ct σ H) → (∀ s', r' = .ok (.brk s') → ∀ σ H, Sp' g B' (Ei s') σ H → D'.bk σ H) →
      (∀ y, r' = .ok (.ret y) → DRt g B' D'.rt (fin y)) → (∀ c d, r' = .ex c d → X B' c d) → Sx g B' (f (Ei s) x) tb D')
    (hk : ∀ s', (out = .ok (.go s') ∨ out = .ok (.brk s')) → ∀ σ H, Sp' g B (Ei s') σ H → D.nx σ H) : Sx g B E (tFor wi tg tb) D := fun F A σ H s =>
  hsrc F A σ H s _ fun F1 A1 H1 J B1 s1 n _ src =>
    for_core (X := fun c d => X B1 c d) src htg hne (fun y e => (hret y e).nest n) (fun c d e => hX _ _ c d n (hexc c d e))
      (fun B' x s r' D' n' hm he hne' h1 h2 h3 h4 h5 => hb B' x s r' D' (n.trans n') hm he hne' h1 h2 h3 h4 fun c d e => hX _ _ c d n' (h5 c d e))
      (fun s' h σ H ⟨F, A, q⟩ => hk s' h σ H ⟨F, A, n.2 _ _ _ _ _ q⟩) 0 s0 σ H1 (Nat.zero_le _) (by rw [List.drop_zero]; exact hL) ⟨F1, A1, s1.weak h0⟩
/-- a for that always goes through -/
theorem fold_loop {δ S ρ : Type} {f : δ → S → R S} : ∀ {xs : List δ} {s : S}, loopR (ρ := ρ) xs s (fun x s => (f x s).bind fun s' => .ok (.go s')) = (foldR xs s f).bind fun s' => .ok (.go s')
  | [], s => rfl
  | x :: xs, s => by
    unfold loopR foldR
    show (match ((f x s).bind fun s' => (.ok (.go s') : R (Stp S ρ))) with | .ok (.go s') => loopR xs s' (fun x s => (f x s).bind fun s' => .ok (.go s')) | r => r) = _
    cases f x s with
    | ok s' => exact fold_loop
    | ex c d => rfl
    | bad => rfl
theorem sx_fold {S : Type} {xs : List α} {Ei : S → List Bd} {body : α → S → R S} {s0 : S} {out : R S} {wi : TI} {tg : TG} {tb : TS} {f : List Bd → α → List Bd} {D : Ends} {X : Bs → Str → Gn.D → Prop}
    (hX : ∀ B B' c d, Nest g B B' → X B c d → X B' c d)
    (hsrc : Sr g B E E1 wi xs) (htg : Tg g tg f) (h0 : LeE E1 (Ei s0)) (hL : foldR xs s0 body = out) (hne : out ≠ .bad) (hexc : ∀ c d, out = .ex c d → X B c d)
    (hb : ∀ B' x s r' (D' : Ends), Nest g B B' → x ∈ xs → body x s = r' → r' ≠ .bad →
      (∀ s', r' = .ok s' → ∀ σ H, Sp' g B' (Ei s') σ H → D'.nx σ H) → (∀ s', r' = .ok s' → ∀ σ H, Sp' g B' (Ei s') σ H → D'.ct σ H) → (∀ c d, r' = .ex c d → X B' c d) → Sx g B' (f (Ei s) x) tb D')
    (hk : ∀ s', out = .ok s' → ∀ σ H, Sp' g B (Ei s') σ H → D.nx σ H) : Sx g B E (tFor wi tg tb) D := by
  refine sx_for (ρ := Empty) (X := X) (fin := fun y => nomatch y) (body := fun x s => (body x s).bind fun s' => .ok (.go s')) hX hsrc htg h0 (fold_loop (f := body)) ?_ (fun y => nomatch y) (fun c d e => ?_) (fun B' x s r' D' n hm hr hne' h1 h2 h3 h4 h5 => ?_) (fun s' h => ?_)
  · rw [hL]
    cases out with
    | ok s => exact fun z => nomatch z
    | ex c d => exact fun z => nomatch z
    | bad => exact absurd rfl hne
  · rw [hL] at e
    cases out with
    | ok s => cases e
    | ex c' d' => cases e; exact hexc _ _ rfl
    | bad => cases e
  · cases hb2 : body x s with
    | ok s' =>
      rw [hb2] at hr
      have hr : R.ok (Stp.go s') = r' := hr
      subst hr
      exact hb B' x s _ D' n hm hb2 (fun z => nomatch z) (fun s'' e => by cases e; exact h1 s' rfl) (fun s'' e => by cases e; exact h2 s' rfl) (fun c d e => nomatch e)
    | ex c d =>
      rw [hb2] at hr
      have hr : R.ex c d = r' := hr
      subst hr
      exact hb B' x s _ D' n hm hb2 (fun z => nomatch z) (fun s'' e => nomatch e) (fun s'' e => nomatch e) (fun c' d' e => by cases e; exact h5 c d rfl)
    | bad =>
      rw [hb2] at hr
      exact absurd hr.symm hne'
  · rw [hL] at h
    cases out with
    | ok s =>
      have e : s = s' := by
        rcases h with h | h
        · cases h; rfl
        · cases h
      subst e
      exact hk s rfl
    | ex c d => rcases h with h | h <;> cases h
    | bad => rcases h with h | h <;> cases h
/-! ### while -/
theorem while_core {S ρ : Type} {Ei : S → List Bd} {cond : S → R Bool} {body : S → R (Stp S ρ)} {out : R (Stp S ρ)} {tt : TT} {tb : TS} {D : Ends} {fin : ρ → Out} {X : Str → Gn.D → Prop}
    (hne : out ≠ .bad) (hret : ∀ y, out = .ok (.ret y) → DRt g B D.rt (fin y)) (hexc : ∀ c d, out = .ex c d → X c d)
    (hc : ∀ s b, cond s = b → b ≠ .bad → (∃ c, b = .ok c ∧ PxT g B (Ei s) (Ei s) tt c))
    (hb : ∀ s r' (D' : Ends), cond s = .ok true → body s = r' → r' ≠ .bad →
      (∀ s', r' = .ok (.go s') → ∀ σ H, Sp' g B (Ei s') σ H → D'.nx σ H) → (∀ s', r' = .ok (.go s') → ∀ σ H, Sp' g B (Ei s') σ H → D'.ct σ H) → (∀ s', r' = .ok (.brk s') → ∀ σ H, Sp' g B (Ei s') σ H → D'.bk σ H) →
      (∀ y, r' = .ok (.ret y) → DRt g B D'.rt (fin y)) → (∀ c d, r' = .ex c d → X c d) → Sx g B (Ei s) tb D')
    (hk : ∀ s', (out = .ok (.go s') ∨ out = .ok (.brk s')) → ∀ σ H, Sp' g B (Ei s') σ H → D.nx σ H) {n : Nat} {s : S} {σ : St} {H : Hp} (hL : whileR cond body n s = out) (hs : Sp' g B (Ei s) σ H) : tWhile tt tb D σ H := by
  refine ⟨fun m σ H => ∃ s, whileR cond body m s = out ∧ Sp' g B (Ei s) σ H, ⟨n, s, hL, hs⟩, ?_⟩
  rintro m σ H ⟨s, hL, F, A, hs⟩
  cases m with
  | zero => exact absurd hL.symm hne
  | succ m =>
    unfold whileR at hL
    obtain ⟨c, ec, ht⟩ := hc s (cond s) rfl (fun z => by rw [z] at hL; exact hne hL.symm)
    rw [ec] at hL
    refine ht F A σ H hs _ fun F1 A1 H1 s1 e1 => ?_
    cases c with
    | false =>
      rw [if_neg Bool.false_ne_true]
      exact hk s (.inl hL.symm) σ H1 ⟨F1, A1, s1⟩
    | true =>
      rw [if_pos rfl]
      have hL : (match body s with | .ok (.go s') => whileR cond body m s' | r => r) = out := hL
      refine ⟨fun σ' H' => ∃ s', body s = .ok (.go s') ∧ Sp' g B (Ei s') σ' H', fun σ' H' hN => ?_, ?_⟩
      · obtain ⟨s', h1, h2⟩ := hN
        rw [h1] at hL
        exact ⟨m, Nat.lt_succ_self _, s', hL, h2⟩
      · cases hr : body s with
        | bad => rw [hr] at hL; exact absurd hL.symm hne
        | ex c d =>
          rw [hr] at hL
          exact hb s _ _ ec hr (fun z => nomatch z) (fun s' z => nomatch z) (fun s' z => nomatch z) (fun s' z => nomatch z) (fun y z => nomatch z) (fun c' d' z => by cases z; exact hexc c d hL.symm) F1 A1 σ H1 s1
        | ok st =>
          cases st with
          | go s' => exact hb s _ { D with nx := fun σ' H' => ∃ s'', (R.ok (Stp.go s') : R (Stp S ρ)) = .ok (.go s'') ∧ Sp' g B (Ei s'') σ' H', ct := fun σ' H' => ∃ s'', (R.ok (Stp.go s') : R (Stp S ρ)) = .ok (.go s'') ∧ Sp' g B (Ei s'') σ' H', bk := D.nx } ec hr (fun z => nomatch z) (fun s'' z σ3 H3 h => ⟨s'', z, h⟩) (fun s'' z σ3 H3 h => ⟨s'', z, h⟩) (fun s' z => nomatch z) (fun y z => nomatch z) (fun c' d' z => nomatch z) F1 A1 σ H1 s1
          | brk s' =>
            rw [hr] at hL
            exact hb s _ _ ec hr (fun z => nomatch z) (fun s' z => nomatch z) (fun s' z => nomatch z) (fun s'' z σ3 H3 h => by cases z; exact hk s' (.inr hL.symm) σ3 H3 h) (fun y z => nomatch z) (fun c' d' z => nomatch z) F1 A1 σ H1 s1
          | ret y =>
            rw [hr] at hL
            exact hb s _ _ ec hr (fun z => nomatch z) (fun s' z => nomatch z) (fun s' z => nomatch z) (fun s' z => nomatch z) (fun y' z => by cases z; exact hret y hL.symm) (fun c' d' z => nomatch z) F1 A1 σ H1 s1
theorem sx_while {S ρ : Type} {Ei : S → List Bd} {cond : S → R Bool} {body : S → R (Stp S ρ)} {s0 : S} {out : R (Stp S ρ)} {n : Nat} {tt : TT} {tb : TS} {D : Ends} {fin : ρ → Out} {X : Str → Gn.D → Prop}
    (h0 : LeE E (Ei s0)) (hL : whileR cond body n s0 = out) (hne : out ≠ .bad) (hret : ∀ y, out = .ok (.ret y) → DRt g B D.rt (fin y)) (hexc : ∀ c d, out = .ex c d → X c d)
    (hc : ∀ s b, cond s = b → b ≠ .bad → (∃ c, b = .ok c ∧ PxT g B (Ei s) (Ei s) tt c))
    (hb : ∀ s r' (D' : Ends), cond s = .ok true → body s = r' → r' ≠ .bad →
      (∀ s', r' = .ok (.go s') → ∀ σ H, Sp' g B (Ei s') σ H → D'.nx σ H) → (∀ s', r' = .ok (.go s') → ∀ σ H, Sp' g B (Ei s') σ H → D'.ct σ H) → (∀ s', r' = .ok (.brk s') → ∀ σ H, Sp' g B (Ei s') σ H → D'.bk σ H) →
      (∀ y, r' = .ok (.ret y) → DRt g B D'.rt (fin y)) → (∀ c d, r' = .ex c d → X c d) → Sx g B (Ei s) tb D')
    (hk : ∀ s', (out = .ok (.go s') ∨ out = .ok (.brk s')) → ∀ σ H, Sp' g B (Ei s') σ H → D.nx σ H) : Sx g B E (tWhile tt tb) D := fun F A σ H s =>
  while_core hne hret hexc hc hb hk hL ⟨F, A, s.weak h0⟩
/-! ### comprehensions -/
def wipeE (E : List Bd) : List Nat → List Bd
  | [] => E
  | v :: vs => (wipeE E vs).set v .un
theorem wipeE_len : ∀ {vs : List Nat}, (wipeE E vs).length = E.length
  | [] => rfl
  | v :: vs => by unfold wipeE; rw [List.length_set, wipeE_len]
theorem wipeE_get {i : Nat} {b : Bd} : ∀ {vs : List Nat}, (wipeE E vs)[i]? = some b → b = .un ∨ (i ∉ vs ∧ E[i]? = some b)
  | [], h => .inr ⟨by simp, h⟩
  | v :: vs, h => by
    unfold wipeE at h
    by_cases hi : i = v
    · subst hi
      have hl : i < (wipeE E vs).length := by
        have := (List.getElem?_eq_some_iff.mp h).1
        simpa using this
      rw [List.getElem?_set_self hl] at h
      cases h; exact .inl rfl
    · rw [List.getElem?_set_ne (Ne.symm hi)] at h
      rcases wipeE_get h with e | ⟨h1, h2⟩
      · exact .inl e
      · exact .inr ⟨by simp [hi, h1], h2⟩
theorem wipeE_out {i : Nat} : ∀ {vs : List Nat}, i ∉ vs → (wipeE E vs)[i]? = E[i]?
  | [], _ => rfl
  | v :: vs, h => by
    unfold wipeE
    simp only [List.mem_cons, not_or] at h
    rw [List.getElem?_set_ne (Ne.symm h.1)]
    exact wipeE_out h.2
theorem wipe_out {σ : St} {i : Nat} : ∀ {vs : List Nat}, i ∉ vs → (wipe σ vs)[i]? = σ[i]?
  | [], _ => rfl
  | v :: vs, h => by
    unfold wipe
    simp only [List.mem_cons, not_or] at h
    rw [List.getElem?_set_ne (Ne.symm h.1)]
    exact wipe_out h.2
/-- the slots of vs are forgotten -/
theorem Sta.wipe {F A H : Hp} {σ : St} (s : Sta g B F A E σ H) (vs : List Nat) {σ' : St} (hl : σ'.length = σ.length) (hσ : ∀ i, i ∉ vs → σ'[i]? = σ[i]?) : Sta g B F A (wipeE E vs) σ' H := by
  have ow : ∀ i p, Own (wipeE E vs) σ' i p → Own E σ i p := fun i p ⟨e1, b, hb, hbo⟩ => by
    rcases wipeE_get hb with z | ⟨h1, h2⟩
    · subst z; exact hbo.elim
    · exact ⟨by rw [← hσ i h1]; exact e1, b, h2, hbo⟩
  refine ⟨by rw [wipeE_len, hl]; exact s.len, s.fa, s.ah, s.f0, s.a0, s.fr, s.inn, fun i b e => ?_, fun i j p h1 h2 => s.ne i j p (ow i p h1) (ow j p h2), fun a o e => ?_⟩
  · rcases wipeE_get e with z | ⟨h1, h2⟩
    · subst z; trivial
    · rw [hσ i h1]; exact s.sl i b h2
  · obtain ⟨h1, h2, h3⟩ := s.pr a o e
    exact ⟨h1, h2, fun i q => h3 i (ow i a q)⟩
/-- and are as they were -/
theorem Sta.unwipe {F A H F1 A1 H1 : Hp} {σ σ2 : St} {E0 : List Bd} (s0 : Sta g B F1 A1 E0 σ H1) {vs : List Nat} (s : Sta g (B.to F1 A1) F A (wipeE E vs) σ2 H) (hl : σ2.length = σ.length) (hσ : ∀ i, i ∉ vs → σ2[i]? = σ[i]?) (hle : E.length = E0.length)
    (hv : ∀ i ∈ vs, E[i]? = E0[i]? ∧ ∀ b, E[i]? = some b → ¬ b.isO) : Sta g (B.to F1 A1) F A E σ H := by
  have ow : ∀ i p, Own E σ i p → Own (wipeE E vs) σ2 i p := fun i p ⟨e1, b, hb, hbo⟩ => by
    by_cases hi : i ∈ vs
    · exact absurd hbo ((hv i hi).2 b hb)
    · exact ⟨by rw [hσ i hi]; exact e1, b, by rw [wipeE_out hi]; exact hb, hbo⟩
  refine ⟨by rw [hle]; exact s0.len, s.fa, s.ah, s.f0, s.a0, s.fr, s.inn, fun i b e => ?_, fun i j p h1 h2 => s.ne i j p (ow i p h1) (ow j p h2), fun a o e => ?_⟩
  · by_cases hi : i ∈ vs
    · obtain ⟨h1, h2⟩ := hv i hi
      have q := s0.sl i b (h1 ▸ e)
      refine q.mono s.f0 s.a0 fun p _ hb => absurd hb (h2 b e)
    · rw [← hσ i hi]
      exact s.sl i b (by rw [wipeE_out hi]; exact e)
  · obtain ⟨h1, h2, h3⟩ := s.pr a o e
    exact ⟨h1, h2, fun i q => h3 i (ow i a q)⟩
/-- a target of a comprehension: it stores to slots of vs -/
structure TgC (g : Gx) (tg : TG) (vs : List Nat) {α : Type} [Rp α] (f : List Bd → α → List Bd) : Prop where
  go : ∀ B F A E σ H v x, Sta g B F A E σ H → rp g F v x → ∀ Q : St → Hp → Prop, (∀ σ', Sta g B F A (f E x) σ' H → σ'.length = σ.length → (∀ i, i ∉ vs → σ'[i]? = σ[i]?) → Q σ' H) → tg v σ H Q
theorem tc_n {i : Nat} {vs : List Nat} (hi : i ∈ vs) : TgC g (gName i) vs (fun E (x : α) => E.set i (.kp x)) := ⟨fun B F A E σ H v x s r Q k => k _ (s.setk r) (by simp) fun j hj => List.getElem?_set_ne (show i ≠ j from fun z => hj (z ▸ hi))⟩
theorem tc_p {i j : Nat} {vs : List Nat} (hi : i ∈ vs) (hj : j ∈ vs) : TgC g (gTup g.K 2 (gCons (gName i) (gCons (gName j) gNil))) vs (fun E (x : α × β) => (E.set i (.kp x.1)).set j (.kp x.2)) := ⟨fun B F A E σ H v x s ⟨p, a, b, e, hp, r1, r2⟩ Q k =>
  ⟨p, [a, b], e, .of (s.ah _ _ (s.fa _ _ hp)), rfl, a, [b], rfl, b, [], rfl, rfl, k _ ((s.setk r1).setk r2) (by simp) fun l hl => by
    rw [List.getElem?_set_ne (show j ≠ l from fun z => hl (z ▸ hj)), List.getElem?_set_ne (show i ≠ l from fun z => hl (z ▸ hi))]⟩⟩
theorem tc_q {δ : Type} [Rp δ] {i j l m : Nat} {vs : List Nat} (hi : i ∈ vs) (hj : j ∈ vs) (hl : l ∈ vs) (hm : m ∈ vs) : TgC g (gTup g.K 4 (gCons (gName i) (gCons (gName j) (gCons (gName l) (gCons (gName m) gNil))))) vs (fun E (x : T4 α β γ δ) => (((E.set i (.kp x.a)).set j (.kp x.b)).set l (.kp x.c)).set m (.kp x.d)) := ⟨fun B F A E σ H v x s ⟨p, a, b, c, d, e, hp, r1, r2, r3, r4⟩ Q k =>
  ⟨p, [a, b, c, d], e, .of (s.ah _ _ (s.fa _ _ hp)), rfl, a, [b, c, d], rfl, b, [c, d], rfl, c, [d], rfl, d, [], rfl, rfl, k _ ((((s.setk r1).setk r2).setk r3).setk r4) (by simp) fun n hn => by
    rw [List.getElem?_set_ne (show m ≠ n from fun z => hn (z ▸ hm)), List.getElem?_set_ne (show l ≠ n from fun z => hn (z ▸ hl)), List.getElem?_set_ne (show j ≠ n from fun z => hn (z ▸ hj)), List.getElem?_set_ne (show i ≠ n from fun z => hn (z ▸ hi))]⟩⟩
theorem wipe_eq {σ σ' : St} {vs : List Nat} (hl : σ'.length = σ.length) (h : ∀ i, i ∉ vs → σ'[i]? = (L2.wipe σ vs)[i]?) : L2.wipe σ' vs = L2.wipe σ vs := by
  apply List.ext_getElem?
  intro i
  by_cases hi : i ∈ vs
  · have key : ∀ (τ : St) (ws : List Nat), i ∈ ws → (L2.wipe τ ws)[i]? = if i < τ.length then some none else none := fun τ ws => by
      induction ws with
      | nil => intro h; cases h
      | cons w ws ih =>
        intro h
        unfold L2.wipe
        by_cases hw : w = i
        · subst hw
          by_cases hl : w < τ.length
          · rw [List.getElem?_set_self (by rw [wipe_length]; exact hl), if_pos hl]
          · rw [List.getElem?_eq_none (by rw [List.length_set, wipe_length]; omega), if_neg hl]
        · rw [List.getElem?_set_ne hw]
          rcases List.mem_cons.mp h with e | h
          · exact absurd e.symm hw
          · exact ih h
    rw [key σ' vs hi, key σ vs hi, hl]
  · rw [wipe_out hi, h i hi]
theorem pt_yes : PxT g B E E tYes true := fun F A σ H s Q k => k F A H s (Same.refl _)
theorem pn_comp {S : Type} {xs : List α} {ys : List β} {s0 sN : S} {Es : S → List Bd} {fn : α → S → R (Option β × S)} {wi : TI} {tg : TG} {tt : TT} {te : TE} {vs : List Nat} {f : List Bd → α → List Bd}
    (hsrc : Sr g B E (Es s0) wi xs) (htg : TgC g tg vs f) (hC : compR xs s0 fn = .ok (ys, sN)) (hz : sz xs.length = true) (hlen : ∀ s, (Es s).length = (Es s0).length) (hv : ∀ s, ∀ i ∈ vs, (Es s)[i]? = (Es s0)[i]? ∧ ∀ b, (Es s)[i]? = some b → ¬ b.isO)
    (hb : ∀ B' x s r, Nest g B B' → x ∈ xs → fn x s = .ok r → ∃ b E2, PxT g B' (f (wipeE (Es s) vs) x) E2 tt b ∧ (b = true → ∃ y E3, r.1 = some y ∧ Px g B' E2 E3 te y ∧ LeE E3 (wipeE (Es r.2) vs)) ∧ (b = false → r.1 = none ∧ LeE E2 (wipeE (Es r.2) vs))) :
    PxN g B E (Es sN) (tLc wi tg tt te vs) ys := fun F A σ H s Q k => by
  -- what has been made of the first i
  have split : ∀ (i : Nat) (s : S) (q : List β × S), i < xs.length → compR (xs.drop i) s fn = .ok q → ∃ x r q', xs[i]? = some x ∧ fn x s = .ok r ∧ compR (xs.drop (i + 1)) r.2 fn = .ok q' ∧ q.2 = q'.2 ∧ q.1 = (match r.1 with | some y => y :: q'.1 | none => q'.1) := fun i s q hi hq => by
    rw [List.drop_eq_getElem_cons hi] at hq
    unfold compR at hq
    obtain ⟨r, h1, h2⟩ := bind_ok hq
    obtain ⟨q', h3, h4⟩ := bind_ok h2
    have h4 := (R.ok.inj h4).symm
    subst h4
    exact ⟨xs[i], r, q', by simp [hi], h1, h3, rfl, rfl⟩
  refine hsrc F A σ H s _ fun F1 A1 H1 J B0 s0' n0 eF src => fun D hD => ?_
  obtain ⟨s1, nr⟩ := s0'.rebase
  generalize hB1 : B0.to F1 A1 = B1 at s1 nr
  have n01 := n0.trans nr
  have hf0 : B1.F0 = F1 := by rw [← hB1]; rfl
  have hPD : B1.P D = none := by
    cases e : B1.P D with
    | none => rfl
    | some o => have := (s1.pr D o e).1; rw [hD] at this; cases this
  have hpsD : D ∉ B1.ps := fun z => (s1.inn D z).1 hD
  have hPB : B.P D = none := by
    cases e : B.P D with
    | none => rfl
    | some o => have := ((n0.2 _ _ _ _ _ s0').pr D o e).1; rw [hD] at this; cases this
  obtain ⟨s2, n2⟩ := s1.alloc (o := .lst []) hD
  obtain ⟨s3, _⟩ := s2.aside n2
  let Inv : Nat → Hp → Prop := fun i H => ∃ (F A : Hp) (s : S) (acc : List V) (done rest : List β), Sta g (B1.aside D (.lst acc)) F A (Es s) σ H ∧ rps g F acc done ∧ compR (xs.drop i) s fn = .ok (rest, sN) ∧ ys = done ++ rest ∧ acc.length ≤ i
  refine ⟨fun i m H => m = xs.length - i ∧ i ≤ xs.length ∧ Inv i H, ⟨xs.length, by simp, Nat.zero_le _, F1, A1, s0, [], [], ys, s3, trivial, by rw [List.drop_zero]; exact hC, rfl, Nat.le_refl _⟩, ?_⟩
  rintro i m H' ⟨rfl, hi, F', A', s', acc, done, rest, st, racc, hR, hys, hacc⟩
  have nB : ∀ acc, Nest g B1 (B1.aside D (.lst acc)) := fun acc => ⟨rfl, fun F A E σ H q => (q.back hPD hpsD).1⟩
  by_cases hlt : i < xs.length
  · right
    refine ⟨src.goes i F' A' _ σ H' hlt (nr.2 _ _ _ _ _ ((nB acc).2 _ _ _ _ _ st)), Inv (i + 1), fun H'' hI => ⟨xs.length - (i + 1), by omega, rfl, hlt, hI⟩, fun v H'' hy => ?_⟩
    obtain ⟨x, r, q', hx, hfn, hq', e2, e1⟩ := split i s' _ hlt hR
    -- the item; the base moves to where one stands
    obtain ⟨st', nst⟩ := st.rebase
    obtain ⟨F2, A2, st2, rv⟩ := src.yld _ i F' A' _ σ H' v H'' x (nr.trans ((nB acc).trans nst)) hx st' hy
    have hF2 : Same F' F2 := st2.f0
    have st2 := nst.2 _ _ _ _ _ st2
    obtain ⟨st3, n3⟩ := st2.rebase
    have nAll : Nest g B ((B1.aside D (.lst acc)).to F2 A2) := n01.trans ((nB acc).trans n3)
    have stw := st3.wipe vs (σ' := L2.wipe σ vs) (wipe_length σ vs) fun i hi => wipe_out hi
    refine htg.go _ F2 A2 _ _ H'' v x stw rv _ fun σ2 st4 hl2 hσ2 => ⟨wipe_eq (hl2.trans (wipe_length σ vs)) hσ2, ?_⟩
    have hσσ : ∀ i, i ∉ vs → σ2[i]? = σ[i]? := fun i hi => (hσ2 i hi).trans (wipe_out hi)
    have hlσ : σ2.length = σ.length := hl2.trans (wipe_length σ vs)
    obtain ⟨b, E2', ht, hT, hFl⟩ := hb _ x s' r nAll (List.mem_of_getElem? hx) hfn
    have fin : ∀ {F4 A4 H4 E4}, Sta g ((B1.aside D (.lst acc)).to F2 A2) F4 A4 E4 σ2 H4 → LeE E4 (wipeE (Es r.2) vs) → Sta g (B1.aside D (.lst acc)) F4 A4 (Es r.2) σ H4 := fun {F4 A4 H4 E4} s5 l =>
      n3.2 _ _ _ _ _ (st2.unwipe (s5.weak l) hlσ hσσ ((hlen r.2).trans (hlen s').symm) fun i hi => ⟨(hv r.2 i hi).1.trans (hv s' i hi).1.symm, (hv r.2 i hi).2⟩)
    refine ht F2 A2 σ2 H'' st4 _ fun F3 A3 H3 st5 e3 => ?_
    cases b with
    | false =>
      obtain ⟨rn, l⟩ := hFl rfl
      refine iteF ⟨F3, A3, r.2, acc, done, q'.1, fin st5 l, rps_mono (hF2.trans st5.f0) racc, ?_, ?_, Nat.le_succ_of_le hacc⟩
      · rw [hq']
        have : q'.2 = sN := e2.symm
        rw [← this]
      · rw [hys]
        have e1 : rest = (match r.1 with | some y => y :: q'.1 | none => q'.1) := e1
        have : rest = q'.1 := by rw [e1, rn]
        rw [this]
    | true =>
      obtain ⟨y, E3', hy', hpx, l⟩ := hT rfl
      refine iteT (hpx F3 A3 σ2 H3 st5 _ fun F4 A4 H4 w st6 e4 rw => ?_)
      have st7 := fin st6 l
      have hD4 : H4 D = some (.lst acc) := (st7.pr D _ (by show (upd B1.P D _) D = _; exact upd_same)).1
      refine ⟨acc, hD4, Nat.lt_of_le_of_lt hacc (Nat.lt_of_lt_of_le hlt (sz_ok hz)), F4, A4, r.2, acc ++ [w], done ++ [y], q'.1, st7.aside_set hPD hpsD, rps_app (rps_mono (hF2.trans st6.f0) racc) ⟨rw, trivial⟩, ?_, ?_, ?_⟩
      · rw [hq']
        have : q'.2 = sN := e2.symm
        rw [← this]
      · rw [hys]
        have e1 : rest = (match r.1 with | some y => y :: q'.1 | none => q'.1) := e1
        have : rest = y :: q'.1 := by rw [e1, hy']
        rw [this, List.append_assoc]; rfl
      · rw [List.length_append]; exact Nat.succ_le_succ hacc
  · left
    have e : i = xs.length := by omega
    subst e
    rw [List.drop_length] at hR
    have e1 := R.ok.inj hR
    have e2 : rest = [] := (congrArg Prod.fst e1).symm
    have e3 : s' = sN := congrArg Prod.snd e1
    subst e2; subst e3
    rw [List.append_nil] at hys
    subst hys
    obtain ⟨s8, n8⟩ := st.back hPD hpsD
    refine ⟨src.stops F' A' _ σ H' (nr.2 _ _ _ _ _ s8), k F' A' H' D acc (n01.2 _ _ _ _ _ s8) (eF.trans (by have := s8.f0; rwa [hf0] at this)) ⟨n8.at_, n8.f, n8.a, n8.ne, by rw [← n01.1]; exact n8.ps, hPB⟩ racc⟩
end
end Gn
/-! Gn: simple comprehensions, defs, raise. -/
namespace Gn
open PySem L2
open Rp (rp)

theorem comp_map {α β : Type} {f : α → R β} : ∀ {xs : List α} {ys : List β}, mapR xs f = .ok ys → compR xs () (fun x _ => (f x).bind fun y => .ok (some y, ())) = .ok (ys, ())
  | [], ys, h => by cases h; rfl
  | x :: xs, ys, h => by
    unfold mapR at h
    obtain ⟨y, h1, h2⟩ := bind_ok h
    obtain ⟨zs, h3, h4⟩ := bind_ok h2
    cases h4
    unfold compR
    show ((f x).bind fun y => R.ok (some y, ())).bind _ = _
    rw [h1]
    show (compR xs () fun x _ => (f x).bind fun y => .ok (some y, ())).bind _ = _
    rw [comp_map h3]
    rfl
theorem comp_fil {α β : Type} {f : α → R (Option β)} : ∀ {xs : List α} {ys : List β}, filR xs f = .ok ys → compR xs () (fun x _ => (f x).bind fun y => .ok (y, ())) = .ok (ys, ())
  | [], ys, h => by cases h; rfl
  | x :: xs, ys, h => by
    unfold filR at h
    obtain ⟨y, h1, h2⟩ := bind_ok h
    obtain ⟨zs, h3, h4⟩ := bind_ok h2
    cases h4
    unfold compR
    show ((f x).bind fun y => R.ok (y, ())).bind _ = _
    rw [h1]
    show (compR xs () fun x _ => (f x).bind fun y => .ok (y, ())).bind _ = _
    rw [comp_fil h3]
    rfl
theorem leE_set : ∀ {E : List Bd} {j : Nat} {b : Bd}, E[j]? = some .un → LeE (E.set j b) E
  | [], _, _, h => by simp at h
  | c :: E, 0, b, h => by
    simp at h; subst h
    exact .cons .un LeE.refl
  | c :: E, j + 1, b, h => .cons .refl (leE_set (by simpa using h))
theorem LeE.trans : ∀ {E1 E2 E3 : List Bd}, LeE E1 E2 → LeE E2 E3 → LeE E1 E3 := fun {E1 E2 E3} a => by
  induction a generalizing E3 with
  | nil => intro b; exact b
  | cons l _ ih =>
    intro b
    cases b with
    | cons l' b =>
      refine .cons ?_ (ih b)
      cases l with
      | refl => exact l'
      | un => cases l' with
        | refl => exact .un
        | un => exact .un
      | kb => cases l' with
        | refl => exact .kb
        | un => exact .un
section
variable {g : Gx} {B : Bs} {E E1 E2 E3 E' : List Bd} {ta tb' tc te : TE} {tt : TT} {α β γ : Type} [Rp α] [Rp β] [Rp γ]
theorem pn_map {xs : List α} {ys : List β} {fn : α → R β} {wi : TI} {tg : TG} {te : TE} {vs : List Nat} {f : List Bd → α → List Bd}
    (hsrc : Sr g B E E1 wi xs) (htg : TgC g tg vs f) (hC : mapR xs fn = .ok ys) (hz : sz xs.length = true) (hv : ∀ i ∈ vs, ∀ b, E1[i]? = some b → ¬ b.isO) (hl : ∀ x, LeE (f (wipeE E1 vs) x) (wipeE E1 vs))
    (hb : ∀ B' x y, Nest g B B' → x ∈ xs → fn x = .ok y → Px g B' (f (wipeE E1 vs) x) (f (wipeE E1 vs) x) te y) : PxN g B E E1 (tLc wi tg tYes te vs) ys :=
  pn_comp (Es := fun (_ : Unit) => E1) (s0 := ()) (sN := ()) hsrc htg (comp_map hC) hz (fun _ => rfl) (fun _ i hi => ⟨rfl, hv i hi⟩) fun B' x s r n hx hfn => by
    obtain ⟨y, h1, h2⟩ := bind_ok hfn
    cases h2
    exact ⟨true, _, pt_yes, fun _ => ⟨y, _, rfl, hb B' x y n hx h1, hl x⟩, fun h => nomatch h⟩
theorem pn_fil {xs : List α} {ys : List β} {fn : α → R (Option β)} {wi : TI} {tg : TG} {te : TE} {vs : List Nat} {f : List Bd → α → List Bd}
    (hsrc : Sr g B E E1 wi xs) (htg : TgC g tg vs f) (hC : filR xs fn = .ok ys) (hz : sz xs.length = true) (hv : ∀ i ∈ vs, ∀ b, E1[i]? = some b → ¬ b.isO) (hl : ∀ x, LeE (f (wipeE E1 vs) x) (wipeE E1 vs))
    (hb : ∀ B' x r, Nest g B B' → x ∈ xs → fn x = .ok r → ∃ b, PxT g B' (f (wipeE E1 vs) x) (f (wipeE E1 vs) x) tt b ∧ (b = true → ∃ y, r = some y ∧ Px g B' (f (wipeE E1 vs) x) (f (wipeE E1 vs) x) te y) ∧ (b = false → r = none)) : PxN g B E E1 (tLc wi tg tt te vs) ys :=
  pn_comp (Es := fun (_ : Unit) => E1) (s0 := ()) (sN := ()) hsrc htg (comp_fil hC) hz (fun _ => rfl) (fun _ i hi => ⟨rfl, hv i hi⟩) fun B' x s r n hx hfn => by
    obtain ⟨y, h1, h2⟩ := bind_ok hfn
    cases h2
    obtain ⟨b, p1, p2, p3⟩ := hb B' x y n hx h1
    exact ⟨b, _, p1, fun h => by obtain ⟨z, e, p⟩ := p2 h; exact ⟨z, _, e, p, hl x⟩, fun h => ⟨p3 h, hl x⟩⟩
/-- raise -/
theorem sx_raise {t : St → Hp → XK → Prop} {X : XK} {D : Ends} {c : Str} {d : Gn.D} (ht : ∀ F A σ H, Sta g B F A E σ H → ∀ Q : XK, (∀ F' A' H' dx, Sta g B F' A' E σ H' → PayOk H' dx d → Q (.ref (g.ca c)) dx H') → t σ H Q) (hX : XkOk g B X c d) :
    Sx g B E (fun _ σ H => t σ H fun cls d H' => X cls d H') D := fun F A σ H s => ht F A σ H s _ fun F' A' H' dx s' p => hX F' A' E σ H' dx s' p
theorem sx_raise0 {X : XK} {D : Ends} {c : Str} (hX : XkOk g B X c .non) : Sx g B E (fun _ σ H => (fun (_ : St) (H : Hp) (Q : XK) => Q (.ref (g.ca c)) none H) σ H fun cls d H' => X cls d H') D := fun F A σ H s => hX F A E σ H none s rfl
end

/-! ### defs -/
inductive Ini : List Ca → List Addr → List Bd → Prop
  | nil : Ini [] [] []
  | k {α : Type} [Rp α] {x : α} {cs ps E} : Ini cs ps E → Ini (.k x :: cs) ps (.kp x :: E)
  | b {α : Type} [Rp α] {x : α} {cs ps E} : Ini cs ps E → Ini (.b x :: cs) ps (.bo x :: E)
  | m {α : Type} [Rp α] {xs : List α} {p cs ps E} : Ini cs ps E → Ini (.m xs :: cs) (p :: ps) (.io p xs :: E)
theorem ini_k {α : Type} [Rp α] {x : α} {cs : List Ca} {ps : List Addr} {E : List Bd} (h : Ini (.k x :: cs) ps E) : ∃ E', E = .kp x :: E' ∧ Ini cs ps E' := by
  cases h with
  | k h => exact ⟨_, rfl, h⟩
theorem ini_b {α : Type} [Rp α] {x : α} {cs : List Ca} {ps : List Addr} {E : List Bd} (h : Ini (.b x :: cs) ps E) : ∃ E', E = .bo x :: E' ∧ Ini cs ps E' := by
  cases h with
  | b h => exact ⟨_, rfl, h⟩
theorem ini_m {α : Type} [Rp α] {x : List α} {cs : List Ca} {ps : List Addr} {E : List Bd} (h : Ini (.m x :: cs) ps E) : ∃ p ps' E', ps = p :: ps' ∧ E = .io p x :: E' ∧ Ini cs ps' E' := by
  cases h with
  | m h => exact ⟨_, _, _, rfl, rfl, h⟩
theorem ini_nil {ps : List Addr} {E : List Bd} (h : Ini [] ps E) : ps = [] ∧ E = [] := by
  cases h
  exact ⟨rfl, rfl⟩
theorem in_len {g : Gx} {F H : Hp} {ps0 : List Addr} : ∀ {vs : List V} {cs : List Ca} {qs : List Addr}, InOk g F H ps0 vs cs qs → vs.length = cs.length
  | [], [], _, _ => rfl
  | _ :: _, @Ca.k _ _ _ :: _, _, h => congrArg (· + 1) (in_len h.2)
  | _ :: _, @Ca.b _ _ _ :: _, _, h => congrArg (· + 1) (in_len h.2)
  | _ :: _, @Ca.m _ _ _ :: _, _, h => by
    obtain ⟨_, _, _, _, _, _, _, _, h⟩ := h
    exact congrArg (· + 1) (in_len h)
  | [], @Ca.k _ _ _ :: _, _, h => h.elim
  | [], @Ca.b _ _ _ :: _, _, h => h.elim
  | [], @Ca.m _ _ _ :: _, _, h => h.elim
  | _ :: _, [], _, h => h.elim
theorem ini_of {g : Gx} {F H : Hp} {ps0 : List Addr} : ∀ {vs : List V} {cs : List Ca} {qs : List Addr}, InOk g F H ps0 vs cs qs → (∀ q ∈ qs, q ∈ ps0) → qs.Nodup → (∀ q ∈ qs, F q = none) → ∃ E, Ini cs qs E ∧ E.length = vs.length ∧
      (∀ (i : Nat) (b : Bd), E[i]? = some b → SlotOk g F (less H ps0) H (vs.map some)[i]? b) ∧ (∀ i p, Own E (vs.map some) i p → p ∈ qs) ∧ (∀ i j p, Own E (vs.map some) i p → Own E (vs.map some) j p → i = j)
  | [], [], qs, h, _, _, _ => by
    have h : qs = [] := h
    subst h
    exact ⟨[], .nil, rfl, fun i b e => by simp at e, fun i p ⟨_, b, e, _⟩ => by simp at e, fun i j p ⟨_, b, e, _⟩ => by simp at e⟩
  | v :: vs, @Ca.k _ _ x :: cs, qs, h, h0, nd, hf => by
    obtain ⟨E, i1, i2, i3, i4, i5⟩ := ini_of h.2 h0 nd hf
    have ow : ∀ i p, Own (.kp x :: E) ((v :: vs).map some) i p → ∃ j, i = j + 1 ∧ Own E (vs.map some) j p := fun i p ⟨e1, b, e2, e3⟩ => by
      cases i with
      | zero => simp at e2; subst e2; exact e3.elim
      | succ j => exact ⟨j, rfl, by simpa using e1, b, by simpa using e2, e3⟩
    refine ⟨.kp x :: E, .k i1, by simp [i2], fun i b e => ?_, fun i p o => ?_, fun i j p o o' => ?_⟩
    · cases i with
      | zero => simp at e; subst e; exact ⟨v, rfl, h.1⟩
      | succ i => simpa using i3 i b (by simpa using e)
    · obtain ⟨j, rfl, o⟩ := ow i p o; exact i4 j p o
    · obtain ⟨i, rfl, o⟩ := ow i p o
      obtain ⟨j, rfl, o'⟩ := ow j p o'
      rw [i5 i j p o o']
  | v :: vs, @Ca.b _ _ x :: cs, qs, h, h0, nd, hf => by
    obtain ⟨E, i1, i2, i3, i4, i5⟩ := ini_of h.2 h0 nd hf
    have ow : ∀ i p, Own (.bo x :: E) ((v :: vs).map some) i p → ∃ j, i = j + 1 ∧ Own E (vs.map some) j p := fun i p ⟨e1, b, e2, e3⟩ => by
      cases i with
      | zero => simp at e2; subst e2; exact e3.elim
      | succ j => exact ⟨j, rfl, by simpa using e1, b, by simpa using e2, e3⟩
    refine ⟨.bo x :: E, .b i1, by simp [i2], fun i b e => ?_, fun i p o => ?_, fun i j p o o' => ?_⟩
    · cases i with
      | zero => simp at e; subst e; exact ⟨v, rfl, h.1⟩
      | succ i => simpa using i3 i b (by simpa using e)
    · obtain ⟨j, rfl, o⟩ := ow i p o; exact i4 j p o
    · obtain ⟨i, rfl, o⟩ := ow i p o
      obtain ⟨j, rfl, o'⟩ := ow j p o'
      rw [i5 i j p o o']
  | v :: vs, @Ca.m _ _ xs :: cs, qs, h, h0, nd, hf => by
    obtain ⟨p0, ws, qs', rfl, rfl, e2, r, e3, h⟩ := h
    obtain ⟨nd1, nd2⟩ := List.nodup_cons.mp nd
    obtain ⟨E, i1, i2, i3, i4, i5⟩ := ini_of h (fun q hq => h0 q (List.mem_cons_of_mem _ hq)) nd2 (fun q hq => hf q (List.mem_cons_of_mem _ hq))
    have ow : ∀ i p, Own (.io p0 xs :: E) ((.ref p0 :: vs).map some) i p → (i = 0 ∧ p = p0) ∨ ∃ j, i = j + 1 ∧ Own E (vs.map some) j p := fun i p ⟨e1, b, e2, e3⟩ => by
      cases i with
      | zero => simp at e1; exact .inl ⟨rfl, e1.symm⟩
      | succ j => exact .inr ⟨j, rfl, by simpa using e1, b, by simpa using e2, e3⟩
    refine ⟨.io p0 xs :: E, .m i1, by simp [i2], fun i b e => ?_, fun i p o => ?_, fun i j p o o' => ?_⟩
    · cases i with
      | zero => simp at e; subst e; exact ⟨ws, rfl, e2, r, e3, less_in (h0 p0 List.mem_cons_self)⟩
      | succ i => simpa using i3 i b (by simpa using e)
    · rcases ow i p o with ⟨_, rfl⟩ | ⟨j, rfl, o⟩
      · exact List.mem_cons_self
      · exact List.mem_cons_of_mem _ (i4 j p o)
    · rcases ow i p o with ⟨rfl, rfl⟩ | ⟨i, rfl, o⟩
      · rcases ow j p o' with ⟨rfl, _⟩ | ⟨j, rfl, o'⟩
        · rfl
        · exact absurd (i4 j p o') nd1
      · rcases ow j p o' with ⟨rfl, rfl⟩ | ⟨j, rfl, o'⟩
        · exact absurd (i4 i p o) nd1
        · rw [i5 i j p o o']
  | [], @Ca.k _ _ _ :: _, _, h, _, _, _ => h.elim
  | [], @Ca.b _ _ _ :: _, _, h, _, _, _ => h.elim
  | [], @Ca.m _ _ _ :: _, _, h, _, _, _ => h.elim
  | _ :: _, [], _, h, _, _, _ => h.elim
/-- at a def's entry -/
theorem sp_start {g : Gx} {rel : List Ca → Out → Prop} {N : List Str} {vs : List V} {H : Hp} {Q : VK} {X : XK} (h : spOf g rel vs H Q X) (hN : vs.length ≤ N.length) :
    ∃ B cs o E, rel cs o ∧ Ini cs B.ps E ∧ Sp' g B (E ++ List.replicate (N.length - cs.length) .un) (start N vs) H ∧ DRt g B Q o ∧ (∀ c d, o = .exc c d → XkOk g B X c d) ∧ (∀ outs, o = .ret () outs → ∀ F A E σ H, Sta g B F A E σ H → CnOk g F H B.ps outs → Q .non H) := by
  obtain ⟨F, cs, ps, o, hs, nd, hin, hrel, hfin⟩ := h
  have hlen := in_len hin
  have hF : ∀ q ∈ ps, F q = none ∧ H q ≠ none := by
    have : ∀ {vs : List V} {cs : List Ca} {qs : List Addr}, InOk g F H ps vs cs qs → ∀ q ∈ qs, F q = none ∧ H q ≠ none := by
      intro vs cs
      induction cs generalizing vs with
      | nil =>
        intro qs h q hq
        cases vs with
        | nil => have h : qs = [] := h; subst h; cases hq
        | cons _ _ => exact h.elim
      | cons c cs ih =>
        intro qs h q hq
        cases vs with
        | nil => cases c <;> exact h.elim
        | cons v vs =>
          cases c with
          | k x => exact ih h.2 q hq
          | b x => exact ih h.2 q hq
          | m xs =>
            obtain ⟨p, ws, qs', _, rfl, e2, _, e3, h⟩ := h
            rcases List.mem_cons.mp hq with rfl | hq
            · exact ⟨e3, by rw [e2]; exact fun z => nomatch z⟩
            · exact ih h q hq
    exact this hin
  obtain ⟨E, i1, i2, i3, i4, i5⟩ := ini_of hin (fun q h => h) nd (fun q h => (hF q h).1)
  let B : Bs := ⟨F, less H ps, ps, fun _ => none⟩
  have grow : ∀ {F' A' E' σ' H'}, Sta g B F' A' E' σ' H' → Grow F H F' H' ps := fun {F' A' E' σ' H'} s => by
    refine ⟨s.f0, s.fa.trans s.ah, fun a h1 h2 => s.fr a h1 ?_, fun a o hm e => s.ah _ _ (s.a0 _ _ (by show less H ps a = some o; rw [less_out hm]; exact e))⟩
    by_cases hm : a ∈ ps
    · exact .inr hm
    · left
      show less H ps a ≠ none
      rw [less_out hm]; exact h2
  have st : start N vs = vs.map some ++ List.replicate (N.length - vs.length) none := rfl
  have low : ∀ i, i < E.length → (start N vs)[i]? = (vs.map some)[i]? := fun i hi => by
    rw [st, List.getElem?_append_left (by simpa [i2] using hi)]
  have own : ∀ i p, Own (E ++ List.replicate (N.length - cs.length) .un) (start N vs) i p → Own E (vs.map some) i p := fun i p ⟨e1, b, e2, e3⟩ => by
    by_cases hi : i < E.length
    · rw [List.getElem?_append_left hi] at e2
      rw [low i hi] at e1
      exact ⟨e1, b, e2, e3⟩
    · rw [List.getElem?_append_right (by omega), List.getElem?_replicate] at e2
      split at e2
      · cases e2; exact e3.elim
      · cases e2
  refine ⟨B, cs, o, E, hrel, i1, ⟨F, less H ps, ?_⟩, ?_, fun c d e => ?_, fun outs e F' A' E' σ' H' s cn => ?_⟩
  · refine ⟨?_, fun a o e => ?_, less_same H ps, Same.refl _, Same.refl _, fun a h _ => h, fun a h => ⟨(hF a h).2, less_in h⟩, fun i b e => ?_, fun i j p o o' => i5 i j p (own i p o) (own j p o'), fun a o e => nomatch e⟩
    · rw [List.length_append, List.length_replicate, i2, st, List.length_append, List.length_map, List.length_replicate, hlen]
    · rw [less_out (fun hm => by rw [(hF a hm).1] at e; cases e)]; exact hs _ _ e
    · by_cases hi : i < E.length
      · rw [List.getElem?_append_left hi] at e
        rw [low i hi]
        exact i3 i b e
      · rw [List.getElem?_append_right (by omega), List.getElem?_replicate] at e
        split at e
        · cases e; trivial
        · cases e
  · cases o with
    | ret y outs => exact fun F' A' E' σ' H' v s cn r => hfin F' H' v (grow s) cn r
    | exc _ _ => trivial
    | new ys outs => exact fun F' A' E' σ' H' p ws s cn e r f a m => hfin F' H' p ws (grow s) cn (by
        have z : less H ps p = none := s.a0.free a
        rwa [less_out m] at z) e r f
  · subst e
    exact fun F' A' E' σ' H' dx s pay => hfin F' H' dx (grow s) (fun p hp => (s.inn p hp).1) pay
  · subst e
    exact hfin F' H' .non (grow s) cn rfl
/-- A DEF -/
theorem fn_go {g : Gx} {P : Program} {w : World} {mg : Str → Option Value} {base : Heap} {x qual : Str} {st : Stmt} {f : Addr} {fd : FuncData} {N ps : List Str} {k : Nat} {rel : List Ca → Out → Prop} (F : Fun g.K x qual st f fd) (S : FnScope N ps (defScope st)) (hlen : ∀ cs o, rel cs o → cs.length = ps.length) (hN : ps.length ≤ N.length)
    (hb : ∀ (cdv : Value) (A : Around) (outer : List Env) (s : Shared) (H : Hp) (X : XK), Room k (A.deeper (PyProof.Rows.envOfC qual (defScope st) s.heap.objs.size f cdv)) →
      ∃ t, PSs (cxOf (L2.CX P w) P w g.K mg base N qual (defScope st) f cdv A outer s H X) (defBody st) t ∧
        ∀ (B : Bs) (qs : List Addr) (cs : List Ca) (o : Out) (E : List Bd) (D : Ends), B.ps = qs → rel cs o → Ini cs qs E → DRt g B D.rt o → (∀ c d, o = .exc c d → XkOk g B X c d) → (∀ outs, o = .ret () outs → ∀ F A E σ H, Sta g B F A E σ H → CnOk g F H B.ps outs → D.nx σ H) → Sx g B (E ++ List.replicate (N.length - cs.length) .un) t D) :
    FnOk P w g.K mg base (L2.CX P w) (k + 1) f fd ps (spOf g rel) := by
  have hl : ∀ vs H Q X, spOf g rel vs H Q X → vs.length = ps.length := fun vs H Q X h => by
    obtain ⟨F, cs, qs, o, _, _, hin, hrel, _⟩ := h
    rw [in_len hin, hlen cs o hrel]
  refine F.okX S hl fun cdv A outer s H vs Q X hr h => ?_
  obtain ⟨t, ht, hgo⟩ := hb cdv A outer s H X hr
  refine ⟨t, ht, ?_⟩
  have hv := hl _ _ _ _ h
  obtain ⟨B, cs, o, E, hrel, hini, ⟨F', A', hsta⟩, hrt, hex, hfall⟩ := sp_start h (by omega : vs.length ≤ N.length)
  exact hgo B B.ps cs o E { nx := fun _ H' => Q .non H', rt := Q } rfl hrel hini hrt hex (fun outs e F A E σ H s cn => hfall outs e F A E σ H s cn) F' A' _ H hsta
/-- how a mirror's result is told: no list changed; one; two -/
def res0 {τ : Type} [Rp τ] (r : R τ) (o : Out) : Prop := match r with
  | .ok y => o = .ret y []
  | .ex c d => o = .exc c d
  | .bad => False
def res1 {τ σ : Type} [Rp τ] [Rp σ] (r : R (τ × List σ)) (o : Out) : Prop := match r with
  | .ok y => o = .ret y.1 [.mk y.2]
  | .ex c d => o = .exc c d
  | .bad => False
theorem res0_ne {τ : Type} [Rp τ] {r : R τ} {o : Out} (h : res0 r o) : r ≠ .bad ∧ (∀ y, r = .ok y → o = .ret y []) ∧ (∀ c d, r = .ex c d → o = .exc c d) := by
  cases r with
  | ok y => exact ⟨(fun z => nomatch z), (fun z e => by cases e; exact h), (fun c d e => nomatch e)⟩
  | ex c d => exact ⟨(fun z => nomatch z), (fun z e => nomatch e), (fun c d e => by cases e; exact h)⟩
  | bad => exact h.elim
theorem res1_ne {τ σ : Type} [Rp τ] [Rp σ] {r : R (τ × List σ)} {o : Out} (h : res1 r o) : r ≠ .bad ∧ (∀ y, r = .ok y → o = .ret y.1 [.mk y.2]) ∧ (∀ c d, r = .ex c d → o = .exc c d) := by
  cases r with
  | ok y => exact ⟨(fun z => nomatch z), (fun z e => by cases e; exact h), (fun c d e => nomatch e)⟩
  | ex c d => exact ⟨(fun z => nomatch z), (fun z e => nomatch e), (fun c d e => by cases e; exact h)⟩
  | bad => exact h.elim
/-- .. that tells a new list -/
def resN {τ : Type} [Rp τ] (r : R (List τ)) (o : Out) : Prop := match r with
  | .ok y => o = .new y []
  | .ex c d => o = .exc c d
  | .bad => False
def resN1 {τ σ : Type} [Rp τ] [Rp σ] (r : R (List τ × List σ)) (o : Out) : Prop := match r with
  | .ok y => o = .new y.1 [.mk y.2]
  | .ex c d => o = .exc c d
  | .bad => False
theorem resN_ne {τ : Type} [Rp τ] {r : R (List τ)} {o : Out} (h : resN r o) : r ≠ .bad ∧ (∀ y, r = .ok y → o = .new y []) ∧ (∀ c d, r = .ex c d → o = .exc c d) := by
  cases r with
  | ok y => exact ⟨(fun z => nomatch z), (fun z e => by cases e; exact h), (fun c d e => nomatch e)⟩
  | ex c d => exact ⟨(fun z => nomatch z), (fun z e => nomatch e), (fun c d e => by cases e; exact h)⟩
  | bad => exact h.elim
theorem resN1_ne {τ σ : Type} [Rp τ] [Rp σ] {r : R (List τ × List σ)} {o : Out} (h : resN1 r o) : r ≠ .bad ∧ (∀ y, r = .ok y → o = .new y.1 [.mk y.2]) ∧ (∀ c d, r = .ex c d → o = .exc c d) := by
  cases r with
  | ok y => exact ⟨(fun z => nomatch z), (fun z e => by cases e; exact h), (fun c d e => nomatch e)⟩
  | ex c d => exact ⟨(fun z => nomatch z), (fun z e => nomatch e), (fun c d e => by cases e; exact h)⟩
  | bad => exact h.elim
theorem sx_retW {g : Gx} {B : Bs} {E E1 : List Bd} {te : TE} {α : Type} [Rp α] {D : Ends} {xs : List α} {outs : List Cn} {qs : List Addr} (hx : PxN g B E E1 te xs) (hps : B.ps = qs) (hf : Fi E1 qs outs) (h : DRt g B D.rt (.new xs outs)) : Sx g B E (tRet te) D := fun F A σ H s =>
  hx F A σ H s _ fun F1 A1 H1 p vs s1 e1 n r => h F1 A1 E1 σ H1 p vs s1 (hps ▸ fi_ok s1 hf) n.at_ r n.f n.a n.ps
/-- a list of its own, given away -/
theorem pn_own {g : Gx} {B : Bs} {E : List Bd} {α : Type} [Rp α] {i : Nat} {xs : List α} (e : E[i]? = some (.ow xs)) (hps : B.ps = [] ∨ ∃ j, i ≠ j ∧ ∃ (β : Type) (_ : Rp β) (p : Addr) (ys : List β), B.ps = [p] ∧ E[j]? = some (.io p ys)) : PxN g B E (E.set i .un) (tVar i) xs := fun F A σ H s Q k => by
  obtain ⟨p, vs, e1, e2, r, e3, e4⟩ := s.sl i _ e
  have ow : Own E σ i p := ⟨e1, _, e, trivial⟩
  have hs : σ.set i (some (.ref p)) = σ := by
    apply List.ext_getElem?
    intro j
    by_cases h : j = i
    · subst h
      rw [List.getElem?_set_self (List.getElem?_eq_some_iff.mp e1).1, e1]
    · rw [List.getElem?_set_ne (Ne.symm h)]
  have su : Sta g B F A (E.set i .un) σ H := by
    have := s.set (i := i) (b := .un) (v := .ref p) trivial fun _ _ z => z.elim
    rwa [hs] at this
  have hm : p ∉ B.ps := fun hm => by
    rcases hps with hps | ⟨j, hij, β, _, q, ys, hps, ej⟩
    · rw [hps] at hm; cases hm
    · rw [hps] at hm
      have e1' : p = q := by simpa using hm
      subst e1'
      obtain ⟨vs, e2, _⟩ := s.sl j _ ej
      exact hij (s.ne i j p ow ⟨e2, _, ej, trivial⟩)
  refine ⟨.ref p, e1, k F A H p vs su (Same.refl _) ⟨e2, e3, e4, fun j q => ?_, hm, ?_⟩ r⟩
  · rw [← hs] at q
    rcases own_set q with ⟨_, _, z⟩ | ⟨h1, h2⟩
    · exact z
    · exact h1 (s.ne j i p h2 ow)
  · cases z : B.P p with
    | none => rfl
    | some u => exact absurd ow ((s.pr p u z).2.2 i)
theorem sx_ret' {g : Gx} {B : Bs} {E E1 : List Bd} {te : TE} {α : Type} [Rp α] {D : Ends} {x : α} {outs : List Cn} {qs : List Addr} (hx : Px g B E E1 te x) (hps : B.ps = qs) (hf : Fi E1 qs outs) (h : DRt g B D.rt (.ret x outs)) : Sx g B E (tRet te) D := sx_ret hx (hps ▸ hf) h
theorem sx_retN' {g : Gx} {B : Bs} {E : List Bd} {D : Ends} {outs : List Cn} {qs : List Addr} (hps : B.ps = qs) (hf : Fi E qs outs) (h : DRt g B D.rt (.ret () outs)) : Sx g B E tRetN D := sx_retN (hps ▸ hf) h
theorem sx_fall' {g : Gx} {B : Bs} {E : List Bd} {D : Ends} {outs : List Cn} {qs : List Addr} (hps : B.ps = qs) (hf : Fi E qs outs) (h : ∀ F A E σ H, Sta g B F A E σ H → CnOk g F H B.ps outs → D.nx σ H) : ∀ σ H, Sp' g B E σ H → D.nx σ H := sx_fall (hps ▸ hf) fun F A σ H s c => h F A E σ H s c
theorem nx_le {g : Gx} {B : Bs} {E E' : List Bd} {Pr : L2.St → Hp → Prop} (l : LeE E E') (h : ∀ σ H, Sp' g B E' σ H → Pr σ H) : ∀ σ H, Sp' g B E σ H → Pr σ H := fun σ H ⟨F, A, s⟩ => h σ H ⟨F, A, s.weak l⟩
def R.opt {α : Type} (r : R α) : Option α := match r with
  | .ok a => some a
  | _ => none
theorem opt_ok {α : Type} {r : R α} {a : α} (h : r.opt = some a) : r = .ok a := by
  cases r with
  | ok b => exact congrArg R.ok (Option.some.inj h)
  | ex c d => cases h
  | bad => cases h
/-- a value that is given a name -/
def elet {α β : Type} (v : α) (f : α → R β) : R β := f v
theorem elet_eq {α β : Type} {v : α} {f : α → R β} {r : R β} (h : elet v f = r) : ∃ x, v = x ∧ f x = r := ⟨v, rfl, h⟩
theorem pn_eq {g : Gx} {B : Bs} {E E' : List Bd} {te : TE} {α : Type} [Rp α] {xs ys : List α} (h : PxN g B E E' te xs) (e : xs = ys) : PxN g B E E' te ys := e ▸ h
def Stp.fin {S ρ β : Type} (o : Stp S ρ) (fr : ρ → R β) (fs : S → R β) : R β := match o with
  | .go s => fs s
  | .brk s => fs s
  | .ret y => fr y
theorem loop_ret {S ρ β : Type} {out : R (Stp S ρ)} {fr : ρ → R β} {fs : S → R β} {r : R β} {y : ρ} (h : out = .ok (.ret y)) (hm : out.bind (fun o => o.fin fr fs) = r) : fr y = r := by subst h; exact hm
theorem loop_go {S ρ β : Type} {out : R (Stp S ρ)} {fr : ρ → R β} {fs : S → R β} {r : R β} {s : S} (h : out = .ok (.go s) ∨ out = .ok (.brk s)) (hm : out.bind (fun o => o.fin fr fs) = r) : fs s = r := by
  rcases h with h | h <;> (subst h; exact hm)
def fuelN : Nat := 1000000
theorem px_andR {g : Gx} {B : Bs} {E E1 E2 : List Bd} {ta tb : TE} {x c : Bool} (ha : Px g B E E1 ta x) (h1 : x = true → Px g B E1 E2 tb c) (h0 : x = false → E1 = E2 ∧ c = false) : Px g B E E2 (tAndV ta tb) c := by
  have h := px_and (y := c) ha h1 (fun h => (h0 h).1)
  cases x with
  | true => exact h
  | false => rw [(h0 rfl).2]; exact h
theorem px_orR {g : Gx} {B : Bs} {E E1 E2 : List Bd} {ta tb : TE} {x c : Bool} (ha : Px g B E E1 ta x) (h1 : x = false → Px g B E1 E2 tb c) (h0 : x = true → E1 = E2 ∧ c = true) : Px g B E E2 (tOrV ta tb) c := by
  have h := px_or (y := c) ha h1 (fun h => (h0 h).1)
  cases x with
  | false => exact h
  | true => rw [(h0 rfl).2]; exact h
theorem pt_andR {g : Gx} {B : Bs} {E E1 E2 : List Bd} {ta tb : TT} {x c : Bool} (ha : PxT g B E E1 ta x) (h1 : x = true → PxT g B E1 E2 tb c) (h0 : x = false → E1 = E2 ∧ c = false) : PxT g B E E2 (tAnd ta tb) c := by
  have h := pt_and (y := c) ha h1 (fun h => (h0 h).1)
  cases x with
  | true => exact h
  | false => rw [(h0 rfl).2]; exact h
theorem pt_orR {g : Gx} {B : Bs} {E E1 E2 : List Bd} {ta tb : TT} {x c : Bool} (ha : PxT g B E E1 ta x) (h1 : x = false → PxT g B E1 E2 tb c) (h0 : x = true → E1 = E2 ∧ c = true) : PxT g B E E2 (tOr ta tb) c := by
  have h := pt_or (y := c) ha h1 (fun h => (h0 h).1)
  cases x with
  | false => exact h
  | true => rw [(h0 rfl).2]; exact h
theorem mulOk_r {i j : Int} (h : (decide (-(2 ^ 64) < j) && decide (j < 2 ^ 64)) = true) : mulOk i j = true := by unfold mulOk; rw [h, Bool.or_true]
theorem mulOk_l {i j : Int} (h : (decide (-(2 ^ 64) < i) && decide (i < 2 ^ 64)) = true) : mulOk i j = true := by unfold mulOk; rw [h, Bool.true_or]
theorem bind_split {α β : Type} {m : R α} {f : α → R β} {r : R β} (h : m.bind f = r) (n : r ≠ .bad) : ∃ q, m = q ∧ q ≠ .bad ∧ q.bind f = r := ⟨m, rfl, fun e => by subst e; exact n h.symm, h⟩
end Gn
/-! Gn: rules with the written part named. -/
namespace Gn
open PySem L2
section
variable {X : Cx} {K : PySem.W.Frag}
theorem ix_listK (h : X.K = K) : IxR X (rIxL K) := h ▸ ix_list
theorem ix_tupK (h : X.K = K) : IxR X (rIxT K) := h ▸ ix_tup
theorem sl_listK (h : X.K = K) : SlR X (rSlL K) := h ▸ sl_list
theorem call_len_seqK (h : X.K = K) : CallR X (.builtin "len") (fun xs H Q => ∃ p ys, xs = [.ref p] ∧ (SqL K H p ys ∨ SqT K H p ys) ∧ Q (.int ys.length) H) := h ▸ call_len_seq
theorem call_list_ofK (h : X.K = K) : CallR X (.type "list") (fun xs H Q => ∃ p ys, xs = [.ref p] ∧ (SqL K H p ys ∨ SqT K H p ys) ∧ ∀ l, H l = none → Q (.ref l) (upd H l (.lst ys))) := h ▸ call_list_of
theorem cr_sumK (h : X.K = K) (hc : X.calm = true) : CallR X (.builtin "sum") (rSum K) := h ▸ cr_sum hc
theorem cr_anyK (h : X.K = K) (hc : X.calm = true) : CallR X (.builtin "any") (rAny K) := h ▸ cr_any hc
theorem cr_allK (h : X.K = K) (hc : X.calm = true) : CallR X (.builtin "all") (rAll K) := h ▸ cr_all hc
theorem cr_maxK (h : X.K = K) (hc : X.calm = true) : CallR X (.builtin "max") (rMax K) := h ▸ cr_max hc
theorem cr_minK (h : X.K = K) (hc : X.calm = true) : CallR X (.builtin "min") (rMin K) := h ▸ cr_min hc
theorem cr_sortedIK (h : X.K = K) : CallR X (.builtin "sorted") (rSortedI K) := h ▸ cr_sortedI
theorem op_in_seqK (h : X.K = K) : OpR X (compareOp .In) (rIn K false) := h ▸ op_in_seq
theorem op_notIn_seqK (h : X.K = K) : OpR X (compareOp .NotIn) (rIn K true) := h ▸ op_notIn_seq
theorem pi_listK {tg l : Expr} {tl : TE} (h : X.K = K) (hl : PE X l tl) : PI X tg l (iList K tl) := h ▸ pi_list hl
theorem pg_tupK {es : List Expr} {k : Nat} {pos : Pos} {t : TGs} {n : Nat} (h : X.K = K) (hc : X.calm = true) (ht : PGs X es t) (hn : (assignEach es X.env).length = n := by rfl) (hst : (assignEach es X.env).findIdx? (·.1) = none := by rfl) : PG X (.Tuple es k pos) (gTup K n t) := h ▸ pg_tup hc ht hn hst
theorem pe_fldK {e : Expr} {ta : TE} {f : Str} {pos : Pos} (h : X.K = K) (he : PE X e ta) (hb : attributeBase e f X.env (eval e X.env) = eval e X.env) : PE X (.Attribute e f pos) (tFld K ta f) := h ▸ pe_fld he hb
end
/-- a name of the module, by its value -/
theorem pe_gc {X : Cx} {x : Str} {pos : Pos} {v : V} (hg : Gl X x) (h : ∃ u, X.mg x = some u ∧ RelV v u) (hd : (x == ("__debug__" : Str)) = false := by decide) : PE X (.Name x pos) (tC v) := by
  obtain ⟨u, hm, r⟩ := h
  exact pe_glob hg hm r hd
theorem nown {E : List Bd} {j : Nat} {b0 : Bd} (h : E[j]? = some b0) (hb : ¬ b0.isO) : ∀ b, E[j]? = some b → ¬ b.isO := fun b e => by
  rw [h] at e; cases e; exact hb
theorem nowns1 {E : List Bd} {j : Nat} (h : ∀ b, E[j]? = some b → ¬ b.isO) : ∀ i ∈ [j], ∀ b, E[i]? = some b → ¬ b.isO := fun i hi => by
  simp only [List.mem_cons, List.not_mem_nil, or_false] at hi; subst hi; exact h
theorem nowns2 {E : List Bd} {j l : Nat} (h : ∀ b, E[j]? = some b → ¬ b.isO) (h' : ∀ b, E[l]? = some b → ¬ b.isO) : ∀ i ∈ [j, l], ∀ b, E[i]? = some b → ¬ b.isO := fun i hi => by
  simp only [List.mem_cons, List.not_mem_nil, or_false] at hi
  rcases hi with hi | hi <;> subst hi <;> assumption
theorem nowns4 {E : List Bd} {j l m n : Nat} (h : ∀ b, E[j]? = some b → ¬ b.isO) (h' : ∀ b, E[l]? = some b → ¬ b.isO) (h2 : ∀ b, E[m]? = some b → ¬ b.isO) (h3 : ∀ b, E[n]? = some b → ¬ b.isO) : ∀ i ∈ [j, l, m, n], ∀ b, E[i]? = some b → ¬ b.isO := fun i hi => by
  simp only [List.mem_cons, List.not_mem_nil, or_false] at hi
  rcases hi with hi | hi | hi | hi <;> subst hi <;> assumption
theorem same1 {E E' : List Bd} {j : Nat} (h : E[j]? = E'[j]? ∧ ∀ b, E[j]? = some b → ¬ b.isO) : ∀ i ∈ [j], E[i]? = E'[i]? ∧ ∀ b, E[i]? = some b → ¬ b.isO := fun i hi => by
  simp only [List.mem_cons, List.not_mem_nil, or_false] at hi; subst hi; exact h
end Gn
/-! Gn: objects of own classes. -/
namespace Gn
open PySem L2
open Rp (rp)

/-! ### static methods, constants of a class -/
structure SMet (K : PySem.W.Frag) (C : Addr) (mc : Value) (m : Str) (f : Addr) : Prop where
  rd : ClX.CRead K C mc
  at_ : ∃ p, PySem.W.findCls K (.ref C) mc m = some (.get (.builtin "staticmethod.__get__") (.ref p) .none (.ref C)) ∧ ∃ rest, PySem.W.recIn K p "staticmethod" = some (.ref f :: rest)
  kp : PySem.W.keepIn K (.ref f) = true
theorem getsm_ok {X : Cx} {pins : List (Addr × Obj)} {σ : L2.St} {H : Hp} {s : Shared} {C f : Addr} {mc : Value} {m : Str} {A : Around} {E : Value → Shared → Prop} {pl : Sem Bool} {Q : Value × List Value → Shared → Prop} (I : Inv X pins σ H s) (k : SMet X.K C mc m f)
    (h : ∀ s', Inv X pins σ H s' → Q (.ref f, []) s') : wpAny (model X.prog X.w) A (getMethod (.ref C) m pl) Q E s := by
  obtain ⟨p, h1, rest, h2⟩ := k.at_
  refine PySem.W.method_cls I.kIn k.rd.ga (PySem.W.cls_bind I.kIn k.rd.rd h1 (wpAny_call (PySem.W.sm_get (s := { s with toks := s.toks + 1 }) I.kIn h2 (PySem.W.handed_on rfl ?_))))
  exact h _ (I.tok _)
/-- C.m(..), m a static method -/
def tSMeth (C : Addr) (sp : Sp) (E : XK) (ta : TE) (t : TA) : TE := fun σ H Q => ta σ H fun x H1 => x = .ref C ∧ t σ H1 fun vs H2 => sp (vs ++ []) H2 Q E
theorem pe_smeth {X : Cx} {CX : CXT} {k : Nat} {C f : Addr} {mc : Value} {fd : FuncData} {ps : List Str} {sp : Sp} {E : XK} {o e : Expr} {es : List Expr} {m : Str} {pos apos : Pos} {ta : TE} {t : TA} {pl : Sem Bool}
    (he : PE X o ta) (c : SMet X.K C mc m f) (F : FnOk X.prog X.w X.K X.mg X.base CX k f fd ps sp) (hr : Room k X.A) (hb : Binds X.K fd ps []) (hx : Passes CX X E) (ha : PA X (e :: es) t)
    (hst : starEach (e :: es) X.env = (false, eval e X.env) :: starEach es X.env := by rfl) (hpl : (backTo pos (starEach es X.env)).any (·.1) = false := by rfl)
    (ht : eval (.Call (.Attribute o m apos) (e :: es) [] pos) X.env = (do
      let ov ← eval o X.env
      standAt apos.atName
      let (f, first) ← holding [ov] (getMethod ov m pl)
      callWith pos f first (backTo pos (starEach (e :: es) X.env)) (backToKw pos (keywordEach [] X.env))) := by rfl) :
    PE X (.Call (.Attribute o m apos) (e :: es) [] pos) (tSMeth C sp E ta t) := by
  refine ⟨fun pins s σ H Q I h => ?_⟩
  refine PySem.W.methodCall_KW (pl := pl) (thn (he.run pins s σ H _ I h) fun u s1 ⟨x, H1, I1, rx, ex, q⟩ => ?_) ht
  subst ex
  obtain rfl : u = Value.ref C := rx
  refine getsm_ok I1 c fun s2 I2 => ?_
  refine PySem.W.callWith_K (h₀ := X.base) I.ok.mod.kin c.kp (thn (ha.run pos pins s2 σ H1 _ I2 q) fun us s3 ⟨vs, H2, I3, r, q2⟩ => ⟨I3.kIn, ?_⟩) hst hpl
  exact run_fn F hr hb .nil hx I3 r q2
theorem ps_fldK {X : Cx} {K : PySem.W.Frag} {o value : Expr} {f : Str} {pos pos' : Pos} {ta tv : TE} (h : X.K = K) (ha : PE X o ta) (hv : PE X value tv) (hs : swapsWith value (some (.Attribute o f pos')) pos.line X.env = pure false) : PS X (.Assign [.Attribute o f pos'] value pos) (sFld K ta tv f) := h ▸ ps_fld ha hv hs
section
variable {g : Gx} {B : Bs} {E E1 E2 : List Bd} {ta tb te : TE} {α β γ : Type} [Rp α] [Rp β] [Rp γ]
theorem px_smeth {rel : List Ca → Out → Prop} {X : XK} {C : Addr} {as : List Ar} {cs : List Ca} {ms : List Nat} {x : α} {outs : List Cn} {t : TA} (ha : PxA g B E E1 t as) (hr : Rs E1 as cs ms) (ap : Apart E1 ms as cs) (nd : ms.Nodup) (hrel : rel cs (.ret x outs)) :
    Px g B E (puts E1 ms outs) (tSMeth C (spOf g rel) X (tC (.ref C)) t) x := fun F A σ H s Q k => ⟨rfl, px_call (X := X) ha hr ap nd hrel F A σ H s Q k⟩
theorem pe_smethX {rel : List Ca → Out → Prop} {X : XK} {C : Addr} {as : List Ar} {cs : List Ca} {c : Str} {d : D} {t : TA} (ha : PxA g B E E1 t as) (hr : Rs E1 as cs []) (ap : Apart E1 [] as cs) (hrel : rel cs (.exc c d)) (hX : XkOk g B X c d) :
    PxE g B E (tSMeth C (spOf g rel) X (tC (.ref C)) t) := fun F A σ H s Q => ⟨rfl, pe_callX (X := X) ha hr ap hrel hX F A σ H s Q⟩
/-- a constant of a class -/
theorem px_cval {C : Addr} {f : Str} {n : Int} (h : ∃ mc u, ClX.CRead g.K C mc ∧ ClX.CVal g.K C mc f (.int n) u) : Px g B E E (ClX.tCVal g.K (tC (.ref C)) f) n := fun F A σ H s Q k => by
  obtain ⟨mc, u, h1, h2⟩ := h
  exact ⟨C, mc, _, u, rfl, h1, h2, k F A H _ s (Same.refl _) rfl⟩
theorem pe_cvalK {X : Cx} {K : PySem.W.Frag} {e : Expr} {f : Str} {pos : Pos} (h : X.K = K) (he : PE X e ta) (hb : attributeBase e f X.env (eval e X.env) = eval e X.env := by rfl) : PE X (.Attribute e f pos) (ClX.tCVal K ta f) := h ▸ ClX.pe_cval he hb

/-! ### objects that are data -/
class Ob (α : Type) where
  cn : Str
  fd : Gx → Hp → List (Str × V) → α → Prop
  mono : ∀ {g : Gx} {H H' : Hp} {fs : List (Str × V)} {x : α}, Same H H' → fd g H fs x → fd g H' fs x
abbrev Ob.rp {α : Type} [Ob α] : Rp α := ⟨fun g H v x => ∃ a dx fs, v = .ref a ∧ H a = some (.ins (g.ca (Ob.cn α)) dx fs) ∧ Ob.fd g H fs x, fun s ⟨a, dx, fs, e, h, r⟩ => ⟨a, dx, fs, e, s _ _ h, Ob.mono s r⟩⟩
/-- the name is no attribute of it -/
def Frees (α : Type) [Rp α] (g : Gx) (C : Addr) (m : Str) : Prop := ∀ H v (x : α), rp g H v x → ∃ a dx fs, v = .ref a ∧ H a = some (.ins C dx fs) ∧ fs.lookup m = none
def tConsM (C : Addr) (m : Str) (ta : TE) (t : TA) : TA := fun σ H Q => ta σ H fun x H1 => ∃ a dx fs, x = .ref a ∧ H1 a = some (.ins C dx fs) ∧ fs.lookup m = none ∧ t σ H1 fun xs H2 => Q (x :: xs) H2
theorem pa_m {tr : TA} {C : Addr} {m : Str} {x : α} {as : List Ar} (ho : Frees α g C m) (h : Px g B E E1 te x) (hr : PxA g B E1 E2 tr as) : PxA g B E E2 (tConsM C m te tr) (.k x :: as) := fun F A σ H s Q k =>
  h F A σ H s _ fun F1 A1 H1 v s1 e1 r1 => by
    obtain ⟨a, dx, fs, e, ha, l⟩ := ho _ _ _ (Rp.mono (s1.fa.trans s1.ah) r1)
    exact ⟨a, dx, fs, e, ha, l, hr F1 A1 σ H1 s1 _ fun F2 A2 H2 vs s2 e2 r2 => k F2 A2 H2 (v :: vs) s2 (e1.trans e2) ⟨Rp.mono e2 r1, r2⟩⟩
theorem px_meth {rel : List Ca → Out → Prop} {X : XK} {C : Addr} {m : Str} {as : List Ar} {cs : List Ca} {ms : List Nat} {x : α} {outs : List Cn} {t : TA} (ha : PxA g B E E1 (tConsM C m ta t) as) (hr : Rs E1 as cs ms) (ap : Apart E1 ms as cs) (nd : ms.Nodup) (hrel : rel cs (.ret x outs)) :
    Px g B E (puts E1 ms outs) (tMeth C m (spOf g rel) [] X ta t) x := px_call (X := X) ha hr ap nd hrel
theorem pe_methX {rel : List Ca → Out → Prop} {X : XK} {C : Addr} {m : Str} {as : List Ar} {cs : List Ca} {c : Str} {d : D} {t : TA} (ha : PxA g B E E1 (tConsM C m ta t) as) (hr : Rs E1 as cs []) (ap : Apart E1 [] as cs) (hrel : rel cs (.exc c d)) (hX : XkOk g B X c d) :
    PxE g B E (tMeth C m (spOf g rel) [] X ta t) := pe_callX (X := X) ha hr ap hrel hX
theorem px_prop {rel : List Ca → Out → Prop} {X : XK} {C : Addr} {m : Str} {x : α} {y : β} (ho : Frees α g C m) (h : Px g B E E1 te x) (hrel : rel [.k x] (.ret y [])) : Px g B E E1 (tProp C (spOf g rel) [] X te) y := fun F A σ H s Q k =>
  h F A σ H s _ fun F1 A1 H1 v s1 e1 r1 => by
    obtain ⟨a, dx, fs, e, ha, l⟩ := ho _ _ _ (Rp.mono (s1.fa.trans s1.ah) r1)
    subst e
    exact ⟨a, dx, fs, rfl, ha, run_sp (as := [.k x]) (X := X) (vs := [.ref a]) (.k .nil) (.k .nil) List.nodup_nil hrel s1 ⟨r1, trivial⟩ fun F' A' H' v s' e r => k F' A' H' v s' (e1.trans e) r⟩
/-- an attribute -/
def Has (α β : Type) [Rp α] [Rp β] (g : Gx) (f : Str) (pr : α → β) : Prop := ∀ H v (x : α), rp g H v x → ∃ a C dx fs w, v = .ref a ∧ H a = some (.ins C dx fs) ∧ Cls g.K C ∧ NoAttr g.K C f ∧ fs.lookup f = some w ∧ rp g H w (pr x)
theorem px_fld {f : Str} {pr : α → β} {x : α} (hh : Has α β g f pr) (h : Px g B E E1 te x) : Px g B E E1 (tFld g.K te f) (pr x) := fun F A σ H s Q k =>
  h F A σ H s _ fun F1 A1 H1 v s1 e1 r1 => by
    obtain ⟨a, C, dx, fs, w, e, ha, c, n, l, r⟩ := hh _ _ _ r1
    exact ⟨a, C, dx, fs, w, e, s1.ah _ _ (s1.fa _ _ ha), c, n, l, k F1 A1 H1 w s1 e1 r⟩
end

/-! ### making one -/
/-- an address -/
structure Adr where
  a : Addr
instance : Rp Adr := ⟨fun _ _ v x => v = .ref x.a, fun _ h => h⟩
def Bs.no (B : Bs) : Bs := ⟨B.F0, B.A0, B.ps, fun _ => none⟩
def Bs.fl (B : Bs) (F A : Hp) (x : Addr) (o : HO) : Bs := ⟨F, A, B.ps, upd B.P x o⟩
section
variable {g : Gx} {B : Bs} {E E1 E2 : List Bd} {tv : TE} {α β γ : Type} [Rp α] [Rp β] [Rp γ]
theorem Sta.un {F A H F1 A1 H1 : Hp} {σ σ1 : St} {P' : Hp} (s1 : Sta g B F1 A1 E1 σ1 H1) (s : Sta g ⟨F1, A1, B.ps, P'⟩ F A E σ H) : Sta g B.no F A E σ H where
  len := s.len
  fa := s.fa
  ah := s.ah
  f0 := s1.f0.trans s.f0
  a0 := s1.a0.trans s.a0
  fr := fun a h1 h2 => s.fr a (s1.fr a h1 h2) (h2.imp (fun z => by
    show A1 a ≠ none
    cases e : B.A0 a with
    | none => exact absurd e z
    | some o => rw [s1.a0 _ _ e]; exact fun z => nomatch z) id)
  inn := s.inn
  sl := s.sl
  ne := s.ne
  pr := fun a o e => nomatch e
theorem Sta.no {F A H : Hp} {σ : St} (s : Sta g B F A E σ H) : Sta g B.no F A E σ H := ⟨s.len, s.fa, s.ah, s.f0, s.a0, s.fr, s.inn, s.sl, s.ne, fun a o e => nomatch e⟩
theorem sx_fld {D : Ends} {x C dx : Addr} {fs : List (Str × V)} {f : Str} {y : α} (h0 : E1[0]? = some (.kp (Adr.mk x))) (hP : B.P x = some (.ins C dx fs)) (hv : Px g B E E1 tv y) (c : Cls g.K C) (n : NoAttr g.K C f) (hl : fs.length < 1000)
    (k : ∀ w F' B', rp g F' w y → B'.P x = some (.ins C dx (putF f w fs)) → (∀ P' F A E σ H, Sta g ⟨B'.F0, B'.A0, B'.ps, P'⟩ F A E σ H → Sta g B.no F A E σ H ∧ Same F' F) → ∀ σ H, Sp' g B' E1 σ H → D.nx σ H) : Sx g B E (sFld g.K (tVar 0) tv f) D := fun F A σ H s =>
  hv F A σ H s _ fun F' A' H' w s' e r => by
    obtain ⟨v, e0, r0⟩ := s'.sl 0 _ h0
    obtain ⟨p1, p2, p3⟩ := s'.pr x _ hP
    have p4 : F' x = none := s'.fa.free p2
    refine ⟨v, e0, x, C, dx, fs, r0, p1, c, n, hl, k w F' (B.fl F' A' x (.ins C dx (putF f w fs))) r (by show upd B.P x (.ins C dx (putF f w fs)) x = _; exact upd_same) (fun P' F A E σ H q => ⟨s'.un q, q.f0⟩) _ _ ⟨F', A', ?_⟩⟩
    refine ⟨s'.len, s'.fa, fun a o q => ?_, Same.refl _, Same.refl _, fun a h _ => h, fun a h => ⟨?_, (s'.inn a h).2⟩, fun i b q => ?_, s'.ne, fun a o q => ?_⟩
    · have : a ≠ x := fun z => by rw [z, p2] at q; cases q
      rw [upd_ne this]; exact s'.ah _ _ q
    · by_cases z : a = x
      · rw [z, upd_same]; exact fun z => nomatch z
      · rw [upd_ne z]; exact (s'.inn a h).1
    · refine (s'.sl i b q).mono (Same.refl _) (Same.refl _) fun p e1 hb => ?_
      have ow : Own E1 σ i p := ⟨e1, _, q, hb⟩
      obtain ⟨f1, f2, _⟩ := s'.own ow
      have : p ≠ x := fun z => p3 i (z ▸ ow)
      exact ⟨fun vs z => by rw [upd_ne this]; exact z, f1, f2⟩
    · have q : upd B.P x (.ins C dx (putF f w fs)) a = some o := q
      by_cases z : a = x
      · subst z
        rw [upd_same] at q; cases q
        exact ⟨upd_same, p2, p3⟩
      · rw [upd_ne z] at q
        obtain ⟨q1, q2, q3⟩ := s'.pr a o q
        exact ⟨by rw [upd_ne z]; exact q1, q2, q3⟩
end
/-- what __init__ promises -/
def spIni (g : Gx) (α : Type) [Ob α] (rel : List Ca → R α → Prop) : Sp := fun vs H Q X => ∃ x dx ws F cs r, vs = .ref x :: ws ∧ H x = some (.ins (g.ca (Ob.cn α)) dx []) ∧ Same F H ∧ F x = none ∧ InOk g F H [x] ws cs [] ∧ rel cs r ∧ r ≠ .bad ∧
  (∀ y, r = .ok y → ∀ F' H' fs, Grow F H F' H' [x] → F' x = none → H' x = some (.ins (g.ca (Ob.cn α)) dx fs) → Ob.fd g F' fs y → Q .non H') ∧ (∀ c d, r = .ex c d → ∀ F' H' dy, Grow F H F' H' [x] → F' x = none → H' x ≠ none → PayOk H' dy d → X (.ref (g.ca c)) dy H')
theorem in_x {g : Gx} {F H : Hp} {x : Addr} {o : HO} : ∀ {vs : List V} {cs : List Ca}, InOk g F H [] vs cs [] → H x = none → InOk g F (upd H x o) [x] vs cs []
  | [], [], h, _ => h
  | _ :: _, @Ca.k _ _ _ :: _, h, hx => ⟨h.1, in_x h.2 hx⟩
  | _ :: _, @Ca.b _ _ _ :: _, h, hx => ⟨Rp.mono (fun a u e => by
      have e : H a = some u := by rwa [less_out (by simp)] at e
      have : a ≠ x := ne_of_none e hx
      rw [less_out (by simpa using this), upd_ne this]; exact e) h.1, in_x h.2 hx⟩
  | _ :: _, @Ca.m _ _ _ :: _, h, _ => by
    obtain ⟨p, ws, qs, _, e, _⟩ := h
    cases e
  | [], @Ca.k _ _ _ :: _, h, _ => h.elim
  | [], @Ca.b _ _ _ :: _, h, _ => h.elim
  | [], @Ca.m _ _ _ :: _, h, _ => h.elim
  | _ :: _, [], h, _ => h.elim
theorem in_same {g : Gx} {F H H' : Hp} (s : Same H H') : ∀ {vs : List V} {cs : List Ca}, InOk g F H [] vs cs [] → InOk g F H' [] vs cs []
  | [], [], h => h
  | _ :: _, @Ca.k _ _ _ :: _, h => ⟨h.1, in_same s h.2⟩
  | _ :: _, @Ca.b _ _ _ :: _, h => ⟨Rp.mono (fun a u e => by
      rw [less_out (by simp)] at e ⊢; exact s _ _ e) h.1, in_same s h.2⟩
  | _ :: _, @Ca.m _ _ _ :: _, h => by
    obtain ⟨p, ws, qs, _, e, _⟩ := h
    cases e
  | [], @Ca.k _ _ _ :: _, h => h.elim
  | [], @Ca.b _ _ _ :: _, h => h.elim
  | [], @Ca.m _ _ _ :: _, h => h.elim
  | _ :: _, [], h => h.elim
section
variable {g : Gx} {B : Bs} {E E1 E2 : List Bd} {α : Type} [Ob α]
/-- the allocation and what __init__ needs -/
theorem run_ini {rel : List Ca → R α → Prop} {X : XK} {as : List Ar} {cs : List Ca} {r : R α} (hr : Rs E as cs []) (ap : Apart E [] as cs) (hrel : rel cs r) (hne : r ≠ .bad) {F A H : Hp} {σ : St} {vs : List V} (s : Sta g B F A E σ H) (ha : ArOk g F σ vs as) {Q : VK}
    {x dx : Addr} (hx : H x = none) (hdx : H dx = none) (hn : dx ≠ x)
    (k : ∀ y, r = .ok y → ∀ F' A' H' v, Sta g B F' A' E σ H' → Same F F' → (@Ob.rp α _).rp g F' v y → v = .ref x → Q v H') (kx : ∀ c d, r = .ex c d → XkOk g B X c d) :
    spIni g α rel (.ref x :: vs) (upd (upd H dx (.own x)) x (.ins (g.ca (Ob.cn α)) dx [])) (fun v H2 => v = .non ∧ Q (.ref x) H2) X := by
  obtain ⟨⟨ps, had⟩, ho⟩ := rs_ads s hr
  cases ps with
  | cons _ _ => exact had.elim
  | nil =>
  have hin := in_ok s had ho hr ap ha had
  have hx1 : (upd H dx (.own x)) x = none := by rw [upd_ne (Ne.symm hn)]; exact hx
  have hA : A x = none := s.ah.free hx
  have hF : F x = none := s.fa.free hA
  have sm : Same H (upd H dx (.own x)) := Same.upd hdx
  refine ⟨x, dx, vs, F, cs, r, rfl, upd_same, (s.fa.trans s.ah).trans (sm.trans (Same.upd hx1)), hF, in_x (in_same sm hin) hx1, hrel, hne, fun y e F' H' fs gr fx hf fd => ⟨rfl, ?_⟩, fun c d e F' H' dy gr fx hf pay => ?_⟩
  · have gr2 : Grow F H (upd F' x (.ins (g.ca (Ob.cn α)) dx fs)) H' [] := by
      refine ⟨gr.f.trans (Same.upd fx), fun a o q => ?_, fun a h1 h2 => ?_, fun a o _ q => ?_⟩
      · by_cases z : a = x
        · subst z; rw [upd_same] at q; cases q; exact hf
        · rw [upd_ne z] at q; exact gr.fh _ _ q
      · have z : a ≠ x := fun z => h2 (z ▸ hx)
        rw [upd_ne z]
        refine gr.new a h1 ?_
        cases e : H a with
        | none => exact absurd e h2
        | some o => rw [upd_ne z, sm _ _ e]; exact fun z => nomatch z
      · have z : a ≠ x := ne_of_none q hx
        exact gr.h a o (by simpa using z) (by rw [upd_ne z]; exact sm _ _ q)
    obtain ⟨A', s'⟩ := after_call (E' := E) s had ho gr2 (fun p hp => nomatch hp) (fun p hp => nomatch hp) rfl fun i b e => .inr (.inl ⟨by simp, e⟩)
    exact k y e _ A' H' _ s' (gr.f.trans (Same.upd fx)) ⟨x, dx, fs, rfl, upd_same, Ob.mono (Same.upd fx) fd⟩ rfl
  · have gr2 : Grow F H F' H' [] := by
      refine ⟨gr.f, gr.fh, fun a h1 h2 => ?_, fun a o _ q => ?_⟩
      · have z : a ≠ x := fun z => h2 (z ▸ hx)
        refine gr.new a h1 ?_
        cases e : H a with
        | none => exact absurd e h2
        | some o => rw [upd_ne z, sm _ _ e]; exact fun z => nomatch z
      · have z : a ≠ x := ne_of_none q hx
        exact gr.h a o (by simpa using z) (by rw [upd_ne z]; exact sm _ _ q)
    obtain ⟨A', s'⟩ := after_call (E' := E) s had ho gr2 (fun p hp => nomatch hp) (fun p hp => nomatch hp) rfl fun i b e => .inr (.inl ⟨by simp, e⟩)
    exact kx c d e _ _ _ _ H' dy s' pay
end
section
variable {g : Gx} {B : Bs} {E E1 E2 : List Bd} {α : Type} [Ob α]
theorem px_make {rel : List Ca → R α → Prop} {X : XK} {C : Addr} {as : List Ar} {cs : List Ca} {x : α} {t : TA} (hC : C = g.ca (Ob.cn α)) (ha : PxA g B E E1 t as) (hr : Rs E1 as cs []) (ap : Apart E1 [] as cs) (hrel : rel cs (.ok x)) : @Px g B E E1 (tMake C (spIni g α rel) [] X t) α Ob.rp x := fun F A σ H s Q k =>
  ha F A σ H s _ fun F1 A1 H1 vs s1 e1 r1 => fun a dx hx hdx hn => by
    subst hC
    show spIni g α rel (.ref a :: (vs ++ [])) _ _ X
    rw [List.append_nil]
    exact run_ini hr ap hrel (fun z => nomatch z) s1 r1 hx hdx hn (fun y e F' A' H' v s' e2 r ev => by cases e; exact k F' A' H' v s' (e1.trans e2) r) (fun c d z => nomatch z)
theorem pe_makeX {rel : List Ca → R α → Prop} {X : XK} {C : Addr} {as : List Ar} {cs : List Ca} {c : Str} {d : D} {t : TA} (hC : C = g.ca (Ob.cn α)) (ha : PxA g B E E1 t as) (hr : Rs E1 as cs []) (ap : Apart E1 [] as cs) (hrel : rel cs (.ex c d)) (hX : XkOk g B X c d) : PxE g B E (tMake C (spIni g α rel) [] X t) := fun F A σ H s Q =>
  ha F A σ H s _ fun F1 A1 H1 vs s1 e1 r1 => fun a dx hx hdx hn => by
    subst hC
    show spIni g α rel (.ref a :: (vs ++ [])) _ _ X
    rw [List.append_nil]
    exact run_ini hr ap hrel (fun z => nomatch z) s1 r1 hx hdx hn (fun y e => nomatch e) (fun c d z => by cases z; exact hX)
/-- AN __init__ -/
theorem fn_ini {P : Program} {w : World} {mg : Str → Option Value} {base : Heap} {x qual : Str} {st : Stmt} {f : Addr} {fd : FuncData} {N ps : List Str} {k : Nat} {rel : List Ca → R α → Prop} (F : Fun g.K x qual st f fd) (S : FnScope N ps (defScope st)) (hlen : ∀ cs o, rel cs o → cs.length + 1 = ps.length) (hN : ps.length ≤ N.length)
    (hb : ∀ (cdv : Value) (A : Around) (outer : List Env) (s : Shared) (H : Hp) (X : XK), Room k (A.deeper (PyProof.Rows.envOfC qual (defScope st) s.heap.objs.size f cdv)) →
      ∃ t, PSs (cxOf (L2.CX P w) P w g.K mg base N qual (defScope st) f cdv A outer s H X) (defBody st) t ∧
        ∀ (B : Bs) (x dx : Addr) (cs : List Ca) (r : R α) (E : List Bd) (D : Ends), B.P x = some (.ins (g.ca (Ob.cn α)) dx []) → rel cs r → r ≠ .bad → Ini cs [] E → (∀ c d, r = .ex c d → XkOk g B X c d) →
          (∀ y, r = .ok y → ∀ F A E σ H fs, Sta g B.no F A E σ H → H x = some (.ins (g.ca (Ob.cn α)) dx fs) → F x = none → Ob.fd g F fs y → D.nx σ H) → Sx g B (.kp (Adr.mk x) :: (E ++ List.replicate (N.length - ps.length) .un)) t D) :
    FnOk P w g.K mg base (L2.CX P w) (k + 1) f fd ps (spIni g α rel) := by
  have hl : ∀ vs H Q X, spIni g α rel vs H Q X → vs.length = ps.length := fun vs H Q X h => by
    obtain ⟨y, dx, ws, F, cs, r, rfl, _, _, _, hin, hrel, _⟩ := h
    rw [List.length_cons, in_len hin, hlen cs r hrel]
  refine F.okX S hl fun cdv A outer s H vs Q X hr h => ?_
  obtain ⟨t, ht, hgo⟩ := hb cdv A outer s H X hr
  refine ⟨t, ht, ?_⟩
  have hv := hl _ _ _ _ h
  obtain ⟨y, dx, ws, F, cs, r, rfl, hy, hFH, hFy, hin, hrel, hne, hok, hex⟩ := h
  let B : Bs := ⟨F, less H [y], [y], upd (fun _ => none) y (.ins (g.ca (Ob.cn α)) dx [])⟩
  obtain ⟨E, i1, i2, i3, i4, i5⟩ := ini_of hin (fun q h => nomatch h) List.nodup_nil (fun q h => nomatch h)
  have hlc := in_len hin
  have grow : ∀ {F' A' E' σ' H'}, Sta g B.no F' A' E' σ' H' → Grow F H F' H' [y] ∧ F' y = none ∧ H' y ≠ none := fun {F' A' E' σ' H'} s => by
    refine ⟨⟨s.f0, s.fa.trans s.ah, fun a h1 h2 => s.fr a h1 ?_, fun a o hm e => s.ah _ _ (s.a0 _ _ (by show less H [y] a = some o; rw [less_out hm]; exact e))⟩, s.fr y hFy (.inr (by simp [Bs.no, B])), (s.inn y (by simp [Bs.no, B])).1⟩
    by_cases hm : a ∈ [y]
    · exact .inr hm
    · left
      show less H [y] a ≠ none
      rw [less_out hm]; exact h2
  have st : start N (.ref y :: ws) = (V.ref y :: ws).map some ++ List.replicate (N.length - (ws.length + 1)) none := rfl
  have low : ∀ i, i < E.length → (start N (.ref y :: ws))[i + 1]? = (ws.map some)[i]? := fun i hi => by
    rw [st, List.getElem?_append_left (by simp; omega)]
    simp
  have own : ∀ i p, Own (.kp (Adr.mk y) :: (E ++ List.replicate (N.length - ps.length) .un)) (start N (.ref y :: ws)) i p → False := fun i p ⟨e1, b, e2, e3⟩ => by
    cases i with
    | zero => simp at e2; subst e2; exact e3.elim
    | succ i =>
      have e2 : (E ++ List.replicate (N.length - ps.length) Bd.un)[i]? = some b := by simpa using e2
      by_cases hi : i < E.length
      · rw [List.getElem?_append_left hi] at e2
        rw [low i hi] at e1
        have := i4 i p ⟨e1, b, e2, e3⟩
        cases this
      · rw [List.getElem?_append_right (by omega), List.getElem?_replicate] at e2
        split at e2
        · cases e2; exact e3.elim
        · cases e2
  have hle : ws.length + 1 = ps.length := by simpa using hv
  refine hgo B y dx cs r E { nx := fun _ H' => Q .non H', rt := Q } (by show upd (fun _ => none) y (.ins (g.ca (Ob.cn α)) dx []) y = _; exact upd_same) hrel hne i1 (fun c d e => fun F' A' E' σ' H' dy s pay => ?_) (fun y' e F' A' E' σ' H' fs s hf hF' fd => ?_) F (less H [y]) _ H ?_
  · obtain ⟨g1, g2, g3⟩ := grow s.no
    exact hex c d e F' H' dy g1 g2 g3 pay
  · obtain ⟨g1, g2, _⟩ := grow s
    exact hok y' e F' H' fs g1 g2 hf fd
  · refine ⟨?_, fun a o e => ?_, less_same H [y], Same.refl _, Same.refl _, fun a h _ => h, fun a h => ⟨?_, less_in h⟩, fun i b e => ?_, fun i j p o _ => (own i p o).elim, fun a o e => ?_⟩
    · rw [List.length_cons, List.length_append, List.length_replicate, i2, st, List.length_append, List.length_map, List.length_replicate, List.length_cons]; omega
    · rw [less_out (fun hm => by rw [List.mem_singleton.mp hm, hFy] at e; cases e)]; exact hFH _ _ e
    · rw [List.mem_singleton.mp h, hy]; exact fun z => nomatch z
    · cases i with
      | zero =>
        simp at e; subst e
        exact ⟨.ref y, by rw [st]; rfl, rfl⟩
      | succ i =>
        have e : (E ++ List.replicate (N.length - ps.length) Bd.un)[i]? = some b := by simpa using e
        by_cases hi : i < E.length
        · rw [List.getElem?_append_left hi] at e
          rw [low i hi]
          exact i3 i b e
        · rw [List.getElem?_append_right (by omega), List.getElem?_replicate] at e
          split at e
          · cases e; trivial
          · cases e
    · have e : upd (fun _ => none) y (.ins (g.ca (Ob.cn α)) dx []) a = some o := e
      by_cases z : a = y
      · subst z
        rw [upd_same] at e; cases e
        exact ⟨hy, less_in (by simp), fun i q => own i _ q⟩
      · rw [upd_ne z] at e; cases e
end
end Gn
/-! Gn: enumerate over a text, a text times a number, join, tuple, tests. -/
namespace L2
open PySem PySem.Spec PyProof.Rows
/-! ### enumerate(text) -/
def IteS (x : Str) : It := ⟨fun i _ => i < x.cps.size, fun i H v H' => ∃ T c, v = .ref T ∧ H T = none ∧ H' = upd H T (.tup [.int (i : Nat), .str ⟨#[c]⟩]) ∧ x.cps[i]? = some c, fun i _ => i = x.cps.size⟩
theorem turn_enumS {P : Program} {w : World} {K : PySem.W.Frag} {elts : List Expr} {kk : Nat} {tpos : Pos} (e it : Addr) (x : Str) (t : Tok) (ty : String) (hty : ty = "str_ascii_iterator" ∨ ty = "str_iterator") :
    Turn P w K (.Tuple elts kk tpos) (IteS x) [e, it] e (fun i h => (∃ old, IsEnum h e it ((i : Nat) : Int) old) ∧ h.IsStrIter it ty x t i ∧ e ≠ it) where
  mem := by simp
  obj := fun i h st b hb => by
    obtain ⟨⟨old, he⟩, ⟨o, ho, hc, hd⟩, _⟩ := st
    have e' : b = e ∨ b = it := by simpa using hb
    rcases e' with z | z
    · rw [z]; exact ⟨_, he, fun v q => nomatch q⟩
    · rw [z]; exact ⟨o, ho, fun v q => by rw [hd] at q; cases q⟩
  keep := fun i h h' st k => let ⟨⟨old, he⟩, ⟨o, ho, r⟩, hne⟩ := st; ⟨⟨old, k e (by simp) _ he⟩, ⟨o, k it (by simp) o ho, r⟩, hne⟩
  item := by
    intro X hP hw hK hc i pins s σ H E I hf st hg
    subst hP hw hK
    obtain ⟨⟨old, he⟩, hit, hne⟩ := st
    have hel : e < s.heap.objs.size := Heap.lt_size he
    have hil : it < s.heap.objs.size := by obtain ⟨_, q, _⟩ := hit; exact Heap.lt_size q
    have D : Draws X.prog X.w X.A.in1 it [it] x.cps.size (fun i v => ∃ c u, x.cps[i]? = some c ∧ v = .str ⟨#[c]⟩ u) (fun i h => h.IsStrIter it ty x t i) := by
      rcases hty with z | z
      · rw [z]; exact Draws.strAscii (A := X.A.in1) (I.ok.hd hc) it x t
      · rw [z]; exact Draws.strWide (A := X.A.in1) (I.ok.hd hc) it x t
    refine wpAny_pyNext_enum_itemD D he hit hg hne (by simpa using hne) fun u h' tk hP ho hit' hT hsz hk => ?_
    obtain ⟨c, tu, hcx, rfl⟩ := hP
    refine ⟨_, rfl, wpAny_letOwnedTupleGo_enum (s := { s with heap := h', toks := tk + 1 }) ho fun h'' he' sb => ?_⟩
    have hT2 : h''.get? s.heap.objs.size = some { cls := .type "tuple", data := .seq #[.int i tk, .str ⟨#[c]⟩ tu] } := (sb.2 _ (Nat.ne_of_gt hel)).trans hT
    have new : ObjOk X.prog X.w (upd H s.heap.objs.size (.tup [.int (i : Nat), .str ⟨#[c]⟩])) h'' s.heap.objs.size (.tup [.int (i : Nat), .str ⟨#[c]⟩]) :=
      ⟨by show 2 ≤ sizeLine; decide, [.int i tk, .str ⟨#[c]⟩ tu], .cons ⟨_, rfl⟩ (.cons ⟨_, rfl⟩ .nil), ⟨_, hT2, rfl, _, rfl⟩⟩
    have I1 : Inv X pins σ (upd H s.heap.objs.size (.tup [.int (i : Nat), .str ⟨#[c]⟩])) { s with heap := h'', toks := tk + 1 } :=
      I.turnedNew (ch := [e, it]) (fun b ob hb q => (sb.2 b (fun z => hb (by simp [z]))).trans (hk b ob (fun z => hb (by simp [z])) (fun z => hb (by simp [z])) q)) hf (Nat.le_refl _) new
    refine ⟨.ref s.heap.objs.size, _, I1, rfl, ⟨_, c, rfl, I.hok.fresh (Nat.le_refl _), rfl, hcx⟩, ⟨⟨.str ⟨#[c]⟩ tu, ?_⟩, ?_, hne⟩, fun b hb => ?_⟩
    · have e1 : ((i + 1 : Nat) : Int) = (i : Int) + 1 := by omega
      rw [e1]; exact he'
    · obtain ⟨o, ho, r⟩ := hit'
      exact ⟨o, (sb.2 it (Ne.symm hne)).trans ho, r⟩
    · have hb' : b < s.heap.objs.size := by
        have e' : b = e ∨ b = it := by simpa using hb
        rcases e' with z | z
        · rw [z]; exact hel
        · rw [z]; exact hil
      rw [upd_ne (Nat.ne_of_lt hb')]
      exact (hf b hb).1
  done := by
    intro X hP hw hK hc i pins s σ H E I hf st hg
    subst hP hw hK
    obtain ⟨⟨old, he⟩, hit, hne⟩ := st
    have hg : i = x.cps.size := hg
    subst hg
    have D : Draws X.prog X.w X.A.in1 it [it] x.cps.size (fun i v => ∃ c u, x.cps[i]? = some c ∧ v = .str ⟨#[c]⟩ u) (fun i h => h.IsStrIter it ty x t i) := by
      rcases hty with z | z
      · rw [z]; exact Draws.strAscii (A := X.A.in1) (I.ok.hd hc) it x t
      · rw [z]; exact Draws.strWide (A := X.A.in1) (I.ok.hd hc) it x t
    obtain ⟨f0, f1, f2, f3, f4, f5⟩ := hf it (by simp)
    exact wpAny_pyNext_enum_endD D he hit fun h' eb => ⟨rfl, I.turned (t' := s.toks) (fun b o hb q => eb b o hb q) f0 f1 f3 f4 f5⟩
  self := fun A i s Q E st h => let ⟨⟨_, he⟩, _⟩ := st; wpAny_pyIter_enum he h
def iEnumS (ta : TA) : TI := fun σ H R => ta σ H fun vs H1 => ∃ x, vs = [.str x] ∧ R (IteS x) H1
theorem pi_enumS {X : Cx} {e : Expr} {ta : TA} {p pos tpos : Pos} {elts : List Expr} {kk : Nat} (hg : Gl X "enumerate") (hm : X.mg "enumerate" = none) (ha : PA X [e] ta) (hs : starEach [e] X.env = [(false, eval e X.env)] := by rfl) :
    PI X (.Tuple elts kk tpos) (.Call (.Name "enumerate" p) [e] [] pos) (iEnumS ta) := by
  refine ⟨fun pins s σ H R I h => ?_⟩
  refine Call_ (ld_blt I hg hm boot_enumerate (PyProof.Rows.callWith_type1 (thn (ha.run pos pins s σ H _ I h) fun us s1 ⟨vs, H1, I1, r1, q1⟩ => ?_) hs rfl))
  obtain ⟨x, ex, q⟩ := q1
  subst ex
  cases r1 with
  | cons r rr =>
    cases rr
    obtain ⟨t, rfl⟩ := r
    refine call_enumerate_str fun h' he hit hsz hk => wpAny_pyIter_enum he ?_
    have I2 : Inv X pins σ H1 { s1 with heap := h' } := I1.kept (t' := s1.toks) hk
    have hty : strIterType x = "str_ascii_iterator" ∨ strIterType x = "str_iterator" := by
      unfold strIterType
      split
      · exact .inl rfl
      · exact .inr rfl
    refine ⟨s1.heap.objs.size + 1, [s1.heap.objs.size + 1, s1.heap.objs.size], _, _, H1, rfl, I2, turn_enumS (s1.heap.objs.size + 1) s1.heap.objs.size x t (strIterType x) hty, ⟨⟨.none, he⟩, hit, Nat.succ_ne_self _⟩, fun b hb => ?_, q⟩
    have e' : b = s1.heap.objs.size + 1 ∨ b = s1.heap.objs.size := by simpa using hb
    have hle : s1.heap.objs.size ≤ b := by
      rcases e' with z | z
      · rw [z]; exact Nat.le_add_right _ _
      · rw [z]; exact Nat.le_refl _
    exact I1.fpOk hle (I1.hok.fresh hle)
/-! ### a <= b < c <= d, tested -/
def tChain3 (r1 r2 r3 : R2) (ta tb tc td : TE) : TT := fun σ H Q => ta σ H fun x H1 => tb σ H1 fun y H2 => r1 x y H2 fun z H3 => ∃ k, z = .bl k ∧
  (if k = true then tc σ H3 fun w H4 => r2 y w H4 fun z' H5 => ∃ k', z' = .bl k' ∧ (if k' = true then td σ H5 fun u H6 => r3 w u H6 fun z2 H7 => ∃ k2, z2 = .bl k2 ∧ Q k2 H7 else Q false H5) else Q false H3)
theorem pt_chain3 {X : Cx} {a b c d : Expr} {ta tb tc td : TE} {pos : Pos} {o1 o2 o3 : CmpOp} {r1 r2 r3 : R2} (h1 : OpR X (compareOp o1) r1) (h2 : OpR X (compareOp o2) r2) (h3 : OpR X (compareOp o3) r3) (ha : PE X a ta) (hb : PE X b tb) (hc : PE X c tc) (hd : PE X d td)
    (hm : lastMarks [o1, o2, o3] [b, c, d] = false := by with_unfolding_all rfl) : PT X (.Compare a [o1, o2, o3] [b, c, d] pos) (tChain3 r1 r2 r3 ta tb tc td) := by
  refine ⟨fun pins s σ H Q I h => ?_⟩
  refine isTrue_chain (thn (ha.run pins s σ H _ I h) fun v s1 ⟨x, H1, I1, rx, q1⟩ => test_link (thn (hb.run pins s1 σ H1 _ I1 q1) fun u s2 ⟨y, H2, I2, ry, q2⟩ =>
    thn (h1 pins s2 σ H2 x y v u _ I2 rx ry q2) fun d s3 ⟨z, H3, I3, rz, k, e, q3⟩ => ?_)) hm
  subst e
  cases rz
  refine wpAny_truthy_bool ?_
  cases k with
  | false => exact ite_ff ⟨H3, I3, q3⟩
  | true =>
    refine ite_tt (test_link (thn (hc.run pins s3 σ H3 _ I3 q3) fun w' s4 ⟨w4, H4, I4, r4, q4⟩ => thn (h2 pins s4 σ H4 y w4 u w' _ I4 ry r4 q4) fun d' s5 ⟨z2, H5, I5, r5, k2, e2, q5⟩ => ?_))
    subst e2
    cases r5
    refine wpAny_truthy_bool ?_
    cases k2 with
    | false => exact ite_ff ⟨H5, I5, q5⟩
    | true =>
      refine ite_tt (test_last (thn (hd.run pins s5 σ H5 _ I5 q5) fun u6 s6 ⟨w6, H6, I6, r6, q6⟩ => thn (h3 pins s6 σ H6 w4 w6 w' u6 _ I6 r4 r6 q6) fun d7 s7 ⟨z7, H7, I7, r7, k7, e7, q7⟩ => ?_))
      subst e7
      cases r7
      exact wpAny_truthy_bool ⟨H7, I7, q7⟩
/-! ### text * int -/
def rRepS : R2 := fun x y H Q => ∃ i k, x = .str i ∧ y = .int k ∧ -(2 ^ 63) ≤ k ∧ k < 2 ^ 63 ∧ i.length * k.toNat ≤ sizeLine ∧ Q (.str ⟨(List.replicate k.toNat i.cps.toList).flatten.toArray⟩) H
theorem fold_rep (xs : List Nat) : ∀ (n : Nat) (acc : List Nat), List.foldl (fun x1 x2 => x1 ++ x2) acc.toArray (List.replicate n xs.toArray) = (acc ++ (List.replicate n xs).flatten).toArray
  | 0, acc => by simp
  | n + 1, acc => by
    rw [List.replicate_succ, List.foldl_cons, List.replicate_succ, List.flatten_cons]
    have e : acc.toArray ++ xs.toArray = (acc ++ xs).toArray := by simp
    rw [e, fold_rep xs n (acc ++ xs)]
    simp
theorem op_repS {X : Cx} : OpR X (binaryOp .Mult) rRepS := by
  intro pins s σ H x y v u Q I rx ry h
  obtain ⟨i, k, rfl, rfl, h1, h2, hz, q⟩ := h
  obtain ⟨t, rfl⟩ := rx
  obtain ⟨t', rfl⟩ := ry
  have hz' : i.length * k.toNat ≤ 16777216 := by rw [sizeLine_eq] at hz; exact hz
  refine PySem.P.mul_str ?_ (fun a b => ?_) (fun a b => ?_) ?_
  · have a1 : ¬ k < -(2 ^ 63 : Int) := Int.not_lt.mpr h1
    have a2 : ¬ k ≥ (2 ^ 63 : Int) := Int.not_le.mpr h2
    show (decide (k < -(2 ^ 63 : Int)) || decide (k ≥ 2 ^ 63)) = false
    rw [decide_eq_false a1, decide_eq_false a2]; rfl
  · intro c
    have hk : (0 : Int) < k := by omega
    have e : ((i.length : Int)) * k ≤ 16777216 := by
      have : ((i.length * k.toNat : Nat) : Int) ≤ 16777216 := Int.ofNat_le.mpr hz'
      rw [Int.natCast_mul, Int.toNat_of_nonneg (by omega)] at this
      exact this
    have h0 : (16777216 : Int) ≤ 2 ^ 63 - 1 := by decide
    have : (i.length : Int) ≤ (2 ^ 63 - 1) / k := (Int.le_ediv_iff_mul_le hk).mpr (Int.le_trans e h0)
    exact absurd c (Int.not_lt.mpr this)
  · show decide (i.length * k.toNat > sizeLine) = false
    exact decide_eq_false (by omega)
  · have e0 : i.cps.toList.toArray = i.cps := by simp
    split
    · have : k.toNat = 0 := by omega
      rw [this] at q
      exact ⟨by rw [sizeLine_eq]; decide, ⟨.str Str.empty, H, I.tok _, ⟨_, rfl⟩, q⟩⟩
    · split
      · rename_i n1 n2
        refine ⟨.str i, H, I, ⟨_, rfl⟩, ?_⟩
        rcases Bool.or_eq_true_iff.mp n2 with z | z
        · have : k = 1 := by simpa using z
          subst this
          have e : (⟨(List.replicate (1 : Int).toNat i.cps.toList).flatten.toArray⟩ : Str) = i := by
            show Str.mk _ = _
            simp
          rw [e] at q; exact q
        · have z : i.length = 0 := by simpa using z
          have e : i.cps = #[] := Array.eq_empty_of_size_eq_zero z
          have e2 : (⟨(List.replicate k.toNat i.cps.toList).flatten.toArray⟩ : Str) = i := by
            obtain ⟨c⟩ := i
            have e : c = #[] := e
            subst e
            simp
          rw [e2] at q; exact q
      · have e := fold_rep i.cps.toList k.toNat []
        rw [e0, List.nil_append] at e
        have e3 : (⟨List.foldl (fun x1 x2 => x1 ++ x2) #[] (List.replicate k.toNat i.cps)⟩ : Str) = ⟨(List.replicate k.toNat i.cps.toList).flatten.toArray⟩ := congrArg Str.mk e
        rw [← e3] at q
        refine ⟨?_, ⟨.str _, H, I.tok _, ⟨_, rfl⟩, q⟩⟩
        rw [e3]
        show (List.replicate k.toNat i.cps.toList).flatten.toArray.size ≤ sizeLine
        have : (List.replicate k.toNat i.cps.toList).flatten.length = k.toNat * i.cps.size := by simp
        rw [List.size_toArray, this, Nat.mul_comm]; exact hz
end L2
namespace Gn
open PySem L2
open Rp (rp)
section
variable {g : Gx} {B : Bs} {E E1 E2 : List Bd} {ta tb te : TE} {α β : Type} [Rp α] [Rp β]
theorem sr_enumS {t : Tx} (h : Px g B E E1 te t) : Sr g B E E1 (iEnumS (tCons te tNil)) (enumL (t.map fun c => ([c] : Tx))) := fun F A σ H s R k =>
  h F A σ H s _ fun F1 A1 H1 v s1 e1 rv => by
    have rv : v = .str (Tx.s t) := rv
    subst rv
    have hl : (enumL (t.map fun c => ([c] : Tx))).length = t.length := by rw [enumL_len, List.length_map]
    refine ⟨Tx.s t, rfl, k F1 A1 H1 (IteS (Tx.s t)) B s1 Nest.refl e1 ⟨fun i F A E σ H hi s => ?_, fun F A E σ H s => ?_, fun B' i F A E σ H v' H' x nB hx s y => ?_⟩⟩
    · show i < t.toArray.size
      rw [hl] at hi; simpa using hi
    · show _ = t.toArray.size
      rw [hl]; simp
    · obtain ⟨T, c, e1, nT, e2, hc⟩ := y
      have hc : t.toArray[i]? = some c := hc
      simp at hc
      obtain ⟨hx1, hx2⟩ := enumL_get hx
      rw [List.getElem?_map, hc] at hx2
      have hx2 : [c] = x.2 := Option.some.inj hx2
      subst e1; subst e2
      obtain ⟨s3, nn⟩ := s.alloc (o := .tup [.int ((i : Nat) : Int), .str ⟨#[c]⟩]) nT
      obtain ⟨F4, A4, s4, hF, hA, hp4⟩ := s3.keep nn
      exact ⟨F4, A4, s4, T, _, _, rfl, hp4, by rw [hx1]; rfl, by rw [← hx2]; rfl⟩
theorem pt_chain3' {r1 r2 r3 : R2} {δ γ : Type} [Rp γ] [Rp δ] {tc td : TE} {x : α} {y : β} {z : γ} {u : δ} {b b' b2 : Bool} (ha : Px g B E E ta x) (hb : Px g B E E tb y) (h1 : R2x g B E r1 x y b) (hc : Px g B E E tc z) (h2 : R2x g B E r2 y z b') (hd : Px g B E E td u) (h3 : R2x g B E r3 z u b2) :
    PxT g B E E (tChain3 r1 r2 r3 ta tb tc td) (b && (b' && b2)) := fun F A σ H s Q k =>
  ha F A σ H s _ fun F1 A1 H1 v s1 e1 rv => hb F1 A1 σ H1 s1 _ fun F2 A2 H2 w s2 e2 rw => h1 F2 A2 σ H2 v w s2 (Rp.mono e2 rv) rw _ fun F3 A3 H3 q s3 e3 rq => by
    have rq : q = .bl b := rq
    subst rq
    refine ⟨b, rfl, ?_⟩
    cases b with
    | false => exact iteF (k F3 A3 H3 s3 ((e1.trans e2).trans e3))
    | true =>
      refine iteT (hc F3 A3 σ H3 s3 _ fun F4 A4 H4 p s4 e4 rp' => h2 F4 A4 σ H4 w p s4 (Rp.mono (e3.trans e4) rw) rp' _ fun F5 A5 H5 q s5 e5 rq => ?_)
      have rq : q = .bl b' := rq
      subst rq
      refine ⟨b', rfl, ?_⟩
      cases b' with
      | false => exact iteF (k F5 A5 H5 s5 ((((e1.trans e2).trans e3).trans e4).trans e5))
      | true =>
        refine iteT (hd F5 A5 σ H5 s5 _ fun F6 A6 H6 o s6 e6 ro => h3 F6 A6 σ H6 p o s6 (Rp.mono (e5.trans e6) rp') ro _ fun F7 A7 H7 q s7 e7 rq => ?_)
        have rq : q = .bl b2 := rq
        subst rq
        exact ⟨b2, rfl, k F7 A7 H7 s7 ((((((e1.trans e2).trans e3).trans e4).trans e5).trans e6).trans e7)⟩
theorem px_chainR {r r' : R2} {γ : Type} [Rp γ] {tc : TE} {E3 : List Bd} {x : α} {y : β} {b c : Bool} (ha : Px g B E E1 ta x) (hb : Px g B E1 E2 tb y) (hr : R2x g B E2 r x y b) (h1 : b = true → ∃ z : γ, Px g B E2 E3 tc z ∧ R2x g B E3 r' y z c) (h0 : b = false → E2 = E3 ∧ c = false) :
    Px g B E E3 (tChain r r' ta tb tc) c := by
  cases b with
  | true =>
    obtain ⟨z, p, q⟩ := h1 rfl
    exact px_chain ha hb hr (fun _ => p) (fun _ => q) (fun h => nomatch h)
  | false =>
    obtain ⟨h2, h3⟩ := h0 rfl
    subst h2; subst h3
    exact px_chain (z := y) (b' := false) ha hb hr (fun h => nomatch h) (fun h => nomatch h) (fun _ => rfl)
theorem tx_rep {t : Tx} {k : Int} : Tx.s (repL t k) = ⟨(List.replicate k.toNat (Tx.s t).cps.toList).flatten.toArray⟩ := by
  unfold repL Tx.s; rfl
theorem px_repS {t : Tx} {n : Int} (ha : Px g B E E1 ta t) (hb : Px g B E1 E2 tb n) (hz : repOk t.length n = true) : Px g B E E2 (tOp rRepS ta tb) (repL t n) := fun F A σ H s Q k =>
  ha F A σ H s _ fun F1 A1 H1 v s1 e1 rv => hb F1 A1 σ H1 s1 _ fun F2 A2 H2 w s2 e2 rw => by
    have rv : v = .str (Tx.s t) := rv
    have rw : w = .int n := rw
    subst rv; subst rw
    unfold repOk at hz
    simp only [Bool.and_eq_true, decide_eq_true_eq] at hz
    refine ⟨Tx.s t, n, rfl, rfl, hz.1.1, hz.1.2, ?_, k F2 A2 H2 _ s2 (e1.trans e2) (congrArg V.str tx_rep.symm)⟩
    have : (Tx.s t).length = t.length := by show t.toArray.size = _; simp
    rw [this]; exact sz_ok hz.2
/-- a tuple of any length -/
structure Tu (α : Type) where
  xs : List α
instance instRpTu {α : Type} [Rp α] : Rp (Tu α) := ⟨fun g H v x => ∃ p vs, v = .ref p ∧ H p = some (.tup vs) ∧ rps g H vs x.xs, fun s ⟨p, vs, e, h, r⟩ => ⟨p, vs, e, s _ _ h, rps_mono s r⟩⟩
theorem call_tuple_ofK {X : Cx} {K : PySem.W.Frag} (h : X.K = K) : CallR X (.type "tuple") (fun xs H Q => ∃ p ys, xs = [.ref p] ∧ ((SqL K H p ys ∧ ∀ l, H l = none → Q (.ref l) (upd H l (.tup ys))) ∨ (SqT K H p ys ∧ Q (.ref p) H))) := h ▸ call_tuple_of
theorem px_tuple {xs : List α} {st : List Bd → Prop} (ha : PxL g B E E1 te xs st) (hst : st E1) :
    Px g B E E1 (tCB (fun xs H Q => ∃ p ys, xs = [.ref p] ∧ ((SqL g.K H p ys ∧ ∀ l, H l = none → Q (.ref l) (upd H l (.tup ys))) ∨ (SqT g.K H p ys ∧ Q (.ref p) H))) (tCons te tNil)) (Tu.mk xs) := fun F A σ H s Q k =>
  ha F A σ H s _ fun F1 A1 H1 v s1 e1 rv => by
    obtain ⟨p, vs, ev, hp, r⟩ := rv F1 A1 H1 E1 s1 (Same.refl _) hst
    subst ev
    refine ⟨p, vs, rfl, .inl ⟨.of hp, fun l hl => ?_⟩⟩
    obtain ⟨s3, nn⟩ := s1.alloc (o := .tup vs) hl
    obtain ⟨F4, A4, s4, hF, hA, hp4⟩ := s3.keep nn
    exact k F4 A4 _ _ s4 (e1.trans hF) ⟨l, vs, rfl, hp4, rps_mono hF r⟩
/-- sep.join(texts) -/
def joinT (a : Tx) (ys : List Tx) : Tx := (Txt.join (Tx.s a) (ys.map Tx.s)).cps.toList
def joinOk (a : Tx) (ys : List Tx) : Bool := decide ((ys.map (·.length)).sum + ys.length * a.length ≤ 16777216)
theorem px_join {a : Tx} {ys : List Tx} {st : List Bd → Prop} (ha : Px g B E E1 ta a) (hb : PxL g B E1 E2 tb ys st) (hst : st E2) (hz : joinOk a ys = true) :
    Px g B E E2 (tBM g.K "str" (fun x xs H Q => ∃ a p, ∃ ys : List Str, x = .str a ∧ xs = [.ref p] ∧ (SqL g.K H p (ys.map V.str) ∨ SqT g.K H p (ys.map V.str)) ∧
    (ys.map (·.length)).sum + ys.length * a.length ≤ 16777216 ∧ Q (.str (Txt.join a ys)) H) ta (tCons tb tNil)) (joinT a ys) := fun F A σ H s Q k =>
  ha F A σ H s _ fun F1 A1 H1 v s1 e1 rv => by
    have rv : v = .str (Tx.s a) := rv
    subst rv
    refine ⟨rfl, hb F1 A1 σ H1 s1 _ fun F2 A2 H2 w s2 e2 rw => ?_⟩
    obtain ⟨p, vs, ev, hp, r⟩ := rw F2 A2 H2 E2 s2 (Same.refl _) hst
    subst ev
    have r := rps_tx.mp r
    subst r
    refine ⟨Tx.s a, p, ys.map Tx.s, rfl, rfl, .inl (.of (by rw [List.map_map]; exact hp)), ?_, k F2 A2 H2 _ s2 (e1.trans e2) ?_⟩
    · have h1 : (Tx.s a).length = a.length := by show a.toArray.size = _; simp
      have h2 : ((ys.map Tx.s).map (·.length)) = ys.map (·.length) := by
        rw [List.map_map]
        refine List.map_congr_left fun y _ => ?_
        show y.toArray.size = _; simp
      rw [h1, h2, List.length_map]
      exact of_decide_eq_true hz
    · show V.str _ = V.str (Tx.s (joinT a ys))
      unfold joinT Tx.s; simp
theorem mt_joinK {X : Cx} {K : PySem.W.Frag} (h : X.K = K) : MtR X "str.join" (fun x xs H Q => ∃ a p, ∃ ys : List Str, x = .str a ∧ xs = [.ref p] ∧ (SqL K H p (ys.map V.str) ∨ SqT K H p (ys.map V.str)) ∧
    (ys.map (·.length)).sum + ys.length * a.length ≤ 16777216 ∧ Q (.str (Txt.join a ys)) H) := h ▸ mt_join
theorem pe_bmK {X : Cx} {K : PySem.W.Frag} {to : TE} {T : String} {r : V → List V → Hp → VK → Prop} {e : Expr} {t : TA} (h : X.K = K) (p : PE X e (tBM X.K T r to t)) : PE X e (tBM K T r to t) := h ▸ p
/-- if a list: -/
theorem pt_truthK {X : Cx} {K : PySem.W.Frag} {a : Expr} {ta : TE} (h : X.K = K) (ha : PE X a ta) (he : ∀ whole, isTrue a X.env whole = (do let v ← whole; standAt a.pos; holding [v] (truthy v))) :
    PT X a (fun σ H Q => ta σ H fun x H' => ∃ k, TruV K x H' k ∧ Q k H') := h ▸ pt_truth ha he
theorem pt_tru {xs : List α} {st : List Bd → Prop} (ha : PxL g B E E1 te xs st) (hst : st E1) : PxT g B E E1 (fun σ H Q => te σ H fun x H' => ∃ k, TruV g.K x H' k ∧ Q k H') (!xs.isEmpty) := fun F A σ H s Q k =>
  ha F A σ H s _ fun F1 A1 H1 v s1 e1 rv => by
    obtain ⟨p, vs, ev, hp, r⟩ := rv F1 A1 H1 E1 s1 (Same.refl _) hst
    subst ev
    refine ⟨!xs.isEmpty, .inl ⟨vs, .of hp, ?_⟩, k F1 A1 H1 s1 e1⟩
    have := rps_len r
    cases vs <;> cases xs <;> first | rfl | (simp at this)
/-- a sign in a text -/
def one (c : Tx) : Bool := decide (c.length = 1)
def inS (c z : Tx) : Bool := decide (c.headD 0 ∈ z)
theorem one_eq {c : Tx} (h : one c = true) : c = [c.headD 0] := by
  have h : c.length = 1 := of_decide_eq_true h
  match c, h with
  | [x], _ => rfl
theorem r2_inS {c z : Tx} (h : one c = true) : R2x g B E (fun x y H Q => ∃ (c : Nat) (z : Str), x = .str ⟨#[c]⟩ ∧ y = .str z ∧ Q (.bl (decide (c ∈ z.cps.toList))) H) c z (inS c z) := fun F A σ H v w s rv rw Q q => by
  have rv : v = .str (Tx.s c) := rv
  have rw : w = .str (Tx.s z) := rw
  refine ⟨c.headD 0, Tx.s z, rv.trans (by rw [one_eq h]; rfl), rw, ?_⟩
  have e : decide (c.headD 0 ∈ (Tx.s z).cps.toList) = inS c z := by unfold inS Tx.s; rfl
  rw [e]
  exact q F A H _ s (Same.refl _) rfl
theorem r2_ninS {c z : Tx} (h : one c = true) : R2x g B E (fun x y H Q => ∃ (c : Nat) (z : Str), x = .str ⟨#[c]⟩ ∧ y = .str z ∧ Q (.bl (!decide (c ∈ z.cps.toList))) H) c z (!inS c z) := fun F A σ H v w s rv rw Q q => by
  have rv : v = .str (Tx.s c) := rv
  have rw : w = .str (Tx.s z) := rw
  refine ⟨c.headD 0, Tx.s z, rv.trans (by rw [one_eq h]; rfl), rw, ?_⟩
  have e : decide (c.headD 0 ∈ (Tx.s z).cps.toList) = inS c z := by unfold inS Tx.s; rfl
  rw [e]
  exact q F A H _ s (Same.refl _) rfl
end
end Gn
/-! Gn: try. -/
namespace Gn
open PySem L2
open Rp (rp)
section
variable {g : Gx} {B : Bs} {E E1 E2 : List Bd} {ta tb te : TE} {α β : Type} [Rp α] [Rp β]
theorem px_callS {rel : List Ca → Out → Prop} {X : L2.St → XK} {as : List Ar} {cs : List Ca} {ms : List Nat} {x : α} {outs : List Cn} {t : TA} (ha : PxA g B E E1 t as) (hr : Rs E1 as cs ms) (ap : Apart E1 ms as cs) (nd : ms.Nodup) (hrel : rel cs (.ret x outs)) : Px g B E (puts E1 ms outs) (tCallS (spOf g rel) X t) x := fun F A σ H s Q k =>
  ha F A σ H s _ fun F1 A1 H1 vs s1 e1 r1 => run_sp (X := X σ) hr ap nd hrel s1 r1 fun F' A' H' v s' e r => k F' A' H' v s' (e1.trans e) r
theorem pe_callXS {rel : List Ca → Out → Prop} {X : L2.St → XK} {as : List Ar} {cs : List Ca} {c : Str} {d : D} {t : TA} (ha : PxA g B E E1 t as) (hr : Rs E1 as cs []) (ap : Apart E1 [] as cs) (hrel : rel cs (.exc c d))
    (hX : ∀ F A σ H dx, Sta g B F A E1 σ H → PayOk H dx d → X σ (.ref (g.ca c)) dx H) : PxE g B E (tCallS (spOf g rel) X t) := fun F A σ H s Q =>
  ha F A σ H s _ fun F1 A1 H1 vs s1 e1 r1 => by
    obtain ⟨⟨ps, had⟩, ho⟩ := rs_ads s1 hr
    refine ⟨F1, cs, ps, .exc c d, s1.fa.trans s1.ah, ads_nodup s1 had List.nodup_nil ho, in_ok s1 had ho hr ap r1 had, hrel, fun F' H' dx gr hp pay => ?_⟩
    cases ps with
    | cons _ _ => exact had.elim
    | nil =>
      obtain ⟨A', s'⟩ := after_call (E' := E1) s1 had ho gr (fun p hp => nomatch hp) (fun p hp => nomatch hp) rfl fun i b e => .inr (.inl ⟨by simp, e⟩)
      exact hX _ _ σ H' dx s' pay
theorem sx_try {D : Ends} {K : PySem.W.Frag} {c : Value} {i : Nat} {ts : Addr → Value → Option Addr → TS} {Wout : WX} {tb : WX → TS} (h : Sx g B E (tb (wAs K c i ts Wout D)) D) : Sx g B E (fun D σ H => tb (wAs K c i ts Wout D) D σ H) D := h
def unAs (D : Ends) (i : Nat) : Ends := { nx := fun σ' H' => D.nx (σ'.set i none) H', rt := D.rt, bk := fun σ' H' => D.bk (σ'.set i none) H', ct := fun σ' H' => D.ct (σ'.set i none) H' }
theorem as_wish {D : Ends} {c : Value} {i : Nat} {ts : Addr → Value → Option Addr → TS} {Wout : WX} {cn : Str} (hm : PySem.W.exmOne g.K (.ref (g.ca cn)) c = some true) (hs : ∀ a, Sx g B (E1.set i (.kp (Adr.mk a))) (ts a (.ref (g.ca cn)) none) (unAs D i)) :
    ∀ F A σ H dx, Sta g B F A E1 σ H → PayOk H dx .non → WE (wAs g.K c i ts Wout D) σ (.ref (g.ca cn)) dx H := fun F A σ H dx s p => by
  have p : dx = none := p
  subst p
  exact ⟨true, hm, fun _ a ha => hs a F A _ H (s.setk (x := Adr.mk a) rfl), fun z => nomatch z⟩
theorem Sta.unset {F A H : Hp} {σ : St} (s : Sta g B F A E σ H) {i : Nat} (hi : ∀ b, E[i]? = some b → ¬ b.isO) : Sta g B F A (E.set i .un) (σ.set i none) H := by
  have back : ∀ j p, Own (E.set i .un) (σ.set i none) j p → Own E σ j p := fun j p ⟨h1, b, h2, h3⟩ => by
    by_cases hj : j = i
    · subst hj
      by_cases hl : j < E.length
      · rw [List.getElem?_set_self hl] at h2; cases h2; exact h3.elim
      · rw [List.getElem?_eq_none (by simpa using hl)] at h2; cases h2
    · rw [List.getElem?_set_ne (Ne.symm hj)] at h1 h2
      exact ⟨h1, b, h2, h3⟩
  refine ⟨by simpa using s.len, s.fa, s.ah, s.f0, s.a0, s.fr, s.inn, fun j b e => ?_, fun j k p h1 h2 => s.ne j k p (back j p h1) (back k p h2), fun a o e => ?_⟩
  · by_cases hj : j = i
    · subst hj
      by_cases hl : j < E.length
      · rw [List.getElem?_set_self hl] at e; cases e; trivial
      · rw [List.getElem?_eq_none (by simpa using hl)] at e; cases e
    · rw [List.getElem?_set_ne (Ne.symm hj)] at e ⊢
      exact s.sl j b e
  · obtain ⟨h1, h2, h3⟩ := s.pr a o e
    exact ⟨h1, h2, fun j q => h3 j (back j a q)⟩
theorem nx_un {i : Nat} {P : L2.St → Hp → Prop} (hi : ∀ b, E[i]? = some b → ¬ b.isO) (h : ∀ σ H, Sp' g B (E.set i .un) σ H → P σ H) : ∀ σ H, Sp' g B E σ H → P (σ.set i none) H := fun σ H ⟨F, A, s⟩ => h _ _ ⟨F, A, s.unset hi⟩
/-- a slot that is known to hold no None -/
theorem sx_some {t : TS} {D : Ends} {i : Nat} {x : Option α} {y : α} (hi : E[i]? = some (.kp x)) (e : x = some y) (h : Sx g B (E.set i (.kp y)) t D) : Sx g B E t D := fun F A σ H s => by
  subst e
  obtain ⟨v, e1, r⟩ := s.sl i _ hi
  have hs : σ.set i (some v) = σ := by
    apply List.ext_getElem?
    intro j
    by_cases h : j = i
    · subst h
      rw [List.getElem?_set_self (List.getElem?_eq_some_iff.mp e1).1, e1]
    · rw [List.getElem?_set_ne (Ne.symm h)]
  have := s.setk (i := i) (x := y) (v := v) r
  rw [hs] at this
  exact h F A σ H this
/-- isinstance(e, C) of the exception of the suite -/
def tIsE (K : PySem.W.Frag) (a : Addr) (cls : Value) (d : Option Addr) (t : TA) : TE := fun σ H Q => ∃ D, cls = .ref D ∧ d = none ∧ ExcC K D ∧ tCB (rIsE K D a) t σ H Q
theorem px_isE {a : Addr} {i : Nat} {cn : Str} {v : V} {cv : Value} {b : Bool} (hi : E[i]? = some (.kp (Adr.mk a))) (C : ExcC g.K (g.ca cn)) (hv : ∀ u, RelV v u → u = cv) (hk : PySem.W.kitOne g.K (.ref (g.ca cn)) cv = some b) :
    Px g B E E (tIsE g.K a (.ref (g.ca cn)) none (tCons (tVar i) (tCons (tC v) tNil))) b := fun F A σ H s Q k => by
  obtain ⟨w, e, r⟩ := s.sl i _ hi
  have r : w = .ref a := r
  subst r
  exact ⟨_, rfl, rfl, C, .ref a, e, v, cv, b, rfl, hv, hk, k F A H _ s (Same.refl _) rfl⟩
end
theorem pe_isE {X : Cx} {K : PySem.W.Frag} {a : Addr} {oe : Obj} {cls : Value} {d : Option Addr} {pn : List (Addr × Obj)} {e : Expr} {es : List Expr} {t : TA} {p pos : Pos} (h : X.K = K) (hz : Zc cls d oe) (hf : ∃ vs, oe.data = .fields vs)
    (hg : Gl (X.suite a ((a, oe) :: pn)) "isinstance") (hm : X.mg "isinstance" = none) (ha : PA (X.suite a ((a, oe) :: pn)) (e :: es) t) 
    (he : starEach (e :: es) (X.suite a ((a, oe) :: pn)).env = (false, eval e (X.suite a ((a, oe) :: pn)).env) :: starEach es (X.suite a ((a, oe) :: pn)).env := by rfl) (hpl : (backTo pos (starEach es (X.suite a ((a, oe) :: pn)).env)).any (·.1) = false := by rfl) :
    PE (X.suite a ((a, oe) :: pn)) (.Call (.Name "isinstance" p) (e :: es) [] pos) (tIsE K a cls d t) := by
  subst h
  refine ⟨fun pins s σ H Q I h => ?_⟩
  obtain ⟨D, rfl, rfl, C, q⟩ := h
  exact (pe_callB (call_isE C hz hf) hg hm (by decide +kernel) ha (he := he) (hpl := hpl)).run pins s σ H Q I q
end Gn
/-! Gn: data of any kind, asked. -/
namespace Gn
open PySem L2
open Rp (rp)
/-- a try whose exceptions, without a payload, are caught -/
def tryR {α : Type} (m : R α) (f : Str → R α) : R α := match m with
  | .ok a => .ok a
  | .ex c .non => f c
  | _ => .bad
theorem try_ok {α : Type} {m : R α} {f : Str → R α} {a s : α} (h : R.ok a = m) (hT : tryR m f = .ok s) : R.ok a = R.ok s := by subst h; exact hT
theorem try_ne {α : Type} {m : R α} {f : Str → R α} {s : α} (hT : tryR m f = .ok s) : m ≠ .bad := fun e => by subst e; cases hT
theorem try_ex {α : Type} {m : R α} {f : Str → R α} {c : Str} {d : D} {s : α} (hT : tryR m f = .ok s) (h : m = .ex c d) : d = .non ∧ f c = .ok s := by
  subst h
  cases d with
  | non => exact ⟨rfl, hT⟩
  | bl _ => cases hT
  | int _ => cases hT
  | str _ => cases hT
  | lst _ => cases hT
  | tup _ => cases hT
theorem if_ok {α : Type} {c : Bool} {m : R α} {s : α} (h : (if c = true then m else R.bad) = .ok s) : c = true ∧ m = .ok s := by
  cases c with
  | true => exact ⟨rfl, h⟩
  | false => cases h
def tTryAs (K : PySem.W.Frag) (c : Value) (i : Nat) (tb : WX → TS) (ts : Addr → Value → Option Addr → TS) (Wout : WX) : TS := fun D σ H => tb (wAs K c i ts Wout D) D σ H
theorem ps_try_asG {X : Cx} {K : PySem.W.Frag} {x n : Str} {c : Value} {i : Nat} {body suite : List Stmt} {b₀ : Stmt} {np pos pos' : Pos} {tb : WX → TS} {ts : Addr → Value → Option Addr → TS} {Wout : WX} (hK : X.K = K) (hs : X.stack = X.env :: X.outer) (hf : X.env.frame = some X.env.locals) (hN : X.N.Nodup) (hi : X.N[i]? = some n) (hln : X.env.kindOf n = some .local) (hc : Names X x c) (tk : L2.Takes X Wout)
    (hb : ∀ (W : WX) (pn : List (Addr × Obj)) (xe : Value → Shared → Prop), L2.Takes (X.tr pn xe) W → PySem.PassesOwn (model X.prog X.w) X.A X.env xe → PSs (X.tr pn xe) body (tb W))
    (hsu : ∀ (a : Addr) (oe : Obj) (cls : Value) (d : Option Addr) (pn : List (Addr × Obj)), Zc cls d oe → (∃ vs, oe.data = .fields vs) → PSs (X.suite a ((a, oe) :: pn)) (b₀ :: suite) (ts a cls d)) :
    PS X (.Try body [.ExceptHandler (some (.Name x np)) (some n) (b₀ :: suite) pos'] [] [] pos) (tTryAs K c i tb ts Wout) := hK ▸ ps_try_as hs hf hN hi hln hc tk hb hsu
theorem sx_tryK {g : Gx} {B : Bs} {E Es : List Bd} {D : Ends} {cls : Value} {i : Nat} {ts : Addr → Value → Option Addr → TS} {Wout : WX} {tb : WX → TS} {α : Type} {r : R α}
    (h1 : ∀ c d, r = .ex c d → ∀ E1, LeE E1 Es → ∀ F A σ H dx, Sta g B F A E1 σ H → PayOk H dx d → WE (wAs g.K cls i ts Wout D) σ (.ref (g.ca c)) dx H)
    (h2 : (∀ c d, r = .ex c d → ∀ E1, LeE E1 Es → ∀ F A σ H dx, Sta g B F A E1 σ H → PayOk H dx d → WE (wAs g.K cls i ts Wout D) σ (.ref (g.ca c)) dx H) → Sx g B E (tb (wAs g.K cls i ts Wout D)) D) :
    Sx g B E (tTryAs g.K cls i tb ts Wout) D := h2 h1
def D.ty : D → String
  | .non => "NoneType"
  | .bl _ => "bool"
  | .int _ => "int"
  | .str _ => "str"
  | .lst _ => "list"
  | .tup _ => "tuple"
theorem ty_x {K : PySem.W.Frag} {H : Hp} : ∀ {v : V} {x : D}, rpD H v x → TyX K H v (.type x.ty)
  | v, .non, h => by
    have h : v = .non := by simpa [rpD] using h
    subst h; exact .base .non
  | v, .bl b, h => by
    have h : v = .bl b := by simpa [rpD] using h
    subst h; exact .base (.bl b)
  | v, .int i, h => by
    have h : v = .int i := by simpa [rpD] using h
    subst h; exact .base (.int i)
  | v, .str t, h => by
    have h : v = .str (Tx.s t) := by simpa [rpD] using h
    subst h; exact .base (.str _)
  | v, .lst xs, h => by
    simp only [rpD] at h
    obtain ⟨p, vs, e, h, _⟩ := h
    subst e; exact .base (.lst h)
  | v, .tup xs, h => by
    simp only [rpD] at h
    obtain ⟨p, vs, e, h, _⟩ := h
    subst e; exact .base (.tup h)
def isT (x : D) (T : String) : Bool := match x with
  | .non => false
  | .bl _ => T == "bool" || T == "int"
  | .int _ => T == "int"
  | .str _ => T == "str"
  | .lst _ => T == "list"
  | .tup _ => T == "tuple"
theorem kit_bool (x : D) : kitB x.ty "bool" = some (isT x "bool") := match x with
  | .non => (by decide +kernel : kitB "NoneType" "bool" = some false)
  | .bl _ => (by decide +kernel : kitB "bool" "bool" = some true)
  | .int _ => (by decide +kernel : kitB "int" "bool" = some false)
  | .str _ => (by decide +kernel : kitB "str" "bool" = some false)
  | .lst _ => (by decide +kernel : kitB "list" "bool" = some false)
  | .tup _ => (by decide +kernel : kitB "tuple" "bool" = some false)
theorem kit_int (x : D) : kitB x.ty "int" = some (isT x "int") := match x with
  | .non => (by decide +kernel : kitB "NoneType" "int" = some false)
  | .bl _ => (by decide +kernel : kitB "bool" "int" = some true)
  | .int _ => (by decide +kernel : kitB "int" "int" = some true)
  | .str _ => (by decide +kernel : kitB "str" "int" = some false)
  | .lst _ => (by decide +kernel : kitB "list" "int" = some false)
  | .tup _ => (by decide +kernel : kitB "tuple" "int" = some false)
theorem kit_str (x : D) : kitB x.ty "str" = some (isT x "str") := match x with
  | .non => (by decide +kernel : kitB "NoneType" "str" = some false)
  | .bl _ => (by decide +kernel : kitB "bool" "str" = some false)
  | .int _ => (by decide +kernel : kitB "int" "str" = some false)
  | .str _ => (by decide +kernel : kitB "str" "str" = some true)
  | .lst _ => (by decide +kernel : kitB "list" "str" = some false)
  | .tup _ => (by decide +kernel : kitB "tuple" "str" = some false)
theorem kit_list (x : D) : kitB x.ty "list" = some (isT x "list") := match x with
  | .non => (by decide +kernel : kitB "NoneType" "list" = some false)
  | .bl _ => (by decide +kernel : kitB "bool" "list" = some false)
  | .int _ => (by decide +kernel : kitB "int" "list" = some false)
  | .str _ => (by decide +kernel : kitB "str" "list" = some false)
  | .lst _ => (by decide +kernel : kitB "list" "list" = some true)
  | .tup _ => (by decide +kernel : kitB "tuple" "list" = some false)
theorem kit_tuple (x : D) : kitB x.ty "tuple" = some (isT x "tuple") := match x with
  | .non => (by decide +kernel : kitB "NoneType" "tuple" = some false)
  | .bl _ => (by decide +kernel : kitB "bool" "tuple" = some false)
  | .int _ => (by decide +kernel : kitB "int" "tuple" = some false)
  | .str _ => (by decide +kernel : kitB "str" "tuple" = some false)
  | .lst _ => (by decide +kernel : kitB "list" "tuple" = some false)
  | .tup _ => (by decide +kernel : kitB "tuple" "tuple" = some true)
theorem call_isiK {X : Cx} {K : PySem.W.Frag} (h : X.K = K) : CallR X (.builtin "isinstance") (rIsi K) := h ▸ call_isi
def D.isN : D → Bool
  | .non => true
  | _ => false
def D.len : D → Option Int
  | .lst xs => some xs.length
  | .tup xs => some xs.length
  | .str t => if sz t.length = true then some t.length else none
  | _ => none
def D.at (x : D) (i : Int) : Option D := match x with
  | .lst xs => atI xs i
  | .tup xs => atI xs i
  | _ => none
/-- both of the same plain kind -/
def eqK : D → D → Bool
  | .bl _, .bl _ => true
  | .int _, .int _ => true
  | .str _, .str _ => true
  | _, _ => false
def eqD : D → D → Bool
  | .bl a, .bl b => decide (a = b)
  | .int a, .int b => decide (a = b)
  | .str a, .str b => decide (a = b)
  | _, _ => false
theorem rpDs_len {H : Hp} : ∀ {vs : List V} {xs : List D}, rpDs H vs xs → vs.length = xs.length
  | [], [], _ => rfl
  | _ :: _, _ :: _, h => by simp only [rpDs] at h; exact congrArg (· + 1) (rpDs_len h.2)
  | [], _ :: _, h => by simp [rpDs] at h
  | _ :: _, [], h => by simp [rpDs] at h
theorem rpDs_get {H : Hp} : ∀ {vs : List V} {xs : List D} {i : Nat} {x : D}, rpDs H vs xs → xs[i]? = some x → ∃ v, vs[i]? = some v ∧ rpD H v x
  | v :: vs, y :: xs, 0, x, h, e => by
    simp only [rpDs] at h
    simp at e; subst e; exact ⟨v, rfl, h.1⟩
  | v :: vs, y :: xs, i + 1, x, h, e => by
    simp only [rpDs] at h
    obtain ⟨w, e1, r⟩ := rpDs_get (i := i) h.2 (by simpa using e)
    exact ⟨w, by simpa using e1, r⟩
  | [], [], _, _, _, e => by simp at e
  | [], _ :: _, _, _, h, _ => by simp [rpDs] at h
  | _ :: _, [], _, _, h, _ => by simp [rpDs] at h
def rIxLT (K : PySem.W.Frag) : R2 := fun x y H Q => rIxL K x y H Q ∨ rIxT K x y H Q
theorem ix_LTK {X : Cx} {K : PySem.W.Frag} (h : X.K = K) : IxR X (rIxLT K) := by
  subst h
  intro value slice pins s σ H x y v u Q I rx ry h hs
  rcases h with h | h
  · exact ix_list value slice pins s σ H x y v u Q I rx ry h hs
  · exact ix_tup value slice pins s σ H x y v u Q I rx ry h hs
def rLenD (K : PySem.W.Frag) : List V → Hp → VK → Prop := fun xs H Q => (∃ p ys, xs = [.ref p] ∧ (SqL K H p ys ∨ SqT K H p ys) ∧ Q (.int ys.length) H) ∨ (∃ z : Str, xs = [.str z] ∧ z.length ≤ sizeLine ∧ Q (.int z.length) H)
theorem call_lenD {X : Cx} {K : PySem.W.Frag} (h : X.K = K) : CallR X (.builtin "len") (rLenD K) := by
  subst h
  intro pins s σ H xs us Q I r h
  rcases h with h | h
  · exact call_len_seq pins s σ H xs us Q I r h
  · exact call_len_str pins s σ H xs us Q I r h
section
variable {g : Gx} {B : Bs} {E E1 E2 : List Bd} {ta tb te : TE}
theorem px_isND {x : D} (h : Px g B E E1 ta x) : Px g B E E1 (tIsN ta) x.isN := fun F A σ H s Q k =>
  h F A σ H s _ fun F' A' H' v s' e r => k F' A' H' _ s' e (by
    have r : rpD F' v x := r
    show V.bl _ = V.bl x.isN
    congr 1
    cases x with
    | non =>
      have r : v = .non := by simpa [rpD] using r
      subst r; rfl
    | bl b => have r : v = .bl b := by simpa [rpD] using r
              subst r; rfl
    | int b => have r : v = .int b := by simpa [rpD] using r
               subst r; rfl
    | str b => have r : v = .str (Tx.s b) := by simpa [rpD] using r
               subst r; rfl
    | lst xs =>
      simp only [rpD] at r
      obtain ⟨p, vs, e, _⟩ := r
      subst e; rfl
    | tup xs =>
      simp only [rpD] at r
      obtain ⟨p, vs, e, _⟩ := r
      subst e; rfl)
theorem px_isi {x : D} {T : String} {b : Bool} (h : Px g B E E1 ta x) (hk : kitB x.ty T = some b) : Px g B E E1 (tCB (rIsi g.K) (tCons ta (tCons (tC (.ty T)) tNil))) b := fun F A σ H s Q k =>
  h F A σ H s _ fun F' A' H' v s' e r => ⟨v, .ty T, .type x.ty, .type T, b, rfl, .ty T, ty_x (rpD_mono (s'.fa.trans s'.ah) r), kit_ty hk, k F' A' H' _ s' e rfl⟩
theorem px_lenD {x : D} {n : Int} (h : Px g B E E1 ta x) (e : x.len = some n) : Px g B E E1 (tCB (rLenD g.K) (tCons ta tNil)) n := fun F A σ H s Q k =>
  h F A σ H s _ fun F1 A1 H1 v s1 e1 r0 => by
    have r : rpD F1 v x := r0
    clear r0
    cases x with
    | lst xs =>
      simp only [rpD] at r
      obtain ⟨p, vs, ev, hp, r⟩ := r
      cases e; subst ev
      exact .inl ⟨p, vs, rfl, .inl (.of (s1.ah _ _ (s1.fa _ _ hp))), by rw [rpDs_len r]; exact k F1 A1 H1 _ s1 e1 rfl⟩
    | tup xs =>
      simp only [rpD] at r
      obtain ⟨p, vs, ev, hp, r⟩ := r
      cases e; subst ev
      exact .inl ⟨p, vs, rfl, .inr (.inl (Rd.of (s1.ah _ _ (s1.fa _ _ hp)))), by rw [rpDs_len r]; exact k F1 A1 H1 _ s1 e1 rfl⟩
    | str t =>
      have r : v = .str (Tx.s t) := by simpa [rpD] using r
      subst r
      unfold D.len at e
      have e : (if sz t.length = true then some (t.length : Int) else none) = some n := e
      by_cases hz : sz t.length = true
      · rw [if_pos hz] at e; cases e
        exact .inr ⟨Tx.s t, rfl, by rw [tx_size]; exact sz_ok hz, by rw [tx_size]; exact k F1 A1 H1 _ s1 e1 rfl⟩
      · rw [if_neg hz] at e; cases e
    | non => cases e
    | bl _ => cases e
    | int _ => cases e
theorem px_atD {x y : D} {i : Int} (h : Px g B E E1 ta x) (hi : Px g B E1 E2 tb i) (e : x.at i = some y) : Px g B E E2 (tOp (rIxLT g.K) ta tb) y := fun F A σ H s Q k =>
  h F A σ H s _ fun F1 A1 H1 v s1 e1 r0 => hi F1 A1 σ H1 s1 _ fun F2 A2 H2 w s2 e2 rw => by
    have r : rpD F2 v x := rpD_mono e2 r0
    clear r0
    have rw : w = .int i := rw
    subst rw
    have go : ∀ {xs : List D} {vs : List V}, rpDs F2 vs xs → atI xs i = some y → ∃ u, atI vs i = some u ∧ rpD F2 u y := fun {xs vs} r e => by
      unfold atI at e ⊢
      rw [rpDs_len r]
      cases h : ixN xs.length i with
      | none => rw [h] at e; cases e
      | some j =>
        rw [h] at e
        exact rpDs_get r (show xs[j]? = some y from e)
    cases x with
    | lst xs =>
      simp only [rpD] at r
      obtain ⟨p, vs, ev, hp, r⟩ := r
      subst ev
      obtain ⟨u, e3, ru⟩ := go r e
      exact .inl ⟨p, vs, i, u, rfl, rfl, .of (s2.ah _ _ (s2.fa _ _ hp)), e3, k F2 A2 H2 u s2 (e1.trans e2) ru⟩
    | tup xs =>
      simp only [rpD] at r
      obtain ⟨p, vs, ev, hp, r⟩ := r
      subst ev
      obtain ⟨u, e3, ru⟩ := go r e
      exact .inr ⟨p, vs, i, u, rfl, rfl, .inl (Rd.of (s2.ah _ _ (s2.fa _ _ hp))), e3, k F2 A2 H2 u s2 (e1.trans e2) ru⟩
    | str t => cases e
    | non => cases e
    | bl _ => cases e
    | int _ => cases e
theorem r2_eqD {x y : D} (h : eqK x y = true) : R2x g B E rEq x y (eqD x y) := fun F A σ H v w s rv rw Q q => by
  match x, y, h, rv, rw, q with
  | .bl a, .bl b, _, rv, rw, q =>
    have rv : v = .bl a := by have rv : rpD F v (.bl a) := rv; simpa [rpD] using rv
    have rw : w = .bl b := by have rw : rpD F w (.bl b) := rw; simpa [rpD] using rw
    exact r2_eq F A σ H v w s (show rp g F v a from rv) (show rp g F w b from rw) Q q
  | .int a, .int b, _, rv, rw, q =>
    have rv : v = .int a := by have rv : rpD F v (.int a) := rv; simpa [rpD] using rv
    have rw : w = .int b := by have rw : rpD F w (.int b) := rw; simpa [rpD] using rw
    exact r2_eq F A σ H v w s (show rp g F v a from rv) (show rp g F w b from rw) Q q
  | .str a, .str b, _, rv, rw, q =>
    have rv : v = .str (Tx.s a) := by have rv : rpD F v (.str a) := rv; simpa [rpD] using rv
    have rw : w = .str (Tx.s b) := by have rw : rpD F w (.str b) := rw; simpa [rpD] using rw
    exact r2_eq F A σ H v w s (show rp g F v a from rv) (show rp g F w b from rw) Q q
end
/-- the law's script -/
structure Sc where
  xs : List Int
theorem sqL_mono {K : PySem.W.Frag} {H H' : Hp} {a : Addr} {xs : List V} (s : Same H H') (h : SqL K H a xs) : SqL K H' a xs := by
  rcases h with (h | ⟨o, h⟩) | h
  · exact .inl (.inl (s _ _ h))
  · exact .inl (.inr ⟨o, s _ _ h⟩)
  · exact .inr h
instance instRpSc : Rp Sc := ⟨fun g H v x => ∃ a, v = .ref a ∧ SqL g.K H a (x.xs.map V.int), fun s ⟨a, e, h⟩ => ⟨a, e, sqL_mono s h⟩⟩
section
variable {g : Gx} {B : Bs} {E E1 E2 : List Bd} {ta tb te : TE}
theorem px_lenSc {x : Sc} (h : Px g B E E1 ta x) : Px g B E E1 (tCB (fun xs H Q => ∃ p ys, xs = [.ref p] ∧ (SqL g.K H p ys ∨ SqT g.K H p ys) ∧ Q (.int ys.length) H) (tCons ta tNil)) (x.xs.length : Int) := fun F A σ H s Q k =>
  h F A σ H s _ fun F1 A1 H1 v s1 e1 ⟨a, ev, hs⟩ => by
    subst ev
    exact ⟨a, _, rfl, .inl (sqL_mono (s1.fa.trans s1.ah) hs), by rw [List.length_map]; exact k F1 A1 H1 _ s1 e1 rfl⟩
theorem px_idxSc {x : Sc} {i y : Int} (h : Px g B E E1 ta x) (hi : Px g B E1 E2 tb i) (e : atI x.xs i = some y) : Px g B E E2 (tOp (rIxL g.K) ta tb) y := fun F A σ H s Q k =>
  h F A σ H s _ fun F1 A1 H1 v s1 e1 ⟨a, ev, hs⟩ => hi F1 A1 σ H1 s1 _ fun F2 A2 H2 w s2 e2 rw => by
    have rw : w = .int i := rw
    subst rw; subst ev
    refine ⟨a, _, i, .int y, rfl, rfl, sqL_mono (s2.fa.trans s2.ah) (sqL_mono e2 hs), ?_, k F2 A2 H2 _ s2 (e1.trans e2) rfl⟩
    unfold atI at e ⊢
    rw [List.length_map]
    cases h : ixN x.xs.length i with
    | none => rw [h] at e; cases e
    | some j =>
      rw [h] at e
      show (x.xs.map V.int)[j]? = some (V.int y)
      rw [List.getElem?_map, show x.xs[j]? = some y from e]; rfl
end
def spLaw (K : PySem.W.Frag) (n : Nat) : Sp := fun vs H Q _ => ∃ (a : Addr) (ns : List Int), vs = [.ref a] ∧ SqL K H a (ns.map V.int) ∧ ns.length ≤ n ∧ ∀ H', Q (.bl true) H'
/-- THE LAW: the walk and the plain law together -/
theorem law_done {g : Gx} {P : Program} {w : World} {mg : Str → Option Value} {base : Heap} {k n : Nat} {f : Addr} {fd : FuncData} {rel : List Ca → Out → Prop} (F : FnOk P w g.K mg base (L2.CX P w) k f fd ["script"] (spOf g rel)) (h : ∀ ns : List Int, ns.length ≤ n → rel [.k (Sc.mk ns)] (.ret true [])) :
    FnOk P w g.K mg base (L2.CX P w) k f fd ["script"] (spLaw g.K n) :=
  F.imp fun vs H Q E ⟨a, ns, e, hS, hl, hQ⟩ => by
    subst e
    exact ⟨H, [.k (Sc.mk ns)], [], .ret true [], Same.refl _, List.nodup_nil, ⟨⟨a, rfl, hS⟩, rfl⟩, h ns hl, fun F' H' v gr cn r => by
      have r : v = .bl true := r
      subst r; exact hQ H'⟩
theorem cx_false {P : Program} {w : World} {H : Hp} {s : Shared} {e : Value} {s' : Shared} (h : L2.CX P w [] H s (fun _ _ _ => False) e s') : False := by
  obtain ⟨_, _, _, _, _, _, _, _, _, _, _, _, z⟩ := h
  exact z
/-- a def of which nothing is promised -/
theorem fn_void {P : Program} {w : World} {K : PySem.W.Frag} {mg : Str → Option Value} {base : Heap} {CX : CXT} {k : Nat} {f : Addr} {fd : FuncData} {ps : List Str} {sp : Sp} (h : ∀ vs H Q X, ¬ sp vs H Q X) :
    FnOk P w K mg base CX k f fd ps sp := ⟨fun vs H Q X z => (h vs H Q X z).elim, fun A outer s H args us vs Q E hr he hb hv hs => (h _ _ _ _ hs).elim⟩
end Gn
/-! Gn: list(text), isinstance of an own class. -/
namespace L2
open PySem PySem.Spec PyProof.Rows
def rListS : List V → Hp → VK → Prop := fun xs H Q => ∃ x : Str, xs = [.str x] ∧ x.cps.size ≤ sizeLine ∧ ∀ l, H l = none → Q (.ref l) (upd H l (.lst (x.cps.toList.map fun c => V.str ⟨#[c]⟩)))
theorem call_listS {X : Cx} (hc : X.calm = true) : CallR X (.type "list") rListS := by
  intro pins s σ H xs us Q I r h
  obtain ⟨x, rfl, hz, q⟩ := h
  obtain ⟨u, rfl, t, rfl⟩ := vals1 r
  refine call_list_str (hn := hz) (I.ok.hd hc) x t fun h' tk acc c' hk hS ha => ?_
  have rv : Vals (x.cps.toList.map fun c => V.str ⟨#[c]⟩) acc.toList := vals_of_idx _ _ (by rw [List.length_map]; simpa using ha.1) fun j u hj => by
    obtain ⟨c, tu, hcx, e⟩ := ha.2 j u (by simpa using hj)
    refine ⟨.str ⟨#[c]⟩, ?_, tu, e⟩
    rw [List.getElem?_map]
    have : x.cps.toList[j]? = some c := by simpa using hcx
    rw [this]; rfl
  exact ⟨.ref s.heap.objs.size, _, I.laid (t' := tk) hk (Nat.le_refl _) (show ObjOk X.prog X.w _ h' _ (.lst _) from ⟨by rw [List.length_map]; simpa using hz, acc.toList, c', rv, by simpa using hS⟩), rfl, q _ (I.hok.fresh (Nat.le_refl _))⟩
end L2
namespace Gn
open PySem L2
open Rp (rp)
structure OwnC (K : PySem.W.Frag) (C : Addr) : Prop where
  cl : Cls K C
  ha : PySem.W.findIn K (.ref C) "__class__" = some (some (.builtin "object.__class__"))
  hn : PySem.W.specialIn K (.builtin "object.__class__") "__get__" = some (some (.builtin "getset_descriptor.__get__"))
  ht : PySem.W.takesIn K (.builtin "object.__class__") = some true
  hm : PySem.W.mroIn K C (.type "object") = some true
section
variable {g : Gx} {B : Bs} {E E1 E2 : List Bd} {te : TE}
theorem pn_listS {t : Tx} (ha : Px g B E E1 te t) (hz : sz t.length = true) : PxN g B E E1 (tCB rListS (tCons te tNil)) (t.map fun c => ([c] : Tx)) := fun F A σ H s Q k =>
  ha F A σ H s _ fun F1 A1 H1 v s1 e1 rv => by
    have rv : v = .str (Tx.s t) := rv
    subst rv
    refine ⟨Tx.s t, rfl, ?_, new_of s1 e1 (vs := (Tx.s t).cps.toList.map fun c => V.str ⟨#[c]⟩) ?_ k⟩
    · show t.toArray.size ≤ _
      simpa using sz_ok hz
    · rw [rps_tx, List.map_map]
      rfl
theorem px_isiO {α : Type} [Ob α] {x : α} (h : @Px g B E E1 te α Ob.rp x) (c : OwnC g.K (g.ca (Ob.cn α))) : Px g B E E1 (tCB (rIsi g.K) (tCons te (tCons (tC (.ref (g.ca (Ob.cn α)))) tNil))) true := fun F A σ H s Q k =>
  h F A σ H s _ fun F' A' H' v s' e r => by
    obtain ⟨a, dx, fs, ev, ea, _⟩ := r
    subst ev
    exact ⟨.ref a, .ref (g.ca (Ob.cn α)), .ref (g.ca (Ob.cn α)), .ref (g.ca (Ob.cn α)), true, rfl, .own _, .base (.ins (s'.ah _ _ (s'.fa _ _ ea)) c.cl c.ha c.hn c.ht c.hm), if_pos (beq_self_eq_true _), k F' A' H' _ s' e rfl⟩
end
section
variable {g : Gx} {B : Bs} {E E1 : List Bd} {ta : TE} {α β γ δ ε ζ : Type} [Rp α] [Rp β] [Rp γ] [Rp δ] [Rp ε] [Rp ζ]
theorem px_t40 {x : T4 α β γ δ} (ha : Px g B E E1 ta x) : Px g B E E1 (tOp (rIxT g.K) ta (tC (.int 0))) x.a := fun F A σ H s Q k =>
  ha F A σ H s _ fun F1 A1 H1 v s1 e1 ⟨p, a, b, c, d, ev, hp, r1, r2, r3, r4⟩ => ⟨p, [a, b, c, d], 0, a, ev, rfl, .of (s1.ah _ _ (s1.fa _ _ hp)), rfl, k F1 A1 H1 _ s1 e1 r1⟩
theorem px_t41 {x : T4 α β γ δ} (ha : Px g B E E1 ta x) : Px g B E E1 (tOp (rIxT g.K) ta (tC (.int 1))) x.b := fun F A σ H s Q k =>
  ha F A σ H s _ fun F1 A1 H1 v s1 e1 ⟨p, a, b, c, d, ev, hp, r1, r2, r3, r4⟩ => ⟨p, [a, b, c, d], 1, b, ev, rfl, .of (s1.ah _ _ (s1.fa _ _ hp)), rfl, k F1 A1 H1 _ s1 e1 r2⟩
theorem px_t42 {x : T4 α β γ δ} (ha : Px g B E E1 ta x) : Px g B E E1 (tOp (rIxT g.K) ta (tC (.int 2))) x.c := fun F A σ H s Q k =>
  ha F A σ H s _ fun F1 A1 H1 v s1 e1 ⟨p, a, b, c, d, ev, hp, r1, r2, r3, r4⟩ => ⟨p, [a, b, c, d], 2, c, ev, rfl, .of (s1.ah _ _ (s1.fa _ _ hp)), rfl, k F1 A1 H1 _ s1 e1 r3⟩
theorem px_t43 {x : T4 α β γ δ} (ha : Px g B E E1 ta x) : Px g B E E1 (tOp (rIxT g.K) ta (tC (.int 3))) x.d := fun F A σ H s Q k =>
  ha F A σ H s _ fun F1 A1 H1 v s1 e1 ⟨p, a, b, c, d, ev, hp, r1, r2, r3, r4⟩ => ⟨p, [a, b, c, d], 3, d, ev, rfl, .of (s1.ah _ _ (s1.fa _ _ hp)), rfl, k F1 A1 H1 _ s1 e1 r4⟩
theorem px_t50 {x : T5 α β γ δ ε} (ha : Px g B E E1 ta x) : Px g B E E1 (tOp (rIxT g.K) ta (tC (.int 0))) x.a := fun F A σ H s Q k =>
  ha F A σ H s _ fun F1 A1 H1 v s1 e1 ⟨p, a, b, c, d, f, ev, hp, r1, r2, r3, r4, r5⟩ => ⟨p, [a, b, c, d, f], 0, a, ev, rfl, .of (s1.ah _ _ (s1.fa _ _ hp)), rfl, k F1 A1 H1 _ s1 e1 r1⟩
theorem px_t51 {x : T5 α β γ δ ε} (ha : Px g B E E1 ta x) : Px g B E E1 (tOp (rIxT g.K) ta (tC (.int 1))) x.b := fun F A σ H s Q k =>
  ha F A σ H s _ fun F1 A1 H1 v s1 e1 ⟨p, a, b, c, d, f, ev, hp, r1, r2, r3, r4, r5⟩ => ⟨p, [a, b, c, d, f], 1, b, ev, rfl, .of (s1.ah _ _ (s1.fa _ _ hp)), rfl, k F1 A1 H1 _ s1 e1 r2⟩
theorem px_t52 {x : T5 α β γ δ ε} (ha : Px g B E E1 ta x) : Px g B E E1 (tOp (rIxT g.K) ta (tC (.int 2))) x.c := fun F A σ H s Q k =>
  ha F A σ H s _ fun F1 A1 H1 v s1 e1 ⟨p, a, b, c, d, f, ev, hp, r1, r2, r3, r4, r5⟩ => ⟨p, [a, b, c, d, f], 2, c, ev, rfl, .of (s1.ah _ _ (s1.fa _ _ hp)), rfl, k F1 A1 H1 _ s1 e1 r3⟩
theorem px_t53 {x : T5 α β γ δ ε} (ha : Px g B E E1 ta x) : Px g B E E1 (tOp (rIxT g.K) ta (tC (.int 3))) x.d := fun F A σ H s Q k =>
  ha F A σ H s _ fun F1 A1 H1 v s1 e1 ⟨p, a, b, c, d, f, ev, hp, r1, r2, r3, r4, r5⟩ => ⟨p, [a, b, c, d, f], 3, d, ev, rfl, .of (s1.ah _ _ (s1.fa _ _ hp)), rfl, k F1 A1 H1 _ s1 e1 r4⟩
theorem px_t54 {x : T5 α β γ δ ε} (ha : Px g B E E1 ta x) : Px g B E E1 (tOp (rIxT g.K) ta (tC (.int 4))) x.e := fun F A σ H s Q k =>
  ha F A σ H s _ fun F1 A1 H1 v s1 e1 ⟨p, a, b, c, d, f, ev, hp, r1, r2, r3, r4, r5⟩ => ⟨p, [a, b, c, d, f], 4, f, ev, rfl, .of (s1.ah _ _ (s1.fa _ _ hp)), rfl, k F1 A1 H1 _ s1 e1 r5⟩
theorem px_t60 {x : T6 α β γ δ ε ζ} (ha : Px g B E E1 ta x) : Px g B E E1 (tOp (rIxT g.K) ta (tC (.int 0))) x.a := fun F A σ H s Q k =>
  ha F A σ H s _ fun F1 A1 H1 v s1 e1 ⟨p, a, b, c, d, f, f2, ev, hp, r1, r2, r3, r4, r5, r6⟩ => ⟨p, [a, b, c, d, f, f2], 0, a, ev, rfl, .of (s1.ah _ _ (s1.fa _ _ hp)), rfl, k F1 A1 H1 _ s1 e1 r1⟩
theorem px_t61 {x : T6 α β γ δ ε ζ} (ha : Px g B E E1 ta x) : Px g B E E1 (tOp (rIxT g.K) ta (tC (.int 1))) x.b := fun F A σ H s Q k =>
  ha F A σ H s _ fun F1 A1 H1 v s1 e1 ⟨p, a, b, c, d, f, f2, ev, hp, r1, r2, r3, r4, r5, r6⟩ => ⟨p, [a, b, c, d, f, f2], 1, b, ev, rfl, .of (s1.ah _ _ (s1.fa _ _ hp)), rfl, k F1 A1 H1 _ s1 e1 r2⟩
theorem px_t62 {x : T6 α β γ δ ε ζ} (ha : Px g B E E1 ta x) : Px g B E E1 (tOp (rIxT g.K) ta (tC (.int 2))) x.c := fun F A σ H s Q k =>
  ha F A σ H s _ fun F1 A1 H1 v s1 e1 ⟨p, a, b, c, d, f, f2, ev, hp, r1, r2, r3, r4, r5, r6⟩ => ⟨p, [a, b, c, d, f, f2], 2, c, ev, rfl, .of (s1.ah _ _ (s1.fa _ _ hp)), rfl, k F1 A1 H1 _ s1 e1 r3⟩
theorem px_t63 {x : T6 α β γ δ ε ζ} (ha : Px g B E E1 ta x) : Px g B E E1 (tOp (rIxT g.K) ta (tC (.int 3))) x.d := fun F A σ H s Q k =>
  ha F A σ H s _ fun F1 A1 H1 v s1 e1 ⟨p, a, b, c, d, f, f2, ev, hp, r1, r2, r3, r4, r5, r6⟩ => ⟨p, [a, b, c, d, f, f2], 3, d, ev, rfl, .of (s1.ah _ _ (s1.fa _ _ hp)), rfl, k F1 A1 H1 _ s1 e1 r4⟩
theorem px_t64 {x : T6 α β γ δ ε ζ} (ha : Px g B E E1 ta x) : Px g B E E1 (tOp (rIxT g.K) ta (tC (.int 4))) x.e := fun F A σ H s Q k =>
  ha F A σ H s _ fun F1 A1 H1 v s1 e1 ⟨p, a, b, c, d, f, f2, ev, hp, r1, r2, r3, r4, r5, r6⟩ => ⟨p, [a, b, c, d, f, f2], 4, f, ev, rfl, .of (s1.ah _ _ (s1.fa _ _ hp)), rfl, k F1 A1 H1 _ s1 e1 r5⟩
theorem px_t65 {x : T6 α β γ δ ε ζ} (ha : Px g B E E1 ta x) : Px g B E E1 (tOp (rIxT g.K) ta (tC (.int 5))) x.f := fun F A σ H s Q k =>
  ha F A σ H s _ fun F1 A1 H1 v s1 e1 ⟨p, a, b, c, d, f, f2, ev, hp, r1, r2, r3, r4, r5, r6⟩ => ⟨p, [a, b, c, d, f, f2], 5, f2, ev, rfl, .of (s1.ah _ _ (s1.fa _ _ hp)), rfl, k F1 A1 H1 _ s1 e1 r6⟩
end
end Gn
/-! Gn: try with several named clauses; statements that are never reached. -/
namespace L2
open PySem PySem.Spec PyProof.Rows
/-- several clauses, each with a name: slot i is the name's -/
def wAsM (K : PySem.W.Frag) (Wo : WX) (D : Ends) : List (Value × Nat × (Addr → Value → Option Addr → TS)) → WX
  | [] => Wo
  | (c, i, ts) :: r => fun cls d σ H => ∃ b, PySem.W.exmOne K cls c = some b ∧ (b = true → ∀ a, H a = none → ts a cls d { nx := fun s h => D.nx (s.set i none) h, rt := D.rt, bk := fun s h => D.bk (s.set i none) h, ct := fun s h => D.ct (s.set i none) h } (σ.set i (some (.ref a))) H) ∧ (b = false → wAsM K Wo D r cls d σ H)
inductive HdsAs (X : Cx) : List ExceptHandler → List (Value × Nat × (Addr → Value → Option Addr → TS)) → Prop
  | nil : HdsAs X [] []
  | cons {x n : Str} {c : Value} {i : Nat} {ts : Addr → Value → Option Addr → TS} {b0 : Stmt} {su : List Stmt} {np p2 : Pos} {hds : List ExceptHandler} {l : List (Value × Nat × (Addr → Value → Option Addr → TS))} (hc : Names X x c) (hi : X.N[i]? = some n) (hk : X.env.kindOf n = some .local)
      (hsu : ∀ (a : Addr) (oe : Obj) (cls : Value) (d : Option Addr) (pn : List (Addr × Obj)), Zc cls d oe → (∃ vs, oe.data = .fields vs) → PSs (X.suite a ((a, oe) :: pn)) (b0 :: su) (ts a cls d)) (r : HdsAs X hds l) :
      HdsAs X (.ExceptHandler (some (.Name x np)) (some n) (b0 :: su) p2 :: hds) ((c, i, ts) :: l)
section
variable {X : Cx} {body : List Stmt} {h1 : ExceptHandler} {hds : List ExceptHandler} {l : List (Value × Nat × (Addr → Value → Option Addr → TS))} {pos : Pos} {tb : WX → TS} {Wo : WX}
theorem ps_try_asM (hst : X.stack = X.env :: X.outer) (hfr : X.env.frame = some X.env.locals) (hN : X.N.Nodup) (tk : L2.Takes X Wo)
    (hb : ∀ (W : WX) (pn : List (Addr × Obj)) (xe : Value → Shared → Prop), L2.Takes (X.tr pn xe) W → PassesOwn (model X.prog X.w) X.A X.env xe → PSs (X.tr pn xe) body (tb W))
    (hh : HdsAs X (h1 :: hds) l) : PS X (.Try body (h1 :: hds) [] [] pos) (fun D σ H => tb (wAsM X.K Wo D l) D σ H) := by
  refine ⟨fun pins s σ H D I hyp => wpAny_Try_except ?_⟩
  have kk := I.ok
  have fr0 : X.A.frames = some (X.env :: X.outer) := kk.frames.trans (congrArg some hst)
  refine wpAny_mono ((hb (wAsM X.K Wo D l) (X.pn ++ pins) (fun e t1 => wpAny (model X.prog X.w) X.A (noteFrame e X.env) (fun _ t2 => wpAny (model X.prog X.w) X.A (setFlight e none) (fun _ t3 =>
    wpAny (model X.prog X.w) X.A (handleBy e X.env (h1 :: hds)) (SP X pins D) X.xe t3) X.xe t2) X.xe t1) (fun u s' xx => ?_) PassesOwn.looking).run [] s σ H D (I.toTry _) hyp) (fun f s1 q => ?_) (fun _ _ z => z)
  · obtain ⟨a, B, sI, pins', σ', H', cls, d, rfl, J', nb, up, sky, na, os, ag, w⟩ := xx
    have J : Inv X pins σ' H' sI := J'.ofTry kk
    show wpAny (model X.prog X.w) X.A (noteFrame (.ref a) X.env) _ _ _
    refine Sky.land Zc.steady fr0 hfr (hst ▸ sky) fun g3 fl3 up3 => ?_
    have J3 : Inv X pins σ' H' { s' with heap := g3 } := J.landed nb fl3.1 (up.trans up3) os ag
    obtain ⟨o3, v3, e3, z3, d3⟩ := fl3.there
    have out : a ∉ frs (X.env :: X.outer) := fun hm => by
      obtain ⟨_, o', e', no⟩ := fl3.2.2.1.mem hm
      rw [e3] at e'; cases e'
      exact no _ d3
    have nL : a ≠ X.env.locals := fun z => out (List.mem_filterMap.mpr ⟨X.env, List.mem_cons_self, by rw [hfr, z]⟩)
    have nF : a ∉ X.fs := fun hm => by
      obtain ⟨e, he, q⟩ := List.mem_filterMap.mp hm
      exact out (List.mem_filterMap.mpr ⟨e, List.mem_cons_of_mem _ he, q⟩)
    have S3 := J3.suite e3 d3 na nL nF
    have go : ∀ {hs2 : List ExceptHandler} {l2 : List (Value × Nat × (Addr → Value → Option Addr → TS))}, HdsAs X hs2 l2 → wAsM X.K Wo D l2 cls d σ' H' → wpAny (model X.prog X.w) X.A (handleBy (.ref a) X.env hs2) (SP X pins D) X.xe { s' with heap := g3 } := by
      intro hs2 l2 hk
      induction hk with
      | nil =>
        intro w
        refine wpAny_handleBy_nil ?_
        obtain ⟨k1, k2, k3, oe, vs, T, oT, ts', he, hz, hd, f1, hr⟩ := id fl3
        unfold PySem.passOn
        refine wpAny_bind (wpAny_field he hd f1 ?_)
        rw [if_neg (show ¬ ((Value.ref T == Value.none) = true) from by simp)]
        have fin : wpAny (model X.prog X.w) X.A (setFlight (.ref a) X.env.frame) (fun _ s4 => wpAny (model X.prog X.w) X.A (throw (.ref a) : Sem Flow) (SP X pins D) X.xe s4) X.xe { s' with heap := g3 } := by
          rw [hfr]
          exact HandSPX.setFlight_upZ fl3 fun g4 hh4 up4 => wpAny_throw (tk _ _ ⟨a, B, sI, pins, σ', H', cls, d, rfl, J, nb, (up.trans up3).trans up4, .inr (.inr (by rw [hst]; exact hh4)), na, os, ag, w⟩)
        first
          | exact wpAny_bind (wpAny_pure (wpAny_bind fin))
          | exact wpAny_bind fin
      | @cons x n c i ts b0 su np p2 hd2 l3 hc hi hkd hsu r ih =>
        rintro ⟨b, hb1, yes, no⟩
        refine wpAny_handleBy_cons (codeAny_handlers_test ?_) (by intro q; cases q)
        have LT : PySem.W.Looks (model X.prog X.w) g3 (typeOf (.ref a)) cls := fun A Q E s k q => wpAny_typeOf_ref (k _ _ e3) (by rw [z3.1]; exact q)
        have LM := PySem.W.exm_one (M := model X.prog X.w) (J3.kIn) LT hb1
        have test : ∀ {Q : Value → Shared → Prop} {E : Value → Shared → Prop}, Q c { s' with heap := g3 } → wpAny (model X.prog X.w) (X.A.mark (some (.ref a))) (eval (.Name x np) X.env) Q E { s' with heap := g3 } := fun {Q E} q => by
          obtain ⟨hg, hdbg, hm | ⟨hm, hv, hnn⟩⟩ := hc
          · exact ld_glob (X := X.suite a ((a, o3) :: (X.pn ++ pins))) S3 hg hm q hdbg
          · exact ld_blt (X := X.suite a ((a, o3) :: (X.pn ++ pins))) S3 hg hm hv q hnn hdbg
        refine test (LM.here ?_)
        cases b with
        | true =>
          refine codeAny_handlers_suite_as (HandSPX.lands_againZ fl3 fun g4 fl4 up4 => ?_)
          have J4 : Inv X pins σ' H' { s' with heap := g4 } := J.landed nb fl4.1 ((up.trans up3).trans up4) os ag
          obtain ⟨o4, v4, e4, z4, d4⟩ := fl4.there
          have S4 := J4.suite e4 d4 na nL nF
          refine store_ok (X := X.suite a ((a, o4) :: (X.pn ++ pins))) (v := .ref a) S4 hN hi (.inl hkd) rfl (fun s5 S5 => ?_) (.inr hkd)
          refine wpAny_mono ((hsu a o4 cls d (X.pn ++ pins) z4 ⟨_, d4⟩).run [] s5 _ H' _ S5 (yes rfl a na)) (fun f s6 q6 => ?_) (fun _ _ z => False.elim z)
          have fin : ∀ {σ6 : St} {H6 : Hp} {Q : Shared → Prop}, Inv (X.suite a ((a, o4) :: (X.pn ++ pins))) [] σ6 H6 s6 → (∀ s7, Inv X pins (σ6.set i none) H6 s7 → Q s7) →
              wpAny (model X.prog X.w) X.A (do bindName X.env n .none; unbindBehindTheSuite X.env n p2) (fun _ s7 => Q s7) X.xe s6 := fun {σ6 H6 Q} S6 hq => gone_ok (S6.unsuite kk) hN hi hkd hq
          cases f with
          | next => obtain ⟨σ6, H6, S6, y⟩ := q6; exact fin S6 fun s7 J7 => ⟨_, _, J7, y⟩
          | brk => obtain ⟨σ6, H6, S6, y⟩ := q6; exact fin S6 fun s7 J7 => ⟨_, _, J7, y⟩
          | cont => obtain ⟨σ6, H6, S6, y⟩ := q6; exact fin S6 fun s7 J7 => ⟨_, _, J7, y⟩
          | ret u => obtain ⟨v6, σ6, H6, S6, r6, y⟩ := q6; exact fin S6 fun s7 J7 => ⟨_, _, _, J7, r6, y⟩
        | false => exact ih (no rfl)
    exact go hh w
  · cases f with
    | next => obtain ⟨σ', H', J', y⟩ := q; exact wpAny_execs_nil ⟨σ', H', J'.ofTry kk, y⟩
    | brk => obtain ⟨σ', H', J', y⟩ := q; exact ⟨σ', H', J'.ofTry kk, y⟩
    | cont => obtain ⟨σ', H', J', y⟩ := q; exact ⟨σ', H', J'.ofTry kk, y⟩
    | ret u => obtain ⟨v, σ', H', J', r, y⟩ := q; exact ⟨v, σ', H', J'.ofTry kk, r, y⟩
end
end L2
namespace Gn
open PySem L2
open Rp (rp)
theorem if_two {α : Type} {c : Bool} {m m2 r : R α} (h : (if c = true then m else m2) = r) : (c = true ∧ m = r) ∨ (c = false ∧ m2 = r) := by
  cases c with
  | true => exact .inl ⟨rfl, h⟩
  | false => exact .inr ⟨rfl, h⟩
def tVoid : TS := fun _ _ _ => False
theorem pss_void {X : Cx} {l : List Stmt} : PSs X l tVoid := ⟨fun pins s σ H D I h => h.elim⟩
def tTryM (K : PySem.W.Frag) (tb : WX → TS) (l : List (Value × Nat × (Addr → Value → Option Addr → TS))) (Wo : WX) : TS := fun D σ H => tb (wAsM K Wo D l) D σ H
theorem ps_try_asMG {X : Cx} {K : PySem.W.Frag} {body : List Stmt} {h1 : ExceptHandler} {hds : List ExceptHandler} {l : List (Value × Nat × (Addr → Value → Option Addr → TS))} {pos : Pos} {tb : WX → TS} {Wo : WX} (hK : X.K = K) (hst : X.stack = X.env :: X.outer) (hfr : X.env.frame = some X.env.locals) (hN : X.N.Nodup) (tk : L2.Takes X Wo)
    (hb : ∀ (W : WX) (pn : List (Addr × Obj)) (xe : Value → Shared → Prop), L2.Takes (X.tr pn xe) W → PySem.PassesOwn (model X.prog X.w) X.A X.env xe → PSs (X.tr pn xe) body (tb W))
    (hh : HdsAs X (h1 :: hds) l) : PS X (.Try body (h1 :: hds) [] [] pos) (tTryM K tb l Wo) := hK ▸ ps_try_asM hst hfr hN tk hb hh
section
variable {g : Gx} {B : Bs} {E Es E1 : List Bd}
theorem sx_tryM {D : Ends} {l : List (Value × Nat × (Addr → Value → Option Addr → TS))} {Wo : WX} {tb : WX → TS} {α : Type} {r : R α}
    (h1 : ∀ c d, r = .ex c d → ∀ E1, LeE E1 Es → ∀ F A σ H dx, Sta g B F A E1 σ H → PayOk H dx d → WE (wAsM g.K Wo D l) σ (.ref (g.ca c)) dx H)
    (h2 : (∀ c d, r = .ex c d → ∀ E1, LeE E1 Es → ∀ F A σ H dx, Sta g B F A E1 σ H → PayOk H dx d → WE (wAsM g.K Wo D l) σ (.ref (g.ca c)) dx H) → Sx g B E (tb (wAsM g.K Wo D l)) D) :
    Sx g B E (tTryM g.K tb l Wo) D := h2 h1
theorem asM_yes {D : Ends} {c : Value} {i : Nat} {ts : Addr → Value → Option Addr → TS} {Wo : WX} {l : List (Value × Nat × (Addr → Value → Option Addr → TS))} {cn : Str} (hm : PySem.W.exmOne g.K (.ref (g.ca cn)) c = some true) (hs : ∀ a, Sx g B (E1.set i (.kp (Adr.mk a))) (ts a (.ref (g.ca cn)) none) (unAs D i)) :
    ∀ F A σ H dx, Sta g B F A E1 σ H → PayOk H dx .non → WE (wAsM g.K Wo D ((c, i, ts) :: l)) σ (.ref (g.ca cn)) dx H := fun F A σ H dx s p => by
  have p : dx = none := p
  subst p
  show ∃ b, _ ∧ _ ∧ _
  refine ⟨true, hm, ?_, ?_⟩
  · intro _ a ha
    exact hs a F A _ H (s.setk (x := Adr.mk a) rfl)
  · intro z; exact Bool.noConfusion z
theorem asM_no {D : Ends} {c : Value} {i : Nat} {ts : Addr → Value → Option Addr → TS} {Wo : WX} {l : List (Value × Nat × (Addr → Value → Option Addr → TS))} {cn : Str} {d : Gn.D} (hm : PySem.W.exmOne g.K (.ref (g.ca cn)) c = some false) (h : ∀ F A σ H dx, Sta g B F A E1 σ H → PayOk H dx d → WE (wAsM g.K Wo D l) σ (.ref (g.ca cn)) dx H) :
    ∀ F A σ H dx, Sta g B F A E1 σ H → PayOk H dx d → WE (wAsM g.K Wo D ((c, i, ts) :: l)) σ (.ref (g.ca cn)) dx H := fun F A σ H dx s p => by
  show ∃ b, _ ∧ _ ∧ _
  refine ⟨false, hm, ?_, ?_⟩
  · intro z; exact Bool.noConfusion z
  · intro _; exact h F A σ H dx s p
theorem rbind_ok {α β : Type} {a : α} {f : α → R β} {r : R β} (h : (R.ok a).bind f = r) : f a = r := h
theorem px_tp3 {E2 E3 : List Bd} {ta tb tc : TE} {α β γ : Type} [Rp α] [Rp β] [Rp γ] {x : α} {y : β} {z : γ} (ha : Px g B E E1 ta x) (hb : Px g B E1 E2 tb y) (hc : Px g B E2 E3 tc z) : Px g B E E3 (tTup (tCons ta (tCons tb (tCons tc tNil)))) (T3.mk x y z) := px_tup3 (δ := Unit) (td := ta) ha hb hc
theorem PxN.pxA (α : Type) [Rp α] {E' : List Bd} {te : TE} {xs : List α} (h : PxN g B E E' te xs) : Px g B E E' te xs := h.px
end
end Gn
namespace Gn
open PySem L2
open Rp (rp)
def topS (i : Nat) : Stmt := PySem.Challenge.pw_damphouse_k81_crew_labels_judged.main.body.getD i (.Pass ⟨0, 0, 0, 0⟩)
abbrev s_Lacquer___init__ : Stmt := inClass (topS 35) 1
abbrev s_Weather___init__ : Stmt := inClass (topS 26) 0
abbrev s_Weather_hours : Stmt := inClass (topS 26) 1
abbrev s_Weather_signs : Stmt := inClass (topS 26) 6
abbrev s_Weather_of_signs : Stmt := inClass (topS 26) 5
abbrev s_demand_boards : Stmt := topS 11
abbrev s__hour_costs : Stmt := topS 29
abbrev s_crew_heating : Stmt := topS 30
abbrev s_crew_heat_labels : Stmt := topS 31
abbrev s__steps_fit : Stmt := topS 32
abbrev s_crew_labels_hold : Stmt := topS 33
abbrev s__law_pool : Stmt := topS 38
abbrev s__law_take : Stmt := topS 39
abbrev s__law_same : Stmt := topS 40
abbrev s__law_ab : Stmt := topS 41
abbrev s__law_board_ab : Stmt := topS 42
abbrev s__law_drawn_plan : Stmt := topS 43
abbrev s__law_around : Stmt := topS 44
abbrev s__law_board_signs : Stmt := topS 45
abbrev s__law_supports : Stmt := topS 46
abbrev s__law_prices : Stmt := topS 47
abbrev s__law_made : Stmt := topS 48
abbrev s__law_bent : Stmt := topS 49
abbrev s__law_just : Stmt := topS 50
abbrev s__law_due : Stmt := topS 51
abbrev s__law_held : Stmt := topS 52
abbrev s__law_refused : Stmt := topS 53
abbrev s__law_cell : Stmt := topS 37
abbrev s_law : Stmt := topS 54
structure O_Lacquer where
  f_a : Int
  f_b : Int
instance instOb_O_Lacquer : Ob O_Lacquer := ⟨Str.ofString "Lacquer", fun g H fs x => ∃ w0 w1, fs = [(Str.ofString "a", w0), (Str.ofString "b", w1)] ∧ Rp.rp g H w0 x.f_a ∧ Rp.rp g H w1 x.f_b, fun s ⟨w0, w1, e, r0, r1⟩ => ⟨w0, w1, e, Rp.mono s r0, Rp.mono s r1⟩⟩
instance instRp_O_Lacquer : Rp O_Lacquer := Ob.rp
theorem fr_Lacquer {g : Gx} {m : Str} (h : ([(Str.ofString "a"), (Str.ofString "b")].any fun n => m == n) = false) : Frees O_Lacquer g (g.ca (Str.ofString "Lacquer")) m := fun H v x ⟨a, dx, fs, e, h1, w0, w1, e2, _⟩ => ⟨a, dx, fs, e, h1, by subst e2; simp only [List.any_cons, List.any_nil, Bool.or_false, Bool.or_eq_false_iff] at h; simp only [List.lookup, h]⟩
theorem has_Lacquer_f_a {g : Gx} (c : Cls g.K (g.ca (Str.ofString "Lacquer"))) (n : NoAttr g.K (g.ca (Str.ofString "Lacquer")) (Str.ofString "a")) : Has O_Lacquer Int g (Str.ofString "a") O_Lacquer.f_a := fun H v x ⟨a, dx, fs, e, h1, w0, w1, e2, r0, r1⟩ => ⟨a, _, dx, fs, w0, e, h1, c, n, by subst e2; rfl, r0⟩
theorem has_Lacquer_f_b {g : Gx} (c : Cls g.K (g.ca (Str.ofString "Lacquer"))) (n : NoAttr g.K (g.ca (Str.ofString "Lacquer")) (Str.ofString "b")) : Has O_Lacquer Int g (Str.ofString "b") O_Lacquer.f_b := fun H v x ⟨a, dx, fs, e, h1, w0, w1, e2, r0, r1⟩ => ⟨a, _, dx, fs, w1, e, h1, c, n, by subst e2; rfl, r1⟩
theorem nn_O_Lacquer {g : Gx} {H : Hp} {v : V} {y : O_Lacquer} (h : Rp.rp g H v y) : v ≠ .non := by
  obtain ⟨a, dx, fs, e, _⟩ := h
  rw [e]; exact fun z => nomatch z

structure O_Weather where
  f_lengths : (Tu Int)
  f_signs : Tx
instance instOb_O_Weather : Ob O_Weather := ⟨Str.ofString "Weather", fun g H fs x => ∃ w0 w1, fs = [(Str.ofString "lengths", w0), (Str.ofString "_signs", w1)] ∧ Rp.rp g H w0 x.f_lengths ∧ Rp.rp g H w1 x.f_signs, fun s ⟨w0, w1, e, r0, r1⟩ => ⟨w0, w1, e, Rp.mono s r0, Rp.mono s r1⟩⟩
instance instRp_O_Weather : Rp O_Weather := Ob.rp
theorem fr_Weather {g : Gx} {m : Str} (h : ([(Str.ofString "lengths"), (Str.ofString "_signs")].any fun n => m == n) = false) : Frees O_Weather g (g.ca (Str.ofString "Weather")) m := fun H v x ⟨a, dx, fs, e, h1, w0, w1, e2, _⟩ => ⟨a, dx, fs, e, h1, by subst e2; simp only [List.any_cons, List.any_nil, Bool.or_false, Bool.or_eq_false_iff] at h; simp only [List.lookup, h]⟩
theorem has_Weather_f_lengths {g : Gx} (c : Cls g.K (g.ca (Str.ofString "Weather"))) (n : NoAttr g.K (g.ca (Str.ofString "Weather")) (Str.ofString "lengths")) : Has O_Weather (Tu Int) g (Str.ofString "lengths") O_Weather.f_lengths := fun H v x ⟨a, dx, fs, e, h1, w0, w1, e2, r0, r1⟩ => ⟨a, _, dx, fs, w0, e, h1, c, n, by subst e2; rfl, r0⟩
theorem has_Weather_f_signs {g : Gx} (c : Cls g.K (g.ca (Str.ofString "Weather"))) (n : NoAttr g.K (g.ca (Str.ofString "Weather")) (Str.ofString "_signs")) : Has O_Weather Tx g (Str.ofString "_signs") O_Weather.f_signs := fun H v x ⟨a, dx, fs, e, h1, w0, w1, e2, r0, r1⟩ => ⟨a, _, dx, fs, w1, e, h1, c, n, by subst e2; rfl, r1⟩
theorem nn_O_Weather {g : Gx} {H : Hp} {v : V} {y : O_Weather} (h : Rp.rp g H v y) : v ≠ .non := by
  obtain ⟨a, dx, fs, e, _⟩ := h
  rw [e]; exact fun z => nomatch z

structure Ad where
  f_Lacquer___init__ : Addr
  d_Lacquer___init__ : FuncData
  f_Weather___init__ : Addr
  d_Weather___init__ : FuncData
  f_Weather_hours : Addr
  d_Weather_hours : FuncData
  f_Weather_signs : Addr
  d_Weather_signs : FuncData
  f_Weather_of_signs : Addr
  d_Weather_of_signs : FuncData
  f_demand_boards : Addr
  d_demand_boards : FuncData
  f__hour_costs : Addr
  d__hour_costs : FuncData
  f_crew_heating : Addr
  d_crew_heating : FuncData
  f_crew_heat_labels : Addr
  d_crew_heat_labels : FuncData
  f__steps_fit : Addr
  d__steps_fit : FuncData
  f_crew_labels_hold : Addr
  d_crew_labels_hold : FuncData
  f__law_pool : Addr
  d__law_pool : FuncData
  f__law_take : Addr
  d__law_take : FuncData
  f__law_same : Addr
  d__law_same : FuncData
  f__law_ab : Addr
  d__law_ab : FuncData
  f__law_board_ab : Addr
  d__law_board_ab : FuncData
  f__law_drawn_plan : Addr
  d__law_drawn_plan : FuncData
  f__law_around : Addr
  d__law_around : FuncData
  f__law_board_signs : Addr
  d__law_board_signs : FuncData
  f__law_supports : Addr
  d__law_supports : FuncData
  f__law_prices : Addr
  d__law_prices : FuncData
  f__law_made : Addr
  d__law_made : FuncData
  f__law_bent : Addr
  d__law_bent : FuncData
  f__law_just : Addr
  d__law_just : FuncData
  f__law_due : Addr
  d__law_due : FuncData
  f__law_held : Addr
  d__law_held : FuncData
  f__law_refused : Addr
  d__law_refused : FuncData
  f__law_cell : Addr
  d__law_cell : FuncData
  f_law : Addr
  d_law : FuncData
structure Txt (g : Gx) (mg : Str → Option Value) (A : Ad) : Prop where
  F_Lacquer___init__ : Fun g.K "__init__" "Lacquer.__init__" s_Lacquer___init__ A.f_Lacquer___init__ A.d_Lacquer___init__
  kp_Lacquer___init__ : PySem.W.keepIn g.K (.ref A.f_Lacquer___init__) = true
  b_Lacquer___init__ : Binds g.K A.d_Lacquer___init__ ["self", "a", "b"] []
  F_Weather___init__ : Fun g.K "__init__" "Weather.__init__" s_Weather___init__ A.f_Weather___init__ A.d_Weather___init__
  kp_Weather___init__ : PySem.W.keepIn g.K (.ref A.f_Weather___init__) = true
  b_Weather___init__ : Binds g.K A.d_Weather___init__ ["self", "lengths"] []
  F_Weather_hours : Fun g.K "hours" "Weather.hours" s_Weather_hours A.f_Weather_hours A.d_Weather_hours
  kp_Weather_hours : PySem.W.keepIn g.K (.ref A.f_Weather_hours) = true
  b_Weather_hours : Binds g.K A.d_Weather_hours ["self"] []
  F_Weather_signs : Fun g.K "signs" "Weather.signs" s_Weather_signs A.f_Weather_signs A.d_Weather_signs
  kp_Weather_signs : PySem.W.keepIn g.K (.ref A.f_Weather_signs) = true
  b_Weather_signs : Binds g.K A.d_Weather_signs ["self"] []
  F_Weather_of_signs : Fun g.K "of_signs" "Weather.of_signs" s_Weather_of_signs A.f_Weather_of_signs A.d_Weather_of_signs
  kp_Weather_of_signs : PySem.W.keepIn g.K (.ref A.f_Weather_of_signs) = true
  b_Weather_of_signs : Binds g.K A.d_Weather_of_signs ["signs"] []
  F_demand_boards : Fun g.K "demand_boards" "demand_boards" s_demand_boards A.f_demand_boards A.d_demand_boards
  mg_demand_boards : mg "demand_boards" = some (.ref A.f_demand_boards)
  kp_demand_boards : PySem.W.keepIn g.K (.ref A.f_demand_boards) = true
  b_demand_boards : Binds g.K A.d_demand_boards ["boards"] []
  F__hour_costs : Fun g.K "_hour_costs" "_hour_costs" s__hour_costs A.f__hour_costs A.d__hour_costs
  mg__hour_costs : mg "_hour_costs" = some (.ref A.f__hour_costs)
  kp__hour_costs : PySem.W.keepIn g.K (.ref A.f__hour_costs) = true
  b__hour_costs : Binds g.K A.d__hour_costs ["weather", "prices"] []
  F_crew_heating : Fun g.K "crew_heating" "crew_heating" s_crew_heating A.f_crew_heating A.d_crew_heating
  mg_crew_heating : mg "crew_heating" = some (.ref A.f_crew_heating)
  kp_crew_heating : PySem.W.keepIn g.K (.ref A.f_crew_heating) = true
  b_crew_heating : Binds g.K A.d_crew_heating ["lacquer", "weather", "prices", "boards"] []
  F_crew_heat_labels : Fun g.K "crew_heat_labels" "crew_heat_labels" s_crew_heat_labels A.f_crew_heat_labels A.d_crew_heat_labels
  mg_crew_heat_labels : mg "crew_heat_labels" = some (.ref A.f_crew_heat_labels)
  kp_crew_heat_labels : PySem.W.keepIn g.K (.ref A.f_crew_heat_labels) = true
  b_crew_heat_labels : Binds g.K A.d_crew_heat_labels ["lacquer", "weather", "prices", "boards"] []
  F__steps_fit : Fun g.K "_steps_fit" "_steps_fit" s__steps_fit A.f__steps_fit A.d__steps_fit
  mg__steps_fit : mg "_steps_fit" = some (.ref A.f__steps_fit)
  kp__steps_fit : PySem.W.keepIn g.K (.ref A.f__steps_fit) = true
  b__steps_fit : Binds g.K A.d__steps_fit ["lacquer", "ahead", "behind"] []
  F_crew_labels_hold : Fun g.K "crew_labels_hold" "crew_labels_hold" s_crew_labels_hold A.f_crew_labels_hold A.d_crew_labels_hold
  mg_crew_labels_hold : mg "crew_labels_hold" = some (.ref A.f_crew_labels_hold)
  kp_crew_labels_hold : PySem.W.keepIn g.K (.ref A.f_crew_labels_hold) = true
  b_crew_labels_hold : Binds g.K A.d_crew_labels_hold ["lacquer", "weather", "prices", "boards", "cost", "labels"] []
  F__law_pool : Fun g.K "_law_pool" "_law_pool" s__law_pool A.f__law_pool A.d__law_pool
  mg__law_pool : mg "_law_pool" = some (.ref A.f__law_pool)
  kp__law_pool : PySem.W.keepIn g.K (.ref A.f__law_pool) = true
  b__law_pool : Binds g.K A.d__law_pool ["cell"] []
  F__law_take : Fun g.K "_law_take" "_law_take" s__law_take A.f__law_take A.d__law_take
  mg__law_take : mg "_law_take" = some (.ref A.f__law_take)
  kp__law_take : PySem.W.keepIn g.K (.ref A.f__law_take) = true
  b__law_take : Binds g.K A.d__law_take ["pool", "size"] []
  F__law_same : Fun g.K "_law_same" "_law_same" s__law_same A.f__law_same A.d__law_same
  mg__law_same : mg "_law_same" = some (.ref A.f__law_same)
  kp__law_same : PySem.W.keepIn g.K (.ref A.f__law_same) = true
  b__law_same : Binds g.K A.d__law_same ["actual", "due"] []
  F__law_ab : Fun g.K "_law_ab" "_law_ab" s__law_ab A.f__law_ab A.d__law_ab
  mg__law_ab : mg "_law_ab" = some (.ref A.f__law_ab)
  kp__law_ab : PySem.W.keepIn g.K (.ref A.f__law_ab) = true
  b__law_ab : Binds g.K A.d__law_ab ["pool", "most"] []
  F__law_board_ab : Fun g.K "_law_board_ab" "_law_board_ab" s__law_board_ab A.f__law_board_ab A.d__law_board_ab
  mg__law_board_ab : mg "_law_board_ab" = some (.ref A.f__law_board_ab)
  kp__law_board_ab : PySem.W.keepIn g.K (.ref A.f__law_board_ab) = true
  b__law_board_ab : Binds g.K A.d__law_board_ab ["pool"] []
  F__law_drawn_plan : Fun g.K "_law_drawn_plan" "_law_drawn_plan" s__law_drawn_plan A.f__law_drawn_plan A.d__law_drawn_plan
  mg__law_drawn_plan : mg "_law_drawn_plan" = some (.ref A.f__law_drawn_plan)
  kp__law_drawn_plan : PySem.W.keepIn g.K (.ref A.f__law_drawn_plan) = true
  b__law_drawn_plan : Binds g.K A.d__law_drawn_plan ["pool", "ab", "k", "hours"] []
  F__law_around : Fun g.K "_law_around" "_law_around" s__law_around A.f__law_around A.d__law_around
  mg__law_around : mg "_law_around" = some (.ref A.f__law_around)
  kp__law_around : PySem.W.keepIn g.K (.ref A.f__law_around) = true
  b__law_around : Binds g.K A.d__law_around ["pool", "used", "hours", "thick"] []
  F__law_board_signs : Fun g.K "_law_board_signs" "_law_board_signs" s__law_board_signs A.f__law_board_signs A.d__law_board_signs
  mg__law_board_signs : mg "_law_board_signs" = some (.ref A.f__law_board_signs)
  kp__law_board_signs : PySem.W.keepIn g.K (.ref A.f__law_board_signs) = true
  b__law_board_signs : Binds g.K A.d__law_board_signs ["pool", "ab", "k", "hours"] []
  F__law_supports : Fun g.K "_law_supports" "_law_supports" s__law_supports A.f__law_supports A.d__law_supports
  mg__law_supports : mg "_law_supports" = some (.ref A.f__law_supports)
  kp__law_supports : PySem.W.keepIn g.K (.ref A.f__law_supports) = true
  b__law_supports : Binds g.K A.d__law_supports ["ab", "signs", "prices", "k", "cost", "labels"] []
  F__law_prices : Fun g.K "_law_prices" "_law_prices" s__law_prices A.f__law_prices A.d__law_prices
  mg__law_prices : mg "_law_prices" = some (.ref A.f__law_prices)
  kp__law_prices : PySem.W.keepIn g.K (.ref A.f__law_prices) = true
  b__law_prices : Binds g.K A.d__law_prices ["pool", "n"] []
  F__law_made : Fun g.K "_law_made" "_law_made" s__law_made A.f__law_made A.d__law_made
  mg__law_made : mg "_law_made" = some (.ref A.f__law_made)
  kp__law_made : PySem.W.keepIn g.K (.ref A.f__law_made) = true
  b__law_made : Binds g.K A.d__law_made ["pool", "ab", "n", "most"] []
  F__law_bent : Fun g.K "_law_bent" "_law_bent" s__law_bent A.f__law_bent A.d__law_bent
  mg__law_bent : mg "_law_bent" = some (.ref A.f__law_bent)
  kp__law_bent : PySem.W.keepIn g.K (.ref A.f__law_bent) = true
  b__law_bent : Binds g.K A.d__law_bent ["pool", "labels"] []
  F__law_just : Fun g.K "_law_just" "_law_just" s__law_just A.f__law_just A.d__law_just
  mg__law_just : mg "_law_just" = some (.ref A.f__law_just)
  kp__law_just : PySem.W.keepIn g.K (.ref A.f__law_just) = true
  b__law_just : Binds g.K A.d__law_just ["ab", "signs", "prices", "k", "labels"] []
  F__law_due : Fun g.K "_law_due" "_law_due" s__law_due A.f__law_due A.d__law_due
  mg__law_due : mg "_law_due" = some (.ref A.f__law_due)
  kp__law_due : PySem.W.keepIn g.K (.ref A.f__law_due) = true
  b__law_due : Binds g.K A.d__law_due ["ab", "signs", "prices", "k", "cost", "labels"] []
  F__law_held : Fun g.K "_law_held" "_law_held" s__law_held A.f__law_held A.d__law_held
  mg__law_held : mg "_law_held" = some (.ref A.f__law_held)
  kp__law_held : PySem.W.keepIn g.K (.ref A.f__law_held) = true
  b__law_held : Binds g.K A.d__law_held ["lacquer", "weather", "prices", "k", "cost", "labels"] []
  F__law_refused : Fun g.K "_law_refused" "_law_refused" s__law_refused A.f__law_refused A.d__law_refused
  mg__law_refused : mg "_law_refused" = some (.ref A.f__law_refused)
  kp__law_refused : PySem.W.keepIn g.K (.ref A.f__law_refused) = true
  b__law_refused : Binds g.K A.d__law_refused ["lacquer", "weather", "prices", "which", "k"] []
  F__law_cell : Fun g.K "_law_cell" "_law_cell" s__law_cell A.f__law_cell A.d__law_cell
  mg__law_cell : mg "_law_cell" = some (.ref A.f__law_cell)
  kp__law_cell : PySem.W.keepIn g.K (.ref A.f__law_cell) = true
  b__law_cell : Binds g.K A.d__law_cell ["script", "k"] []
  F_law : Fun g.K "law" "law" s_law A.f_law A.d_law
  mg_law : mg "law" = some (.ref A.f_law)
  kp_law : PySem.W.keepIn g.K (.ref A.f_law) = true
  b_law : Binds g.K A.d_law ["script"] []
  no_ValueError : mg "ValueError" = none
  no_any : mg "any" = none
  no_bool : mg "bool" = none
  no_enumerate : mg "enumerate" = none
  no_int : mg "int" = none
  no_isinstance : mg "isinstance" = none
  no_len : mg "len" = none
  no_list : mg "list" = none
  no_max : mg "max" = none
  no_min : mg "min" = none
  no_range : mg "range" = none
  no_str : mg "str" = none
  no_sum : mg "sum" = none
  no_tuple : mg "tuple" = none
  mg_BOTH_SIGNS : ∃ u, mg "BOTH_SIGNS" = some u ∧ RelV (.str (Str.ofString ".#")) u
  mg_MOST_BOARDS : ∃ u, mg "MOST_BOARDS" = some u ∧ RelV (.int (12)) u
  mg_MOST_HOURS : ∃ u, mg "MOST_HOURS" = some u ∧ RelV (.int (200)) u
  mg_MOST_PRICE : ∃ u, mg "MOST_PRICE" = some u ∧ RelV (.int (1000)) u
  mg_BadLacquer : mg "BadLacquer" = some (.ref (g.ca (Str.ofString "BadLacquer")))
  x_BadLacquer : PySem.W.excIn g.K (g.ca (Str.ofString "BadLacquer")) [.type "ValueError", .type "Exception", .type "BaseException", .type "object"] "ValueError.__new__" = true
  kp_BadLacquer : PySem.W.keepIn g.K (.ref (g.ca (Str.ofString "BadLacquer"))) = true
  s_BadLacquer : PySem.W.subIn g.K (.ref (g.ca (Str.ofString "BadLacquer"))) (.type "BaseException") = some true
  t_BadLacquer : PySem.W.typeIn g.K (.ref (g.ca (Str.ofString "BadLacquer"))) = some (.type "type")
  mg_BadNumber : mg "BadNumber" = some (.ref (g.ca (Str.ofString "BadNumber")))
  x_BadNumber : PySem.W.excIn g.K (g.ca (Str.ofString "BadNumber")) [.type "ValueError", .type "Exception", .type "BaseException", .type "object"] "ValueError.__new__" = true
  kp_BadNumber : PySem.W.keepIn g.K (.ref (g.ca (Str.ofString "BadNumber"))) = true
  s_BadNumber : PySem.W.subIn g.K (.ref (g.ca (Str.ofString "BadNumber"))) (.type "BaseException") = some true
  t_BadNumber : PySem.W.typeIn g.K (.ref (g.ca (Str.ofString "BadNumber"))) = some (.type "type")
  mg_BadPrice : mg "BadPrice" = some (.ref (g.ca (Str.ofString "BadPrice")))
  x_BadPrice : PySem.W.excIn g.K (g.ca (Str.ofString "BadPrice")) [.type "ValueError", .type "Exception", .type "BaseException", .type "object"] "ValueError.__new__" = true
  kp_BadPrice : PySem.W.keepIn g.K (.ref (g.ca (Str.ofString "BadPrice"))) = true
  s_BadPrice : PySem.W.subIn g.K (.ref (g.ca (Str.ofString "BadPrice"))) (.type "BaseException") = some true
  t_BadPrice : PySem.W.typeIn g.K (.ref (g.ca (Str.ofString "BadPrice"))) = some (.type "type")
  mg_BadWeather : mg "BadWeather" = some (.ref (g.ca (Str.ofString "BadWeather")))
  x_BadWeather : PySem.W.excIn g.K (g.ca (Str.ofString "BadWeather")) [.type "ValueError", .type "Exception", .type "BaseException", .type "object"] "ValueError.__new__" = true
  kp_BadWeather : PySem.W.keepIn g.K (.ref (g.ca (Str.ofString "BadWeather"))) = true
  s_BadWeather : PySem.W.subIn g.K (.ref (g.ca (Str.ofString "BadWeather"))) (.type "BaseException") = some true
  t_BadWeather : PySem.W.typeIn g.K (.ref (g.ca (Str.ofString "BadWeather"))) = some (.type "type")
  mg_DampError : mg "DampError" = some (.ref (g.ca (Str.ofString "DampError")))
  x_DampError : PySem.W.excIn g.K (g.ca (Str.ofString "DampError")) [.type "ValueError", .type "Exception", .type "BaseException", .type "object"] "ValueError.__new__" = true
  kp_DampError : PySem.W.keepIn g.K (.ref (g.ca (Str.ofString "DampError"))) = true
  s_DampError : PySem.W.subIn g.K (.ref (g.ca (Str.ofString "DampError"))) (.type "BaseException") = some true
  t_DampError : PySem.W.typeIn g.K (.ref (g.ca (Str.ofString "DampError"))) = some (.type "type")
  mg_Lacquer : mg "Lacquer" = some (.ref (g.ca (Str.ofString "Lacquer")))
  c_Lacquer : Cls g.K (g.ca (Str.ofString "Lacquer"))
  na_Lacquer_f_a : NoAttr g.K (g.ca (Str.ofString "Lacquer")) (Str.ofString "a")
  na_Lacquer_f_b : NoAttr g.K (g.ca (Str.ofString "Lacquer")) (Str.ofString "b")
  cv_Lacquer_MOST : ∃ mc u, ClX.CRead g.K (g.ca (Str.ofString "Lacquer")) mc ∧ ClX.CVal g.K (g.ca (Str.ofString "Lacquer")) mc (Str.ofString "MOST") (.int (12)) u
  mk_Lacquer : Mk g.K (g.ca (Str.ofString "Lacquer")) A.f_Lacquer___init__
  mg_Weather : mg "Weather" = some (.ref (g.ca (Str.ofString "Weather")))
  c_Weather : Cls g.K (g.ca (Str.ofString "Weather"))
  na_Weather_f_signs : NoAttr g.K (g.ca (Str.ofString "Weather")) (Str.ofString "_signs")
  na_Weather_f_lengths : NoAttr g.K (g.ca (Str.ofString "Weather")) (Str.ofString "lengths")
  mk_Weather : Mk g.K (g.ca (Str.ofString "Weather")) A.f_Weather___init__
  pr_Weather_hours : ∃ p, PropOf g.K (g.ca (Str.ofString "Weather")) (Str.ofString "hours") p A.f_Weather_hours
  me_Weather_signs : Meth g.K (g.ca (Str.ofString "Weather")) (Str.ofString "signs") A.f_Weather_signs
  sm_Weather_of_signs : ∃ mc, SMet g.K (g.ca (Str.ofString "Weather")) mc (Str.ofString "of_signs") A.f_Weather_of_signs
  kit_BadNumber_BadPrice : PySem.W.kitOne g.K (.ref (g.ca (Str.ofString "BadNumber"))) (.ref (g.ca (Str.ofString "BadPrice"))) = some false
  kit_BadNumber_DampError : PySem.W.kitOne g.K (.ref (g.ca (Str.ofString "BadNumber"))) (.ref (g.ca (Str.ofString "DampError"))) = some true
  kit_BadNumber_ValueError : PySem.W.kitOne g.K (.ref (g.ca (Str.ofString "BadNumber"))) (.type "ValueError") = some true
  kit_BadPrice_BadNumber : PySem.W.kitOne g.K (.ref (g.ca (Str.ofString "BadPrice"))) (.ref (g.ca (Str.ofString "BadNumber"))) = some false
  kit_BadPrice_DampError : PySem.W.kitOne g.K (.ref (g.ca (Str.ofString "BadPrice"))) (.ref (g.ca (Str.ofString "DampError"))) = some true
  kit_BadPrice_ValueError : PySem.W.kitOne g.K (.ref (g.ca (Str.ofString "BadPrice"))) (.type "ValueError") = some true
  exc_BadNumber : ExcC g.K (g.ca (Str.ofString "BadNumber"))
  exc_BadPrice : ExcC g.K (g.ca (Str.ofString "BadPrice"))
  exn_BadPrice_BadNumber : PySem.W.exmOne g.K (.ref (g.ca (Str.ofString "BadPrice"))) (.ref (g.ca (Str.ofString "BadNumber"))) = some false
  exm_BadNumber_BadNumber : PySem.W.exmOne g.K (.ref (g.ca (Str.ofString "BadNumber"))) (.ref (g.ca (Str.ofString "BadNumber"))) = some true
  exm_BadPrice_BadPrice : PySem.W.exmOne g.K (.ref (g.ca (Str.ofString "BadPrice"))) (.ref (g.ca (Str.ofString "BadPrice"))) = some true
def m_Lacquer__init (a : Int) (b : Int) : R (O_Lacquer) :=
  (if (!((decide ((1 : Int) ≤ a)) && ((decide (a < b)) && (decide (b ≤ (12 : Int)))))) = true then .ex (Str.ofString "BadLacquer") .non else .ok (⟨a, b⟩ : O_Lacquer))

def m_Weather__init (lengths : (List Int)) : R (O_Weather) :=
  ob ((if (!(!lengths.isEmpty)) = true then .ok true else (ob (lengths.min?) fun t1 => .ok ((decide (t1 < (1 : Int))) || (decide ((200 : Int) < lengths.sum)))) : R (Bool)).opt) fun c3 => (if c3 = true then .ex (Str.ofString "BadWeather") .non else gd (sz (enumL lengths).length) <| ob ((mapR (enumL lengths) (fun x7 => (gd (sz ([46, 35] : Tx).length) <| ob (atI ([46, 35] : Tx) (x7.1 % (2 : Int))) fun t9 => gd (repOk ([t9] : Tx).length x7.2) <| .ok (repL ([t9] : Tx) x7.2)))).opt) fun ys13 => gd (joinOk ([] : Tx) ys13) <| .ok (⟨(Tu.mk lengths), (joinT ([] : Tx) ys13)⟩ : O_Weather))

def m_Weather_hours (self : O_Weather) : R (Int) :=
  gd (sz self.f_signs.length) <| .ok (self.f_signs.length : Int)

def m_Weather_signs (self : O_Weather) : R (Tx) :=
  .ok self.f_signs

def m_Weather_of_signs (signs : Tx) : R (O_Weather) :=
  gd (sz signs.length) <| ob ((if (!((decide ((1 : Int) ≤ (signs.length : Int))) && (decide ((signs.length : Int) ≤ (200 : Int))))) = true then .ok true else (gd (sz signs.length) <| ob (atI signs (0 : Int)) fun t3 => .ok (!(decide (([t3] : Tx) = ([46] : Tx))))) : R (Bool)).opt) fun c5 => (if c5 = true then .ex (Str.ofString "BadWeather") .non else elet ([] : (List Int)) fun lengths9 => (foldR (enumL (signs.map fun c => ([c] : Tx))) (lengths9, (0 : Int)) (fun x11 ((lengths12, length13) : (List Int) × Int) => gd (one x11.2) <| (if (!(inS x11.2 ([46, 35] : Tx))) = true then .ex (Str.ofString "BadWeather") .non else ob ((if (decide ((0 : Int) < x11.1)) = true then (gd (sz signs.length) <| ob (atI signs (x11.1 - (1 : Int))) fun t17 => .ok (!(decide (x11.2 = ([t17] : Tx))))) else .ok false : R (Bool)).opt) fun c19 => ob ((if c19 = true then gd (sz (lengths12.length + 1)) <| .ok ((lengths12 ++ [length13]), (0 : Int)) else .ok (lengths12, length13) : R ((List Int) × Int)).opt) fun (lengths23, length24) => .ok (lengths23, (length24 + (1 : Int)))))).bind fun (lengths28, length29) => gd (sz (lengths28.length + 1)) <| ((m_Weather__init (lengths28 ++ [length29]))).bind fun t31 => .ok t31)

def m_demand_boards (boards : Int) : R (Unit) :=
  (if (!((decide ((1 : Int) ≤ boards)) && (decide (boards ≤ (12 : Int))))) = true then .ex (Str.ofString "BadNumber") .non else .ok ())

def m_hour_costs (weather : O_Weather) (prices : (List Int)) : R ((List Int)) :=
  ob ((m_Weather_hours weather).opt) fun t1 => (if (!(decide ((prices.length : Int) = t1))) = true then .ex (Str.ofString "BadPrice") .non else ob (prices.min?) fun t4 => ob ((if (decide (t4 < (0 : Int))) = true then .ok true else (ob (prices.max?) fun t6 => .ok (decide ((1000 : Int) < t6))) : R (Bool)).opt) fun c8 => (if c8 = true then .ex (Str.ofString "BadPrice") .non else ob ((m_Weather_signs weather).opt) fun t12 => gd (rgOk (prices.length : Int)) <| gd (sz (rng 0 (prices.length : Int)).length) <| ob ((mapR (rng 0 (prices.length : Int)) (fun x15 => (gd (sz t12.length) <| ob (atI t12 x15) fun t17 => ob ((if (decide (([t17] : Tx) = ([35] : Tx))) = true then (ob (atI prices x15) fun t19 => .ok t19) else .ok (0 : Int) : R Int).opt) fun t21 => .ok t21))).opt) fun ys25 => gd (sz (([(0 : Int)]).length + ys25.length)) <| .ok ([(0 : Int)] ++ ys25)))

def m_crew_heating (lacquer : O_Lacquer) (weather : O_Weather) (prices : (List Int)) (boards : Int) : R (Unit) :=
  ((m_demand_boards boards)).bind fun t1 => ((m_hour_costs weather prices)).bind fun t6 => .bad

def m_crew_heat_labels (lacquer : O_Lacquer) (weather : O_Weather) (prices : (List Int)) (boards : Int) : R (Unit) :=
  ((m_demand_boards boards)).bind fun t1 => ((m_hour_costs weather prices)).bind fun t6 => .bad

def m_steps_fit (lacquer : O_Lacquer) (ahead : (List Int)) (behind : (List Int)) : R (Bool) :=
  (loopR (ρ := Bool) (enumL behind) () (fun x1 (_ : Unit) => gd (rgOk (x1.1 + lacquer.f_a)) <| gd (rgOk ((min (x1.1 + lacquer.f_b) ((ahead.length : Int) - (1 : Int))) + (1 : Int))) <| (loopR (ρ := Bool) (rng (x1.1 + lacquer.f_a) ((min (x1.1 + lacquer.f_b) ((ahead.length : Int) - (1 : Int))) + (1 : Int))) () (fun x4 (_ : Unit) => ob (atI ahead x4) fun t5 => (if (decide (x1.2 < t5)) = true then .ok (.ret false) else .ok (.go ())))).bind fun o_ => o_.fin (fun y_ => .ok (.ret y_)) fun _ => .ok (.go ()))).bind fun o_ => o_.fin (fun y_ => .ok y_) fun _ => .ok true

def m_crew_labels_hold (lacquer : O_Lacquer) (weather : O_Weather) (prices : (List Int)) (boards : Int) (cost : Int) (labels : (T3 Int (List Int) (List Int))) : R (Bool) :=
  ((m_demand_boards boards)).bind fun t1 => ((m_hour_costs weather prices)).bind fun t6 => ob ((m_Weather_hours weather).opt) fun t11 => ob ((if (!(decide ((labels.b.length : Int) = t11))) = true then .ok true else (ob ((if (!(decide ((labels.c.length : Int) = t11))) = true then .ok true else (ob (atI labels.c (0 : Int)) fun t13 => .ok (decide ((0 : Int) < t13))) : R (Bool)).opt) fun c15 => .ok c15) : R (Bool)).opt) fun c18 => (if c18 = true then .ok false else ob ((m_steps_fit lacquer labels.b labels.c).opt) fun t22 => (if (!t22) = true then .ok false else ob ((cutL labels.c (some (max (0 : Int) (t11 - lacquer.f_b))) none).min?) fun t25 => (if (decide (t25 < labels.a)) = true then .ok false else gd (rgOk t11) <| gd (sz (rng (1 : Int) t11).length) <| ob ((mapR (rng (1 : Int) t11) (fun x29 => (ob (atI labels.c x29) fun t30 => ob (atI labels.b x29) fun t32 => ob (atI t6 (x29 + (1 : Int))) fun t34 => .ok (max (0 : Int) ((t30 - t32) - t34))))).opt) fun ys37 => gd (mulOk boards labels.a) <| .ok (decide (cost ≤ ((boards * labels.a) - ys37.sum))))))

def m_law_pool (cell : Int) : R ((List Int)) :=
  (if (decide (((10 : Int) ^ (18 : Int).toNat) ≤ cell)) = true then .ok ([(cell - ((10 : Int) ^ (18 : Int).toNat)), (cell % (1000000007 : Int)), (0 : Int)]) else (if (decide (cell < (0 : Int))) = true then .ok ([(0 : Int), (((1 : Int) - ((2 : Int) * cell)) % (1000000007 : Int)), (0 : Int)]) else .ok ([(0 : Int), (((2 : Int) * cell) % (1000000007 : Int)), (0 : Int)])))

def m_law_take (pool : (List Int)) (size : Int) : R (Int × (List Int)) :=
  ob (atI pool (2 : Int)) fun t1 => ob (setI pool (2 : Int) (t1 + (1 : Int))) fun pool3 => ob (atI pool3 (0 : Int)) fun t5 => (if (decide ((1 : Int) < t5)) = true then ob (atI pool3 (0 : Int)) fun t8 => gd (decide (0 < size)) <| elet ((t8 % size) : Int) fun digit11 => ob (atI pool3 (0 : Int)) fun t13 => gd (divOk size) <| ob (setI pool3 (0 : Int) (t13 / size)) fun pool16 => .ok (digit11, pool16) else ob (atI pool3 (1 : Int)) fun t18 => ob (atI pool3 (2 : Int)) fun t20 => elet ((((t18 + ((48271 : Int) * t20)) + (12345 : Int)) % (2147483647 : Int)) : Int) fun x22 => gd (mulOk x22 x22) <| ob (atI pool3 (2 : Int)) fun t25 => elet (((((x22 * x22) + ((16807 : Int) * t25)) + (7 : Int)) % (2147483629 : Int)) : Int) fun x27 => gd (mulOk x27 x27) <| ob (atI pool3 (2 : Int)) fun t30 => elet (((((x27 * x27) + ((69621 : Int) * t30)) + (3 : Int)) % (2147483587 : Int)) : Int) fun x32 => gd (decide (0 < size)) <| .ok (((x32 / (7 : Int)) % size), pool3))

def bm_law_same (rec_ : Gn.D → Gn.D → R (Bool)) (actual : Gn.D) (due : Gn.D) : R (Bool) :=
  (if due.isN = true then .ok actual.isN else (if (isT due "bool") = true then ob ((if (isT actual "bool") = true then (gd (eqK actual due) <| .ok (eqD actual due)) else .ok false : R (Bool)).opt) fun c4 => .ok c4 else (if (isT due "int") = true then ob ((if (isT actual "int") = true then (ob ((if (!(isT actual "bool")) = true then (gd (eqK actual due) <| .ok (eqD actual due)) else .ok false : R (Bool)).opt) fun c9 => .ok c9) else .ok false : R (Bool)).opt) fun c12 => .ok c12 else (if (isT due "str") = true then ob ((if (isT actual "str") = true then (gd (eqK actual due) <| .ok (eqD actual due)) else .ok false : R (Bool)).opt) fun c17 => .ok c17 else (if ((isT due "tuple") && (!(isT actual "tuple"))) = true then .ok false else (if ((isT due "list") && (!(isT actual "list"))) = true then .ok false else ob (actual.len) fun t22 => ob (due.len) fun t24 => (if (!(decide (t22 = t24))) = true then .ok false else ob (due.len) fun t27 => gd (rgOk t27) <| (loopR (ρ := Bool) (rng 0 t27) () (fun x30 (_ : Unit) => ob (actual.at x30) fun t31 => ob (due.at x30) fun t33 => ob ((rec_ t31 t33).opt) fun t35 => (if (!t35) = true then .ok (.ret false) else .ok (.go ())))).bind fun o_ => o_.fin (fun y_ => .ok y_) fun _ => .ok true)))))))
def nm_law_same : Nat → Gn.D → Gn.D → R (Bool)
  | 0, _, _ => .bad
  | n + 1, actual, due => bm_law_same (nm_law_same n) actual due
def m_law_same (actual : Gn.D) (due : Gn.D) : R (Bool) := nm_law_same 8 actual due

def m_law_ab (pool : (List Int)) (most : Int) : R ((Int × Int) × (List Int)) :=
  ob ((m_law_take pool (most - (1 : Int))).opt) fun (t1, pool2) => elet (((1 : Int) + t1) : Int) fun a4 => ob ((m_law_take pool2 (most - a4)).opt) fun (t6, pool7) => .ok ((a4, ((a4 + (1 : Int)) + t6)), pool7)

def m_law_board_ab (pool : (List Int)) : R ((Int × Int) × (List Int)) :=
  ob ((m_law_take pool (8 : Int)).opt) fun (t1, pool2) => ob ((if (decide (t1 = (5 : Int))) = true then .ok (12 : Int) else .ok (6 : Int) : R (Int)).opt) fun most5 => ob ((m_law_ab pool2 most5).opt) fun (t8, pool9) => ob ((m_law_take pool9 (4 : Int)).opt) fun (t11, pool12) => ob ((if (decide (t11 = (3 : Int))) = true then elet (((max (1 : Int) (t8.1 - (1 : Int))), t8.2) : (Int × Int)) fun ab17 => .ok ab17 else .ok t8 : R ((Int × Int))).opt) fun ab15 => .ok (ab15, pool12)

def m_law_drawn_plan (pool : (List Int)) (ab : (Int × Int)) (k : Int) (hours : Int) : R ((List Int) × (List Int)) :=
  gd (rgOk k) <| gd (sz (rng 0 k).length) <| ob ((mapR (rng 0 k) (fun x2 => .ok (0 : Int))).opt) fun ys4 => elet ([] : (List Int)) fun used8 => gd (rgOk (hours + (1 : Int))) <| (foldR (rng (2 : Int) (hours + (1 : Int))) (pool, ys4, used8) (fun x11 ((pool12, ages13, used14) : (List Int) × (List Int) × (List Int)) => gd (sz ages13.length) <| ob ((mapR ages13 (fun x15 => .ok (x15 + (1 : Int)))).opt) fun ys17 => gd (rgOk k) <| gd (sz (rng 0 k).length) <| ob ((mapR (rng 0 k) (fun x22 => (ob (atI ys17 x22) fun t23 => .ok (decide (ab.2 < ((t23 + x22) + (1 : Int))))))).opt) fun ys26 => elet ((ys26.any id) : Bool) fun press30 => ob (atI ys17 (0 : Int)) fun t32 => ob ((if (decide (ab.1 ≤ t32)) = true then (ob ((m_law_take pool12 (2 : Int)).opt) fun (t34, pool35) => .ok (((decide (t34 = (0 : Int))) || press30), pool35)) else .ok (false, pool12) : R (Bool × (List Int))).opt) fun (c37, pool38) => (if c37 = true then gd (sz (used14.length + 1)) <| gd (sz ((cutL ys17 (some (1 : Int)) none).length + ([(0 : Int)]).length)) <| elet (((cutL ys17 (some (1 : Int)) none) ++ [(0 : Int)]) : (List Int)) fun ages44 => .ok (pool38, ages44, (used14 ++ [x11])) else .ok (pool38, ys17, used14)))).bind fun (pool46, ages47, used48) => .ok (used48, pool46)

def m_law_around (pool : (List Int)) (used : (List Int)) (hours : Int) (thick : Int) : R (Tx × (List Int)) :=
  gd (rgOk (hours + (1 : Int))) <| (foldR (rng (2 : Int) (hours + (1 : Int))) (pool, ([46] : Tx)) (fun x2 ((pool3, signs4) : (List Int) × Tx) => ob ((if (decide (x2 ∈ used)) = true then .ok (true, pool3) else (ob ((m_law_take pool3 thick).opt) fun (t5, pool6) => .ok ((decide (t5 = (0 : Int))), pool6)) : R (Bool × (List Int))).opt) fun (c8, pool9) => (if c8 = true then gd (sz (signs4.length + ([46] : Tx).length)) <| elet ((signs4 ++ ([46] : Tx)) : Tx) fun signs14 => .ok (pool9, signs14) else gd (sz (signs4.length + ([35] : Tx).length)) <| elet ((signs4 ++ ([35] : Tx)) : Tx) fun signs17 => .ok (pool9, signs17)))).bind fun (pool19, signs20) => .ok (signs20, pool19)

def m_law_board_signs (pool : (List Int)) (ab : (Int × Int)) (k : Int) (hours : Int) : R (Tx × (List Int)) :=
  ob ((m_law_drawn_plan pool ab k hours).opt) fun (t1, pool2) => ob ((m_law_take pool2 (4 : Int)).opt) fun (t4, pool5) => ob ((if (decide (t4 = (1 : Int))) = true then elet ([] : (List Int)) fun used10 => .ok used10 else .ok t1 : R ((List Int))).opt) fun used8 => ob ((if ((decide (t4 = (2 : Int))) && (decide ((0 : Int) < (used8.length : Int)))) = true then ob ((m_law_take pool5 (used8.length : Int)).opt) fun (t17, pool18) => gd (sz ((cutL used8 none (some t17)).length + (cutL used8 (some (t17 + (1 : Int))) none).length)) <| elet (((cutL used8 none (some t17)) ++ (cutL used8 (some (t17 + (1 : Int))) none)) : (List Int)) fun used21 => .ok (pool18, used21) else .ok (pool5, used8) : R ((List Int) × (List Int))).opt) fun (pool14, used15) => ob ((m_law_take pool14 (4 : Int)).opt) fun (t24, pool25) => elet (((1 : Int) + t24) : Int) fun thick27 => ob ((if (decide (t4 = (1 : Int))) = true then elet ((min (2 : Int) thick27) : Int) fun thick32 => .ok thick32 else .ok thick27 : R (Int)).opt) fun thick30 => ob ((m_law_around pool25 used15 hours thick30).opt) fun (t35, pool36) => .ok (t35, pool36)

def m_law_supports (ab : (Int × Int)) (signs : Tx) (prices : (List Int)) (k : Int) (cost : Int) (labels : (T3 Int (List Int) (List Int))) : R (Bool) :=
  gd (sz signs.length) <| elet ((signs.length : Int) : Int) fun n2 => ob ((if (!(decide ((labels.b.length : Int) = n2))) = true then .ok true else (ob ((if (!(decide ((labels.c.length : Int) = n2))) = true then .ok true else (ob (atI labels.c (0 : Int)) fun t4 => .ok (decide ((0 : Int) < t4))) : R (Bool)).opt) fun c6 => .ok c6) : R (Bool)).opt) fun c9 => (if c9 = true then .ok false else gd (rgOk (n2 + (1 : Int))) <| (loopR (ρ := Bool) (rng (1 : Int) (n2 + (1 : Int))) (0 : Int) (fun x14 (extra15 : Int) => gd (rgOk (x14 + ab.1)) <| gd (rgOk ((min (x14 + ab.2) n2) + (1 : Int))) <| (loopR (ρ := Bool) (rng (x14 + ab.1) ((min (x14 + ab.2) n2) + (1 : Int))) () (fun x18 (_ : Unit) => ob (atI labels.b (x18 - (1 : Int))) fun t19 => ob (atI labels.c (x14 - (1 : Int))) fun t21 => (if (decide (t21 < t19)) = true then .ok (.ret false) else .ok (.go ())))).bind fun o_ => o_.fin (fun y_ => .ok (.ret y_)) fun _ => ob ((if (decide (n2 < (x14 + ab.2))) = true then (ob (atI labels.c (x14 - (1 : Int))) fun t24 => .ok (decide (t24 < labels.a))) else .ok false : R (Bool)).opt) fun c26 => (if c26 = true then .ok (.ret false) else (if (decide ((1 : Int) < x14)) = true then ob (atI labels.c (x14 - (1 : Int))) fun t31 => ob (atI labels.b (x14 - (1 : Int))) fun t33 => gd (sz signs.length) <| ob (atI signs (x14 - (1 : Int))) fun t36 => ob (atI prices (x14 - (1 : Int))) fun t38 => gd (mulOk (if (decide (([t36] : Tx) = ([35] : Tx))) = true then (1 : Int) else 0) t38) <| elet ((extra15 + (max (0 : Int) ((t31 - t33) - ((if (decide (([t36] : Tx) = ([35] : Tx))) = true then (1 : Int) else 0) * t38)))) : Int) fun extra41 => .ok (.go extra41) else .ok (.go extra15))))).bind fun o_ => o_.fin (fun y_ => .ok y_) fun extra43 => gd (mulOk k labels.a) <| .ok (decide ((cost + extra43) ≤ (k * labels.a))))

def m_law_prices (pool : (List Int)) (n : Int) : R ((List Int) × (List Int)) :=
  ob ((m_law_take pool (4 : Int)).opt) fun (t1, pool2) => ob (atI ([(2 : Int), (4 : Int), (10 : Int), (1001 : Int)]) t1) fun t4 => ob ((m_law_take pool2 (2 : Int)).opt) fun (t6, pool7) => gd (rgOk n) <| gd (sz (rng 0 n).length) <| ob ((compR (rng 0 n) pool7 (fun x10 pool17 => (ob ((m_law_take pool17 (t4 - t6)).opt) fun (t18, pool19) => .ok (some (t6 + t18), pool19)))).opt) fun (ys15, pool21) => .ok (ys15, pool21)

def m_law_made (pool : (List Int)) (ab : (Int × Int)) (n : Int) (most : Int) : R ((T3 Int (List Int) (List Int)) × (List Int)) :=
  ob ((m_law_take pool (3 : Int)).opt) fun (t1, pool2) => ob ((m_law_take pool2 (2 : Int)).opt) fun (t4, pool5) => elet ([((0 : Int) - t4)] : (List Int)) fun behind7 => gd (rgOk n) <| (foldR (rng (1 : Int) n) (pool5, behind7) (fun x10 ((pool11, behind12) : (List Int) × (List Int)) => (if (decide (t1 = (0 : Int))) = true then ob (atI behind12 (-1 : Int)) fun t14 => ob ((m_law_take pool11 (3 : Int)).opt) fun (t16, pool17) => gd (sz (behind12.length + 1)) <| .ok (pool17, (behind12 ++ [(t14 + t16)])) else (if (decide (t1 = (1 : Int))) = true then ob ((m_law_take pool11 (most + (1 : Int))).opt) fun (t21, pool22) => gd (sz (behind12.length + 1)) <| .ok (pool22, (behind12 ++ [t21])) else ob ((m_law_take pool11 (3 : Int)).opt) fun (t25, pool26) => gd (sz (behind12.length + 1)) <| .ok (pool26, (behind12 ++ [((min most x10) - t25)])))))).bind fun (pool29, behind30) => elet ([] : (List Int)) fun ahead31 => gd (rgOk n) <| (foldR (rng 0 n) (pool29, ahead31) (fun x34 ((pool35, ahead36) : (List Int) × (List Int)) => gd (rgOk (max (0 : Int) (x34 - ab.2))) <| gd (rgOk (max (0 : Int) ((x34 - ab.1) + (1 : Int)))) <| gd (sz (rng (max (0 : Int) (x34 - ab.2)) (max (0 : Int) ((x34 - ab.1) + (1 : Int)))).length) <| ob ((mapR (rng (max (0 : Int) (x34 - ab.2)) (max (0 : Int) ((x34 - ab.1) + (1 : Int)))) (fun x39 => (ob (atI behind30 x39) fun t40 => .ok t40))).opt) fun ys43 => (if (decide ((ys43.length : Int) = (0 : Int))) = true then ob (atI behind30 x34) fun t48 => gd (sz (ahead36.length + 1)) <| .ok (pool35, (ahead36 ++ [t48])) else ob (ys43.min?) fun t51 => ob ((m_law_take pool35 (8 : Int)).opt) fun (t53, pool54) => gd (sz (ahead36.length + 1)) <| .ok (pool54, (ahead36 ++ [(t51 - (if (decide (t53 = (0 : Int))) = true then (1 : Int) else 0))]))))).bind fun (pool57, ahead58) => ob ((cutL behind30 (some (max (0 : Int) (n - ab.2))) none).min?) fun t59 => .ok ((T3.mk t59 ahead58 behind30), pool57)

def m_law_bent (pool : (List Int)) (labels : (T3 Int (List Int) (List Int))) : R ((T3 Int (List Int) (List Int)) × (List Int)) :=
  ob ((m_law_take pool (labels.b.length : Int)).opt) fun (t1, pool2) => ob ((m_law_take pool2 (4 : Int)).opt) fun (t4, pool5) => elet (((1 : Int) + t4) : Int) fun more7 => ob ((m_law_take pool5 (9 : Int)).opt) fun (t9, pool10) => (if (decide (t9 = (0 : Int))) = true then ob (atI labels.b t1) fun t13 => ob (setI labels.b t1 (t13 + more7)) fun ahead15 => .ok ((T3.mk labels.a ahead15 labels.c), pool10) else (if (decide (t9 = (1 : Int))) = true then ob (atI labels.c t1) fun t18 => ob (setI labels.c t1 (t18 - more7)) fun behind20 => .ok ((T3.mk labels.a labels.b behind20), pool10) else (if (decide (t9 = (2 : Int))) = true then ob (atI labels.c t1) fun t23 => ob (setI labels.c t1 (t23 + more7)) fun behind25 => .ok ((T3.mk labels.a labels.b behind25), pool10) else (if (decide (t9 = (3 : Int))) = true then elet ((labels.a + more7) : Int) fun top28 => .ok ((T3.mk top28 labels.b labels.c), pool10) else (if (decide (t9 = (4 : Int))) = true then elet ((labels.a - more7) : Int) fun top31 => .ok ((T3.mk top31 labels.b labels.c), pool10) else (if (decide (t9 = (5 : Int))) = true then gd (sz (labels.b.length + ([(0 : Int)]).length)) <| ob ((m_law_take pool10 (2 : Int)).opt) fun (t35, pool36) => ob (atI ([(labels.b ++ [(0 : Int)]), (cutL labels.b none (some ((labels.b.length : Int) - (1 : Int))))]) t35) fun t38 => .ok ((T3.mk labels.a t38 labels.c), pool36) else (if (decide (t9 = (6 : Int))) = true then ob (atI labels.c (-1 : Int)) fun t41 => gd (sz (labels.c.length + ([t41]).length)) <| ob ((m_law_take pool10 (2 : Int)).opt) fun (t44, pool45) => ob (atI ([(labels.c ++ [t41]), (cutL labels.c none (some ((labels.c.length : Int) - (1 : Int))))]) t44) fun t47 => .ok ((T3.mk labels.a labels.b t47), pool45) else (if (decide (t9 = (7 : Int))) = true then .ok ((T3.mk labels.a labels.c labels.b), pool10) else gd (sz labels.b.length) <| ob ((compR labels.b pool10 (fun x50 pool57 => (ob ((m_law_take pool57 (19 : Int)).opt) fun (t58, pool59) => .ok (some (t58 - (9 : Int)), pool59)))).opt) fun (ys55, pool61) => gd (sz labels.c.length) <| ob ((compR labels.c pool61 (fun x64 pool71 => (ob ((m_law_take pool71 (19 : Int)).opt) fun (t72, pool73) => .ok (some (t72 - (9 : Int)), pool73)))).opt) fun (ys69, pool75) => .ok ((T3.mk labels.a ys55 ys69), pool75)))))))))

def m_law_just (ab : (Int × Int)) (signs : Tx) (prices : (List Int)) (k : Int) (labels : (T3 Int (List Int) (List Int))) : R (Int) :=
  gd (mulOk k labels.a) <| elet ((k * labels.a) : Int) fun extra2 => gd (sz signs.length) <| gd (rgOk ((signs.length : Int) + (1 : Int))) <| (foldR (rng (2 : Int) ((signs.length : Int) + (1 : Int))) extra2 (fun x6 (extra7 : Int) => (if ((decide (x6 ≤ (labels.b.length : Int))) && (decide (x6 ≤ (labels.c.length : Int)))) = true then gd (sz signs.length) <| ob (atI signs (x6 - (1 : Int))) fun t10 => ob (atI prices (x6 - (1 : Int))) fun t12 => gd (mulOk (if (decide (([t10] : Tx) = ([35] : Tx))) = true then (1 : Int) else 0) t12) <| elet (((if (decide (([t10] : Tx) = ([35] : Tx))) = true then (1 : Int) else 0) * t12) : Int) fun price15 => ob (atI labels.c (x6 - (1 : Int))) fun t17 => ob (atI labels.b (x6 - (1 : Int))) fun t19 => elet ((extra7 - (max (0 : Int) ((t17 - t19) - price15))) : Int) fun extra21 => .ok extra21 else .ok extra7))).bind fun extra23 => .ok extra23

def m_law_due (ab : (Int × Int)) (signs : Tx) (prices : (List Int)) (k : Int) (cost : Int) (labels : (T3 Int (List Int) (List Int))) : R (Bool) :=
  gd (sz signs.length) <| ob ((if (!(decide ((labels.b.length : Int) = (signs.length : Int)))) = true then .ok true else (gd (sz signs.length) <| .ok (!(decide ((labels.c.length : Int) = (signs.length : Int))))) : R (Bool)).opt) fun c3 => (if c3 = true then .ok false else ob ((m_law_supports ab signs prices k cost labels).opt) fun t7 => .ok t7)

def m_law_held (lacquer : O_Lacquer) (weather : O_Weather) (prices : (List Int)) (k : Int) (cost : Int) (labels : (T3 Int (List Int) (List Int))) : R (Gn.D) :=
  elet ((T3.mk labels.a labels.b labels.c) : (T3 Int (List Int) (List Int))) fun given1 => ((m_crew_labels_hold lacquer weather prices k cost given1)).bind fun t3 => ob ((m_law_same (ToD.d given1) (ToD.d labels)).opt) fun t8 => ob ((if (!t8) = true then .ok true else (ob ((m_law_same (ToD.d prices) (ToD.d prices)).opt) fun t10 => .ok (!t10)) : R (Bool)).opt) fun c12 => (if c12 = true then .ok (ToD.d ([119, 114, 111, 110, 103] : Tx)) else .ok (ToD.d t3))

def m_law_refused (lacquer : O_Lacquer) (weather : O_Weather) (prices : (List Int)) (which : Int) (k : Int) : R (Tx) :=
  ob ((tryR ((if (decide (which = (0 : Int))) = true then ((m_crew_labels_hold lacquer weather prices k (0 : Int) (T3.mk (0 : Int) ([(0 : Int)]) ([(0 : Int)])))).bind fun t5 => .ok ([] : Tx) else (if (decide (which = (1 : Int))) = true then ((m_crew_heating lacquer weather prices k)).bind fun t11 => .ok ([] : Tx) else ((m_crew_heat_labels lacquer weather prices k)).bind fun t16 => .ok ([] : Tx))) : R (Tx)) fun c_ => if (c_ == Str.ofString "BadNumber") = true then (if (true && (true && (!false))) = true then .ok ([110, 117, 109, 98, 101, 114] : Tx) else .ok ([] : Tx)) else if (c_ == Str.ofString "BadPrice") = true then (if (true && (true && (!false))) = true then .ok ([112, 114, 105, 99, 101] : Tx) else .ok ([] : Tx)) else .bad).opt) fun word2 => .ok word2

def m_law_cell (script : Sc) (k : Int) : R (Int) :=
  (if (decide (k < (script.xs.length : Int))) = true then ob (atI script.xs k) fun t2 => .ok t2 else .ok (((977 : Int) * k) + (31 : Int)))

def m_law (script : Sc) : R (Bool) :=
  ob ((m_law_cell script (0 : Int)).opt) fun t1 => ob ((m_law_pool t1).opt) fun t3 => ob ((m_law_cell script (1 : Int)).opt) fun t5 => ob ((m_law_pool t5).opt) fun t7 => ob ((m_law_board_ab t3).opt) fun (t9, pool10) => ob ((m_law_take pool10 (20 : Int)).opt) fun (t12, pool13) => elet (((1 : Int) + t12) : Int) fun n15 => ob ((m_law_take pool13 (16 : Int)).opt) fun (t17, pool18) => ob ((if (decide (t17 = (9 : Int))) = true then ob ((m_law_take pool18 (100 : Int)).opt) fun (t24, pool25) => elet (((1 : Int) + t24) : Int) fun n27 => .ok (pool25, n27) else .ok (pool18, n15) : R ((List Int) × Int)).opt) fun (pool21, n22) => ob ((m_law_take pool21 ((t9.2 - t9.1) + (1 : Int))).opt) fun (t30, pool31) => ob ((m_law_board_signs t7 t9 ((1 : Int) + t30) n22).opt) fun (t33, other34) => ob ((m_law_prices other34 n22).opt) fun (t36, other37) => ob ((m_law_take other37 (2 : Int)).opt) fun (t39, other40) => ob (atI ([(3 : Int), (12 : Int)]) t39) fun t42 => ob ((m_law_take other40 t42).opt) fun (t44, other45) => elet (((1 : Int) + t44) : Int) fun k47 => ((m_Lacquer__init t9.1 t9.2)).bind fun t49 => ((m_Weather_of_signs t33)).bind fun t54 => gd (sz (rng 0 (3 : Int)).length) <| ob ((compR (rng 0 (3 : Int)) other45 (fun x59 other68 => (ob (t36.max?) fun t69 => ob ((m_law_made other68 t9 n22 t69).opt) fun (t71, other72) => .ok (some t71, other72)))).opt) fun (ys66, other74) => gd (sz (rng 0 (9 : Int)).length) <| ob ((compR (rng 0 (9 : Int)) other74 (fun x77 other86 => (ob (atI ys66 (x77 % (3 : Int))) fun t87 => ob ((m_law_bent other86 t87).opt) fun (t89, other90) => .ok (some t89, other90)))).opt) fun (ys84, other92) => gd (sz (ys66.length + ys84.length)) <| elet ((ys66 ++ ys84) : (List (T3 Int (List Int) (List Int)))) fun lists96 => ob ((m_law_take other92 (9 : Int)).opt) fun (t98, other99) => gd (sz (t36.length + ([(0 : Int)]).length)) <| gd (sz (([((-1 : Int) - t98)]).length + (cutL t36 (some (1 : Int)) none).length)) <| gd (sz ((cutL t36 none (some (n22 - (1 : Int)))).length + ([((1001 : Int) + t98)]).length)) <| ob ((m_law_take other99 (4 : Int)).opt) fun (t104, other105) => ob (atI ([(t36 ++ [(0 : Int)]), (cutL t36 none (some (n22 - (1 : Int)))), ([((-1 : Int) - t98)] ++ (cutL t36 (some (1 : Int)) none)), ((cutL t36 none (some (n22 - (1 : Int)))) ++ [((1001 : Int) + t98)])]) t104) fun t107 => ob ((m_law_take other105 (4 : Int)).opt) fun (t109, other110) => ob (atI ([(0 : Int), ((-1 : Int) - t98), (13 : Int), ((14 : Int) + t98)]) t109) fun t112 => (loopR (ρ := Bool) (rng 0 (2 : Int)) () (fun x114 (_ : Unit) => (loopR (ρ := Bool) lists96 () (fun x115 (_ : Unit) => ob ((m_law_just t9 t33 t36 k47 x115).opt) fun t116 => (loopR (ρ := Bool) ([t116, (t116 + (1 : Int)), (t116 - t98)]) () (fun x118 (_ : Unit) => ob ((m_law_due t9 t33 t36 k47 x118 x115).opt) fun t119 => ob ((m_law_held t49 t54 t36 k47 x118 x115).opt) fun t121 => ob ((m_law_same t121 (ToD.d t119)).opt) fun t123 => (if (!t123) = true then .ok (.ret false) else .ok (.go ())))).bind fun o_ => o_.fin (fun y_ => .ok (.ret y_)) fun _ => .ok (.go ()))).bind fun o_ => o_.fin (fun y_ => .ok (.ret y_)) fun _ => (loopR (ρ := Bool) (rng 0 (3 : Int)) () (fun x126 (_ : Unit) => ob ((m_law_refused t49 t54 t107 x126 k47).opt) fun t127 => (if (!(decide (t127 = ([112, 114, 105, 99, 101] : Tx)))) = true then .ok (.ret false) else ob (atI ([t36, t107]) x114) fun t130 => ob ((m_law_refused t49 t54 t130 x126 t112).opt) fun t132 => (if (!(decide (t132 = ([110, 117, 109, 98, 101, 114] : Tx)))) = true then .ok (.ret false) else .ok (.go ()))))).bind fun o_ => o_.fin (fun y_ => .ok (.ret y_)) fun _ => .ok (.go ()))).bind fun o_ => o_.fin (fun y_ => .ok y_) fun _ => .ok true

def N_Lacquer___init__ : List Str := ["self", "a", "b"]
theorem sc_Lacquer___init__ : FnScope N_Lacquer___init__ ["self", "a", "b"] (defScope s_Lacquer___init__) := ⟨rfl, rfl, rfl, by decide +kernel, rfl, by decide +kernel, by decide +kernel⟩
def rel_Lacquer___init__ (cs : List Ca) (r : R O_Lacquer) : Prop := ∃ (a : Int) (b : Int), cs = [.k a, .k b] ∧ r = m_Lacquer__init a b
theorem ok_Lacquer___init__ {g : Gx} {P : Program} {w : World} {mg : Str → Option Value} {base : Heap} {A : Ad} (T : Txt g mg A) : FnOk P w g.K mg base (L2.CX P w) 1 A.f_Lacquer___init__ A.d_Lacquer___init__ ["self", "a", "b"] (spIni g O_Lacquer rel_Lacquer___init__) := by
  refine fn_ini T.F_Lacquer___init__ sc_Lacquer___init__ (fun cs o h => by obtain ⟨_, _, rfl, _⟩ := h; rfl) (by decide) (fun cdv A_ outer s H X hr => ⟨_, (pss_cons (ps_if (L2.pt_not (pt_chain3 op_le op_lt op_le pe_int (pv 1) (pv 2) (pe_cvalK (K := g.K) rfl (pe_glob (v := .ref (g.ca (Str.ofString "Lacquer"))) (by rfl) T.mg_Lacquer rfl)))) (pss_one (ps_raise rfl (takes_of rfl rfl rfl rfl) (pmk_own PySem.F.excBase_ValueError T.x_BadLacquer T.mg_BadLacquer T.kp_BadLacquer (raises_own T.s_BadLacquer T.t_BadLacquer) (by rfl)))) pss_nil)
 (pss_cons (ps_fldK (K := g.K) rfl (pv 0) (pv 1) rfl)
 (pss_one (ps_fldK (K := g.K) rfl (pv 0) (pv 2) rfl)))), fun B x_ dx_ cs r E D hP hrel hne hini hx hok => ?_⟩)
  obtain ⟨a, b, rfl, hr_⟩ := hrel
  obtain ⟨E1, rfl, hini1⟩ := ini_k hini
  obtain ⟨E2, rfl, hini2⟩ := ini_k hini1
  obtain ⟨-, rfl⟩ := ini_nil hini2
  have hm := hr_.symm
  clear hr_
  have hex := hx
  unfold m_Lacquer__init at hm
  show Sx g B [.kp ((Adr.mk x_) : Adr), .kp (a : Int), .kp (b : Int)] _ _
  refine sx_seq (sx_if (pt_not (pt_chain3' ((px_int (n := 1))) ((px_v (i := 1) (by exact rfl))) r2_le ((px_v (i := 2) (by exact rfl))) r2_lt ((px_cval T.cv_Lacquer_MOST)) r2_le)) (fun e1 => ?_) (fun e1 => ?_))
  · have hm := (if_pos e1).symm.trans hm
    exact sx_raise0 (c := Str.ofString "BadLacquer") (hex _ _ hm.symm)
  · have hm := (if_neg (fun z_ => Bool.false_ne_true (e1.symm.trans z_))).symm.trans hm
    refine sx_next (nx_of ?_)
    refine sx_seq (sx_fld (x := x_) (C := (g.ca (Str.ofString "Lacquer"))) (f := Str.ofString "a") rfl hP ((px_v (i := 1) (by exact rfl))) T.c_Lacquer T.na_Lacquer_f_a (by first | decide | simp [putF]) (fun w1 F1 B r1 hP un1 => nx_of ?_))
    refine sx_fld (x := x_) (C := (g.ca (Str.ofString "Lacquer"))) (f := Str.ofString "b") rfl hP ((px_v (i := 2) (by exact rfl))) T.c_Lacquer T.na_Lacquer_f_b (by first | decide | simp [putF]) (fun w2 F2 B r2 hP un2 σ_ H_ ⟨F_, A_, s_⟩ => ?_)
    obtain ⟨q2, z2⟩ := un2 _ _ _ _ _ _ s_
    obtain ⟨q1, z1⟩ := un1 _ _ _ _ _ _ q2
    obtain ⟨p1_, p2_, _⟩ := s_.pr x_ _ hP
    exact hok _ hm.symm F_ A_ _ σ_ H_ _ q1 p1_ (s_.fa.free p2_) ⟨w1, w2, rfl, Rp.mono z1 r1, Rp.mono z2 r2⟩

def N_Weather___init__ : List Str := ["self", "lengths", "at", "length"]
theorem sc_Weather___init__ : FnScope N_Weather___init__ ["self", "lengths"] (defScope s_Weather___init__) := ⟨rfl, rfl, rfl, by decide +kernel, rfl, by decide +kernel, by decide +kernel⟩
def rel_Weather___init__ (cs : List Ca) (r : R O_Weather) : Prop := ∃ (lengths : (List Int)), cs = [.k lengths] ∧ r = m_Weather__init lengths
theorem ok_Weather___init__ {g : Gx} {P : Program} {w : World} {mg : Str → Option Value} {base : Heap} {A : Ad} (T : Txt g mg A) : FnOk P w g.K mg base (L2.CX P w) 1 A.f_Weather___init__ A.d_Weather___init__ ["self", "lengths"] (spIni g O_Weather rel_Weather___init__) := by
  refine fn_ini T.F_Weather___init__ sc_Weather___init__ (fun cs o h => by obtain ⟨_, rfl, _⟩ := h; rfl) (by decide) (fun cdv A_ outer s H X hr => ⟨_, (pss_cons (ps_if (PW.pt (pw_or (L2.pt_not (pt_truthK (K := g.K) rfl (pv 1) (by intro _; rfl))) (pw_or (pt_cmpR op_lt (pe_callB (cr_minK (K := g.K) rfl rfl) (by rfl) T.no_min (by decide +kernel) (pa_cons (pv 1) pa_nil)) pe_int (nomark _)) (pw_or1 (pt_cmpR op_gt (pe_callB (cr_sumK (K := g.K) rfl rfl) (by rfl) T.no_sum (by decide +kernel) (pa_cons (pv 1) pa_nil)) (pe_gc (by rfl) T.mg_MOST_HOURS) (nomark _)))))) (pss_one (ps_raise rfl (takes_of rfl rfl rfl rfl) (pmk_own PySem.F.excBase_ValueError T.x_BadWeather T.mg_BadWeather T.kp_BadWeather (raises_own T.s_BadWeather T.t_BadWeather) (by rfl)))) pss_nil)
 (pss_cons (ps_fldK (K := g.K) rfl (pv 0) (pe_callTy (call_tuple_ofK (K := g.K) rfl) (by rfl) T.no_tuple (by decide +kernel) (pa_cons (pv 1) pa_nil)) rfl)
 (pss_one (ps_fldK (K := g.K) rfl (pv 0) (pe_bmK (K := g.K) rfl (pe_bm PySem.F.plainAttrs_str PySem.F.slot_str_join PySem.F.type_str_join (mt_joinK (K := g.K) rfl) pe_str (pa_cons (pe_lc (own := [("at", 2), ("length", 3)]) (by rfl) sc_Weather___init__.nd (pi_enum (by rfl) T.no_enumerate (pa_cons (pv 1) pa_nil)) (blkOk_by (own := [("at", 2), ("length", 3)]) (N := N_Weather___init__) (sc := defScope s_Weather___init__) (by decide +kernel)) (fun _ _ _ _ _ => (pg_tupK (K := g.K) (n := 2) rfl rfl (pgs_cons (pg_name (i := 2) sc_Weather___init__.nd rfl (by first | exact Or.inl rfl | exact Or.inr rfl)) (pgs_cons (pg_name (i := 3) sc_Weather___init__.nd rfl (by first | exact Or.inl rfl | exact Or.inr rfl)) pgs_nil)))) (fun _ _ _ _ _ => pts_nil) (fun _ _ _ _ _ => (pe_op op_repS (pe_ix ix_str (pe_gc (by rfl) T.mg_BOTH_SIGNS) (pe_op op_mod (pv 2) pe_int) (fun _ _ => rfl)) (pv 3)))) pa_nil))) rfl)))), fun B x_ dx_ cs r E D hP hrel hne hini hx hok => ?_⟩)
  obtain ⟨lengths, rfl, hr_⟩ := hrel
  obtain ⟨E1, rfl, hini1⟩ := ini_k hini
  obtain ⟨-, rfl⟩ := ini_nil hini1
  have hm := hr_.symm
  clear hr_
  have hex := hx
  unfold m_Weather__init at hm
  show Sx g B [.kp ((Adr.mk x_) : Adr), .kp (lengths : (List Int)), .un, .un] _ _
  obtain ⟨c3, h4, hm⟩ := ob_ne hm hne
  refine sx_seq (sx_if (pt_orR (c := c3) (pt_not (pt_tru (pl_k (px_v (i := 1) (by exact rfl))) trivial)) (fun e5_ => by
    have e5 := (if_neg (fun z_ => Bool.false_ne_true (e5_.symm.trans z_))).symm.trans (opt_ok h4)
    obtain ⟨t1, h2, e5⟩ := ob_ne e5 ok_ne
    have e5 := R.ok.inj e5
    subst e5
    exact (pt_or (pt_test (px_op ((px_min (pl_k (px_v (i := 1) (by exact rfl))) trivial h2)) ((px_int (n := 1))) r2_lt)) (fun _ => (pt_test (px_op ((px_sum (pl_k (px_v (i := 1) (by exact rfl))) trivial)) ((px_int (n := 200))) r2_gt))) (fun _ => rfl))) (fun e5_ => by
    have e5 := (if_pos e5_).symm.trans (opt_ok h4)
    have e5 := R.ok.inj e5
    subst e5
    exact ⟨rfl, rfl⟩)) (fun e6 => ?_) (fun e6 => ?_))
  · have hm := (if_pos e6).symm.trans hm
    exact sx_raise0 (c := Str.ofString "BadWeather") (hex _ _ hm.symm)
  · have hm := (if_neg (fun z_ => Bool.false_ne_true (e6.symm.trans z_))).symm.trans hm
    refine sx_next (nx_of ?_)
    refine sx_seq (sx_fld (x := x_) (C := (g.ca (Str.ofString "Weather"))) (f := Str.ofString "lengths") rfl hP ((px_tuple (pl_k (px_v (i := 1) (by exact rfl))) trivial)) T.c_Weather T.na_Weather_f_lengths (by first | decide | simp [putF]) (fun w1 F1 B r1 hP un1 => nx_of ?_))
    obtain ⟨g12, hm⟩ := gd_ne hm hne
    obtain ⟨ys13, h14, hm⟩ := ob_ne hm hne
    obtain ⟨g17, hm⟩ := gd_ne hm hne
    refine sx_fld (x := x_) (C := (g.ca (Str.ofString "Weather"))) (f := Str.ofString "_signs") rfl hP ((px_join (px_str (t := ([] : Tx)) rfl) (pl_k ((PxN.pxA Tx (pn_map (sr_enum ((px_v (i := 1) (by exact rfl)))) (tc_p (by decide) (by decide)) (opt_ok h14) g12 (by exact nowns2 (nown rfl (fun z_ => z_)) (nown rfl (fun z_ => z_))) (fun x_ => LeE.trans (leE_set rfl) (leE_set rfl)) (fun B_ x7 y15 n_ hx_ e16 => by
        obtain ⟨g8, e16⟩ := gd_ne e16 ok_ne
        obtain ⟨t9, h10, e16⟩ := ob_ne e16 ok_ne
        obtain ⟨g11, e16⟩ := gd_ne e16 ok_ne
        have e16 := R.ok.inj e16
        subst e16
        exact (px_repS (px_idxS (px_str (t := ([46, 35] : Tx)) rfl) (px_op (px_v (i := 2) (by exact rfl)) (px_int (n := 2)) (r2_mod (by decide))) g8 h10) (px_v (i := 3) (by exact rfl)) g11)))))) trivial g17)) T.c_Weather T.na_Weather_f_signs (by first | decide | simp [putF]) (fun w2 F2 B r2 hP un2 σ_ H_ ⟨F_, A_, s_⟩ => ?_)
    obtain ⟨q2, z2⟩ := un2 _ _ _ _ _ _ s_
    obtain ⟨q1, z1⟩ := un1 _ _ _ _ _ _ q2
    obtain ⟨p1_, p2_, _⟩ := s_.pr x_ _ hP
    exact hok _ hm.symm F_ A_ _ σ_ H_ _ q1 p1_ (s_.fa.free p2_) ⟨w1, w2, rfl, Rp.mono z1 r1, Rp.mono z2 r2⟩

def N_Weather_hours : List Str := ["self"]
theorem sc_Weather_hours : FnScope N_Weather_hours ["self"] (defScope s_Weather_hours) := ⟨rfl, rfl, rfl, by decide +kernel, rfl, by decide +kernel, by decide +kernel⟩
def rel_Weather_hours (cs : List Ca) (o : Out) : Prop := ∃ (self : O_Weather), cs = [.k self] ∧ res0 (m_Weather_hours self) o
theorem ok_Weather_hours {g : Gx} {P : Program} {w : World} {mg : Str → Option Value} {base : Heap} {A : Ad} (T : Txt g mg A) : FnOk P w g.K mg base (L2.CX P w) 1 A.f_Weather_hours A.d_Weather_hours ["self"] (spOf g rel_Weather_hours) := by
  refine fn_go T.F_Weather_hours sc_Weather_hours (fun cs o h => by obtain ⟨_, rfl, _⟩ := h; rfl) (by decide) (fun cdv A_ outer s H X hr => ⟨_, (pss_one (ps_ret (pe_callB call_len_str (by rfl) T.no_len (by decide +kernel) (pa_cons (pe_fldK (K := g.K) rfl (pv 0) rfl) pa_nil)))), fun B qs cs o E D hps hrel hini hrt hx hfall => ?_⟩)
  obtain ⟨self, rfl, hrel⟩ := hrel
  generalize hm : m_Weather_hours self = r at hrel
  obtain ⟨hne, hret, hex⟩ := res0_ne hrel
  clear hrel
  obtain ⟨E1, rfl, hini1⟩ := ini_k hini
  obtain ⟨rfl, rfl⟩ := ini_nil hini1
  have hret := fun y_ h_ => (hret y_ h_ ▸ hrt : DRt g B D.rt _)
  have hex := fun c_ d_ h_ => hx c_ d_ (hex c_ d_ h_)
  unfold m_Weather_hours at hm
  show Sx g B [.kp (self : O_Weather)] _ _
  obtain ⟨g1, hm⟩ := gd_ne hm hne
  exact sx_ret' ((px_lenS (px_fld (has_Weather_f_signs T.c_Weather T.na_Weather_f_signs) ((px_v (i := 0) (by exact rfl)))) g1)) hps .nil (hret _ hm.symm)

def N_Weather_signs : List Str := ["self"]
theorem sc_Weather_signs : FnScope N_Weather_signs ["self"] (defScope s_Weather_signs) := ⟨rfl, rfl, rfl, by decide +kernel, rfl, by decide +kernel, by decide +kernel⟩
def rel_Weather_signs (cs : List Ca) (o : Out) : Prop := ∃ (self : O_Weather), cs = [.k self] ∧ res0 (m_Weather_signs self) o
theorem ok_Weather_signs {g : Gx} {P : Program} {w : World} {mg : Str → Option Value} {base : Heap} {A : Ad} (T : Txt g mg A) : FnOk P w g.K mg base (L2.CX P w) 1 A.f_Weather_signs A.d_Weather_signs ["self"] (spOf g rel_Weather_signs) := by
  refine fn_go T.F_Weather_signs sc_Weather_signs (fun cs o h => by obtain ⟨_, rfl, _⟩ := h; rfl) (by decide) (fun cdv A_ outer s H X hr => ⟨_, (pss_one (ps_ret (pe_fldK (K := g.K) rfl (pv 0) rfl))), fun B qs cs o E D hps hrel hini hrt hx hfall => ?_⟩)
  obtain ⟨self, rfl, hrel⟩ := hrel
  generalize hm : m_Weather_signs self = r at hrel
  obtain ⟨hne, hret, hex⟩ := res0_ne hrel
  clear hrel
  obtain ⟨E1, rfl, hini1⟩ := ini_k hini
  obtain ⟨rfl, rfl⟩ := ini_nil hini1
  have hret := fun y_ h_ => (hret y_ h_ ▸ hrt : DRt g B D.rt _)
  have hex := fun c_ d_ h_ => hx c_ d_ (hex c_ d_ h_)
  unfold m_Weather_signs at hm
  show Sx g B [.kp (self : O_Weather)] _ _
  exact sx_ret' ((px_fld (has_Weather_f_signs T.c_Weather T.na_Weather_f_signs) ((px_v (i := 0) (by exact rfl))))) hps .nil (hret _ hm.symm)

def N_Weather_of_signs : List Str := ["signs", "lengths", "length", "at", "sign"]
theorem sc_Weather_of_signs : FnScope N_Weather_of_signs ["signs"] (defScope s_Weather_of_signs) := ⟨rfl, rfl, rfl, by decide +kernel, rfl, by decide +kernel, by decide +kernel⟩
def rel_Weather_of_signs (cs : List Ca) (o : Out) : Prop := ∃ (signs : Tx), cs = [.k signs] ∧ res0 (m_Weather_of_signs signs) o
theorem ok_Weather_of_signs {g : Gx} {P : Program} {w : World} {mg : Str → Option Value} {base : Heap} {A : Ad} (T : Txt g mg A) : FnOk P w g.K mg base (L2.CX P w) 3 A.f_Weather_of_signs A.d_Weather_of_signs ["signs"] (spOf g rel_Weather_of_signs) := by
  refine fn_go T.F_Weather_of_signs sc_Weather_of_signs (fun cs o h => by obtain ⟨_, rfl, _⟩ := h; rfl) (by decide) (fun cdv A_ outer s H X hr => ⟨_, (pss_cons (ps_if (PW.pt (pw_or (L2.pt_not (pt_chain op_le op_le pe_int (pe_callB call_len_str (by rfl) T.no_len (by decide +kernel) (pa_cons (pv 0) pa_nil)) (pe_gc (by rfl) T.mg_MOST_HOURS))) (pw_or1 (pt_cmpR op_ne (pe_ix ix_str (pv 0) pe_int (fun _ _ => rfl)) pe_str (nomark _))))) (pss_one (ps_raise rfl (takes_of rfl rfl rfl rfl) (pmk_own PySem.F.excBase_ValueError T.x_BadWeather T.mg_BadWeather T.kp_BadWeather (raises_own T.s_BadWeather T.t_BadWeather) (by rfl)))) pss_nil)
 (pss_cons (ps_set (i := 1) sc_Weather_of_signs.nd rfl (by first | exact Or.inl rfl | exact Or.inr rfl) (pe_lst pa_nil))
 (pss_cons (ps_set (i := 2) sc_Weather_of_signs.nd rfl (by first | exact Or.inl rfl | exact Or.inr rfl) pe_int)
 (pss_cons (ps_for (passes_of rfl) rfl (pi_enumS (by rfl) T.no_enumerate (pa_cons (pv 0) pa_nil)) (pg_tupK (K := g.K) (n := 2) rfl rfl (pgs_cons (pg_name (i := 3) sc_Weather_of_signs.nd rfl (by first | exact Or.inl rfl | exact Or.inr rfl)) (pgs_cons (pg_name (i := 4) sc_Weather_of_signs.nd rfl (by first | exact Or.inl rfl | exact Or.inr rfl)) pgs_nil))) (pss_cons (ps_if (pt_cmpR op_notIn_sign (pv 4) (pe_gc (by rfl) T.mg_BOTH_SIGNS) (by rfl)) (pss_one (ps_raise rfl (takes_of rfl rfl rfl rfl) (pmk_own PySem.F.excBase_ValueError T.x_BadWeather T.mg_BadWeather T.kp_BadWeather (raises_own T.s_BadWeather T.t_BadWeather) (by rfl)))) pss_nil)
 (Evl.pss_cut (ps_if (PW.pt (pw_and (pt_cmpR op_gt (pv 3) pe_int (nomark _)) (pw_and1 (pt_cmpR op_ne (pv 4) (pe_ix ix_str (pv 0) (pe_op op_sub (pv 3) pe_int) (fun _ _ => rfl)) (nomark _))))) (pss_cons (ps_expr (pe_bm PySem.F.plainAttrs_list PySem.F.slot_list_append PySem.F.type_list_append mt_append (pv 1) (pa_cons (pv 2) pa_nil)))
 (pss_one (ps_set (i := 2) sc_Weather_of_signs.nd rfl (by first | exact Or.inl rfl | exact Or.inr rfl) pe_int))) pss_nil)
 (pss_one (ps_aug (i := 2) sc_Weather_of_signs.nd rfl (by first | exact Or.inl rfl | exact Or.inr rfl) pe_int ip_add)))))
 (pss_cons (ps_expr (pe_bm PySem.F.plainAttrs_list PySem.F.slot_list_append PySem.F.type_list_append mt_append (pv 1) (pa_cons (pv 2) pa_nil)))
 (pss_one (ps_ret (pe_make T.mk_Weather (ok_Weather___init__ T) (hr.mono (by decide)) (by rfl) T.mg_Weather T.b_Weather___init__ .nil (passes_call (takes_of rfl rfl rfl rfl) (fun _ _ _ _ h_ => h_)) (pa_cons (pv 1) pa_nil))))))))), fun B qs cs o E D hps hrel hini hrt hx hfall => ?_⟩)
  obtain ⟨signs, rfl, hrel⟩ := hrel
  generalize hm : m_Weather_of_signs signs = r at hrel
  obtain ⟨hne, hret, hex⟩ := res0_ne hrel
  clear hrel
  obtain ⟨E1, rfl, hini1⟩ := ini_k hini
  obtain ⟨rfl, rfl⟩ := ini_nil hini1
  have hret := fun y_ h_ => (hret y_ h_ ▸ hrt : DRt g B D.rt _)
  have hex := fun c_ d_ h_ => hx c_ d_ (hex c_ d_ h_)
  unfold m_Weather_of_signs at hm
  show Sx g B [.kp (signs : Tx), .un, .un, .un, .un] _ _
  obtain ⟨g1, hm⟩ := gd_ne hm hne
  obtain ⟨c5, h6, hm⟩ := ob_ne hm hne
  refine sx_seq (sx_if (pt_orR (c := c5) (pt_not (pt_test (px_chain (px_int (n := 1)) (px_lenS (px_v (i := 0) (by exact rfl)) g1) r2_le (fun _ => (px_int (n := 200))) (fun _ => r2_le) (fun _ => rfl)))) (fun e7_ => by
    have e7 := (if_neg (fun z_ => Bool.false_ne_true (e7_.symm.trans z_))).symm.trans (opt_ok h6)
    obtain ⟨g2, e7⟩ := gd_ne e7 ok_ne
    obtain ⟨t3, h4, e7⟩ := ob_ne e7 ok_ne
    have e7 := R.ok.inj e7
    subst e7
    exact (pt_test (px_op ((px_idxS (px_v (i := 0) (by exact rfl)) (px_int (n := 0)) g2 h4)) ((px_str (t := ([46] : Tx)) rfl)) r2_ne))) (fun e7_ => by
    have e7 := (if_pos e7_).symm.trans (opt_ok h6)
    have e7 := R.ok.inj e7
    subst e7
    exact ⟨rfl, rfl⟩)) (fun e8 => ?_) (fun e8 => ?_))
  · have hm := (if_pos e8).symm.trans hm
    exact sx_raise0 (c := Str.ofString "BadWeather") (hex _ _ hm.symm)
  · have hm := (if_neg (fun z_ => Bool.false_ne_true (e8.symm.trans z_))).symm.trans hm
    refine sx_next (nx_of ?_)
    obtain ⟨lengths9, h10, hm⟩ := elet_eq (v := ([] : (List Int))) hm
    refine sx_seq (sx_asgO (i := 1) (pn_eq (pn_lst (xs := ([] : (List Int))) ps_nil (by decide)) h10) (nx_of ?_))
    refine sx_seq (sx_asg (i := 2) ((px_int (n := 0))) (nx_of ?_))
    obtain ⟨out_, hL_, hno_, hm⟩ := bind_split hm hne
    refine sx_seq (sx_fold (s0 := (lengths9, (0 : Int))) (X := fun B_ c_ d_ => XkOk g B_ X c_ d_) (Ei := (fun ((lengths12, length13) : (List Int) × Int) => [.kp (signs : Tx), .ow (lengths12 : (List Int)), .kp (length13 : Int), .un, .un])) (fun _ _ _ _ n_ h_ => h_.nest n_) (sr_enumS (px_v (i := 0) (by exact rfl))) (tg_p) (by exact (LeE.cons .refl (LeE.cons .refl (LeE.cons .refl (LeE.cons .un (LeE.cons .un LeE.nil)))))) hL_ hno_ (fun c_ d_ h_ => hex c_ d_ (by rw [h_] at hm; exact hm.symm)) (fun B x11 s_ r_ D hB_ hx_ hm hne hnx hct hex => ?_) (fun s_ hs_ => ?_))
    · obtain ⟨lengths12, length13⟩ := s_
      have hps := hB_.1.trans hps
      show Sx g B [.kp (signs : Tx), .ow (lengths12 : (List Int)), .kp (length13 : Int), .kp (x11.1 : Int), .kp (x11.2 : Tx)] _ _
      obtain ⟨g14, hm⟩ := gd_ne hm hne
      refine sx_seq (sx_if (pt_test (px_op (px_v (i := 4) (by exact rfl)) (px_str (t := ([46, 35] : Tx)) rfl) (r2_ninS g14))) (fun e15 => ?_) (fun e15 => ?_))
      · have hm := (if_pos e15).symm.trans hm
        exact sx_raise0 (c := Str.ofString "BadWeather") (hex _ _ hm.symm)
      · have hm := (if_neg (fun z_ => Bool.false_ne_true (e15.symm.trans z_))).symm.trans hm
        refine sx_next (nx_of ?_)
        obtain ⟨c19, h20, hm⟩ := ob_ne hm hne
        obtain ⟨⟨lengths23, length24⟩, h27, hm⟩ := ob_ne hm hne
        refine sx_cut (E' := [.kp (signs : Tx), .ow (lengths23 : (List Int)), .kp (length24 : Int), .kp (x11.1 : Int), .kp (x11.2 : Tx)]) (fun M_ hM25 => ?_) ?_
        · clear hm
          refine sx_if (pt_andR (c := c19) (pt_test (px_op ((px_v (i := 3) (by exact rfl))) ((px_int (n := 0))) r2_gt)) (fun e21_ => by
            have e21 := (if_pos e21_).symm.trans (opt_ok h20)
            obtain ⟨g16, e21⟩ := gd_ne e21 ok_ne
            obtain ⟨t17, h18, e21⟩ := ob_ne e21 ok_ne
            have e21 := R.ok.inj e21
            subst e21
            exact (pt_test (px_op ((px_v (i := 4) (by exact rfl))) ((px_idxS (px_v (i := 0) (by exact rfl)) (px_op (px_v (i := 3) (by exact rfl)) (px_int (n := 1)) r2_sub) g16 h18)) r2_ne))) (fun e21_ => by
            have e21 := (if_neg (fun z_ => Bool.false_ne_true (e21_.symm.trans z_))).symm.trans (opt_ok h20)
            have e21 := R.ok.inj e21
            subst e21
            exact ⟨rfl, rfl⟩)) (fun e22 => ?_) (fun e22 => ?_)
          · have hm := (if_pos e22).symm.trans (opt_ok h27)
            obtain ⟨g26, hm⟩ := gd_ne hm ok_ne
            refine sx_seq (sx_append (i := 1) rfl ((px_v (i := 2) (by exact rfl))) rfl trivial RdL.ow g26 (nx_of ?_))
            try have hm := try_ok hm hT_
            have hm := R.ok.inj hm
            obtain ⟨hm_a0, hm_b0⟩ := Prod.mk.inj hm
            subst hm_a0
            subst hm_b0
            exact sx_asg (i := 2) ((px_int (n := 0))) (nx_le (LeE.cons .refl (LeE.cons .refl (LeE.cons .refl (LeE.cons .refl (LeE.cons .refl LeE.nil))))) hM25)
          · have hm := (if_neg (fun z_ => Bool.false_ne_true (e22.symm.trans z_))).symm.trans (opt_ok h27)
            try have hm := try_ok hm hT_
            have hm := R.ok.inj hm
            obtain ⟨hm_a0, hm_b0⟩ := Prod.mk.inj hm
            subst hm_a0
            subst hm_b0
            exact sx_next (nx_le (LeE.cons .refl (LeE.cons .refl (LeE.cons .refl (LeE.cons .refl (LeE.cons .refl LeE.nil))))) hM25)
        · exact sx_aug (i := 2) rfl (px_int (n := 1)) rfl (nx_le (LeE.cons .refl (LeE.cons .refl (LeE.cons .refl (LeE.cons .un (LeE.cons .un LeE.nil))))) (hnx _ hm.symm))
    · rw [hs_] at hm
      clear hs_ hL_ hno_
      obtain ⟨lengths28, length29⟩ := s_
      replace hm := rbind_ok hm
      refine nx_of ?_
      show Sx g B [.kp (signs : Tx), .ow (lengths28 : (List Int)), .kp (length29 : Int), .un, .un] _ _
      obtain ⟨g30, hm⟩ := gd_ne hm hne
      refine sx_seq (sx_append (i := 1) rfl ((px_v (i := 2) (by exact rfl))) rfl trivial RdL.ow g30 (nx_of ?_))
      refine sx_freeze (i := 1) rfl (.inl hps) ?_
      rcases bind_cases hm with ⟨t31, h32, hm⟩ | ⟨c33, d34, h32, h35⟩ | h35
      rotate_left
      · exact sx_retE (pe_makeX rfl (pa_k ((px_v (i := 1) (by exact rfl))) pa_n) (.k .nil) (.k .nil) ⟨(lengths28 ++ [length29]), rfl, h32.symm⟩ (hex _ _ h35))
      · exact absurd h35 hne
      exact sx_ret' ((px_make (x := t31) (X := X) rfl (pa_k ((px_v (i := 1) (by exact rfl))) pa_n) (.k .nil) (.k .nil) ⟨(lengths28 ++ [length29]), rfl, h32.symm⟩)) hps .nil (hret _ hm.symm)

def N_demand_boards : List Str := ["boards"]
theorem sc_demand_boards : FnScope N_demand_boards ["boards"] (defScope s_demand_boards) := ⟨rfl, rfl, rfl, by decide +kernel, rfl, by decide +kernel, by decide +kernel⟩
def rel_demand_boards (cs : List Ca) (o : Out) : Prop := ∃ (boards : Int), cs = [.k boards] ∧ res0 (m_demand_boards boards) o
theorem ok_demand_boards {g : Gx} {P : Program} {w : World} {mg : Str → Option Value} {base : Heap} {A : Ad} (T : Txt g mg A) : FnOk P w g.K mg base (L2.CX P w) 1 A.f_demand_boards A.d_demand_boards ["boards"] (spOf g rel_demand_boards) := by
  refine fn_go T.F_demand_boards sc_demand_boards (fun cs o h => by obtain ⟨_, rfl, _⟩ := h; rfl) (by decide) (fun cdv A_ outer s H X hr => ⟨_, (pss_one (ps_if (L2.pt_not (pt_chain op_le op_le pe_int (pv 0) (pe_gc (by rfl) T.mg_MOST_BOARDS))) (pss_one (ps_raise rfl (takes_of rfl rfl rfl rfl) (pmk_own PySem.F.excBase_ValueError T.x_BadNumber T.mg_BadNumber T.kp_BadNumber (raises_own T.s_BadNumber T.t_BadNumber) (by rfl)))) pss_nil)), fun B qs cs o E D hps hrel hini hrt hx hfall => ?_⟩)
  obtain ⟨boards, rfl, hrel⟩ := hrel
  generalize hm : m_demand_boards boards = r at hrel
  obtain ⟨hne, hret, hex⟩ := res0_ne hrel
  clear hrel
  obtain ⟨E1, rfl, hini1⟩ := ini_k hini
  obtain ⟨rfl, rfl⟩ := ini_nil hini1
  have hfall := fun y_ h_ => hfall _ (hret y_ h_)
  have hret := fun y_ h_ => (hret y_ h_ ▸ hrt : DRt g B D.rt _)
  have hex := fun c_ d_ h_ => hx c_ d_ (hex c_ d_ h_)
  unfold m_demand_boards at hm
  show Sx g B [.kp (boards : Int)] _ _
  refine sx_if (pt_not (pt_test (px_chain (px_int (n := 1)) (px_v (i := 0) (by exact rfl)) r2_le (fun _ => (px_int (n := 12))) (fun _ => r2_le) (fun _ => rfl)))) (fun e1 => ?_) (fun e1 => ?_)
  · have hm := (if_pos e1).symm.trans hm
    exact sx_raise0 (c := Str.ofString "BadNumber") (hex _ _ hm.symm)
  · have hm := (if_neg (fun z_ => Bool.false_ne_true (e1.symm.trans z_))).symm.trans hm
    exact sx_next (sx_fall' hps .nil (hfall _ hm.symm))

def N__hour_costs : List Str := ["weather", "prices", "signs", "at"]
theorem sc__hour_costs : FnScope N__hour_costs ["weather", "prices"] (defScope s__hour_costs) := ⟨rfl, rfl, rfl, by decide +kernel, rfl, by decide +kernel, by decide +kernel⟩
def rel__hour_costs (cs : List Ca) (o : Out) : Prop := ∃ (weather : O_Weather) (prices : (List Int)), cs = [.k weather, .k prices] ∧ res0 (m_hour_costs weather prices) o
theorem ok__hour_costs {g : Gx} {P : Program} {w : World} {mg : Str → Option Value} {base : Heap} {A : Ad} (T : Txt g mg A) : FnOk P w g.K mg base (L2.CX P w) 3 A.f__hour_costs A.d__hour_costs ["weather", "prices"] (spOf g rel__hour_costs) := by
  refine fn_go T.F__hour_costs sc__hour_costs (fun cs o h => by obtain ⟨_, _, rfl, _⟩ := h; rfl) (by decide) (fun cdv A_ outer s H X hr => ⟨_, (pss_cons (ps_if (pt_cmpR op_ne (pe_callB (call_len_seqK (K := g.K) rfl) (by rfl) T.no_len (by decide +kernel) (pa_cons (pv 1) pa_nil)) (pe_prop (pv 0) T.c_Weather T.pr_Weather_hours.choose_spec (ok_Weather_hours T) (hr.mono (by decide)) T.b_Weather_hours .nil passL rfl) (nomark _)) (pss_one (ps_raise rfl (takes_of rfl rfl rfl rfl) (pmk_own PySem.F.excBase_ValueError T.x_BadPrice T.mg_BadPrice T.kp_BadPrice (raises_own T.s_BadPrice T.t_BadPrice) (by rfl)))) pss_nil)
 (pss_cons (ps_if (PW.pt (pw_or (pt_cmpR op_lt (pe_callB (cr_minK (K := g.K) rfl rfl) (by rfl) T.no_min (by decide +kernel) (pa_cons (pv 1) pa_nil)) pe_int (nomark _)) (pw_or1 (pt_cmpR op_gt (pe_callB (cr_maxK (K := g.K) rfl rfl) (by rfl) T.no_max (by decide +kernel) (pa_cons (pv 1) pa_nil)) (pe_gc (by rfl) T.mg_MOST_PRICE) (nomark _))))) (pss_one (ps_raise rfl (takes_of rfl rfl rfl rfl) (pmk_own PySem.F.excBase_ValueError T.x_BadPrice T.mg_BadPrice T.kp_BadPrice (raises_own T.s_BadPrice T.t_BadPrice) (by rfl)))) pss_nil)
 (pss_cons (ps_set (i := 2) sc__hour_costs.nd rfl (by first | exact Or.inl rfl | exact Or.inr rfl) (pe_meth0 (pv 0) T.c_Weather T.me_Weather_signs (ok_Weather_signs T) (hr.mono (by decide)) T.b_Weather_signs .nil (passes_call (takes_of rfl rfl rfl rfl) (fun _ _ _ _ h_ => h_)) ))
 (pss_one (ps_ret (pe_op op_cat (pe_lst (pa_cons pe_int pa_nil)) (pe_lc (own := [("at", 3)]) (by rfl) sc__hour_costs.nd (pi_range1 (by rfl) T.no_range (pa_cons (pe_callB (call_len_seqK (K := g.K) rfl) (by rfl) T.no_len (by decide +kernel) (pa_cons (pv 1) pa_nil)) pa_nil)) (blkOk_by (own := [("at", 3)]) (N := N__hour_costs) (sc := defScope s__hour_costs) (by decide +kernel)) (fun _ _ _ _ _ => (pg_name (i := 3) sc__hour_costs.nd rfl (by first | exact Or.inl rfl | exact Or.inr rfl))) (fun _ _ _ _ _ => pts_nil) (fun _ _ _ _ _ => (pe_ifExp (pt_cmpR op_eq (pe_ix ix_str (pv 2) (pv 3) (fun _ _ => rfl)) pe_str (nomark _)) (pe_ix (ix_listK (K := g.K) rfl) (pv 1) (pv 3) (fun _ _ => rfl)) pe_int))))))))), fun B qs cs o E D hps hrel hini hrt hx hfall => ?_⟩)
  obtain ⟨weather, prices, rfl, hrel⟩ := hrel
  generalize hm : m_hour_costs weather prices = r at hrel
  obtain ⟨hne, hret, hex⟩ := res0_ne hrel
  clear hrel
  obtain ⟨E1, rfl, hini1⟩ := ini_k hini
  obtain ⟨E2, rfl, hini2⟩ := ini_k hini1
  obtain ⟨rfl, rfl⟩ := ini_nil hini2
  have hret := fun y_ h_ => (hret y_ h_ ▸ hrt : DRt g B D.rt _)
  have hex := fun c_ d_ h_ => hx c_ d_ (hex c_ d_ h_)
  unfold m_hour_costs at hm
  show Sx g B [.kp (weather : O_Weather), .kp (prices : (List Int)), .un, .un] _ _
  obtain ⟨t1, h2, hm⟩ := ob_ne hm hne
  refine sx_seq (sx_if (pt_test (px_op ((px_len (pl_k (px_v (i := 1) (by exact rfl))) trivial)) ((px_prop (X := E0) (fr_Weather (m := Str.ofString "hours") (by decide)) ((px_v (i := 0) (by exact rfl))) ⟨weather, rfl, by rw [(opt_ok h2)]; rfl⟩)) r2_ne)) (fun e3 => ?_) (fun e3 => ?_))
  · have hm := (if_pos e3).symm.trans hm
    exact sx_raise0 (c := Str.ofString "BadPrice") (hex _ _ hm.symm)
  · have hm := (if_neg (fun z_ => Bool.false_ne_true (e3.symm.trans z_))).symm.trans hm
    refine sx_next (nx_of ?_)
    obtain ⟨t4, h5, hm⟩ := ob_ne hm hne
    obtain ⟨c8, h9, hm⟩ := ob_ne hm hne
    refine sx_seq (sx_if (pt_orR (c := c8) (pt_test (px_op ((px_min (pl_k (px_v (i := 1) (by exact rfl))) trivial h5)) ((px_int (n := 0))) r2_lt)) (fun e10_ => by
      have e10 := (if_neg (fun z_ => Bool.false_ne_true (e10_.symm.trans z_))).symm.trans (opt_ok h9)
      obtain ⟨t6, h7, e10⟩ := ob_ne e10 ok_ne
      have e10 := R.ok.inj e10
      subst e10
      exact (pt_test (px_op ((px_max (pl_k (px_v (i := 1) (by exact rfl))) trivial h7)) ((px_int (n := 1000))) r2_gt))) (fun e10_ => by
      have e10 := (if_pos e10_).symm.trans (opt_ok h9)
      have e10 := R.ok.inj e10
      subst e10
      exact ⟨rfl, rfl⟩)) (fun e11 => ?_) (fun e11 => ?_))
    · have hm := (if_pos e11).symm.trans hm
      exact sx_raise0 (c := Str.ofString "BadPrice") (hex _ _ hm.symm)
    · have hm := (if_neg (fun z_ => Bool.false_ne_true (e11.symm.trans z_))).symm.trans hm
      refine sx_next (nx_of ?_)
      obtain ⟨t12, h13, hm⟩ := ob_ne hm hne
      refine sx_seq (sx_asg (i := 2) ((px_meth (x := t12) (outs := []) (X := X) (pa_m (fr_Weather (m := Str.ofString "signs") (by decide)) ((px_v (i := 0) (by exact rfl))) pa_n) (.k .nil) (.k .nil) (by decide) ⟨weather, rfl, by rw [(opt_ok h13)]; rfl⟩)) (nx_of ?_))
      obtain ⟨g14, hm⟩ := gd_ne hm hne
      obtain ⟨g24, hm⟩ := gd_ne hm hne
      obtain ⟨ys25, h26, hm⟩ := ob_ne hm hne
      obtain ⟨g29, hm⟩ := gd_ne hm hne
      exact sx_ret' ((PxN.pxA Int (pn_cat (pl_k ((PxN.pxA Int (pn_lst (ps_cons ((px_int (n := 0))) ps_nil) (by simp only [List.length_cons, List.length_nil]; decide))))) (pl_k ((PxN.pxA Int (pn_map (sr_r1 (px_len (pl_k (px_v (i := 1) (by exact rfl))) trivial) g14) (tc_n (by decide)) (opt_ok h26) g24 (by exact nowns1 (nown rfl (fun z_ => z_))) (fun x_ => leE_set rfl) (fun B_ x15 y27 n_ hx_ e28 => by
          obtain ⟨g16, e28⟩ := gd_ne e28 ok_ne
          obtain ⟨t17, h18, e28⟩ := ob_ne e28 ok_ne
          obtain ⟨t21, h22, e28⟩ := ob_ne e28 ok_ne
          have e28 := R.ok.inj e28
          subst e28
          exact (px_if (x := t21) (pt_test (px_op ((px_idxS (px_v (i := 2) (by exact rfl)) (px_v (i := 3) (by exact rfl)) g16 h18)) ((px_str (t := ([35] : Tx)) rfl)) r2_eq)) (fun e23_ => by
            have e23 := (if_pos e23_).symm.trans (opt_ok h22)
            obtain ⟨t19, h20, e23⟩ := ob_ne e23 ok_ne
            have e23 := R.ok.inj e23
            subst e23
            exact (px_idx (pl_k (px_v (i := 1) (by exact rfl))) (px_v (i := 3) (by exact rfl)) trivial h20)) (fun e23_ => by
            have e23 := (if_neg (fun z_ => Bool.false_ne_true (e23_.symm.trans z_))).symm.trans (opt_ok h22)
            have e23 := R.ok.inj e23
            subst e23
            exact (px_int (n := 0))))))))) trivial trivial g29))) hps .nil (hret _ hm.symm)

def N_crew_heating : List Str := ["lacquer", "weather", "prices", "boards", "costs", "found", "hours", "hour"]
theorem sc_crew_heating : FnScope N_crew_heating ["lacquer", "weather", "prices", "boards"] (defScope s_crew_heating) := ⟨rfl, rfl, rfl, by decide +kernel, rfl, by decide +kernel, by decide +kernel⟩
def rel_crew_heating (cs : List Ca) (o : Out) : Prop := ∃ (lacquer : O_Lacquer) (weather : O_Weather) (prices : (List Int)) (boards : Int), cs = [.k lacquer, .k weather, .k prices, .k boards] ∧ res0 (m_crew_heating lacquer weather prices boards) o
theorem ok_crew_heating {g : Gx} {P : Program} {w : World} {mg : Str → Option Value} {base : Heap} {A : Ad} (T : Txt g mg A) : FnOk P w g.K mg base (L2.CX P w) 4 A.f_crew_heating A.d_crew_heating ["lacquer", "weather", "prices", "boards"] (spOf g rel_crew_heating) := by
  refine fn_go T.F_crew_heating sc_crew_heating (fun cs o h => by obtain ⟨_, _, _, _, rfl, _⟩ := h; rfl) (by decide) (fun cdv A_ outer s H X hr => ⟨_, (pss_cons (ps_expr (pe_call (ok_demand_boards T) (hr.mono (by decide)) (by rfl) T.mg_demand_boards T.kp_demand_boards T.b_demand_boards .nil (passes_call (takes_of rfl rfl rfl rfl) (fun _ _ _ _ h_ => h_)) (pa_cons (pv 3) pa_nil)))
 (pss_cons (ps_set (i := 4) sc_crew_heating.nd rfl (by first | exact Or.inl rfl | exact Or.inr rfl) (pe_call (ok__hour_costs T) (hr.mono (by decide)) (by rfl) T.mg__hour_costs T.kp__hour_costs T.b__hour_costs .nil (passes_call (takes_of rfl rfl rfl rfl) (fun _ _ _ _ h_ => h_)) (pa_cons (pv 1) (pa_cons (pv 2) pa_nil))))
 pss_void)), fun B qs cs o E D hps hrel hini hrt hx hfall => ?_⟩)
  obtain ⟨lacquer, weather, prices, boards, rfl, hrel⟩ := hrel
  generalize hm : m_crew_heating lacquer weather prices boards = r at hrel
  obtain ⟨hne, hret, hex⟩ := res0_ne hrel
  clear hrel
  obtain ⟨E1, rfl, hini1⟩ := ini_k hini
  obtain ⟨E2, rfl, hini2⟩ := ini_k hini1
  obtain ⟨E3, rfl, hini3⟩ := ini_k hini2
  obtain ⟨E4, rfl, hini4⟩ := ini_k hini3
  obtain ⟨rfl, rfl⟩ := ini_nil hini4
  have hfall := fun y_ h_ => hfall _ (hret y_ h_)
  have hret := fun y_ h_ => (hret y_ h_ ▸ hrt : DRt g B D.rt _)
  have hex := fun c_ d_ h_ => hx c_ d_ (hex c_ d_ h_)
  unfold m_crew_heating at hm
  show Sx g B [.kp (lacquer : O_Lacquer), .kp (weather : O_Weather), .kp (prices : (List Int)), .kp (boards : Int), .un, .un, .un, .un] _ _
  rcases bind_cases hm with ⟨t1, h2, hm⟩ | ⟨c3, d4, h2, h5⟩ | h5
  rotate_left
  · exact sx_seq (sx_dropE (pe_callX (pa_k ((px_v (i := 3) (by exact rfl))) pa_n) (.k .nil) (.k .nil) ⟨boards, rfl, by rw [h2]; rfl⟩ (hex _ _ h5)))
  · exact absurd h5 hne
  refine sx_seq (sx_drop ((px_call (x := t1) (outs := []) (X := X) (pa_k ((px_v (i := 3) (by exact rfl))) pa_n) (.k .nil) (.k .nil) (by decide) ⟨boards, rfl, by rw [h2]; rfl⟩)) (nx_of ?_))
  rcases bind_cases hm with ⟨t6, h7, hm⟩ | ⟨c8, d9, h7, h10⟩ | h10
  rotate_left
  · exact sx_seq (sx_exprE (pe_callX (pa_k ((px_v (i := 1) (by exact rfl))) (pa_k ((px_v (i := 2) (by exact rfl))) pa_n)) (.k (.k .nil)) (.k (.k .nil)) ⟨weather, prices, rfl, by rw [h7]; rfl⟩ (hex _ _ h10)))
  · exact absurd h10 hne
  refine sx_seq (sx_asg (i := 4) ((px_call (x := t6) (outs := []) (X := X) (pa_k ((px_v (i := 1) (by exact rfl))) (pa_k ((px_v (i := 2) (by exact rfl))) pa_n)) (.k (.k .nil)) (.k (.k .nil)) (by decide) ⟨weather, prices, rfl, by rw [h7]; rfl⟩)) (nx_of ?_))
  exact absurd hm.symm hne

def N_crew_heat_labels : List Str := ["lacquer", "weather", "prices", "boards", "costs", "found", "heights", "ahead", "behind", "hour"]
theorem sc_crew_heat_labels : FnScope N_crew_heat_labels ["lacquer", "weather", "prices", "boards"] (defScope s_crew_heat_labels) := ⟨rfl, rfl, rfl, by decide +kernel, rfl, by decide +kernel, by decide +kernel⟩
def rel_crew_heat_labels (cs : List Ca) (o : Out) : Prop := ∃ (lacquer : O_Lacquer) (weather : O_Weather) (prices : (List Int)) (boards : Int), cs = [.k lacquer, .k weather, .k prices, .k boards] ∧ res0 (m_crew_heat_labels lacquer weather prices boards) o
theorem ok_crew_heat_labels {g : Gx} {P : Program} {w : World} {mg : Str → Option Value} {base : Heap} {A : Ad} (T : Txt g mg A) : FnOk P w g.K mg base (L2.CX P w) 4 A.f_crew_heat_labels A.d_crew_heat_labels ["lacquer", "weather", "prices", "boards"] (spOf g rel_crew_heat_labels) := by
  refine fn_go T.F_crew_heat_labels sc_crew_heat_labels (fun cs o h => by obtain ⟨_, _, _, _, rfl, _⟩ := h; rfl) (by decide) (fun cdv A_ outer s H X hr => ⟨_, (pss_cons (ps_expr (pe_call (ok_demand_boards T) (hr.mono (by decide)) (by rfl) T.mg_demand_boards T.kp_demand_boards T.b_demand_boards .nil (passes_call (takes_of rfl rfl rfl rfl) (fun _ _ _ _ h_ => h_)) (pa_cons (pv 3) pa_nil)))
 (pss_cons (ps_set (i := 4) sc_crew_heat_labels.nd rfl (by first | exact Or.inl rfl | exact Or.inr rfl) (pe_call (ok__hour_costs T) (hr.mono (by decide)) (by rfl) T.mg__hour_costs T.kp__hour_costs T.b__hour_costs .nil (passes_call (takes_of rfl rfl rfl rfl) (fun _ _ _ _ h_ => h_)) (pa_cons (pv 1) (pa_cons (pv 2) pa_nil))))
 pss_void)), fun B qs cs o E D hps hrel hini hrt hx hfall => ?_⟩)
  obtain ⟨lacquer, weather, prices, boards, rfl, hrel⟩ := hrel
  generalize hm : m_crew_heat_labels lacquer weather prices boards = r at hrel
  obtain ⟨hne, hret, hex⟩ := res0_ne hrel
  clear hrel
  obtain ⟨E1, rfl, hini1⟩ := ini_k hini
  obtain ⟨E2, rfl, hini2⟩ := ini_k hini1
  obtain ⟨E3, rfl, hini3⟩ := ini_k hini2
  obtain ⟨E4, rfl, hini4⟩ := ini_k hini3
  obtain ⟨rfl, rfl⟩ := ini_nil hini4
  have hfall := fun y_ h_ => hfall _ (hret y_ h_)
  have hret := fun y_ h_ => (hret y_ h_ ▸ hrt : DRt g B D.rt _)
  have hex := fun c_ d_ h_ => hx c_ d_ (hex c_ d_ h_)
  unfold m_crew_heat_labels at hm
  show Sx g B [.kp (lacquer : O_Lacquer), .kp (weather : O_Weather), .kp (prices : (List Int)), .kp (boards : Int), .un, .un, .un, .un, .un, .un] _ _
  rcases bind_cases hm with ⟨t1, h2, hm⟩ | ⟨c3, d4, h2, h5⟩ | h5
  rotate_left
  · exact sx_seq (sx_dropE (pe_callX (pa_k ((px_v (i := 3) (by exact rfl))) pa_n) (.k .nil) (.k .nil) ⟨boards, rfl, by rw [h2]; rfl⟩ (hex _ _ h5)))
  · exact absurd h5 hne
  refine sx_seq (sx_drop ((px_call (x := t1) (outs := []) (X := X) (pa_k ((px_v (i := 3) (by exact rfl))) pa_n) (.k .nil) (.k .nil) (by decide) ⟨boards, rfl, by rw [h2]; rfl⟩)) (nx_of ?_))
  rcases bind_cases hm with ⟨t6, h7, hm⟩ | ⟨c8, d9, h7, h10⟩ | h10
  rotate_left
  · exact sx_seq (sx_exprE (pe_callX (pa_k ((px_v (i := 1) (by exact rfl))) (pa_k ((px_v (i := 2) (by exact rfl))) pa_n)) (.k (.k .nil)) (.k (.k .nil)) ⟨weather, prices, rfl, by rw [h7]; rfl⟩ (hex _ _ h10)))
  · exact absurd h10 hne
  refine sx_seq (sx_asg (i := 4) ((px_call (x := t6) (outs := []) (X := X) (pa_k ((px_v (i := 1) (by exact rfl))) (pa_k ((px_v (i := 2) (by exact rfl))) pa_n)) (.k (.k .nil)) (.k (.k .nil)) (by decide) ⟨weather, prices, rfl, by rw [h7]; rfl⟩)) (nx_of ?_))
  exact absurd hm.symm hne

def N__steps_fit : List Str := ["lacquer", "ahead", "behind", "at", "label", "later"]
theorem sc__steps_fit : FnScope N__steps_fit ["lacquer", "ahead", "behind"] (defScope s__steps_fit) := ⟨rfl, rfl, rfl, by decide +kernel, rfl, by decide +kernel, by decide +kernel⟩
def rel__steps_fit (cs : List Ca) (o : Out) : Prop := ∃ (lacquer : O_Lacquer) (ahead : (List Int)) (behind : (List Int)), cs = [.k lacquer, .k ahead, .k behind] ∧ res0 (m_steps_fit lacquer ahead behind) o
theorem ok__steps_fit {g : Gx} {P : Program} {w : World} {mg : Str → Option Value} {base : Heap} {A : Ad} (T : Txt g mg A) : FnOk P w g.K mg base (L2.CX P w) 1 A.f__steps_fit A.d__steps_fit ["lacquer", "ahead", "behind"] (spOf g rel__steps_fit) := by
  refine fn_go T.F__steps_fit sc__steps_fit (fun cs o h => by obtain ⟨_, _, _, rfl, _⟩ := h; rfl) (by decide) (fun cdv A_ outer s H X hr => ⟨_, (pss_cons (ps_for (passes_of rfl) rfl (pi_enum (by rfl) T.no_enumerate (pa_cons (pv 2) pa_nil)) (pg_tupK (K := g.K) (n := 2) rfl rfl (pgs_cons (pg_name (i := 3) sc__steps_fit.nd rfl (by first | exact Or.inl rfl | exact Or.inr rfl)) (pgs_cons (pg_name (i := 4) sc__steps_fit.nd rfl (by first | exact Or.inl rfl | exact Or.inr rfl)) pgs_nil))) (pss_one (ps_for (passes_of rfl) rfl (pi_range2 (by rfl) T.no_range (pa_cons (pe_op op_add (pv 3) (pe_fldK (K := g.K) rfl (pv 0) rfl)) (pa_cons (pe_op op_add (pe_callB (call_min2 rfl) (by rfl) T.no_min (by decide +kernel) (pa_cons (pe_op op_add (pv 3) (pe_fldK (K := g.K) rfl (pv 0) rfl)) (pa_cons (pe_op op_sub (pe_callB (call_len_seqK (K := g.K) rfl) (by rfl) T.no_len (by decide +kernel) (pa_cons (pv 1) pa_nil)) pe_int) pa_nil))) pe_int) pa_nil))) (pg_name (i := 5) sc__steps_fit.nd rfl (by first | exact Or.inl rfl | exact Or.inr rfl)) (pss_one (ps_if (pt_cmpR op_gt (pe_ix (ix_listK (K := g.K) rfl) (pv 1) (pv 5) (fun _ _ => rfl)) (pv 4) (nomark _)) (pss_one (ps_ret pe_bl)) pss_nil)))))
 (pss_one (ps_ret pe_bl))), fun B qs cs o E D hps hrel hini hrt hx hfall => ?_⟩)
  obtain ⟨lacquer, ahead, behind, rfl, hrel⟩ := hrel
  generalize hm : m_steps_fit lacquer ahead behind = r at hrel
  obtain ⟨hne, hret, hex⟩ := res0_ne hrel
  clear hrel
  obtain ⟨E1, rfl, hini1⟩ := ini_k hini
  obtain ⟨E2, rfl, hini2⟩ := ini_k hini1
  obtain ⟨E3, rfl, hini3⟩ := ini_k hini2
  obtain ⟨rfl, rfl⟩ := ini_nil hini3
  have hret := fun y_ h_ => (hret y_ h_ ▸ hrt : DRt g B D.rt _)
  have hex := fun c_ d_ h_ => hx c_ d_ (hex c_ d_ h_)
  unfold m_steps_fit at hm
  show Sx g B [.kp (lacquer : O_Lacquer), .kp (ahead : (List Int)), .kp (behind : (List Int)), .un, .un, .un] _ _
  obtain ⟨out_, hL_, hno_, hm⟩ := bind_split hm hne
  refine sx_seq (sx_for (s0 := ()) (X := fun B_ c_ d_ => XkOk g B_ X c_ d_) (fin := (fun y_ => Out.ret y_ [])) (Ei := (fun (_ : Unit) => [.kp (lacquer : O_Lacquer), .kp (ahead : (List Int)), .kp (behind : (List Int)), .un, .un, .un])) (fun _ _ _ _ n_ h_ => h_.nest n_) (sr_enum ((px_v (i := 2) (by exact rfl)))) (tg_p) (by exact (LeE.cons .refl (LeE.cons .refl (LeE.cons .refl (LeE.cons .un (LeE.cons .un (LeE.cons .un LeE.nil))))))) hL_ hno_ (fun y_ h_ => hret _ (loop_ret h_ hm).symm) (fun c_ d_ h_ => hex c_ d_ (by rw [h_] at hm; exact hm.symm)) (fun B x1 s_ r_ D hB_ hx_ hm hne hnx hct hbk hret hex => ?_) (fun s_ hs_ => ?_))
  · have hps := hB_.1.trans hps
    show Sx g B [.kp (lacquer : O_Lacquer), .kp (ahead : (List Int)), .kp (behind : (List Int)), .kp (x1.1 : Int), .kp (x1.2 : Int), .un] _ _
    obtain ⟨g2, hm⟩ := gd_ne hm hne
    obtain ⟨g3, hm⟩ := gd_ne hm hne
    obtain ⟨out_, hL_, hno_, hm⟩ := bind_split hm hne
    refine sx_for (s0 := ()) (X := fun B_ c_ d_ => XkOk g B_ X c_ d_) (fin := (fun y_ => Out.ret y_ [])) (Ei := (fun (_ : Unit) => [.kp (lacquer : O_Lacquer), .kp (ahead : (List Int)), .kp (behind : (List Int)), .kp (x1.1 : Int), .kp (x1.2 : Int), .un])) (fun _ _ _ _ n_ h_ => h_.nest n_) (sr_r2 (px_op (px_v (i := 3) (by exact rfl)) (px_fld (has_Lacquer_f_a T.c_Lacquer T.na_Lacquer_f_a) ((px_v (i := 0) (by exact rfl)))) r2_add) (px_op (px_min2 (px_op (px_v (i := 3) (by exact rfl)) (px_fld (has_Lacquer_f_b T.c_Lacquer T.na_Lacquer_f_b) ((px_v (i := 0) (by exact rfl)))) r2_add) (px_op (px_len (pl_k (px_v (i := 1) (by exact rfl))) trivial) (px_int (n := 1)) r2_sub)) (px_int (n := 1)) r2_add) g2 g3) (tg_n) (by exact (LeE.cons .refl (LeE.cons .refl (LeE.cons .refl (LeE.cons .refl (LeE.cons .refl (LeE.cons .un LeE.nil))))))) hL_ hno_ (fun y_ h_ => hret _ (loop_ret h_ hm).symm) (fun c_ d_ h_ => hex c_ d_ (by rw [h_] at hm; exact hm.symm)) (fun B x4 s_ r_ D hB_ hx_ hm hne hnx hct hbk hret hex => ?_) (fun s_ hs_ => ?_)
    · have hps := hB_.1.trans hps
      show Sx g B [.kp (lacquer : O_Lacquer), .kp (ahead : (List Int)), .kp (behind : (List Int)), .kp (x1.1 : Int), .kp (x1.2 : Int), .kp (x4 : Int)] _ _
      obtain ⟨t5, h6, hm⟩ := ob_ne hm hne
      refine sx_if (pt_test (px_op ((px_idx (pl_k (px_v (i := 1) (by exact rfl))) (px_v (i := 5) (by exact rfl)) trivial h6)) ((px_v (i := 4) (by exact rfl))) r2_gt)) (fun e7 => ?_) (fun e7 => ?_)
      · have hm := (if_pos e7).symm.trans hm
        exact sx_ret' (px_bl) hps .nil (hret _ hm.symm)
      · have hm := (if_neg (fun z_ => Bool.false_ne_true (e7.symm.trans z_))).symm.trans hm
        exact sx_next (nx_le (LeE.cons .refl (LeE.cons .refl (LeE.cons .refl (LeE.cons .refl (LeE.cons .refl (LeE.cons .un LeE.nil)))))) (hnx _ hm.symm))
    · have hm := loop_go hs_ hm
      clear hs_ hL_ hno_
      obtain _ := s_
      exact (nx_le (LeE.cons .refl (LeE.cons .refl (LeE.cons .refl (LeE.cons .un (LeE.cons .un (LeE.cons .un LeE.nil)))))) (hnx _ hm.symm))
  · have hm := loop_go hs_ hm
    clear hs_ hL_ hno_
    obtain _ := s_
    refine nx_of ?_
    show Sx g B [.kp (lacquer : O_Lacquer), .kp (ahead : (List Int)), .kp (behind : (List Int)), .un, .un, .un] _ _
    exact sx_ret' (px_bl) hps .nil (hret _ hm.symm)

def N_crew_labels_hold : List Str := ["lacquer", "weather", "prices", "boards", "cost", "labels", "costs", "top", "ahead", "behind", "hours", "spare", "at"]
theorem sc_crew_labels_hold : FnScope N_crew_labels_hold ["lacquer", "weather", "prices", "boards", "cost", "labels"] (defScope s_crew_labels_hold) := ⟨rfl, rfl, rfl, by decide +kernel, rfl, by decide +kernel, by decide +kernel⟩
def rel_crew_labels_hold (cs : List Ca) (o : Out) : Prop := ∃ (lacquer : O_Lacquer) (weather : O_Weather) (prices : (List Int)) (boards : Int) (cost : Int) (labels : (T3 Int (List Int) (List Int))), cs = [.k lacquer, .k weather, .k prices, .k boards, .k cost, .k labels] ∧ res0 (m_crew_labels_hold lacquer weather prices boards cost labels) o
theorem ok_crew_labels_hold {g : Gx} {P : Program} {w : World} {mg : Str → Option Value} {base : Heap} {A : Ad} (T : Txt g mg A) : FnOk P w g.K mg base (L2.CX P w) 5 A.f_crew_labels_hold A.d_crew_labels_hold ["lacquer", "weather", "prices", "boards", "cost", "labels"] (spOf g rel_crew_labels_hold) := by
  refine fn_go T.F_crew_labels_hold sc_crew_labels_hold (fun cs o h => by obtain ⟨_, _, _, _, _, _, rfl, _⟩ := h; rfl) (by decide) (fun cdv A_ outer s H X hr => ⟨_, (pss_cons (ps_expr (pe_call (ok_demand_boards T) (hr.mono (by decide)) (by rfl) T.mg_demand_boards T.kp_demand_boards T.b_demand_boards .nil (passes_call (takes_of rfl rfl rfl rfl) (fun _ _ _ _ h_ => h_)) (pa_cons (pv 3) pa_nil)))
 (pss_cons (ps_set (i := 6) sc_crew_labels_hold.nd rfl (by first | exact Or.inl rfl | exact Or.inr rfl) (pe_call (ok__hour_costs T) (hr.mono (by decide)) (by rfl) T.mg__hour_costs T.kp__hour_costs T.b__hour_costs .nil (passes_call (takes_of rfl rfl rfl rfl) (fun _ _ _ _ h_ => h_)) (pa_cons (pv 1) (pa_cons (pv 2) pa_nil))))
 (pss_cons (ps_asg (pv 5) (pg_tupK (K := g.K) (n := 3) rfl rfl (pgs_cons (pg_name (i := 7) sc_crew_labels_hold.nd rfl (by first | exact Or.inl rfl | exact Or.inr rfl)) (pgs_cons (pg_name (i := 8) sc_crew_labels_hold.nd rfl (by first | exact Or.inl rfl | exact Or.inr rfl)) (pgs_cons (pg_name (i := 9) sc_crew_labels_hold.nd rfl (by first | exact Or.inl rfl | exact Or.inr rfl)) pgs_nil)))))
 (pss_cons (ps_set (i := 10) sc_crew_labels_hold.nd rfl (by first | exact Or.inl rfl | exact Or.inr rfl) (pe_prop (pv 1) T.c_Weather T.pr_Weather_hours.choose_spec (ok_Weather_hours T) (hr.mono (by decide)) T.b_Weather_hours .nil passL rfl))
 (pss_cons (ps_if (PW.pt (pw_or (pt_cmpR op_ne (pe_callB (call_len_seqK (K := g.K) rfl) (by rfl) T.no_len (by decide +kernel) (pa_cons (pv 8) pa_nil)) (pv 10) (nomark _)) (pw_or (pt_cmpR op_ne (pe_callB (call_len_seqK (K := g.K) rfl) (by rfl) T.no_len (by decide +kernel) (pa_cons (pv 9) pa_nil)) (pv 10) (nomark _)) (pw_or1 (pt_cmpR op_gt (pe_ix (ix_listK (K := g.K) rfl) (pv 9) pe_int (fun _ _ => rfl)) pe_int (nomark _)))))) (pss_one (ps_ret pe_bl)) pss_nil)
 (pss_cons (ps_if (L2.pt_not (pt_val (pe_call (ok__steps_fit T) (hr.mono (by decide)) (by rfl) T.mg__steps_fit T.kp__steps_fit T.b__steps_fit .nil (passes_call (takes_of rfl rfl rfl rfl) (fun _ _ _ _ h_ => h_)) (pa_cons (pv 0) (pa_cons (pv 8) (pa_cons (pv 9) pa_nil)))))) (pss_one (ps_ret pe_bl)) pss_nil)
 (pss_cons (ps_if (pt_cmpR op_lt (pe_callB (cr_minK (K := g.K) rfl rfl) (by rfl) T.no_min (by decide +kernel) (pa_cons (pe_slice (sl_listK (K := g.K) rfl) (pv 9) (po_some (pe_callB (call_max2 rfl) (by rfl) T.no_max (by decide +kernel) (pa_cons pe_int (pa_cons (pe_op op_sub (pv 10) (pe_fldK (K := g.K) rfl (pv 0) rfl)) pa_nil)))) po_none) pa_nil)) (pv 7) (nomark _)) (pss_one (ps_ret pe_bl)) pss_nil)
 (pss_cons (ps_set (i := 11) sc_crew_labels_hold.nd rfl (by first | exact Or.inl rfl | exact Or.inr rfl) (pe_callB (cr_sumK (K := g.K) rfl rfl) (by rfl) T.no_sum (by decide +kernel) (pa_cons (pe_lc (own := [("at", 12)]) (by rfl) sc_crew_labels_hold.nd (pi_range2 (by rfl) T.no_range (pa_cons pe_int (pa_cons (pv 10) pa_nil))) (blkOk_by (own := [("at", 12)]) (N := N_crew_labels_hold) (sc := defScope s_crew_labels_hold) (by decide +kernel)) (fun _ _ _ _ _ => (pg_name (i := 12) sc_crew_labels_hold.nd rfl (by first | exact Or.inl rfl | exact Or.inr rfl))) (fun _ _ _ _ _ => pts_nil) (fun _ _ _ _ _ => (pe_callB (call_max2 rfl) (by rfl) T.no_max (by decide +kernel) (pa_cons pe_int (pa_cons (pe_op op_sub (pe_op op_sub (pe_ix (ix_listK (K := g.K) rfl) (pv 9) (pv 12) (fun _ _ => rfl)) (pe_ix (ix_listK (K := g.K) rfl) (pv 8) (pv 12) (fun _ _ => rfl))) (pe_ix (ix_listK (K := g.K) rfl) (pv 6) (pe_op op_add (pv 12) pe_int) (fun _ _ => rfl))) pa_nil))))) pa_nil)))
 (pss_one (ps_ret (pe_cmpR op_ge (pe_op op_sub (pe_op op_mul (pv 3) (pv 7)) (pv 11)) (pv 4) (nomark _)))))))))))), fun B qs cs o E D hps hrel hini hrt hx hfall => ?_⟩)
  obtain ⟨lacquer, weather, prices, boards, cost, labels, rfl, hrel⟩ := hrel
  generalize hm : m_crew_labels_hold lacquer weather prices boards cost labels = r at hrel
  obtain ⟨hne, hret, hex⟩ := res0_ne hrel
  clear hrel
  obtain ⟨E1, rfl, hini1⟩ := ini_k hini
  obtain ⟨E2, rfl, hini2⟩ := ini_k hini1
  obtain ⟨E3, rfl, hini3⟩ := ini_k hini2
  obtain ⟨E4, rfl, hini4⟩ := ini_k hini3
  obtain ⟨E5, rfl, hini5⟩ := ini_k hini4
  obtain ⟨E6, rfl, hini6⟩ := ini_k hini5
  obtain ⟨rfl, rfl⟩ := ini_nil hini6
  have hret := fun y_ h_ => (hret y_ h_ ▸ hrt : DRt g B D.rt _)
  have hex := fun c_ d_ h_ => hx c_ d_ (hex c_ d_ h_)
  unfold m_crew_labels_hold at hm
  show Sx g B [.kp (lacquer : O_Lacquer), .kp (weather : O_Weather), .kp (prices : (List Int)), .kp (boards : Int), .kp (cost : Int), .kp (labels : (T3 Int (List Int) (List Int))), .un, .un, .un, .un, .un, .un, .un] _ _
  rcases bind_cases hm with ⟨t1, h2, hm⟩ | ⟨c3, d4, h2, h5⟩ | h5
  rotate_left
  · exact sx_seq (sx_dropE (pe_callX (pa_k ((px_v (i := 3) (by exact rfl))) pa_n) (.k .nil) (.k .nil) ⟨boards, rfl, by rw [h2]; rfl⟩ (hex _ _ h5)))
  · exact absurd h5 hne
  refine sx_seq (sx_drop ((px_call (x := t1) (outs := []) (X := X) (pa_k ((px_v (i := 3) (by exact rfl))) pa_n) (.k .nil) (.k .nil) (by decide) ⟨boards, rfl, by rw [h2]; rfl⟩)) (nx_of ?_))
  rcases bind_cases hm with ⟨t6, h7, hm⟩ | ⟨c8, d9, h7, h10⟩ | h10
  rotate_left
  · exact sx_seq (sx_exprE (pe_callX (pa_k ((px_v (i := 1) (by exact rfl))) (pa_k ((px_v (i := 2) (by exact rfl))) pa_n)) (.k (.k .nil)) (.k (.k .nil)) ⟨weather, prices, rfl, by rw [h7]; rfl⟩ (hex _ _ h10)))
  · exact absurd h10 hne
  refine sx_seq (sx_asg (i := 6) ((px_call (x := t6) (outs := []) (X := X) (pa_k ((px_v (i := 1) (by exact rfl))) (pa_k ((px_v (i := 2) (by exact rfl))) pa_n)) (.k (.k .nil)) (.k (.k .nil)) (by decide) ⟨weather, prices, rfl, by rw [h7]; rfl⟩)) (nx_of ?_))
  refine sx_seq (sx_asgT ((px_v (i := 5) (by exact rfl))) (tg_t) (nx_of ?_))
  obtain ⟨t11, h12, hm⟩ := ob_ne hm hne
  refine sx_seq (sx_asg (i := 10) ((px_prop (X := E0) (fr_Weather (m := Str.ofString "hours") (by decide)) ((px_v (i := 1) (by exact rfl))) ⟨weather, rfl, by rw [(opt_ok h12)]; rfl⟩)) (nx_of ?_))
  obtain ⟨c18, h19, hm⟩ := ob_ne hm hne
  refine sx_seq (sx_if (pt_orR (c := c18) (pt_test (px_op ((px_len (pl_k (px_v (i := 8) (by exact rfl))) trivial)) ((px_v (i := 10) (by exact rfl))) r2_ne)) (fun e20_ => by
    have e20 := (if_neg (fun z_ => Bool.false_ne_true (e20_.symm.trans z_))).symm.trans (opt_ok h19)
    obtain ⟨c15, h16, e20⟩ := ob_ne e20 ok_ne
    have e20 := R.ok.inj e20
    subst e20
    exact (pt_orR (c := c15) (pt_test (px_op ((px_len (pl_k (px_v (i := 9) (by exact rfl))) trivial)) ((px_v (i := 10) (by exact rfl))) r2_ne)) (fun e17_ => by
      have e17 := (if_neg (fun z_ => Bool.false_ne_true (e17_.symm.trans z_))).symm.trans (opt_ok h16)
      obtain ⟨t13, h14, e17⟩ := ob_ne e17 ok_ne
      have e17 := R.ok.inj e17
      subst e17
      exact (pt_test (px_op ((px_idx (pl_k (px_v (i := 9) (by exact rfl))) (px_int (n := 0)) trivial h14)) ((px_int (n := 0))) r2_gt))) (fun e17_ => by
      have e17 := (if_pos e17_).symm.trans (opt_ok h16)
      have e17 := R.ok.inj e17
      subst e17
      exact ⟨rfl, rfl⟩))) (fun e20_ => by
    have e20 := (if_pos e20_).symm.trans (opt_ok h19)
    have e20 := R.ok.inj e20
    subst e20
    exact ⟨rfl, rfl⟩)) (fun e21 => ?_) (fun e21 => ?_))
  · have hm := (if_pos e21).symm.trans hm
    exact sx_ret' (px_bl) hps .nil (hret _ hm.symm)
  · have hm := (if_neg (fun z_ => Bool.false_ne_true (e21.symm.trans z_))).symm.trans hm
    refine sx_next (nx_of ?_)
    obtain ⟨t22, h23, hm⟩ := ob_ne hm hne
    refine sx_seq (sx_if (pt_not (pt_B (px_call (x := t22) (outs := []) (X := X) (pa_k ((px_v (i := 0) (by exact rfl))) (pa_k ((px_v (i := 8) (by exact rfl))) (pa_k ((px_v (i := 9) (by exact rfl))) pa_n))) (.k (.k (.k .nil))) (.k (.k (.k .nil))) (by decide) ⟨lacquer, labels.b, labels.c, rfl, by rw [(opt_ok h23)]; rfl⟩))) (fun e24 => ?_) (fun e24 => ?_))
    · have hm := (if_pos e24).symm.trans hm
      exact sx_ret' (px_bl) hps .nil (hret _ hm.symm)
    · have hm := (if_neg (fun z_ => Bool.false_ne_true (e24.symm.trans z_))).symm.trans hm
      refine sx_next (nx_of ?_)
      obtain ⟨t25, h26, hm⟩ := ob_ne hm hne
      refine sx_seq (sx_if (pt_test (px_op ((px_min (pl_k ((PxN.pxA Int (pn_sl (pl_k (px_v (i := 9) (by exact rfl))) (po_yes (px_max2 (px_int (n := 0)) (px_op (px_v (i := 10) (by exact rfl)) (px_fld (has_Lacquer_f_b T.c_Lacquer T.na_Lacquer_f_b) ((px_v (i := 0) (by exact rfl)))) r2_sub))) po_no trivial)))) trivial h26)) ((px_v (i := 7) (by exact rfl))) r2_lt)) (fun e27 => ?_) (fun e27 => ?_))
      · have hm := (if_pos e27).symm.trans hm
        exact sx_ret' (px_bl) hps .nil (hret _ hm.symm)
      · have hm := (if_neg (fun z_ => Bool.false_ne_true (e27.symm.trans z_))).symm.trans hm
        refine sx_next (nx_of ?_)
        obtain ⟨g28, hm⟩ := gd_ne hm hne
        obtain ⟨g36, hm⟩ := gd_ne hm hne
        obtain ⟨ys37, h38, hm⟩ := ob_ne hm hne
        refine sx_seq (sx_asg (i := 11) ((px_sum (pl_k ((PxN.pxA Int (pn_map (sr_r2 (px_int (n := 1)) (px_v (i := 10) (by exact rfl)) (by decide) g28) (tc_n (by decide)) (opt_ok h38) g36 (by exact nowns1 (nown rfl (fun z_ => z_))) (fun x_ => leE_set rfl) (fun B_ x29 y39 n_ hx_ e40 => by
            obtain ⟨t30, h31, e40⟩ := ob_ne e40 ok_ne
            obtain ⟨t32, h33, e40⟩ := ob_ne e40 ok_ne
            obtain ⟨t34, h35, e40⟩ := ob_ne e40 ok_ne
            have e40 := R.ok.inj e40
            subst e40
            exact (px_max2 (px_int (n := 0)) (px_op (px_op (px_idx (pl_k (px_v (i := 9) (by exact rfl))) (px_v (i := 12) (by exact rfl)) trivial h31) (px_idx (pl_k (px_v (i := 8) (by exact rfl))) (px_v (i := 12) (by exact rfl)) trivial h33) r2_sub) (px_idx (pl_k (px_v (i := 6) (by exact rfl))) (px_op (px_v (i := 12) (by exact rfl)) (px_int (n := 1)) r2_add) trivial h35) r2_sub))))))) trivial)) (nx_of ?_))
        obtain ⟨g41, hm⟩ := gd_ne hm hne
        exact sx_ret' ((px_op ((px_op (px_op (px_v (i := 3) (by exact rfl)) (px_v (i := 7) (by exact rfl)) (r2_mul g41)) (px_v (i := 11) (by exact rfl)) r2_sub)) ((px_v (i := 4) (by exact rfl))) r2_ge)) hps .nil (hret _ hm.symm)

def N__law_pool : List Str := ["cell"]
theorem sc__law_pool : FnScope N__law_pool ["cell"] (defScope s__law_pool) := ⟨rfl, rfl, rfl, by decide +kernel, rfl, by decide +kernel, by decide +kernel⟩
def rel__law_pool (cs : List Ca) (o : Out) : Prop := ∃ (cell : Int), cs = [.k cell] ∧ resN (m_law_pool cell) o
theorem ok__law_pool {g : Gx} {P : Program} {w : World} {mg : Str → Option Value} {base : Heap} {A : Ad} (T : Txt g mg A) : FnOk P w g.K mg base (L2.CX P w) 1 A.f__law_pool A.d__law_pool ["cell"] (spOf g rel__law_pool) := by
  refine fn_go T.F__law_pool sc__law_pool (fun cs o h => by obtain ⟨_, rfl, _⟩ := h; rfl) (by decide) (fun cdv A_ outer s H X hr => ⟨_, (pss_cons (ps_if (pt_cmpR op_ge (pv 0) (pe_op op_pow pe_int pe_int) (nomark _)) (pss_one (ps_ret (pe_lst (pa_cons (pe_op op_sub (pv 0) (pe_op op_pow pe_int pe_int)) (pa_cons (pe_op op_mod (pe_callTy call_int1 (by rfl) T.no_int (by decide +kernel) (pa_cons (pv 0) pa_nil)) pe_int) (pa_cons pe_int pa_nil)))))) pss_nil)
 (pss_cons (ps_if (pt_cmpR op_lt (pv 0) pe_int (nomark _)) (pss_one (ps_ret (pe_lst (pa_cons pe_int (pa_cons (pe_op op_mod (pe_callTy call_int1 (by rfl) T.no_int (by decide +kernel) (pa_cons (pe_op op_sub pe_int (pe_op op_mul pe_int (pv 0))) pa_nil)) pe_int) (pa_cons pe_int pa_nil)))))) pss_nil)
 (pss_one (ps_ret (pe_lst (pa_cons pe_int (pa_cons (pe_op op_mod (pe_callTy call_int1 (by rfl) T.no_int (by decide +kernel) (pa_cons (pe_op op_mul pe_int (pv 0)) pa_nil)) pe_int) (pa_cons pe_int pa_nil)))))))), fun B qs cs o E D hps hrel hini hrt hx hfall => ?_⟩)
  obtain ⟨cell, rfl, hrel⟩ := hrel
  generalize hm : m_law_pool cell = r at hrel
  obtain ⟨hne, hret, hex⟩ := resN_ne hrel
  clear hrel
  obtain ⟨E1, rfl, hini1⟩ := ini_k hini
  obtain ⟨rfl, rfl⟩ := ini_nil hini1
  have hret := fun y_ h_ => (hret y_ h_ ▸ hrt : DRt g B D.rt _)
  have hex := fun c_ d_ h_ => hx c_ d_ (hex c_ d_ h_)
  unfold m_law_pool at hm
  show Sx g B [.kp (cell : Int)] _ _
  refine sx_seq (sx_if (pt_test (px_op ((px_v (i := 0) (by exact rfl))) ((px_op (px_int (n := 10)) (px_int (n := 18)) (r2_pow (by decide)))) r2_ge)) (fun e1 => ?_) (fun e1 => ?_))
  · have hm := (if_pos e1).symm.trans hm
    exact sx_retW (pn_lst (ps_cons ((px_op (px_v (i := 0) (by exact rfl)) (px_op (px_int (n := 10)) (px_int (n := 18)) (r2_pow (by decide))) r2_sub)) (ps_cons ((px_op (px_intI (px_v (i := 0) (by exact rfl))) (px_int (n := 1000000007)) (r2_mod (by decide)))) (ps_cons ((px_int (n := 0))) ps_nil))) (by simp only [List.length_cons, List.length_nil]; decide)) hps .nil (hret _ hm.symm)
  · have hm := (if_neg (fun z_ => Bool.false_ne_true (e1.symm.trans z_))).symm.trans hm
    refine sx_next (nx_of ?_)
    refine sx_seq (sx_if (pt_test (px_op ((px_v (i := 0) (by exact rfl))) ((px_int (n := 0))) r2_lt)) (fun e2 => ?_) (fun e2 => ?_))
    · have hm := (if_pos e2).symm.trans hm
      exact sx_retW (pn_lst (ps_cons ((px_int (n := 0))) (ps_cons ((px_op (px_intI (px_op (px_int (n := 1)) (px_op (px_int (n := 2)) (px_v (i := 0) (by exact rfl)) (r2_mul (mulOk_l (by decide)))) r2_sub)) (px_int (n := 1000000007)) (r2_mod (by decide)))) (ps_cons ((px_int (n := 0))) ps_nil))) (by simp only [List.length_cons, List.length_nil]; decide)) hps .nil (hret _ hm.symm)
    · have hm := (if_neg (fun z_ => Bool.false_ne_true (e2.symm.trans z_))).symm.trans hm
      refine sx_next (nx_of ?_)
      exact sx_retW (pn_lst (ps_cons ((px_int (n := 0))) (ps_cons ((px_op (px_intI (px_op (px_int (n := 2)) (px_v (i := 0) (by exact rfl)) (r2_mul (mulOk_l (by decide))))) (px_int (n := 1000000007)) (r2_mod (by decide)))) (ps_cons ((px_int (n := 0))) ps_nil))) (by simp only [List.length_cons, List.length_nil]; decide)) hps .nil (hret _ hm.symm)

def N__law_take : List Str := ["pool", "size", "digit", "x"]
theorem sc__law_take : FnScope N__law_take ["pool", "size"] (defScope s__law_take) := ⟨rfl, rfl, rfl, by decide +kernel, rfl, by decide +kernel, by decide +kernel⟩
def rel__law_take (cs : List Ca) (o : Out) : Prop := ∃ (pool : (List Int)) (size : Int), cs = [.m pool, .k size] ∧ res1 (m_law_take pool size) o
theorem ok__law_take {g : Gx} {P : Program} {w : World} {mg : Str → Option Value} {base : Heap} {A : Ad} (T : Txt g mg A) : FnOk P w g.K mg base (L2.CX P w) 1 A.f__law_take A.d__law_take ["pool", "size"] (spOf g rel__law_take) := by
  refine fn_go T.F__law_take sc__law_take (fun cs o h => by obtain ⟨_, _, rfl, _⟩ := h; rfl) (by decide) (fun cdv A_ outer s H X hr => ⟨_, (pss_cons (ps_asg (pe_op op_add (pe_ix (ix_listK (K := g.K) rfl) (pv 0) pe_int (fun _ _ => rfl)) pe_int) (pg_sub (pv 0) pe_int set_list))
 (pss_cons (ps_if (pt_cmpR op_gt (pe_ix (ix_listK (K := g.K) rfl) (pv 0) pe_int (fun _ _ => rfl)) pe_int (nomark _)) (pss_cons (ps_set (i := 2) sc__law_take.nd rfl (by first | exact Or.inl rfl | exact Or.inr rfl) (pe_op op_mod (pe_callTy call_int1 (by rfl) T.no_int (by decide +kernel) (pa_cons (pe_ix (ix_listK (K := g.K) rfl) (pv 0) pe_int (fun _ _ => rfl)) pa_nil)) (pv 1)))
 (pss_cons (ps_asg (pe_op op_fdiv (pe_ix (ix_listK (K := g.K) rfl) (pv 0) pe_int (fun _ _ => rfl)) (pv 1)) (pg_sub (pv 0) pe_int set_list))
 (pss_one (ps_ret (pv 2))))) pss_nil)
 (pss_cons (ps_set (i := 3) sc__law_take.nd rfl (by first | exact Or.inl rfl | exact Or.inr rfl) (pe_op op_mod (pe_callTy call_int1 (by rfl) T.no_int (by decide +kernel) (pa_cons (pe_op op_add (pe_op op_add (pe_ix (ix_listK (K := g.K) rfl) (pv 0) pe_int (fun _ _ => rfl)) (pe_op op_mul pe_int (pe_ix (ix_listK (K := g.K) rfl) (pv 0) pe_int (fun _ _ => rfl)))) pe_int) pa_nil)) pe_int))
 (pss_cons (ps_set (i := 3) sc__law_take.nd rfl (by first | exact Or.inl rfl | exact Or.inr rfl) (pe_op op_mod (pe_callTy call_int1 (by rfl) T.no_int (by decide +kernel) (pa_cons (pe_op op_add (pe_op op_add (pe_op op_mul (pv 3) (pv 3)) (pe_op op_mul pe_int (pe_ix (ix_listK (K := g.K) rfl) (pv 0) pe_int (fun _ _ => rfl)))) pe_int) pa_nil)) pe_int))
 (pss_cons (ps_set (i := 3) sc__law_take.nd rfl (by first | exact Or.inl rfl | exact Or.inr rfl) (pe_op op_mod (pe_callTy call_int1 (by rfl) T.no_int (by decide +kernel) (pa_cons (pe_op op_add (pe_op op_add (pe_op op_mul (pv 3) (pv 3)) (pe_op op_mul pe_int (pe_ix (ix_listK (K := g.K) rfl) (pv 0) pe_int (fun _ _ => rfl)))) pe_int) pa_nil)) pe_int))
 (pss_one (ps_ret (pe_op op_mod (pe_callTy call_int1 (by rfl) T.no_int (by decide +kernel) (pa_cons (pe_op op_fdiv (pv 3) pe_int) pa_nil)) (pv 1))))))))), fun B qs cs o E D hps hrel hini hrt hx hfall => ?_⟩)
  obtain ⟨pool, size, rfl, hrel⟩ := hrel
  generalize hm : m_law_take pool size = r at hrel
  obtain ⟨hne, hret, hex⟩ := res1_ne hrel
  clear hrel
  obtain ⟨q_pool, qs1, E1, rfl, rfl, hini1⟩ := ini_m hini
  obtain ⟨E2, rfl, hini2⟩ := ini_k hini1
  obtain ⟨rfl, rfl⟩ := ini_nil hini2
  have hret := fun y_ h_ => (hret y_ h_ ▸ hrt : DRt g B D.rt _)
  have hex := fun c_ d_ h_ => hx c_ d_ (hex c_ d_ h_)
  unfold m_law_take at hm
  show Sx g B [.io q_pool (pool : (List Int)), .kp (size : Int), .un, .un] _ _
  obtain ⟨t1, h2, hm⟩ := ob_ne hm hne
  obtain ⟨pool3, h4, hm⟩ := ob_ne hm hne
  refine sx_seq (sx_setitem (i := 0) ((px_op (px_idx (pl_s (i := 0) (by exact rfl) RdL.io) (px_int (n := 2)) rfl h2) (px_int (n := 1)) r2_add)) rfl (px_int (n := 2)) rfl trivial RdL.io h4 (nx_of ?_))
  obtain ⟨t5, h6, hm⟩ := ob_ne hm hne
  refine sx_seq (sx_if (pt_test (px_op ((px_idx (pl_s (i := 0) (by exact rfl) RdL.io) (px_int (n := 0)) rfl h6)) ((px_int (n := 1))) r2_gt)) (fun e7 => ?_) (fun e7 => ?_))
  · have hm := (if_pos e7).symm.trans hm
    obtain ⟨t8, h9, hm⟩ := ob_ne hm hne
    obtain ⟨g10, hm⟩ := gd_ne hm hne
    obtain ⟨digit11, h12, hm⟩ := elet_eq (v := ((t8 % size) : Int)) hm
    refine sx_seq (sx_asg (i := 2) (px_eq ((px_op (px_intI (px_idx (pl_s (i := 0) (by exact rfl) RdL.io) (px_int (n := 0)) rfl h9)) (px_v (i := 1) (by exact rfl)) (r2_mod g10))) h12) (nx_of ?_))
    obtain ⟨t13, h14, hm⟩ := ob_ne hm hne
    obtain ⟨g15, hm⟩ := gd_ne hm hne
    obtain ⟨pool16, h17, hm⟩ := ob_ne hm hne
    refine sx_seq (sx_setitem (i := 0) ((px_op (px_idx (pl_s (i := 0) (by exact rfl) RdL.io) (px_int (n := 0)) rfl h14) (px_v (i := 1) (by exact rfl)) (r2_div g15))) rfl (px_int (n := 0)) rfl trivial RdL.io h17 (nx_of ?_))
    exact sx_ret' ((px_v (i := 2) (by exact rfl))) hps (.cons (i := 0) rfl .nil) (hret _ hm.symm)
  · have hm := (if_neg (fun z_ => Bool.false_ne_true (e7.symm.trans z_))).symm.trans hm
    refine sx_next (nx_of ?_)
    obtain ⟨t18, h19, hm⟩ := ob_ne hm hne
    obtain ⟨t20, h21, hm⟩ := ob_ne hm hne
    obtain ⟨x22, h23, hm⟩ := elet_eq (v := ((((t18 + ((48271 : Int) * t20)) + (12345 : Int)) % (2147483647 : Int)) : Int)) hm
    refine sx_seq (sx_asg (i := 3) (px_eq ((px_op (px_intI (px_op (px_op (px_idx (pl_s (i := 0) (by exact rfl) RdL.io) (px_int (n := 1)) rfl h19) (px_op (px_int (n := 48271)) (px_idx (pl_s (i := 0) (by exact rfl) RdL.io) (px_int (n := 2)) rfl h21) (r2_mul (mulOk_l (by decide)))) r2_add) (px_int (n := 12345)) r2_add)) (px_int (n := 2147483647)) (r2_mod (by decide)))) h23) (nx_of ?_))
    obtain ⟨g24, hm⟩ := gd_ne hm hne
    obtain ⟨t25, h26, hm⟩ := ob_ne hm hne
    obtain ⟨x27, h28, hm⟩ := elet_eq (v := (((((x22 * x22) + ((16807 : Int) * t25)) + (7 : Int)) % (2147483629 : Int)) : Int)) hm
    refine sx_seq (sx_asg (i := 3) (px_eq ((px_op (px_intI (px_op (px_op (px_op (px_v (i := 3) (by exact rfl)) (px_v (i := 3) (by exact rfl)) (r2_mul g24)) (px_op (px_int (n := 16807)) (px_idx (pl_s (i := 0) (by exact rfl) RdL.io) (px_int (n := 2)) rfl h26) (r2_mul (mulOk_l (by decide)))) r2_add) (px_int (n := 7)) r2_add)) (px_int (n := 2147483629)) (r2_mod (by decide)))) h28) (nx_of ?_))
    obtain ⟨g29, hm⟩ := gd_ne hm hne
    obtain ⟨t30, h31, hm⟩ := ob_ne hm hne
    obtain ⟨x32, h33, hm⟩ := elet_eq (v := (((((x27 * x27) + ((69621 : Int) * t30)) + (3 : Int)) % (2147483587 : Int)) : Int)) hm
    refine sx_seq (sx_asg (i := 3) (px_eq ((px_op (px_intI (px_op (px_op (px_op (px_v (i := 3) (by exact rfl)) (px_v (i := 3) (by exact rfl)) (r2_mul g29)) (px_op (px_int (n := 69621)) (px_idx (pl_s (i := 0) (by exact rfl) RdL.io) (px_int (n := 2)) rfl h31) (r2_mul (mulOk_l (by decide)))) r2_add) (px_int (n := 3)) r2_add)) (px_int (n := 2147483587)) (r2_mod (by decide)))) h33) (nx_of ?_))
    obtain ⟨g34, hm⟩ := gd_ne hm hne
    exact sx_ret' ((px_op (px_intI (px_op (px_v (i := 3) (by exact rfl)) (px_int (n := 7)) (r2_div (by decide)))) (px_v (i := 1) (by exact rfl)) (r2_mod g34))) hps (.cons (i := 0) rfl .nil) (hret _ hm.symm)

def N__law_same : List Str := ["actual", "due", "k"]
theorem sc__law_same : FnScope N__law_same ["actual", "due"] (defScope s__law_same) := ⟨rfl, rfl, rfl, by decide +kernel, rfl, by decide +kernel, by decide +kernel⟩
def rel__law_same (cs : List Ca) (o : Out) : Prop := ∃ (actual : Gn.D) (due : Gn.D), cs = [.k actual, .k due] ∧ res0 (m_law_same actual due) o
def relR__law_same (rec_ : Gn.D → Gn.D → R (Bool)) (cs : List Ca) (o : Out) : Prop := ∃ (actual : Gn.D) (due : Gn.D), cs = [.k actual, .k due] ∧ res0 (rec_ actual due) o
theorem step__law_same {g : Gx} {P : Program} {w : World} {mg : Str → Option Value} {base : Heap} {A : Ad} (T : Txt g mg A) (n_ : Nat) (rec_ : Gn.D → Gn.D → R (Bool)) (F0 : FnOk P w g.K mg base (L2.CX P w) n_ A.f__law_same A.d__law_same ["actual", "due"] (spOf g (relR__law_same rec_))) : FnOk P w g.K mg base (L2.CX P w) (n_ + 1) A.f__law_same A.d__law_same ["actual", "due"] (spOf g (relR__law_same (bm_law_same rec_))) := by
  refine fn_go T.F__law_same sc__law_same (fun cs o h => by obtain ⟨_, _, rfl, _⟩ := h; rfl) (by decide) (fun cdv A_ outer s H X hr => ⟨_, (pss_cons (ps_if (pt_cmp (pc_isN (pv 1)) (by rfl)) (pss_one (ps_ret (pe_cmp (pc_isN (pv 0)) (by rfl)))) pss_nil)
 (pss_cons (ps_if (pt_val (pe_callB (call_isiK (K := g.K) rfl) (by rfl) T.no_isinstance (by decide +kernel) (pa_cons (pv 1) (pa_cons (pe_bltn (v := .ty "bool") (by rfl) T.no_bool (by decide +kernel) rfl) pa_nil)))) (pss_one (ps_ret (pe_and (pe_callB (call_isiK (K := g.K) rfl) (by rfl) T.no_isinstance (by decide +kernel) (pa_cons (pv 0) (pa_cons (pe_bltn (v := .ty "bool") (by rfl) T.no_bool (by decide +kernel) rfl) pa_nil))) (pe_one (pe_cmpR op_eq (pv 0) (pv 1) (nomark _)))))) pss_nil)
 (pss_cons (ps_if (pt_val (pe_callB (call_isiK (K := g.K) rfl) (by rfl) T.no_isinstance (by decide +kernel) (pa_cons (pv 1) (pa_cons (pe_bltn (v := .ty "int") (by rfl) T.no_int (by decide +kernel) rfl) pa_nil)))) (pss_one (ps_ret (pe_and (pe_callB (call_isiK (K := g.K) rfl) (by rfl) T.no_isinstance (by decide +kernel) (pa_cons (pv 0) (pa_cons (pe_bltn (v := .ty "int") (by rfl) T.no_int (by decide +kernel) rfl) pa_nil))) (pe_and (pe_not (pe_callB (call_isiK (K := g.K) rfl) (by rfl) T.no_isinstance (by decide +kernel) (pa_cons (pv 0) (pa_cons (pe_bltn (v := .ty "bool") (by rfl) T.no_bool (by decide +kernel) rfl) pa_nil)))) (pe_one (pe_cmpR op_eq (pv 0) (pv 1) (nomark _))))))) pss_nil)
 (pss_cons (ps_if (pt_val (pe_callB (call_isiK (K := g.K) rfl) (by rfl) T.no_isinstance (by decide +kernel) (pa_cons (pv 1) (pa_cons (pe_bltn (v := .ty "str") (by rfl) T.no_str (by decide +kernel) rfl) pa_nil)))) (pss_one (ps_ret (pe_and (pe_callB (call_isiK (K := g.K) rfl) (by rfl) T.no_isinstance (by decide +kernel) (pa_cons (pv 0) (pa_cons (pe_bltn (v := .ty "str") (by rfl) T.no_str (by decide +kernel) rfl) pa_nil))) (pe_one (pe_cmpR op_eq (pv 0) (pv 1) (nomark _)))))) pss_nil)
 (pss_cons (ps_if (PW.pt (pw_and (pt_val (pe_callB (call_isiK (K := g.K) rfl) (by rfl) T.no_isinstance (by decide +kernel) (pa_cons (pv 1) (pa_cons (pe_bltn (v := .ty "tuple") (by rfl) T.no_tuple (by decide +kernel) rfl) pa_nil)))) (pw_and1 (L2.pt_not (pt_val (pe_callB (call_isiK (K := g.K) rfl) (by rfl) T.no_isinstance (by decide +kernel) (pa_cons (pv 0) (pa_cons (pe_bltn (v := .ty "tuple") (by rfl) T.no_tuple (by decide +kernel) rfl) pa_nil)))))))) (pss_one (ps_ret pe_bl)) pss_nil)
 (pss_cons (ps_if (PW.pt (pw_and (pt_val (pe_callB (call_isiK (K := g.K) rfl) (by rfl) T.no_isinstance (by decide +kernel) (pa_cons (pv 1) (pa_cons (pe_bltn (v := .ty "list") (by rfl) T.no_list (by decide +kernel) rfl) pa_nil)))) (pw_and1 (L2.pt_not (pt_val (pe_callB (call_isiK (K := g.K) rfl) (by rfl) T.no_isinstance (by decide +kernel) (pa_cons (pv 0) (pa_cons (pe_bltn (v := .ty "list") (by rfl) T.no_list (by decide +kernel) rfl) pa_nil)))))))) (pss_one (ps_ret pe_bl)) pss_nil)
 (pss_cons (ps_if (pt_cmpR op_ne (pe_callB (call_lenD (K := g.K) rfl) (by rfl) T.no_len (by decide +kernel) (pa_cons (pv 0) pa_nil)) (pe_callB (call_lenD (K := g.K) rfl) (by rfl) T.no_len (by decide +kernel) (pa_cons (pv 1) pa_nil)) (nomark _)) (pss_one (ps_ret pe_bl)) pss_nil)
 (pss_cons (ps_for (passes_of rfl) rfl (pi_range1 (by rfl) T.no_range (pa_cons (pe_callB (call_lenD (K := g.K) rfl) (by rfl) T.no_len (by decide +kernel) (pa_cons (pv 1) pa_nil)) pa_nil)) (pg_name (i := 2) sc__law_same.nd rfl (by first | exact Or.inl rfl | exact Or.inr rfl)) (pss_one (ps_if (L2.pt_not (pt_val (pe_call F0 (hr.mono (Nat.le_refl _)) (by rfl) T.mg__law_same T.kp__law_same T.b__law_same .nil (passes_call (takes_of rfl rfl rfl rfl) (fun _ _ _ _ h_ => h_)) (pa_cons (pe_ix (ix_LTK (K := g.K) rfl) (pv 0) (pv 2) (fun _ _ => rfl)) (pa_cons (pe_ix (ix_LTK (K := g.K) rfl) (pv 1) (pv 2) (fun _ _ => rfl)) pa_nil))))) (pss_one (ps_ret pe_bl)) pss_nil)))
 (pss_one (ps_ret pe_bl)))))))))), fun B qs cs o E D hps hrel hini hrt hx hfall => ?_⟩)
  obtain ⟨actual, due, rfl, hrel⟩ := hrel
  generalize hm : bm_law_same rec_ actual due = r at hrel
  obtain ⟨hne, hret, hex⟩ := res0_ne hrel
  clear hrel
  obtain ⟨E1, rfl, hini1⟩ := ini_k hini
  obtain ⟨E2, rfl, hini2⟩ := ini_k hini1
  obtain ⟨rfl, rfl⟩ := ini_nil hini2
  have hret := fun y_ h_ => (hret y_ h_ ▸ hrt : DRt g B D.rt _)
  have hex := fun c_ d_ h_ => hx c_ d_ (hex c_ d_ h_)
  unfold bm_law_same at hm
  show Sx g B [.kp (actual : Gn.D), .kp (due : Gn.D), .un] _ _
  refine sx_seq (sx_if (pt_B (px_isND ((px_v (i := 1) (by exact rfl))))) (fun e1 => ?_) (fun e1 => ?_))
  · have hm := (if_pos e1).symm.trans hm
    exact sx_ret' ((px_isND ((px_v (i := 0) (by exact rfl))))) hps .nil (hret _ hm.symm)
  · have hm := (if_neg (fun z_ => Bool.false_ne_true (e1.symm.trans z_))).symm.trans hm
    refine sx_next (nx_of ?_)
    refine sx_seq (sx_if (pt_B (px_isi ((px_v (i := 1) (by exact rfl))) (kit_bool _))) (fun e2 => ?_) (fun e2 => ?_))
    · have hm := (if_pos e2).symm.trans hm
      obtain ⟨c4, h5, hm⟩ := ob_ne hm hne
      exact sx_ret' ((px_andR (c := c4) (px_isi ((px_v (i := 0) (by exact rfl))) (kit_bool _)) (fun e6_ => by
        have e6 := (if_pos e6_).symm.trans (opt_ok h5)
        obtain ⟨g3, e6⟩ := gd_ne e6 ok_ne
        have e6 := R.ok.inj e6
        subst e6
        exact (px_op ((px_v (i := 0) (by exact rfl))) ((px_v (i := 1) (by exact rfl))) (r2_eqD g3))) (fun e6_ => by
        have e6 := (if_neg (fun z_ => Bool.false_ne_true (e6_.symm.trans z_))).symm.trans (opt_ok h5)
        have e6 := R.ok.inj e6
        subst e6
        exact ⟨rfl, rfl⟩))) hps .nil (hret _ hm.symm)
    · have hm := (if_neg (fun z_ => Bool.false_ne_true (e2.symm.trans z_))).symm.trans hm
      refine sx_next (nx_of ?_)
      refine sx_seq (sx_if (pt_B (px_isi ((px_v (i := 1) (by exact rfl))) (kit_int _))) (fun e7 => ?_) (fun e7 => ?_))
      · have hm := (if_pos e7).symm.trans hm
        obtain ⟨c12, h13, hm⟩ := ob_ne hm hne
        exact sx_ret' ((px_andR (c := c12) (px_isi ((px_v (i := 0) (by exact rfl))) (kit_int _)) (fun e14_ => by
          have e14 := (if_pos e14_).symm.trans (opt_ok h13)
          obtain ⟨c9, h10, e14⟩ := ob_ne e14 ok_ne
          have e14 := R.ok.inj e14
          subst e14
          exact (px_andR (c := c9) (px_not (px_isi ((px_v (i := 0) (by exact rfl))) (kit_bool _))) (fun e11_ => by
            have e11 := (if_pos e11_).symm.trans (opt_ok h10)
            obtain ⟨g8, e11⟩ := gd_ne e11 ok_ne
            have e11 := R.ok.inj e11
            subst e11
            exact (px_op ((px_v (i := 0) (by exact rfl))) ((px_v (i := 1) (by exact rfl))) (r2_eqD g8))) (fun e11_ => by
            have e11 := (if_neg (fun z_ => Bool.false_ne_true (e11_.symm.trans z_))).symm.trans (opt_ok h10)
            have e11 := R.ok.inj e11
            subst e11
            exact ⟨rfl, rfl⟩))) (fun e14_ => by
          have e14 := (if_neg (fun z_ => Bool.false_ne_true (e14_.symm.trans z_))).symm.trans (opt_ok h13)
          have e14 := R.ok.inj e14
          subst e14
          exact ⟨rfl, rfl⟩))) hps .nil (hret _ hm.symm)
      · have hm := (if_neg (fun z_ => Bool.false_ne_true (e7.symm.trans z_))).symm.trans hm
        refine sx_next (nx_of ?_)
        refine sx_seq (sx_if (pt_B (px_isi ((px_v (i := 1) (by exact rfl))) (kit_str _))) (fun e15 => ?_) (fun e15 => ?_))
        · have hm := (if_pos e15).symm.trans hm
          obtain ⟨c17, h18, hm⟩ := ob_ne hm hne
          exact sx_ret' ((px_andR (c := c17) (px_isi ((px_v (i := 0) (by exact rfl))) (kit_str _)) (fun e19_ => by
            have e19 := (if_pos e19_).symm.trans (opt_ok h18)
            obtain ⟨g16, e19⟩ := gd_ne e19 ok_ne
            have e19 := R.ok.inj e19
            subst e19
            exact (px_op ((px_v (i := 0) (by exact rfl))) ((px_v (i := 1) (by exact rfl))) (r2_eqD g16))) (fun e19_ => by
            have e19 := (if_neg (fun z_ => Bool.false_ne_true (e19_.symm.trans z_))).symm.trans (opt_ok h18)
            have e19 := R.ok.inj e19
            subst e19
            exact ⟨rfl, rfl⟩))) hps .nil (hret _ hm.symm)
        · have hm := (if_neg (fun z_ => Bool.false_ne_true (e15.symm.trans z_))).symm.trans hm
          refine sx_next (nx_of ?_)
          refine sx_seq (sx_if (pt_and (pt_B (px_isi ((px_v (i := 1) (by exact rfl))) (kit_tuple _))) (fun _ => (pt_not (pt_B (px_isi ((px_v (i := 0) (by exact rfl))) (kit_tuple _))))) (fun _ => rfl)) (fun e20 => ?_) (fun e20 => ?_))
          · have hm := (if_pos e20).symm.trans hm
            exact sx_ret' (px_bl) hps .nil (hret _ hm.symm)
          · have hm := (if_neg (fun z_ => Bool.false_ne_true (e20.symm.trans z_))).symm.trans hm
            refine sx_next (nx_of ?_)
            refine sx_seq (sx_if (pt_and (pt_B (px_isi ((px_v (i := 1) (by exact rfl))) (kit_list _))) (fun _ => (pt_not (pt_B (px_isi ((px_v (i := 0) (by exact rfl))) (kit_list _))))) (fun _ => rfl)) (fun e21 => ?_) (fun e21 => ?_))
            · have hm := (if_pos e21).symm.trans hm
              exact sx_ret' (px_bl) hps .nil (hret _ hm.symm)
            · have hm := (if_neg (fun z_ => Bool.false_ne_true (e21.symm.trans z_))).symm.trans hm
              refine sx_next (nx_of ?_)
              obtain ⟨t22, h23, hm⟩ := ob_ne hm hne
              obtain ⟨t24, h25, hm⟩ := ob_ne hm hne
              refine sx_seq (sx_if (pt_test (px_op ((px_lenD ((px_v (i := 0) (by exact rfl))) h23)) ((px_lenD ((px_v (i := 1) (by exact rfl))) h25)) r2_ne)) (fun e26 => ?_) (fun e26 => ?_))
              · have hm := (if_pos e26).symm.trans hm
                exact sx_ret' (px_bl) hps .nil (hret _ hm.symm)
              · have hm := (if_neg (fun z_ => Bool.false_ne_true (e26.symm.trans z_))).symm.trans hm
                refine sx_next (nx_of ?_)
                obtain ⟨t27, h28, hm⟩ := ob_ne hm hne
                obtain ⟨g29, hm⟩ := gd_ne hm hne
                obtain ⟨out_, hL_, hno_, hm⟩ := bind_split hm hne
                refine sx_seq (sx_for (s0 := ()) (X := fun B_ c_ d_ => XkOk g B_ X c_ d_) (fin := (fun y_ => Out.ret y_ [])) (Ei := (fun (_ : Unit) => [.kp (actual : Gn.D), .kp (due : Gn.D), .un])) (fun _ _ _ _ n_ h_ => h_.nest n_) (sr_r1 (px_lenD ((px_v (i := 1) (by exact rfl))) h28) g29) (tg_n) (by exact (LeE.cons .refl (LeE.cons .refl (LeE.cons .un LeE.nil)))) hL_ hno_ (fun y_ h_ => hret _ (loop_ret h_ hm).symm) (fun c_ d_ h_ => hex c_ d_ (by rw [h_] at hm; exact hm.symm)) (fun B x30 s_ r_ D hB_ hx_ hm hne hnx hct hbk hret hex => ?_) (fun s_ hs_ => ?_))
                · have hps := hB_.1.trans hps
                  show Sx g B [.kp (actual : Gn.D), .kp (due : Gn.D), .kp (x30 : Int)] _ _
                  obtain ⟨t31, h32, hm⟩ := ob_ne hm hne
                  obtain ⟨t33, h34, hm⟩ := ob_ne hm hne
                  obtain ⟨t35, h36, hm⟩ := ob_ne hm hne
                  refine sx_if (pt_not (pt_B (px_call (x := t35) (outs := []) (X := X) (pa_k ((px_atD ((px_v (i := 0) (by exact rfl))) (px_v (i := 2) (by exact rfl)) h32)) (pa_k ((px_atD ((px_v (i := 1) (by exact rfl))) (px_v (i := 2) (by exact rfl)) h34)) pa_n)) (.k (.k .nil)) (.k (.k .nil)) (by decide) ⟨t31, t33, rfl, by rw [(opt_ok h36)]; rfl⟩))) (fun e37 => ?_) (fun e37 => ?_)
                  · have hm := (if_pos e37).symm.trans hm
                    exact sx_ret' (px_bl) hps .nil (hret _ hm.symm)
                  · have hm := (if_neg (fun z_ => Bool.false_ne_true (e37.symm.trans z_))).symm.trans hm
                    exact sx_next (nx_le (LeE.cons .refl (LeE.cons .refl (LeE.cons .un LeE.nil))) (hnx _ hm.symm))
                · have hm := loop_go hs_ hm
                  clear hs_ hL_ hno_
                  obtain _ := s_
                  refine nx_of ?_
                  show Sx g B [.kp (actual : Gn.D), .kp (due : Gn.D), .un] _ _
                  exact sx_ret' (px_bl) hps .nil (hret _ hm.symm)
theorem deep__law_same {g : Gx} {P : Program} {w : World} {mg : Str → Option Value} {base : Heap} {A : Ad} (T : Txt g mg A) : ∀ n_, FnOk P w g.K mg base (L2.CX P w) n_ A.f__law_same A.d__law_same ["actual", "due"] (spOf g (relR__law_same (nm_law_same n_)))
  | 0 => fn_void fun vs H Q X ⟨_, _, _, _, _, _, _, h, _⟩ => by
    obtain ⟨_, _, _, h⟩ := h
    exact h.elim
  | n_ + 1 => step__law_same T n_ _ (deep__law_same T n_)
theorem ok__law_same {g : Gx} {P : Program} {w : World} {mg : Str → Option Value} {base : Heap} {A : Ad} (T : Txt g mg A) : FnOk P w g.K mg base (L2.CX P w) 8 A.f__law_same A.d__law_same ["actual", "due"] (spOf g rel__law_same) := deep__law_same T 8

def N__law_ab : List Str := ["pool", "most", "a"]
theorem sc__law_ab : FnScope N__law_ab ["pool", "most"] (defScope s__law_ab) := ⟨rfl, rfl, rfl, by decide +kernel, rfl, by decide +kernel, by decide +kernel⟩
def rel__law_ab (cs : List Ca) (o : Out) : Prop := ∃ (pool : (List Int)) (most : Int), cs = [.m pool, .k most] ∧ res1 (m_law_ab pool most) o
theorem ok__law_ab {g : Gx} {P : Program} {w : World} {mg : Str → Option Value} {base : Heap} {A : Ad} (T : Txt g mg A) : FnOk P w g.K mg base (L2.CX P w) 2 A.f__law_ab A.d__law_ab ["pool", "most"] (spOf g rel__law_ab) := by
  refine fn_go T.F__law_ab sc__law_ab (fun cs o h => by obtain ⟨_, _, rfl, _⟩ := h; rfl) (by decide) (fun cdv A_ outer s H X hr => ⟨_, (pss_cons (ps_set (i := 2) sc__law_ab.nd rfl (by first | exact Or.inl rfl | exact Or.inr rfl) (pe_op op_add pe_int (pe_call (ok__law_take T) (hr.mono (by decide)) (by rfl) T.mg__law_take T.kp__law_take T.b__law_take .nil (passes_call (takes_of rfl rfl rfl rfl) (fun _ _ _ _ h_ => h_)) (pa_cons (pv 0) (pa_cons (pe_op op_sub (pv 1) pe_int) pa_nil)))))
 (pss_one (ps_ret (pe_tup (pa_cons (pv 2) (pa_cons (pe_op op_add (pe_op op_add (pv 2) pe_int) (pe_call (ok__law_take T) (hr.mono (by decide)) (by rfl) T.mg__law_take T.kp__law_take T.b__law_take .nil (passes_call (takes_of rfl rfl rfl rfl) (fun _ _ _ _ h_ => h_)) (pa_cons (pv 0) (pa_cons (pe_op op_sub (pv 1) (pv 2)) pa_nil)))) pa_nil)))))), fun B qs cs o E D hps hrel hini hrt hx hfall => ?_⟩)
  obtain ⟨pool, most, rfl, hrel⟩ := hrel
  generalize hm : m_law_ab pool most = r at hrel
  obtain ⟨hne, hret, hex⟩ := res1_ne hrel
  clear hrel
  obtain ⟨q_pool, qs1, E1, rfl, rfl, hini1⟩ := ini_m hini
  obtain ⟨E2, rfl, hini2⟩ := ini_k hini1
  obtain ⟨rfl, rfl⟩ := ini_nil hini2
  have hret := fun y_ h_ => (hret y_ h_ ▸ hrt : DRt g B D.rt _)
  have hex := fun c_ d_ h_ => hx c_ d_ (hex c_ d_ h_)
  unfold m_law_ab at hm
  show Sx g B [.io q_pool (pool : (List Int)), .kp (most : Int), .un] _ _
  obtain ⟨⟨t1, pool2⟩, h3, hm⟩ := ob_ne hm hne
  obtain ⟨a4, h5, hm⟩ := elet_eq (v := (((1 : Int) + t1) : Int)) hm
  refine sx_seq (sx_asg (i := 2) (px_eq ((px_op (px_int (n := 1)) (px_call (x := t1) (outs := [.mk pool2]) (X := X) (pa_s (i := 0) rfl (by intro h_; cases h_) (pa_k ((px_op (px_v (i := 1) (by exact rfl)) (px_int (n := 1)) r2_sub)) pa_n)) (.m (by exact rfl) (by exact trivial) RdL.io (.k .nil)) (.m (.k .nil)) (by decide) ⟨pool, (most - (1 : Int)), rfl, by rw [(opt_ok h3)]; rfl⟩) r2_add)) h5) (nx_of ?_))
  obtain ⟨⟨t6, pool7⟩, h8, hm⟩ := ob_ne hm hne
  exact sx_ret' ((px_tup2 ((px_v (i := 2) (by exact rfl))) ((px_op (px_op (px_v (i := 2) (by exact rfl)) (px_int (n := 1)) r2_add) (px_call (x := t6) (outs := [.mk pool7]) (X := X) (pa_s (i := 0) rfl (by intro h_; cases h_) (pa_k ((px_op (px_v (i := 1) (by exact rfl)) (px_v (i := 2) (by exact rfl)) r2_sub)) pa_n)) (.m (by exact rfl) (by exact trivial) RdL.io (.k .nil)) (.m (.k .nil)) (by decide) ⟨pool2, (most - a4), rfl, by rw [(opt_ok h8)]; rfl⟩) r2_add)))) hps (.cons (i := 0) rfl .nil) (hret _ hm.symm)

def N__law_board_ab : List Str := ["pool", "most", "ab"]
theorem sc__law_board_ab : FnScope N__law_board_ab ["pool"] (defScope s__law_board_ab) := ⟨rfl, rfl, rfl, by decide +kernel, rfl, by decide +kernel, by decide +kernel⟩
def rel__law_board_ab (cs : List Ca) (o : Out) : Prop := ∃ (pool : (List Int)), cs = [.m pool] ∧ res1 (m_law_board_ab pool) o
theorem ok__law_board_ab {g : Gx} {P : Program} {w : World} {mg : Str → Option Value} {base : Heap} {A : Ad} (T : Txt g mg A) : FnOk P w g.K mg base (L2.CX P w) 3 A.f__law_board_ab A.d__law_board_ab ["pool"] (spOf g rel__law_board_ab) := by
  refine fn_go T.F__law_board_ab sc__law_board_ab (fun cs o h => by obtain ⟨_, rfl, _⟩ := h; rfl) (by decide) (fun cdv A_ outer s H X hr => ⟨_, (pss_cons (ps_set (i := 1) sc__law_board_ab.nd rfl (by first | exact Or.inl rfl | exact Or.inr rfl) pe_int)
 (Evl.pss_cut (ps_if (pt_cmpR op_eq (pe_call (ok__law_take T) (hr.mono (by decide)) (by rfl) T.mg__law_take T.kp__law_take T.b__law_take .nil (passes_call (takes_of rfl rfl rfl rfl) (fun _ _ _ _ h_ => h_)) (pa_cons (pv 0) (pa_cons pe_int pa_nil))) pe_int (nomark _)) (pss_one (ps_set (i := 1) sc__law_board_ab.nd rfl (by first | exact Or.inl rfl | exact Or.inr rfl) pe_int)) pss_nil)
 (pss_cons (ps_set (i := 2) sc__law_board_ab.nd rfl (by first | exact Or.inl rfl | exact Or.inr rfl) (pe_call (ok__law_ab T) (hr.mono (by decide)) (by rfl) T.mg__law_ab T.kp__law_ab T.b__law_ab .nil (passes_call (takes_of rfl rfl rfl rfl) (fun _ _ _ _ h_ => h_)) (pa_cons (pv 0) (pa_cons (pv 1) pa_nil))))
 (Evl.pss_cut (ps_if (pt_cmpR op_eq (pe_call (ok__law_take T) (hr.mono (by decide)) (by rfl) T.mg__law_take T.kp__law_take T.b__law_take .nil (passes_call (takes_of rfl rfl rfl rfl) (fun _ _ _ _ h_ => h_)) (pa_cons (pv 0) (pa_cons pe_int pa_nil))) pe_int (nomark _)) (pss_one (ps_set (i := 2) sc__law_board_ab.nd rfl (by first | exact Or.inl rfl | exact Or.inr rfl) (pe_tup (pa_cons (pe_callB (call_max2 rfl) (by rfl) T.no_max (by decide +kernel) (pa_cons pe_int (pa_cons (pe_op op_sub (pe_ix (ix_tupK (K := g.K) rfl) (pv 2) pe_int (fun _ _ => rfl)) pe_int) pa_nil))) (pa_cons (pe_ix (ix_tupK (K := g.K) rfl) (pv 2) pe_int (fun _ _ => rfl)) pa_nil))))) pss_nil)
 (pss_one (ps_ret (pv 2))))))), fun B qs cs o E D hps hrel hini hrt hx hfall => ?_⟩)
  obtain ⟨pool, rfl, hrel⟩ := hrel
  generalize hm : m_law_board_ab pool = r at hrel
  obtain ⟨hne, hret, hex⟩ := res1_ne hrel
  clear hrel
  obtain ⟨q_pool, qs1, E1, rfl, rfl, hini1⟩ := ini_m hini
  obtain ⟨rfl, rfl⟩ := ini_nil hini1
  have hret := fun y_ h_ => (hret y_ h_ ▸ hrt : DRt g B D.rt _)
  have hex := fun c_ d_ h_ => hx c_ d_ (hex c_ d_ h_)
  unfold m_law_board_ab at hm
  show Sx g B [.io q_pool (pool : (List Int)), .un, .un] _ _
  refine sx_seq (sx_asg (i := 1) ((px_int (n := 6))) (nx_of ?_))
  obtain ⟨⟨t1, pool2⟩, h3, hm⟩ := ob_ne hm hne
  obtain ⟨most5, h7, hm⟩ := ob_ne hm hne
  refine sx_cut (E' := [.io q_pool (pool2 : (List Int)), .kp (most5 : Int), .un]) (fun M_ hM6 => ?_) ?_
  · clear hm
    refine sx_if (pt_test (px_op ((px_call (x := t1) (outs := [.mk pool2]) (X := X) (pa_s (i := 0) rfl (by intro h_; cases h_) (pa_k ((px_int (n := 8))) pa_n)) (.m (by exact rfl) (by exact trivial) RdL.io (.k .nil)) (.m (.k .nil)) (by decide) ⟨pool, (8 : Int), rfl, by rw [(opt_ok h3)]; rfl⟩)) ((px_int (n := 5))) r2_eq)) (fun e4 => ?_) (fun e4 => ?_)
    · have hm := (if_pos e4).symm.trans (opt_ok h7)
      try have hm := try_ok hm hT_
      have hm := R.ok.inj hm
      subst hm
      exact sx_asg (i := 1) ((px_int (n := 12))) (nx_le (LeE.cons .refl (LeE.cons .refl (LeE.cons .un LeE.nil))) hM6)
    · have hm := (if_neg (fun z_ => Bool.false_ne_true (e4.symm.trans z_))).symm.trans (opt_ok h7)
      try have hm := try_ok hm hT_
      have hm := R.ok.inj hm
      subst hm
      exact sx_next (nx_le (LeE.cons .refl (LeE.cons .refl (LeE.cons .un LeE.nil))) hM6)
  · obtain ⟨⟨t8, pool9⟩, h10, hm⟩ := ob_ne hm hne
    refine sx_seq (sx_asg (i := 2) ((px_call (x := t8) (outs := [.mk pool9]) (X := X) (pa_s (i := 0) rfl (by intro h_; cases h_) (pa_k ((px_v (i := 1) (by exact rfl))) pa_n)) (.m (by exact rfl) (by exact trivial) RdL.io (.k .nil)) (.m (.k .nil)) (by decide) ⟨pool2, most5, rfl, by rw [(opt_ok h10)]; rfl⟩)) (nx_of ?_))
    obtain ⟨⟨t11, pool12⟩, h13, hm⟩ := ob_ne hm hne
    obtain ⟨ab15, h19, hm⟩ := ob_ne hm hne
    refine sx_cut (E' := [.io q_pool (pool12 : (List Int)), .kp (most5 : Int), .kp (ab15 : (Int × Int))]) (fun M_ hM16 => ?_) ?_
    · clear hm
      refine sx_if (pt_test (px_op ((px_call (x := t11) (outs := [.mk pool12]) (X := X) (pa_s (i := 0) rfl (by intro h_; cases h_) (pa_k ((px_int (n := 4))) pa_n)) (.m (by exact rfl) (by exact trivial) RdL.io (.k .nil)) (.m (.k .nil)) (by decide) ⟨pool9, (4 : Int), rfl, by rw [(opt_ok h13)]; rfl⟩)) ((px_int (n := 3))) r2_eq)) (fun e14 => ?_) (fun e14 => ?_)
      · have hm := (if_pos e14).symm.trans (opt_ok h19)
        obtain ⟨ab17, h18, hm⟩ := elet_eq (v := (((max (1 : Int) (t8.1 - (1 : Int))), t8.2) : (Int × Int))) hm
        try have hm := try_ok hm hT_
        have hm := R.ok.inj hm
        subst hm
        exact sx_asg (i := 2) (px_eq ((px_tup2 ((px_max2 (px_int (n := 1)) (px_op (px_t0 (px_v (i := 2) (by exact rfl))) (px_int (n := 1)) r2_sub))) ((px_t1 (px_v (i := 2) (by exact rfl)))))) h18) (nx_le (LeE.cons .refl (LeE.cons .refl (LeE.cons .refl LeE.nil))) hM16)
      · have hm := (if_neg (fun z_ => Bool.false_ne_true (e14.symm.trans z_))).symm.trans (opt_ok h19)
        try have hm := try_ok hm hT_
        have hm := R.ok.inj hm
        subst hm
        exact sx_next (nx_le (LeE.cons .refl (LeE.cons .refl (LeE.cons .refl LeE.nil))) hM16)
    · exact sx_ret' ((px_v (i := 2) (by exact rfl))) hps (.cons (i := 0) rfl .nil) (hret _ hm.symm)

def N__law_drawn_plan : List Str := ["pool", "ab", "k", "hours", "ages", "used", "h", "press", "j", "age"]
theorem sc__law_drawn_plan : FnScope N__law_drawn_plan ["pool", "ab", "k", "hours"] (defScope s__law_drawn_plan) := ⟨rfl, rfl, rfl, by decide +kernel, rfl, by decide +kernel, by decide +kernel⟩
def rel__law_drawn_plan (cs : List Ca) (o : Out) : Prop := ∃ (pool : (List Int)) (ab : (Int × Int)) (k : Int) (hours : Int), cs = [.m pool, .k ab, .k k, .k hours] ∧ res1 (m_law_drawn_plan pool ab k hours) o
theorem ok__law_drawn_plan {g : Gx} {P : Program} {w : World} {mg : Str → Option Value} {base : Heap} {A : Ad} (T : Txt g mg A) : FnOk P w g.K mg base (L2.CX P w) 2 A.f__law_drawn_plan A.d__law_drawn_plan ["pool", "ab", "k", "hours"] (spOf g rel__law_drawn_plan) := by
  refine fn_go T.F__law_drawn_plan sc__law_drawn_plan (fun cs o h => by obtain ⟨_, _, _, _, rfl, _⟩ := h; rfl) (by decide) (fun cdv A_ outer s H X hr => ⟨_, (pss_cons (ps_set (i := 4) sc__law_drawn_plan.nd rfl (by first | exact Or.inl rfl | exact Or.inr rfl) (pe_lc (own := [("j", 8)]) (by rfl) sc__law_drawn_plan.nd (pi_range1 (by rfl) T.no_range (pa_cons (pv 2) pa_nil)) (blkOk_by (own := [("j", 8)]) (N := N__law_drawn_plan) (sc := defScope s__law_drawn_plan) (by decide +kernel)) (fun _ _ _ _ _ => (pg_name (i := 8) sc__law_drawn_plan.nd rfl (by first | exact Or.inl rfl | exact Or.inr rfl))) (fun _ _ _ _ _ => pts_nil) (fun _ _ _ _ _ => pe_int)))
 (pss_cons (ps_set (i := 5) sc__law_drawn_plan.nd rfl (by first | exact Or.inl rfl | exact Or.inr rfl) (pe_lst pa_nil))
 (pss_cons (ps_for (passes_of rfl) rfl (pi_range2 (by rfl) T.no_range (pa_cons pe_int (pa_cons (pe_op op_add (pv 3) pe_int) pa_nil))) (pg_name (i := 6) sc__law_drawn_plan.nd rfl (by first | exact Or.inl rfl | exact Or.inr rfl)) (pss_cons (ps_set (i := 4) sc__law_drawn_plan.nd rfl (by first | exact Or.inl rfl | exact Or.inr rfl) (pe_lc (own := [("age", 9)]) (by rfl) sc__law_drawn_plan.nd (pi_listK (K := g.K) rfl (pv 4)) (blkOk_by (own := [("age", 9)]) (N := N__law_drawn_plan) (sc := defScope s__law_drawn_plan) (by decide +kernel)) (fun _ _ _ _ _ => (pg_name (i := 9) sc__law_drawn_plan.nd rfl (by first | exact Or.inl rfl | exact Or.inr rfl))) (fun _ _ _ _ _ => pts_nil) (fun _ _ _ _ _ => (pe_op op_add (pv 9) pe_int))))
 (pss_cons (ps_set (i := 7) sc__law_drawn_plan.nd rfl (by first | exact Or.inl rfl | exact Or.inr rfl) (pe_callB (cr_anyK (K := g.K) rfl rfl) (by rfl) T.no_any (by decide +kernel) (pa_cons (pe_lc (own := [("j", 8)]) (by rfl) sc__law_drawn_plan.nd (pi_range1 (by rfl) T.no_range (pa_cons (pv 2) pa_nil)) (blkOk_by (own := [("j", 8)]) (N := N__law_drawn_plan) (sc := defScope s__law_drawn_plan) (by decide +kernel)) (fun _ _ _ _ _ => (pg_name (i := 8) sc__law_drawn_plan.nd rfl (by first | exact Or.inl rfl | exact Or.inr rfl))) (fun _ _ _ _ _ => pts_nil) (fun _ _ _ _ _ => (pe_cmpR op_gt (pe_op op_add (pe_op op_add (pe_ix (ix_listK (K := g.K) rfl) (pv 4) (pv 8) (fun _ _ => rfl)) (pv 8)) pe_int) (pe_ix (ix_tupK (K := g.K) rfl) (pv 1) pe_int (fun _ _ => rfl)) (nomark _)))) pa_nil)))
 (pss_one (ps_if (PW.pt (pw_and (pt_cmpR op_ge (pe_ix (ix_listK (K := g.K) rfl) (pv 4) pe_int (fun _ _ => rfl)) (pe_ix (ix_tupK (K := g.K) rfl) (pv 1) pe_int (fun _ _ => rfl)) (nomark _)) (pw_and1 (PW.pt (pw_or (pt_cmpR op_eq (pe_call (ok__law_take T) (hr.mono (by decide)) (by rfl) T.mg__law_take T.kp__law_take T.b__law_take .nil (passes_call (takes_of rfl rfl rfl rfl) (fun _ _ _ _ h_ => h_)) (pa_cons (pv 0) (pa_cons pe_int pa_nil))) pe_int (nomark _)) (pw_or1 (pt_val (pv 7)))))))) (pss_cons (ps_expr (pe_bm PySem.F.plainAttrs_list PySem.F.slot_list_append PySem.F.type_list_append mt_append (pv 5) (pa_cons (pv 6) pa_nil)))
 (pss_one (ps_set (i := 4) sc__law_drawn_plan.nd rfl (by first | exact Or.inl rfl | exact Or.inr rfl) (pe_op op_cat (pe_slice (sl_listK (K := g.K) rfl) (pv 4) (po_some pe_int) po_none) (pe_lst (pa_cons pe_int pa_nil)))))) pss_nil)))))
 (pss_one (ps_ret (pv 5)))))), fun B qs cs o E D hps hrel hini hrt hx hfall => ?_⟩)
  obtain ⟨pool, ab, k, hours, rfl, hrel⟩ := hrel
  generalize hm : m_law_drawn_plan pool ab k hours = r at hrel
  obtain ⟨hne, hret, hex⟩ := res1_ne hrel
  clear hrel
  obtain ⟨q_pool, qs1, E1, rfl, rfl, hini1⟩ := ini_m hini
  obtain ⟨E2, rfl, hini2⟩ := ini_k hini1
  obtain ⟨E3, rfl, hini3⟩ := ini_k hini2
  obtain ⟨E4, rfl, hini4⟩ := ini_k hini3
  obtain ⟨rfl, rfl⟩ := ini_nil hini4
  have hret := fun y_ h_ => (hret y_ h_ ▸ hrt : DRt g B D.rt _)
  have hex := fun c_ d_ h_ => hx c_ d_ (hex c_ d_ h_)
  unfold m_law_drawn_plan at hm
  show Sx g B [.io q_pool (pool : (List Int)), .kp (ab : (Int × Int)), .kp (k : Int), .kp (hours : Int), .un, .un, .un, .un, .un, .un] _ _
  obtain ⟨g1, hm⟩ := gd_ne hm hne
  obtain ⟨g3, hm⟩ := gd_ne hm hne
  obtain ⟨ys4, h5, hm⟩ := ob_ne hm hne
  refine sx_seq (sx_asg (i := 4) ((PxN.pxA Int (pn_map (sr_r1 (px_v (i := 2) (by exact rfl)) g1) (tc_n (by decide)) (opt_ok h5) g3 (by exact nowns1 (nown rfl (fun z_ => z_))) (fun x_ => leE_set rfl) (fun B_ x2 y6 n_ hx_ e7 => by
      have e7 := R.ok.inj e7
      subst e7
      exact (px_int (n := 0)))))) (nx_of ?_))
  obtain ⟨used8, h9, hm⟩ := elet_eq (v := ([] : (List Int))) hm
  refine sx_seq (sx_asgO (i := 5) (pn_eq (pn_lst (xs := ([] : (List Int))) ps_nil (by decide)) h9) (nx_of ?_))
  obtain ⟨g10, hm⟩ := gd_ne hm hne
  obtain ⟨out_, hL_, hno_, hm⟩ := bind_split hm hne
  refine sx_seq (sx_fold (s0 := (pool, ys4, used8)) (X := fun B_ c_ d_ => XkOk g B_ X c_ d_) (Ei := (fun ((pool12, ages13, used14) : (List Int) × (List Int) × (List Int)) => [.io q_pool (pool12 : (List Int)), .kp (ab : (Int × Int)), .kp (k : Int), .kp (hours : Int), .kp (ages13 : (List Int)), .ow (used14 : (List Int)), .un, .un, .un, .un])) (fun _ _ _ _ n_ h_ => h_.nest n_) (sr_r2 (px_int (n := 2)) (px_op (px_v (i := 3) (by exact rfl)) (px_int (n := 1)) r2_add) (by decide) g10) (tg_n) (by exact (LeE.cons .refl (LeE.cons .refl (LeE.cons .refl (LeE.cons .refl (LeE.cons .refl (LeE.cons .refl (LeE.cons .un (LeE.cons .un (LeE.cons .un (LeE.cons .un LeE.nil))))))))))) hL_ hno_ (fun c_ d_ h_ => hex c_ d_ (by rw [h_] at hm; exact hm.symm)) (fun B x11 s_ r_ D hB_ hx_ hm hne hnx hct hex => ?_) (fun s_ hs_ => ?_))
  · obtain ⟨pool12, ages13, used14⟩ := s_
    have hps := hB_.1.trans hps
    show Sx g B [.io q_pool (pool12 : (List Int)), .kp (ab : (Int × Int)), .kp (k : Int), .kp (hours : Int), .kp (ages13 : (List Int)), .ow (used14 : (List Int)), .kp (x11 : Int), .un, .un, .un] _ _
    obtain ⟨g16, hm⟩ := gd_ne hm hne
    obtain ⟨ys17, h18, hm⟩ := ob_ne hm hne
    refine sx_seq (sx_asg (i := 4) ((PxN.pxA Int (pn_map (sr_list ((px_v (i := 4) (by exact rfl)))) (tc_n (by decide)) (opt_ok h18) g16 (by exact nowns1 (nown rfl (fun z_ => z_))) (fun x_ => leE_set rfl) (fun B_ x15 y19 n_ hx_ e20 => by
        have e20 := R.ok.inj e20
        subst e20
        exact (px_op (px_v (i := 9) (by exact rfl)) (px_int (n := 1)) r2_add))))) (nx_of ?_))
    obtain ⟨g21, hm⟩ := gd_ne hm hne
    obtain ⟨g25, hm⟩ := gd_ne hm hne
    obtain ⟨ys26, h27, hm⟩ := ob_ne hm hne
    obtain ⟨press30, h31, hm⟩ := elet_eq (v := ((ys26.any id) : Bool)) hm
    refine sx_seq (sx_asg (i := 7) (px_eq ((px_any (pl_k ((PxN.pxA Bool (pn_map (sr_r1 (px_v (i := 2) (by exact rfl)) g21) (tc_n (by decide)) (opt_ok h27) g25 (by exact nowns1 (nown rfl (fun z_ => z_))) (fun x_ => leE_set rfl) (fun B_ x22 y28 n_ hx_ e29 => by
        obtain ⟨t23, h24, e29⟩ := ob_ne e29 ok_ne
        have e29 := R.ok.inj e29
        subst e29
        exact (px_op ((px_op (px_op (px_idx (pl_k (px_v (i := 4) (by exact rfl))) (px_v (i := 8) (by exact rfl)) trivial h24) (px_v (i := 8) (by exact rfl)) r2_add) (px_int (n := 1)) r2_add)) ((px_t1 (px_v (i := 1) (by exact rfl)))) r2_gt)))))) trivial)) h31) (nx_of ?_))
    obtain ⟨t32, h33, hm⟩ := ob_ne hm hne
    obtain ⟨⟨c37, pool38⟩, h39, hm⟩ := ob_ne hm hne
    refine sx_if (pt_andR (c := c37) (pt_test (px_op ((px_idx (pl_k (px_v (i := 4) (by exact rfl))) (px_int (n := 0)) trivial h33)) ((px_t0 (px_v (i := 1) (by exact rfl)))) r2_ge)) (fun e40_ => by
      have e40 := (if_pos e40_).symm.trans (opt_ok h39)
      obtain ⟨⟨t34, pool35⟩, h36, e40⟩ := ob_ne e40 ok_ne
      have e40 := R.ok.inj e40
      obtain ⟨e40_a0, e40_b0⟩ := Prod.mk.inj e40
      subst e40_a0
      subst e40_b0
      exact (pt_or (pt_test (px_op ((px_call (x := t34) (outs := [.mk pool35]) (X := X) (pa_s (i := 0) rfl (by intro h_; cases h_) (pa_k ((px_int (n := 2))) pa_n)) (.m (by exact rfl) (by exact trivial) RdL.io (.k .nil)) (.m (.k .nil)) (by decide) ⟨pool12, (2 : Int), rfl, by rw [(opt_ok h36)]; rfl⟩)) ((px_int (n := 0))) r2_eq)) (fun _ => (pt_B (px_v (i := 7) (by exact rfl)))) (fun _ => rfl))) (fun e40_ => by
      have e40 := (if_neg (fun z_ => Bool.false_ne_true (e40_.symm.trans z_))).symm.trans (opt_ok h39)
      have e40 := R.ok.inj e40
      obtain ⟨e40_a0, e40_b0⟩ := Prod.mk.inj e40
      subst e40_a0
      subst e40_b0
      exact ⟨rfl, rfl⟩)) (fun e41 => ?_) (fun e41 => ?_)
    · have hm := (if_pos e41).symm.trans hm
      obtain ⟨g42, hm⟩ := gd_ne hm hne
      refine sx_seq (sx_append (i := 5) rfl ((px_v (i := 6) (by exact rfl))) rfl trivial RdL.ow g42 (nx_of ?_))
      obtain ⟨g43, hm⟩ := gd_ne hm hne
      obtain ⟨ages44, h45, hm⟩ := elet_eq (v := (((cutL ys17 (some (1 : Int)) none) ++ [(0 : Int)]) : (List Int))) hm
      exact sx_asg (i := 4) ((PxN.pxA Int (pn_eq (pn_cat (pl_k ((PxN.pxA Int (pn_sl (pl_k (px_v (i := 4) (by exact rfl))) (po_yes (px_int (n := 1))) po_no trivial)))) (pl_k ((PxN.pxA Int (pn_lst (ps_cons ((px_int (n := 0))) ps_nil) (by simp only [List.length_cons, List.length_nil]; decide))))) trivial trivial g43) h45))) (nx_le (LeE.cons .refl (LeE.cons .refl (LeE.cons .refl (LeE.cons .refl (LeE.cons .refl (LeE.cons .refl (LeE.cons .un (LeE.cons .un (LeE.cons .un (LeE.cons .un LeE.nil)))))))))) (hnx _ hm.symm))
    · have hm := (if_neg (fun z_ => Bool.false_ne_true (e41.symm.trans z_))).symm.trans hm
      exact sx_next (nx_le (LeE.cons .refl (LeE.cons .refl (LeE.cons .refl (LeE.cons .refl (LeE.cons .refl (LeE.cons .refl (LeE.cons .un (LeE.cons .un (LeE.cons .un (LeE.cons .un LeE.nil)))))))))) (hnx _ hm.symm))
  · rw [hs_] at hm
    clear hs_ hL_ hno_
    obtain ⟨pool46, ages47, used48⟩ := s_
    replace hm := rbind_ok hm
    refine nx_of ?_
    show Sx g B [.io q_pool (pool46 : (List Int)), .kp (ab : (Int × Int)), .kp (k : Int), .kp (hours : Int), .kp (ages47 : (List Int)), .ow (used48 : (List Int)), .un, .un, .un, .un] _ _
    refine sx_freeze (i := 5) rfl (.inr ⟨0, (by decide), _, _, _, _, hps, rfl⟩) ?_
    exact sx_ret' ((px_v (i := 5) (by exact rfl))) hps (.cons (i := 0) rfl .nil) (hret _ hm.symm)

def N__law_around : List Str := ["pool", "used", "hours", "thick", "signs", "h"]
theorem sc__law_around : FnScope N__law_around ["pool", "used", "hours", "thick"] (defScope s__law_around) := ⟨rfl, rfl, rfl, by decide +kernel, rfl, by decide +kernel, by decide +kernel⟩
def rel__law_around (cs : List Ca) (o : Out) : Prop := ∃ (pool : (List Int)) (used : (List Int)) (hours : Int) (thick : Int), cs = [.m pool, .k used, .k hours, .k thick] ∧ res1 (m_law_around pool used hours thick) o
theorem ok__law_around {g : Gx} {P : Program} {w : World} {mg : Str → Option Value} {base : Heap} {A : Ad} (T : Txt g mg A) : FnOk P w g.K mg base (L2.CX P w) 2 A.f__law_around A.d__law_around ["pool", "used", "hours", "thick"] (spOf g rel__law_around) := by
  refine fn_go T.F__law_around sc__law_around (fun cs o h => by obtain ⟨_, _, _, _, rfl, _⟩ := h; rfl) (by decide) (fun cdv A_ outer s H X hr => ⟨_, (pss_cons (ps_set (i := 4) sc__law_around.nd rfl (by first | exact Or.inl rfl | exact Or.inr rfl) pe_str)
 (pss_cons (ps_for (passes_of rfl) rfl (pi_range2 (by rfl) T.no_range (pa_cons pe_int (pa_cons (pe_op op_add (pv 2) pe_int) pa_nil))) (pg_name (i := 5) sc__law_around.nd rfl (by first | exact Or.inl rfl | exact Or.inr rfl)) (pss_one (ps_if (PW.pt (pw_or (pt_cmpR (op_in_seqK (K := g.K) rfl) (pv 5) (pv 1) (by rfl)) (pw_or1 (pt_cmpR op_eq (pe_call (ok__law_take T) (hr.mono (by decide)) (by rfl) T.mg__law_take T.kp__law_take T.b__law_take .nil (passes_call (takes_of rfl rfl rfl rfl) (fun _ _ _ _ h_ => h_)) (pa_cons (pv 0) (pa_cons (pv 3) pa_nil))) pe_int (nomark _))))) (pss_one (ps_set (i := 4) sc__law_around.nd rfl (by first | exact Or.inl rfl | exact Or.inr rfl) (pe_op op_add_str (pv 4) pe_str))) (pss_one (ps_set (i := 4) sc__law_around.nd rfl (by first | exact Or.inl rfl | exact Or.inr rfl) (pe_op op_add_str (pv 4) pe_str))))))
 (pss_one (ps_ret (pv 4))))), fun B qs cs o E D hps hrel hini hrt hx hfall => ?_⟩)
  obtain ⟨pool, used, hours, thick, rfl, hrel⟩ := hrel
  generalize hm : m_law_around pool used hours thick = r at hrel
  obtain ⟨hne, hret, hex⟩ := res1_ne hrel
  clear hrel
  obtain ⟨q_pool, qs1, E1, rfl, rfl, hini1⟩ := ini_m hini
  obtain ⟨E2, rfl, hini2⟩ := ini_k hini1
  obtain ⟨E3, rfl, hini3⟩ := ini_k hini2
  obtain ⟨E4, rfl, hini4⟩ := ini_k hini3
  obtain ⟨rfl, rfl⟩ := ini_nil hini4
  have hret := fun y_ h_ => (hret y_ h_ ▸ hrt : DRt g B D.rt _)
  have hex := fun c_ d_ h_ => hx c_ d_ (hex c_ d_ h_)
  unfold m_law_around at hm
  show Sx g B [.io q_pool (pool : (List Int)), .kp (used : (List Int)), .kp (hours : Int), .kp (thick : Int), .un, .un] _ _
  refine sx_seq (sx_asg (i := 4) ((px_str (t := ([46] : Tx)) rfl)) (nx_of ?_))
  obtain ⟨g1, hm⟩ := gd_ne hm hne
  obtain ⟨out_, hL_, hno_, hm⟩ := bind_split hm hne
  refine sx_seq (sx_fold (s0 := (pool, ([46] : Tx))) (X := fun B_ c_ d_ => XkOk g B_ X c_ d_) (Ei := (fun ((pool3, signs4) : (List Int) × Tx) => [.io q_pool (pool3 : (List Int)), .kp (used : (List Int)), .kp (hours : Int), .kp (thick : Int), .kp (signs4 : Tx), .un])) (fun _ _ _ _ n_ h_ => h_.nest n_) (sr_r2 (px_int (n := 2)) (px_op (px_v (i := 2) (by exact rfl)) (px_int (n := 1)) r2_add) (by decide) g1) (tg_n) (by exact (LeE.cons .refl (LeE.cons .refl (LeE.cons .refl (LeE.cons .refl (LeE.cons .refl (LeE.cons .un LeE.nil))))))) hL_ hno_ (fun c_ d_ h_ => hex c_ d_ (by rw [h_] at hm; exact hm.symm)) (fun B x2 s_ r_ D hB_ hx_ hm hne hnx hct hex => ?_) (fun s_ hs_ => ?_))
  · obtain ⟨pool3, signs4⟩ := s_
    have hps := hB_.1.trans hps
    show Sx g B [.io q_pool (pool3 : (List Int)), .kp (used : (List Int)), .kp (hours : Int), .kp (thick : Int), .kp (signs4 : Tx), .kp (x2 : Int)] _ _
    obtain ⟨⟨c8, pool9⟩, h10, hm⟩ := ob_ne hm hne
    refine sx_if (pt_orR (c := c8) (pt_test (px_in (px_v (i := 5) (by exact rfl)) (pl_k (px_v (i := 1) (by exact rfl))) trivial)) (fun e11_ => by
      have e11 := (if_neg (fun z_ => Bool.false_ne_true (e11_.symm.trans z_))).symm.trans (opt_ok h10)
      obtain ⟨⟨t5, pool6⟩, h7, e11⟩ := ob_ne e11 ok_ne
      have e11 := R.ok.inj e11
      obtain ⟨e11_a0, e11_b0⟩ := Prod.mk.inj e11
      subst e11_a0
      subst e11_b0
      exact (pt_test (px_op ((px_call (x := t5) (outs := [.mk pool6]) (X := X) (pa_s (i := 0) rfl (by intro h_; cases h_) (pa_k ((px_v (i := 3) (by exact rfl))) pa_n)) (.m (by exact rfl) (by exact trivial) RdL.io (.k .nil)) (.m (.k .nil)) (by decide) ⟨pool3, thick, rfl, by rw [(opt_ok h7)]; rfl⟩)) ((px_int (n := 0))) r2_eq))) (fun e11_ => by
      have e11 := (if_pos e11_).symm.trans (opt_ok h10)
      have e11 := R.ok.inj e11
      obtain ⟨e11_a0, e11_b0⟩ := Prod.mk.inj e11
      subst e11_a0
      subst e11_b0
      exact ⟨rfl, rfl⟩)) (fun e12 => ?_) (fun e12 => ?_)
    · have hm := (if_pos e12).symm.trans hm
      obtain ⟨g13, hm⟩ := gd_ne hm hne
      obtain ⟨signs14, h15, hm⟩ := elet_eq (v := ((signs4 ++ ([46] : Tx)) : Tx)) hm
      exact sx_asg (i := 4) (px_eq ((px_addS (px_v (i := 4) (by exact rfl)) (px_str (t := ([46] : Tx)) rfl) g13)) h15) (nx_le (LeE.cons .refl (LeE.cons .refl (LeE.cons .refl (LeE.cons .refl (LeE.cons .refl (LeE.cons .un LeE.nil)))))) (hnx _ hm.symm))
    · have hm := (if_neg (fun z_ => Bool.false_ne_true (e12.symm.trans z_))).symm.trans hm
      obtain ⟨g16, hm⟩ := gd_ne hm hne
      obtain ⟨signs17, h18, hm⟩ := elet_eq (v := ((signs4 ++ ([35] : Tx)) : Tx)) hm
      exact sx_asg (i := 4) (px_eq ((px_addS (px_v (i := 4) (by exact rfl)) (px_str (t := ([35] : Tx)) rfl) g16)) h18) (nx_le (LeE.cons .refl (LeE.cons .refl (LeE.cons .refl (LeE.cons .refl (LeE.cons .refl (LeE.cons .un LeE.nil)))))) (hnx _ hm.symm))
  · rw [hs_] at hm
    clear hs_ hL_ hno_
    obtain ⟨pool19, signs20⟩ := s_
    replace hm := rbind_ok hm
    refine nx_of ?_
    show Sx g B [.io q_pool (pool19 : (List Int)), .kp (used : (List Int)), .kp (hours : Int), .kp (thick : Int), .kp (signs20 : Tx), .un] _ _
    exact sx_ret' ((px_v (i := 4) (by exact rfl))) hps (.cons (i := 0) rfl .nil) (hret _ hm.symm)

def N__law_board_signs : List Str := ["pool", "ab", "k", "hours", "used", "way", "at", "thick"]
theorem sc__law_board_signs : FnScope N__law_board_signs ["pool", "ab", "k", "hours"] (defScope s__law_board_signs) := ⟨rfl, rfl, rfl, by decide +kernel, rfl, by decide +kernel, by decide +kernel⟩
def rel__law_board_signs (cs : List Ca) (o : Out) : Prop := ∃ (pool : (List Int)) (ab : (Int × Int)) (k : Int) (hours : Int), cs = [.m pool, .k ab, .k k, .k hours] ∧ res1 (m_law_board_signs pool ab k hours) o
theorem ok__law_board_signs {g : Gx} {P : Program} {w : World} {mg : Str → Option Value} {base : Heap} {A : Ad} (T : Txt g mg A) : FnOk P w g.K mg base (L2.CX P w) 3 A.f__law_board_signs A.d__law_board_signs ["pool", "ab", "k", "hours"] (spOf g rel__law_board_signs) := by
  refine fn_go T.F__law_board_signs sc__law_board_signs (fun cs o h => by obtain ⟨_, _, _, _, rfl, _⟩ := h; rfl) (by decide) (fun cdv A_ outer s H X hr => ⟨_, (pss_cons (ps_set (i := 4) sc__law_board_signs.nd rfl (by first | exact Or.inl rfl | exact Or.inr rfl) (pe_call (ok__law_drawn_plan T) (hr.mono (by decide)) (by rfl) T.mg__law_drawn_plan T.kp__law_drawn_plan T.b__law_drawn_plan .nil (passes_call (takes_of rfl rfl rfl rfl) (fun _ _ _ _ h_ => h_)) (pa_cons (pv 0) (pa_cons (pv 1) (pa_cons (pv 2) (pa_cons (pv 3) pa_nil))))))
 (pss_cons (ps_set (i := 5) sc__law_board_signs.nd rfl (by first | exact Or.inl rfl | exact Or.inr rfl) (pe_call (ok__law_take T) (hr.mono (by decide)) (by rfl) T.mg__law_take T.kp__law_take T.b__law_take .nil (passes_call (takes_of rfl rfl rfl rfl) (fun _ _ _ _ h_ => h_)) (pa_cons (pv 0) (pa_cons pe_int pa_nil))))
 (Evl.pss_cut (ps_if (pt_cmpR op_eq (pv 5) pe_int (nomark _)) (pss_one (ps_set (i := 4) sc__law_board_signs.nd rfl (by first | exact Or.inl rfl | exact Or.inr rfl) (pe_lst pa_nil))) pss_nil)
 (Evl.pss_cut (ps_if (PW.pt (pw_and (pt_cmpR op_eq (pv 5) pe_int (nomark _)) (pw_and1 (pt_cmpR op_gt (pe_callB (call_len_seqK (K := g.K) rfl) (by rfl) T.no_len (by decide +kernel) (pa_cons (pv 4) pa_nil)) pe_int (nomark _))))) (pss_cons (ps_set (i := 6) sc__law_board_signs.nd rfl (by first | exact Or.inl rfl | exact Or.inr rfl) (pe_call (ok__law_take T) (hr.mono (by decide)) (by rfl) T.mg__law_take T.kp__law_take T.b__law_take .nil (passes_call (takes_of rfl rfl rfl rfl) (fun _ _ _ _ h_ => h_)) (pa_cons (pv 0) (pa_cons (pe_callB (call_len_seqK (K := g.K) rfl) (by rfl) T.no_len (by decide +kernel) (pa_cons (pv 4) pa_nil)) pa_nil))))
 (pss_one (ps_set (i := 4) sc__law_board_signs.nd rfl (by first | exact Or.inl rfl | exact Or.inr rfl) (pe_op op_cat (pe_slice (sl_listK (K := g.K) rfl) (pv 4) po_none (po_some (pv 6))) (pe_slice (sl_listK (K := g.K) rfl) (pv 4) (po_some (pe_op op_add (pv 6) pe_int)) po_none))))) pss_nil)
 (pss_cons (ps_set (i := 7) sc__law_board_signs.nd rfl (by first | exact Or.inl rfl | exact Or.inr rfl) (pe_op op_add pe_int (pe_call (ok__law_take T) (hr.mono (by decide)) (by rfl) T.mg__law_take T.kp__law_take T.b__law_take .nil (passes_call (takes_of rfl rfl rfl rfl) (fun _ _ _ _ h_ => h_)) (pa_cons (pv 0) (pa_cons pe_int pa_nil)))))
 (Evl.pss_cut (ps_if (pt_cmpR op_eq (pv 5) pe_int (nomark _)) (pss_one (ps_set (i := 7) sc__law_board_signs.nd rfl (by first | exact Or.inl rfl | exact Or.inr rfl) (pe_callB (call_min2 rfl) (by rfl) T.no_min (by decide +kernel) (pa_cons pe_int (pa_cons (pv 7) pa_nil))))) pss_nil)
 (pss_one (ps_ret (pe_call (ok__law_around T) (hr.mono (by decide)) (by rfl) T.mg__law_around T.kp__law_around T.b__law_around .nil (passes_call (takes_of rfl rfl rfl rfl) (fun _ _ _ _ h_ => h_)) (pa_cons (pv 0) (pa_cons (pv 4) (pa_cons (pv 3) (pa_cons (pv 7) pa_nil))))))))))))), fun B qs cs o E D hps hrel hini hrt hx hfall => ?_⟩)
  obtain ⟨pool, ab, k, hours, rfl, hrel⟩ := hrel
  generalize hm : m_law_board_signs pool ab k hours = r at hrel
  obtain ⟨hne, hret, hex⟩ := res1_ne hrel
  clear hrel
  obtain ⟨q_pool, qs1, E1, rfl, rfl, hini1⟩ := ini_m hini
  obtain ⟨E2, rfl, hini2⟩ := ini_k hini1
  obtain ⟨E3, rfl, hini3⟩ := ini_k hini2
  obtain ⟨E4, rfl, hini4⟩ := ini_k hini3
  obtain ⟨rfl, rfl⟩ := ini_nil hini4
  have hret := fun y_ h_ => (hret y_ h_ ▸ hrt : DRt g B D.rt _)
  have hex := fun c_ d_ h_ => hx c_ d_ (hex c_ d_ h_)
  unfold m_law_board_signs at hm
  show Sx g B [.io q_pool (pool : (List Int)), .kp (ab : (Int × Int)), .kp (k : Int), .kp (hours : Int), .un, .un, .un, .un] _ _
  obtain ⟨⟨t1, pool2⟩, h3, hm⟩ := ob_ne hm hne
  refine sx_seq (sx_asg (i := 4) ((px_call (x := t1) (outs := [.mk pool2]) (X := X) (pa_s (i := 0) rfl (by intro h_; cases h_) (pa_k ((px_v (i := 1) (by exact rfl))) (pa_k ((px_v (i := 2) (by exact rfl))) (pa_k ((px_v (i := 3) (by exact rfl))) pa_n)))) (.m (by exact rfl) (by exact trivial) RdL.io (.k (.k (.k .nil)))) (.m (.k (.k (.k .nil)))) (by decide) ⟨pool, ab, k, hours, rfl, by rw [(opt_ok h3)]; rfl⟩)) (nx_of ?_))
  obtain ⟨⟨t4, pool5⟩, h6, hm⟩ := ob_ne hm hne
  refine sx_seq (sx_asg (i := 5) ((px_call (x := t4) (outs := [.mk pool5]) (X := X) (pa_s (i := 0) rfl (by intro h_; cases h_) (pa_k ((px_int (n := 4))) pa_n)) (.m (by exact rfl) (by exact trivial) RdL.io (.k .nil)) (.m (.k .nil)) (by decide) ⟨pool2, (4 : Int), rfl, by rw [(opt_ok h6)]; rfl⟩)) (nx_of ?_))
  obtain ⟨used8, h12, hm⟩ := ob_ne hm hne
  refine sx_cut (E' := [.io q_pool (pool5 : (List Int)), .kp (ab : (Int × Int)), .kp (k : Int), .kp (hours : Int), .kp (used8 : (List Int)), .kp (t4 : Int), .un, .un]) (fun M_ hM9 => ?_) ?_
  · clear hm
    refine sx_if (pt_test (px_op ((px_v (i := 5) (by exact rfl))) ((px_int (n := 1))) r2_eq)) (fun e7 => ?_) (fun e7 => ?_)
    · have hm := (if_pos e7).symm.trans (opt_ok h12)
      obtain ⟨used10, h11, hm⟩ := elet_eq (v := ([] : (List Int))) hm
      try have hm := try_ok hm hT_
      have hm := R.ok.inj hm
      subst hm
      exact sx_asg (i := 4) ((PxN.pxA Int (pn_eq (pn_lst (xs := ([] : (List Int))) ps_nil (by decide)) h11))) (nx_le (LeE.cons .refl (LeE.cons .refl (LeE.cons .refl (LeE.cons .refl (LeE.cons .refl (LeE.cons .refl (LeE.cons .un (LeE.cons .un LeE.nil)))))))) hM9)
    · have hm := (if_neg (fun z_ => Bool.false_ne_true (e7.symm.trans z_))).symm.trans (opt_ok h12)
      try have hm := try_ok hm hT_
      have hm := R.ok.inj hm
      subst hm
      exact sx_next (nx_le (LeE.cons .refl (LeE.cons .refl (LeE.cons .refl (LeE.cons .refl (LeE.cons .refl (LeE.cons .refl (LeE.cons .un (LeE.cons .un LeE.nil)))))))) hM9)
  · obtain ⟨⟨pool14, used15⟩, h23, hm⟩ := ob_ne hm hne
    refine sx_cut (E' := [.io q_pool (pool14 : (List Int)), .kp (ab : (Int × Int)), .kp (k : Int), .kp (hours : Int), .kp (used15 : (List Int)), .kp (t4 : Int), .un, .un]) (fun M_ hM16 => ?_) ?_
    · clear hm
      refine sx_if (pt_and (pt_test (px_op ((px_v (i := 5) (by exact rfl))) ((px_int (n := 2))) r2_eq)) (fun _ => (pt_test (px_op ((px_len (pl_k (px_v (i := 4) (by exact rfl))) trivial)) ((px_int (n := 0))) r2_gt))) (fun _ => rfl)) (fun e13 => ?_) (fun e13 => ?_)
      · have hm := (if_pos e13).symm.trans (opt_ok h23)
        obtain ⟨⟨t17, pool18⟩, h19, hm⟩ := ob_ne hm ok_ne
        refine sx_seq (sx_asg (i := 6) ((px_call (x := t17) (outs := [.mk pool18]) (X := X) (pa_s (i := 0) rfl (by intro h_; cases h_) (pa_k ((px_len (pl_k (px_v (i := 4) (by exact rfl))) trivial)) pa_n)) (.m (by exact rfl) (by exact trivial) RdL.io (.k .nil)) (.m (.k .nil)) (by decide) ⟨pool5, (used8.length : Int), rfl, by rw [(opt_ok h19)]; rfl⟩)) (nx_of ?_))
        obtain ⟨g20, hm⟩ := gd_ne hm ok_ne
        obtain ⟨used21, h22, hm⟩ := elet_eq (v := (((cutL used8 none (some t17)) ++ (cutL used8 (some (t17 + (1 : Int))) none)) : (List Int))) hm
        try have hm := try_ok hm hT_
        have hm := R.ok.inj hm
        obtain ⟨hm_a0, hm_b0⟩ := Prod.mk.inj hm
        subst hm_a0
        subst hm_b0
        exact sx_asg (i := 4) ((PxN.pxA Int (pn_eq (pn_cat (pl_k ((PxN.pxA Int (pn_sl (pl_k (px_v (i := 4) (by exact rfl))) po_no (po_yes (px_v (i := 6) (by exact rfl))) trivial)))) (pl_k ((PxN.pxA Int (pn_sl (pl_k (px_v (i := 4) (by exact rfl))) (po_yes (px_op (px_v (i := 6) (by exact rfl)) (px_int (n := 1)) r2_add)) po_no trivial)))) trivial trivial g20) h22))) (nx_le (LeE.cons .refl (LeE.cons .refl (LeE.cons .refl (LeE.cons .refl (LeE.cons .refl (LeE.cons .refl (LeE.cons .un (LeE.cons .un LeE.nil)))))))) hM16)
      · have hm := (if_neg (fun z_ => Bool.false_ne_true (e13.symm.trans z_))).symm.trans (opt_ok h23)
        try have hm := try_ok hm hT_
        have hm := R.ok.inj hm
        obtain ⟨hm_a0, hm_b0⟩ := Prod.mk.inj hm
        subst hm_a0
        subst hm_b0
        exact sx_next (nx_le (LeE.cons .refl (LeE.cons .refl (LeE.cons .refl (LeE.cons .refl (LeE.cons .refl (LeE.cons .refl (LeE.cons .un (LeE.cons .un LeE.nil)))))))) hM16)
    · obtain ⟨⟨t24, pool25⟩, h26, hm⟩ := ob_ne hm hne
      obtain ⟨thick27, h28, hm⟩ := elet_eq (v := (((1 : Int) + t24) : Int)) hm
      refine sx_seq (sx_asg (i := 7) (px_eq ((px_op (px_int (n := 1)) (px_call (x := t24) (outs := [.mk pool25]) (X := X) (pa_s (i := 0) rfl (by intro h_; cases h_) (pa_k ((px_int (n := 4))) pa_n)) (.m (by exact rfl) (by exact trivial) RdL.io (.k .nil)) (.m (.k .nil)) (by decide) ⟨pool14, (4 : Int), rfl, by rw [(opt_ok h26)]; rfl⟩) r2_add)) h28) (nx_of ?_))
      obtain ⟨thick30, h34, hm⟩ := ob_ne hm hne
      refine sx_cut (E' := [.io q_pool (pool25 : (List Int)), .kp (ab : (Int × Int)), .kp (k : Int), .kp (hours : Int), .kp (used15 : (List Int)), .kp (t4 : Int), .un, .kp (thick30 : Int)]) (fun M_ hM31 => ?_) ?_
      · clear hm
        refine sx_if (pt_test (px_op ((px_v (i := 5) (by exact rfl))) ((px_int (n := 1))) r2_eq)) (fun e29 => ?_) (fun e29 => ?_)
        · have hm := (if_pos e29).symm.trans (opt_ok h34)
          obtain ⟨thick32, h33, hm⟩ := elet_eq (v := ((min (2 : Int) thick27) : Int)) hm
          try have hm := try_ok hm hT_
          have hm := R.ok.inj hm
          subst hm
          exact sx_asg (i := 7) (px_eq ((px_min2 (px_int (n := 2)) (px_v (i := 7) (by exact rfl)))) h33) (nx_le (LeE.cons .refl (LeE.cons .refl (LeE.cons .refl (LeE.cons .refl (LeE.cons .refl (LeE.cons .refl (LeE.cons .un (LeE.cons .refl LeE.nil)))))))) hM31)
        · have hm := (if_neg (fun z_ => Bool.false_ne_true (e29.symm.trans z_))).symm.trans (opt_ok h34)
          try have hm := try_ok hm hT_
          have hm := R.ok.inj hm
          subst hm
          exact sx_next (nx_le (LeE.cons .refl (LeE.cons .refl (LeE.cons .refl (LeE.cons .refl (LeE.cons .refl (LeE.cons .refl (LeE.cons .un (LeE.cons .refl LeE.nil)))))))) hM31)
      · obtain ⟨⟨t35, pool36⟩, h37, hm⟩ := ob_ne hm hne
        exact sx_ret' ((px_call (x := t35) (outs := [.mk pool36]) (X := X) (pa_s (i := 0) rfl (by intro h_; cases h_) (pa_k ((px_v (i := 4) (by exact rfl))) (pa_k ((px_v (i := 3) (by exact rfl))) (pa_k ((px_v (i := 7) (by exact rfl))) pa_n)))) (.m (by exact rfl) (by exact trivial) RdL.io (.k (.k (.k .nil)))) (.m (.k (.k (.k .nil)))) (by decide) ⟨pool25, used15, hours, thick30, rfl, by rw [(opt_ok h37)]; rfl⟩)) hps (.cons (i := 0) rfl .nil) (hret _ hm.symm)

def N__law_supports : List Str := ["ab", "signs", "prices", "k", "cost", "labels", "top", "ahead", "behind", "n", "extra", "h", "later"]
theorem sc__law_supports : FnScope N__law_supports ["ab", "signs", "prices", "k", "cost", "labels"] (defScope s__law_supports) := ⟨rfl, rfl, rfl, by decide +kernel, rfl, by decide +kernel, by decide +kernel⟩
def rel__law_supports (cs : List Ca) (o : Out) : Prop := ∃ (ab : (Int × Int)) (signs : Tx) (prices : (List Int)) (k : Int) (cost : Int) (labels : (T3 Int (List Int) (List Int))), cs = [.k ab, .k signs, .k prices, .k k, .k cost, .k labels] ∧ res0 (m_law_supports ab signs prices k cost labels) o
theorem ok__law_supports {g : Gx} {P : Program} {w : World} {mg : Str → Option Value} {base : Heap} {A : Ad} (T : Txt g mg A) : FnOk P w g.K mg base (L2.CX P w) 1 A.f__law_supports A.d__law_supports ["ab", "signs", "prices", "k", "cost", "labels"] (spOf g rel__law_supports) := by
  refine fn_go T.F__law_supports sc__law_supports (fun cs o h => by obtain ⟨_, _, _, _, _, _, rfl, _⟩ := h; rfl) (by decide) (fun cdv A_ outer s H X hr => ⟨_, (pss_cons (ps_asg (pv 5) (pg_tupK (K := g.K) (n := 3) rfl rfl (pgs_cons (pg_name (i := 6) sc__law_supports.nd rfl (by first | exact Or.inl rfl | exact Or.inr rfl)) (pgs_cons (pg_name (i := 7) sc__law_supports.nd rfl (by first | exact Or.inl rfl | exact Or.inr rfl)) (pgs_cons (pg_name (i := 8) sc__law_supports.nd rfl (by first | exact Or.inl rfl | exact Or.inr rfl)) pgs_nil)))))
 (pss_cons (ps_set (i := 9) sc__law_supports.nd rfl (by first | exact Or.inl rfl | exact Or.inr rfl) (pe_callB call_len_str (by rfl) T.no_len (by decide +kernel) (pa_cons (pv 1) pa_nil)))
 (pss_cons (ps_if (PW.pt (pw_or (pt_cmpR op_ne (pe_callB (call_len_seqK (K := g.K) rfl) (by rfl) T.no_len (by decide +kernel) (pa_cons (pv 7) pa_nil)) (pv 9) (nomark _)) (pw_or (pt_cmpR op_ne (pe_callB (call_len_seqK (K := g.K) rfl) (by rfl) T.no_len (by decide +kernel) (pa_cons (pv 8) pa_nil)) (pv 9) (nomark _)) (pw_or1 (pt_cmpR op_gt (pe_ix (ix_listK (K := g.K) rfl) (pv 8) pe_int (fun _ _ => rfl)) pe_int (nomark _)))))) (pss_one (ps_ret pe_bl)) pss_nil)
 (pss_cons (ps_set (i := 10) sc__law_supports.nd rfl (by first | exact Or.inl rfl | exact Or.inr rfl) pe_int)
 (pss_cons (ps_for (passes_of rfl) rfl (pi_range2 (by rfl) T.no_range (pa_cons pe_int (pa_cons (pe_op op_add (pv 9) pe_int) pa_nil))) (pg_name (i := 11) sc__law_supports.nd rfl (by first | exact Or.inl rfl | exact Or.inr rfl)) (pss_cons (ps_for (passes_of rfl) rfl (pi_range2 (by rfl) T.no_range (pa_cons (pe_op op_add (pv 11) (pe_ix (ix_tupK (K := g.K) rfl) (pv 0) pe_int (fun _ _ => rfl))) (pa_cons (pe_op op_add (pe_callB (call_min2 rfl) (by rfl) T.no_min (by decide +kernel) (pa_cons (pe_op op_add (pv 11) (pe_ix (ix_tupK (K := g.K) rfl) (pv 0) pe_int (fun _ _ => rfl))) (pa_cons (pv 9) pa_nil))) pe_int) pa_nil))) (pg_name (i := 12) sc__law_supports.nd rfl (by first | exact Or.inl rfl | exact Or.inr rfl)) (pss_one (ps_if (pt_cmpR op_gt (pe_ix (ix_listK (K := g.K) rfl) (pv 7) (pe_op op_sub (pv 12) pe_int) (fun _ _ => rfl)) (pe_ix (ix_listK (K := g.K) rfl) (pv 8) (pe_op op_sub (pv 11) pe_int) (fun _ _ => rfl)) (nomark _)) (pss_one (ps_ret pe_bl)) pss_nil)))
 (pss_cons (ps_if (PW.pt (pw_and (pt_cmpR op_gt (pe_op op_add (pv 11) (pe_ix (ix_tupK (K := g.K) rfl) (pv 0) pe_int (fun _ _ => rfl))) (pv 9) (nomark _)) (pw_and1 (pt_cmpR op_lt (pe_ix (ix_listK (K := g.K) rfl) (pv 8) (pe_op op_sub (pv 11) pe_int) (fun _ _ => rfl)) (pv 6) (nomark _))))) (pss_one (ps_ret pe_bl)) pss_nil)
 (pss_one (ps_if (pt_cmpR op_gt (pv 11) pe_int (nomark _)) (pss_one (ps_set (i := 10) sc__law_supports.nd rfl (by first | exact Or.inl rfl | exact Or.inr rfl) (pe_op op_add (pv 10) (pe_callB (call_max2 rfl) (by rfl) T.no_max (by decide +kernel) (pa_cons pe_int (pa_cons (pe_op op_sub (pe_op op_sub (pe_ix (ix_listK (K := g.K) rfl) (pv 8) (pe_op op_sub (pv 11) pe_int) (fun _ _ => rfl)) (pe_ix (ix_listK (K := g.K) rfl) (pv 7) (pe_op op_sub (pv 11) pe_int) (fun _ _ => rfl))) (pe_op op_mul (pe_callTy call_int1 (by rfl) T.no_int (by decide +kernel) (pa_cons (pe_cmpR op_eq (pe_ix ix_str (pv 1) (pe_op op_sub (pv 11) pe_int) (fun _ _ => rfl)) pe_str (nomark _)) pa_nil)) (pe_ix (ix_listK (K := g.K) rfl) (pv 2) (pe_op op_sub (pv 11) pe_int) (fun _ _ => rfl)))) pa_nil)))))) pss_nil)))))
 (pss_one (ps_ret (pe_cmpR op_ge (pe_op op_mul (pv 3) (pv 6)) (pe_op op_add (pv 4) (pv 10)) (nomark _))))))))), fun B qs cs o E D hps hrel hini hrt hx hfall => ?_⟩)
  obtain ⟨ab, signs, prices, k, cost, labels, rfl, hrel⟩ := hrel
  generalize hm : m_law_supports ab signs prices k cost labels = r at hrel
  obtain ⟨hne, hret, hex⟩ := res0_ne hrel
  clear hrel
  obtain ⟨E1, rfl, hini1⟩ := ini_k hini
  obtain ⟨E2, rfl, hini2⟩ := ini_k hini1
  obtain ⟨E3, rfl, hini3⟩ := ini_k hini2
  obtain ⟨E4, rfl, hini4⟩ := ini_k hini3
  obtain ⟨E5, rfl, hini5⟩ := ini_k hini4
  obtain ⟨E6, rfl, hini6⟩ := ini_k hini5
  obtain ⟨rfl, rfl⟩ := ini_nil hini6
  have hret := fun y_ h_ => (hret y_ h_ ▸ hrt : DRt g B D.rt _)
  have hex := fun c_ d_ h_ => hx c_ d_ (hex c_ d_ h_)
  unfold m_law_supports at hm
  show Sx g B [.kp (ab : (Int × Int)), .kp (signs : Tx), .kp (prices : (List Int)), .kp (k : Int), .kp (cost : Int), .kp (labels : (T3 Int (List Int) (List Int))), .un, .un, .un, .un, .un, .un, .un] _ _
  refine sx_seq (sx_asgT ((px_v (i := 5) (by exact rfl))) (tg_t) (nx_of ?_))
  obtain ⟨g1, hm⟩ := gd_ne hm hne
  obtain ⟨n2, h3, hm⟩ := elet_eq (v := ((signs.length : Int) : Int)) hm
  refine sx_seq (sx_asg (i := 9) (px_eq ((px_lenS (px_v (i := 1) (by exact rfl)) g1)) h3) (nx_of ?_))
  obtain ⟨c9, h10, hm⟩ := ob_ne hm hne
  refine sx_seq (sx_if (pt_orR (c := c9) (pt_test (px_op ((px_len (pl_k (px_v (i := 7) (by exact rfl))) trivial)) ((px_v (i := 9) (by exact rfl))) r2_ne)) (fun e11_ => by
    have e11 := (if_neg (fun z_ => Bool.false_ne_true (e11_.symm.trans z_))).symm.trans (opt_ok h10)
    obtain ⟨c6, h7, e11⟩ := ob_ne e11 ok_ne
    have e11 := R.ok.inj e11
    subst e11
    exact (pt_orR (c := c6) (pt_test (px_op ((px_len (pl_k (px_v (i := 8) (by exact rfl))) trivial)) ((px_v (i := 9) (by exact rfl))) r2_ne)) (fun e8_ => by
      have e8 := (if_neg (fun z_ => Bool.false_ne_true (e8_.symm.trans z_))).symm.trans (opt_ok h7)
      obtain ⟨t4, h5, e8⟩ := ob_ne e8 ok_ne
      have e8 := R.ok.inj e8
      subst e8
      exact (pt_test (px_op ((px_idx (pl_k (px_v (i := 8) (by exact rfl))) (px_int (n := 0)) trivial h5)) ((px_int (n := 0))) r2_gt))) (fun e8_ => by
      have e8 := (if_pos e8_).symm.trans (opt_ok h7)
      have e8 := R.ok.inj e8
      subst e8
      exact ⟨rfl, rfl⟩))) (fun e11_ => by
    have e11 := (if_pos e11_).symm.trans (opt_ok h10)
    have e11 := R.ok.inj e11
    subst e11
    exact ⟨rfl, rfl⟩)) (fun e12 => ?_) (fun e12 => ?_))
  · have hm := (if_pos e12).symm.trans hm
    exact sx_ret' (px_bl) hps .nil (hret _ hm.symm)
  · have hm := (if_neg (fun z_ => Bool.false_ne_true (e12.symm.trans z_))).symm.trans hm
    refine sx_next (nx_of ?_)
    refine sx_seq (sx_asg (i := 10) ((px_int (n := 0))) (nx_of ?_))
    obtain ⟨g13, hm⟩ := gd_ne hm hne
    obtain ⟨out_, hL_, hno_, hm⟩ := bind_split hm hne
    refine sx_seq (sx_for (s0 := (0 : Int)) (X := fun B_ c_ d_ => XkOk g B_ X c_ d_) (fin := (fun y_ => Out.ret y_ [])) (Ei := (fun (extra15 : Int) => [.kp (ab : (Int × Int)), .kp (signs : Tx), .kp (prices : (List Int)), .kp (k : Int), .kp (cost : Int), .kp (labels : (T3 Int (List Int) (List Int))), .kp (labels.a : Int), .kp (labels.b : (List Int)), .kp (labels.c : (List Int)), .kp (n2 : Int), .kp (extra15 : Int), .un, .un])) (fun _ _ _ _ n_ h_ => h_.nest n_) (sr_r2 (px_int (n := 1)) (px_op (px_v (i := 9) (by exact rfl)) (px_int (n := 1)) r2_add) (by decide) g13) (tg_n) (by exact (LeE.cons .refl (LeE.cons .refl (LeE.cons .refl (LeE.cons .refl (LeE.cons .refl (LeE.cons .refl (LeE.cons .refl (LeE.cons .refl (LeE.cons .refl (LeE.cons .refl (LeE.cons .refl (LeE.cons .un (LeE.cons .un LeE.nil)))))))))))))) hL_ hno_ (fun y_ h_ => hret _ (loop_ret h_ hm).symm) (fun c_ d_ h_ => hex c_ d_ (by rw [h_] at hm; exact hm.symm)) (fun B x14 extra15 r_ D hB_ hx_ hm hne hnx hct hbk hret hex => ?_) (fun extra43 hs_ => ?_))
    · have hps := hB_.1.trans hps
      show Sx g B [.kp (ab : (Int × Int)), .kp (signs : Tx), .kp (prices : (List Int)), .kp (k : Int), .kp (cost : Int), .kp (labels : (T3 Int (List Int) (List Int))), .kp (labels.a : Int), .kp (labels.b : (List Int)), .kp (labels.c : (List Int)), .kp (n2 : Int), .kp (extra15 : Int), .kp (x14 : Int), .un] _ _
      obtain ⟨g16, hm⟩ := gd_ne hm hne
      obtain ⟨g17, hm⟩ := gd_ne hm hne
      obtain ⟨out_, hL_, hno_, hm⟩ := bind_split hm hne
      refine sx_seq (sx_for (s0 := ()) (X := fun B_ c_ d_ => XkOk g B_ X c_ d_) (fin := (fun y_ => Out.ret y_ [])) (Ei := (fun (_ : Unit) => [.kp (ab : (Int × Int)), .kp (signs : Tx), .kp (prices : (List Int)), .kp (k : Int), .kp (cost : Int), .kp (labels : (T3 Int (List Int) (List Int))), .kp (labels.a : Int), .kp (labels.b : (List Int)), .kp (labels.c : (List Int)), .kp (n2 : Int), .kp (extra15 : Int), .kp (x14 : Int), .un])) (fun _ _ _ _ n_ h_ => h_.nest n_) (sr_r2 (px_op (px_v (i := 11) (by exact rfl)) (px_t0 (px_v (i := 0) (by exact rfl))) r2_add) (px_op (px_min2 (px_op (px_v (i := 11) (by exact rfl)) (px_t1 (px_v (i := 0) (by exact rfl))) r2_add) (px_v (i := 9) (by exact rfl))) (px_int (n := 1)) r2_add) g16 g17) (tg_n) (by exact (LeE.cons .refl (LeE.cons .refl (LeE.cons .refl (LeE.cons .refl (LeE.cons .refl (LeE.cons .refl (LeE.cons .refl (LeE.cons .refl (LeE.cons .refl (LeE.cons .refl (LeE.cons .refl (LeE.cons .refl (LeE.cons .un LeE.nil)))))))))))))) hL_ hno_ (fun y_ h_ => hret _ (loop_ret h_ hm).symm) (fun c_ d_ h_ => hex c_ d_ (by rw [h_] at hm; exact hm.symm)) (fun B x18 s_ r_ D hB_ hx_ hm hne hnx hct hbk hret hex => ?_) (fun s_ hs_ => ?_))
      · have hps := hB_.1.trans hps
        show Sx g B [.kp (ab : (Int × Int)), .kp (signs : Tx), .kp (prices : (List Int)), .kp (k : Int), .kp (cost : Int), .kp (labels : (T3 Int (List Int) (List Int))), .kp (labels.a : Int), .kp (labels.b : (List Int)), .kp (labels.c : (List Int)), .kp (n2 : Int), .kp (extra15 : Int), .kp (x14 : Int), .kp (x18 : Int)] _ _
        obtain ⟨t19, h20, hm⟩ := ob_ne hm hne
        obtain ⟨t21, h22, hm⟩ := ob_ne hm hne
        refine sx_if (pt_test (px_op ((px_idx (pl_k (px_v (i := 7) (by exact rfl))) (px_op (px_v (i := 12) (by exact rfl)) (px_int (n := 1)) r2_sub) trivial h20)) ((px_idx (pl_k (px_v (i := 8) (by exact rfl))) (px_op (px_v (i := 11) (by exact rfl)) (px_int (n := 1)) r2_sub) trivial h22)) r2_gt)) (fun e23 => ?_) (fun e23 => ?_)
        · have hm := (if_pos e23).symm.trans hm
          exact sx_ret' (px_bl) hps .nil (hret _ hm.symm)
        · have hm := (if_neg (fun z_ => Bool.false_ne_true (e23.symm.trans z_))).symm.trans hm
          exact sx_next (nx_le (LeE.cons .refl (LeE.cons .refl (LeE.cons .refl (LeE.cons .refl (LeE.cons .refl (LeE.cons .refl (LeE.cons .refl (LeE.cons .refl (LeE.cons .refl (LeE.cons .refl (LeE.cons .refl (LeE.cons .refl (LeE.cons .un LeE.nil))))))))))))) (hnx _ hm.symm))
      · have hm := loop_go hs_ hm
        clear hs_ hL_ hno_
        obtain _ := s_
        refine nx_of ?_
        show Sx g B [.kp (ab : (Int × Int)), .kp (signs : Tx), .kp (prices : (List Int)), .kp (k : Int), .kp (cost : Int), .kp (labels : (T3 Int (List Int) (List Int))), .kp (labels.a : Int), .kp (labels.b : (List Int)), .kp (labels.c : (List Int)), .kp (n2 : Int), .kp (extra15 : Int), .kp (x14 : Int), .un] _ _
        obtain ⟨c26, h27, hm⟩ := ob_ne hm hne
        refine sx_seq (sx_if (pt_andR (c := c26) (pt_test (px_op ((px_op (px_v (i := 11) (by exact rfl)) (px_t1 (px_v (i := 0) (by exact rfl))) r2_add)) ((px_v (i := 9) (by exact rfl))) r2_gt)) (fun e28_ => by
          have e28 := (if_pos e28_).symm.trans (opt_ok h27)
          obtain ⟨t24, h25, e28⟩ := ob_ne e28 ok_ne
          have e28 := R.ok.inj e28
          subst e28
          exact (pt_test (px_op ((px_idx (pl_k (px_v (i := 8) (by exact rfl))) (px_op (px_v (i := 11) (by exact rfl)) (px_int (n := 1)) r2_sub) trivial h25)) ((px_v (i := 6) (by exact rfl))) r2_lt))) (fun e28_ => by
          have e28 := (if_neg (fun z_ => Bool.false_ne_true (e28_.symm.trans z_))).symm.trans (opt_ok h27)
          have e28 := R.ok.inj e28
          subst e28
          exact ⟨rfl, rfl⟩)) (fun e29 => ?_) (fun e29 => ?_))
        · have hm := (if_pos e29).symm.trans hm
          exact sx_ret' (px_bl) hps .nil (hret _ hm.symm)
        · have hm := (if_neg (fun z_ => Bool.false_ne_true (e29.symm.trans z_))).symm.trans hm
          refine sx_next (nx_of ?_)
          refine sx_if (pt_test (px_op ((px_v (i := 11) (by exact rfl))) ((px_int (n := 1))) r2_gt)) (fun e30 => ?_) (fun e30 => ?_)
          · have hm := (if_pos e30).symm.trans hm
            obtain ⟨t31, h32, hm⟩ := ob_ne hm hne
            obtain ⟨t33, h34, hm⟩ := ob_ne hm hne
            obtain ⟨g35, hm⟩ := gd_ne hm hne
            obtain ⟨t36, h37, hm⟩ := ob_ne hm hne
            obtain ⟨t38, h39, hm⟩ := ob_ne hm hne
            obtain ⟨g40, hm⟩ := gd_ne hm hne
            obtain ⟨extra41, h42, hm⟩ := elet_eq (v := ((extra15 + (max (0 : Int) ((t31 - t33) - ((if (decide (([t36] : Tx) = ([35] : Tx))) = true then (1 : Int) else 0) * t38)))) : Int)) hm
            exact sx_asg (i := 10) (px_eq ((px_op (px_v (i := 10) (by exact rfl)) (px_max2 (px_int (n := 0)) (px_op (px_op (px_idx (pl_k (px_v (i := 8) (by exact rfl))) (px_op (px_v (i := 11) (by exact rfl)) (px_int (n := 1)) r2_sub) trivial h32) (px_idx (pl_k (px_v (i := 7) (by exact rfl))) (px_op (px_v (i := 11) (by exact rfl)) (px_int (n := 1)) r2_sub) trivial h34) r2_sub) (px_op (px_intB (px_op ((px_idxS (px_v (i := 1) (by exact rfl)) (px_op (px_v (i := 11) (by exact rfl)) (px_int (n := 1)) r2_sub) g35 h37)) ((px_str (t := ([35] : Tx)) rfl)) r2_eq)) (px_idx (pl_k (px_v (i := 2) (by exact rfl))) (px_op (px_v (i := 11) (by exact rfl)) (px_int (n := 1)) r2_sub) trivial h39) (r2_mul g40)) r2_sub)) r2_add)) h42) (nx_le (LeE.cons .refl (LeE.cons .refl (LeE.cons .refl (LeE.cons .refl (LeE.cons .refl (LeE.cons .refl (LeE.cons .refl (LeE.cons .refl (LeE.cons .refl (LeE.cons .refl (LeE.cons .refl (LeE.cons .un (LeE.cons .un LeE.nil))))))))))))) (hnx _ hm.symm))
          · have hm := (if_neg (fun z_ => Bool.false_ne_true (e30.symm.trans z_))).symm.trans hm
            exact sx_next (nx_le (LeE.cons .refl (LeE.cons .refl (LeE.cons .refl (LeE.cons .refl (LeE.cons .refl (LeE.cons .refl (LeE.cons .refl (LeE.cons .refl (LeE.cons .refl (LeE.cons .refl (LeE.cons .refl (LeE.cons .un (LeE.cons .un LeE.nil))))))))))))) (hnx _ hm.symm))
    · have hm := loop_go hs_ hm
      clear hs_ hL_ hno_
      refine nx_of ?_
      show Sx g B [.kp (ab : (Int × Int)), .kp (signs : Tx), .kp (prices : (List Int)), .kp (k : Int), .kp (cost : Int), .kp (labels : (T3 Int (List Int) (List Int))), .kp (labels.a : Int), .kp (labels.b : (List Int)), .kp (labels.c : (List Int)), .kp (n2 : Int), .kp (extra43 : Int), .un, .un] _ _
      obtain ⟨g44, hm⟩ := gd_ne hm hne
      exact sx_ret' ((px_op ((px_op (px_v (i := 3) (by exact rfl)) (px_v (i := 6) (by exact rfl)) (r2_mul g44))) ((px_op (px_v (i := 4) (by exact rfl)) (px_v (i := 10) (by exact rfl)) r2_add)) r2_ge)) hps .nil (hret _ hm.symm)

def N__law_prices : List Str := ["pool", "n", "most", "least", "k"]
theorem sc__law_prices : FnScope N__law_prices ["pool", "n"] (defScope s__law_prices) := ⟨rfl, rfl, rfl, by decide +kernel, rfl, by decide +kernel, by decide +kernel⟩
def rel__law_prices (cs : List Ca) (o : Out) : Prop := ∃ (pool : (List Int)) (n : Int), cs = [.m pool, .k n] ∧ res1 (m_law_prices pool n) o
theorem ok__law_prices {g : Gx} {P : Program} {w : World} {mg : Str → Option Value} {base : Heap} {A : Ad} (T : Txt g mg A) : FnOk P w g.K mg base (L2.CX P w) 2 A.f__law_prices A.d__law_prices ["pool", "n"] (spOf g rel__law_prices) := by
  refine fn_go T.F__law_prices sc__law_prices (fun cs o h => by obtain ⟨_, _, rfl, _⟩ := h; rfl) (by decide) (fun cdv A_ outer s H X hr => ⟨_, (pss_cons (ps_set (i := 2) sc__law_prices.nd rfl (by first | exact Or.inl rfl | exact Or.inr rfl) (pe_ix (ix_listK (K := g.K) rfl) (pe_lst (pa_cons pe_int (pa_cons pe_int (pa_cons pe_int (pa_cons pe_int pa_nil))))) (pe_call (ok__law_take T) (hr.mono (by decide)) (by rfl) T.mg__law_take T.kp__law_take T.b__law_take .nil (passes_call (takes_of rfl rfl rfl rfl) (fun _ _ _ _ h_ => h_)) (pa_cons (pv 0) (pa_cons pe_int pa_nil))) (fun _ _ => rfl)))
 (pss_cons (ps_set (i := 3) sc__law_prices.nd rfl (by first | exact Or.inl rfl | exact Or.inr rfl) (pe_call (ok__law_take T) (hr.mono (by decide)) (by rfl) T.mg__law_take T.kp__law_take T.b__law_take .nil (passes_call (takes_of rfl rfl rfl rfl) (fun _ _ _ _ h_ => h_)) (pa_cons (pv 0) (pa_cons pe_int pa_nil))))
 (pss_one (ps_ret (pe_lc (own := [("k", 4)]) (by rfl) sc__law_prices.nd (pi_range1 (by rfl) T.no_range (pa_cons (pv 1) pa_nil)) (blkOk_by (own := [("k", 4)]) (N := N__law_prices) (sc := defScope s__law_prices) (by decide +kernel)) (fun _ _ _ _ _ => (pg_name (i := 4) sc__law_prices.nd rfl (by first | exact Or.inl rfl | exact Or.inr rfl))) (fun _ _ _ _ _ => pts_nil) (fun _ _ _ _ _ => (pe_op op_add (pv 3) (pe_call (ok__law_take T) (hr.mono (by decide)) (by rfl) T.mg__law_take T.kp__law_take T.b__law_take .nil passL (pa_cons (pv 0) (pa_cons (pe_op op_sub (pv 2) (pv 3)) pa_nil)))))))))), fun B qs cs o E D hps hrel hini hrt hx hfall => ?_⟩)
  obtain ⟨pool, n, rfl, hrel⟩ := hrel
  generalize hm : m_law_prices pool n = r at hrel
  obtain ⟨hne, hret, hex⟩ := res1_ne hrel
  clear hrel
  obtain ⟨q_pool, qs1, E1, rfl, rfl, hini1⟩ := ini_m hini
  obtain ⟨E2, rfl, hini2⟩ := ini_k hini1
  obtain ⟨rfl, rfl⟩ := ini_nil hini2
  have hret := fun y_ h_ => (hret y_ h_ ▸ hrt : DRt g B D.rt _)
  have hex := fun c_ d_ h_ => hx c_ d_ (hex c_ d_ h_)
  unfold m_law_prices at hm
  show Sx g B [.io q_pool (pool : (List Int)), .kp (n : Int), .un, .un, .un] _ _
  obtain ⟨⟨t1, pool2⟩, h3, hm⟩ := ob_ne hm hne
  obtain ⟨t4, h5, hm⟩ := ob_ne hm hne
  refine sx_seq (sx_asg (i := 2) ((px_idx (pl_k ((PxN.pxA Int (pn_lst (ps_cons ((px_int (n := 2))) (ps_cons ((px_int (n := 4))) (ps_cons ((px_int (n := 10))) (ps_cons ((px_int (n := 1001))) ps_nil)))) (by simp only [List.length_cons, List.length_nil]; decide))))) (px_call (x := t1) (outs := [.mk pool2]) (X := X) (pa_s (i := 0) rfl (by intro h_; cases h_) (pa_k ((px_int (n := 4))) pa_n)) (.m (by exact rfl) (by exact trivial) RdL.io (.k .nil)) (.m (.k .nil)) (by decide) ⟨pool, (4 : Int), rfl, by rw [(opt_ok h3)]; rfl⟩) trivial h5)) (nx_of ?_))
  obtain ⟨⟨t6, pool7⟩, h8, hm⟩ := ob_ne hm hne
  refine sx_seq (sx_asg (i := 3) ((px_call (x := t6) (outs := [.mk pool7]) (X := X) (pa_s (i := 0) rfl (by intro h_; cases h_) (pa_k ((px_int (n := 2))) pa_n)) (.m (by exact rfl) (by exact trivial) RdL.io (.k .nil)) (.m (.k .nil)) (by decide) ⟨pool2, (2 : Int), rfl, by rw [(opt_ok h8)]; rfl⟩)) (nx_of ?_))
  obtain ⟨g9, hm⟩ := gd_ne hm hne
  obtain ⟨g14, hm⟩ := gd_ne hm hne
  obtain ⟨⟨ys15, pool21⟩, h16, hm⟩ := ob_ne hm hne
  exact sx_ret' ((PxN.pxA Int (pn_comp (Es := (fun (pool17 : (List Int)) => [.io q_pool (pool17 : (List Int)), .kp (n : Int), .kp (t4 : Int), .kp (t6 : Int), .un])) (sr_r1 (px_v (i := 1) (by exact rfl)) g9) (tc_n (by decide)) (opt_ok h16) g14 (fun _ => rfl) (fun s_ => (by exact same1 ⟨rfl, nown rfl (fun z_ => z_)⟩)) (fun B_ x10 pool17 r22 n_ hx_ e23 => by
      obtain ⟨⟨t18, pool19⟩, h20, e23⟩ := ob_ne e23 ok_ne
      have e23 := R.ok.inj e23
      subst e23
      exact ⟨true, _, pt_yes, (fun _ => ⟨_, _, rfl, (px_op (px_v (i := 3) (by exact rfl)) (px_call (x := t18) (outs := [.mk pool19]) (X := E0) (pa_s (i := 0) rfl (by intro h_; cases h_) (pa_k ((px_op (px_v (i := 2) (by exact rfl)) (px_v (i := 3) (by exact rfl)) r2_sub)) pa_n)) (.m (by exact rfl) (by exact trivial) RdL.io (.k .nil)) (.m (.k .nil)) (by decide) ⟨pool17, (t4 - t6), rfl, by rw [(opt_ok h20)]; rfl⟩) r2_add), (LeE.cons .refl (LeE.cons .refl (LeE.cons .refl (LeE.cons .refl (LeE.cons .un LeE.nil)))))⟩), (fun h_ => nomatch h_)⟩)))) hps (.cons (i := 0) rfl .nil) (hret _ hm.symm)

def N__law_made : List Str := ["pool", "ab", "n", "most", "way", "behind", "k", "ahead", "before", "j"]
theorem sc__law_made : FnScope N__law_made ["pool", "ab", "n", "most"] (defScope s__law_made) := ⟨rfl, rfl, rfl, by decide +kernel, rfl, by decide +kernel, by decide +kernel⟩
def rel__law_made (cs : List Ca) (o : Out) : Prop := ∃ (pool : (List Int)) (ab : (Int × Int)) (n : Int) (most : Int), cs = [.m pool, .k ab, .k n, .k most] ∧ res1 (m_law_made pool ab n most) o
theorem ok__law_made {g : Gx} {P : Program} {w : World} {mg : Str → Option Value} {base : Heap} {A : Ad} (T : Txt g mg A) : FnOk P w g.K mg base (L2.CX P w) 2 A.f__law_made A.d__law_made ["pool", "ab", "n", "most"] (spOf g rel__law_made) := by
  refine fn_go T.F__law_made sc__law_made (fun cs o h => by obtain ⟨_, _, _, _, rfl, _⟩ := h; rfl) (by decide) (fun cdv A_ outer s H X hr => ⟨_, (pss_cons (ps_set (i := 4) sc__law_made.nd rfl (by first | exact Or.inl rfl | exact Or.inr rfl) (pe_call (ok__law_take T) (hr.mono (by decide)) (by rfl) T.mg__law_take T.kp__law_take T.b__law_take .nil (passes_call (takes_of rfl rfl rfl rfl) (fun _ _ _ _ h_ => h_)) (pa_cons (pv 0) (pa_cons pe_int pa_nil))))
 (pss_cons (ps_set (i := 5) sc__law_made.nd rfl (by first | exact Or.inl rfl | exact Or.inr rfl) (pe_lst (pa_cons (pe_op op_sub pe_int (pe_call (ok__law_take T) (hr.mono (by decide)) (by rfl) T.mg__law_take T.kp__law_take T.b__law_take .nil (passes_call (takes_of rfl rfl rfl rfl) (fun _ _ _ _ h_ => h_)) (pa_cons (pv 0) (pa_cons pe_int pa_nil)))) pa_nil)))
 (pss_cons (ps_for (passes_of rfl) rfl (pi_range2 (by rfl) T.no_range (pa_cons pe_int (pa_cons (pv 2) pa_nil))) (pg_name (i := 6) sc__law_made.nd rfl (by first | exact Or.inl rfl | exact Or.inr rfl)) (pss_one (ps_if (pt_cmpR op_eq (pv 4) pe_int (nomark _)) (pss_one (ps_expr (pe_bm PySem.F.plainAttrs_list PySem.F.slot_list_append PySem.F.type_list_append mt_append (pv 5) (pa_cons (pe_op op_add (pe_ix (ix_listK (K := g.K) rfl) (pv 5) (pe_un un_neg pe_int) (fun _ _ => rfl)) (pe_call (ok__law_take T) (hr.mono (by decide)) (by rfl) T.mg__law_take T.kp__law_take T.b__law_take .nil (passes_call (takes_of rfl rfl rfl rfl) (fun _ _ _ _ h_ => h_)) (pa_cons (pv 0) (pa_cons pe_int pa_nil)))) pa_nil)))) (pss_one (ps_if (pt_cmpR op_eq (pv 4) pe_int (nomark _)) (pss_one (ps_expr (pe_bm PySem.F.plainAttrs_list PySem.F.slot_list_append PySem.F.type_list_append mt_append (pv 5) (pa_cons (pe_call (ok__law_take T) (hr.mono (by decide)) (by rfl) T.mg__law_take T.kp__law_take T.b__law_take .nil (passes_call (takes_of rfl rfl rfl rfl) (fun _ _ _ _ h_ => h_)) (pa_cons (pv 0) (pa_cons (pe_op op_add (pv 3) pe_int) pa_nil))) pa_nil)))) (pss_one (ps_expr (pe_bm PySem.F.plainAttrs_list PySem.F.slot_list_append PySem.F.type_list_append mt_append (pv 5) (pa_cons (pe_op op_sub (pe_callB (call_min2 rfl) (by rfl) T.no_min (by decide +kernel) (pa_cons (pv 3) (pa_cons (pv 6) pa_nil))) (pe_call (ok__law_take T) (hr.mono (by decide)) (by rfl) T.mg__law_take T.kp__law_take T.b__law_take .nil (passes_call (takes_of rfl rfl rfl rfl) (fun _ _ _ _ h_ => h_)) (pa_cons (pv 0) (pa_cons pe_int pa_nil)))) pa_nil)))))))))
 (pss_cons (ps_set (i := 7) sc__law_made.nd rfl (by first | exact Or.inl rfl | exact Or.inr rfl) (pe_lst pa_nil))
 (pss_cons (ps_for (passes_of rfl) rfl (pi_range1 (by rfl) T.no_range (pa_cons (pv 2) pa_nil)) (pg_name (i := 6) sc__law_made.nd rfl (by first | exact Or.inl rfl | exact Or.inr rfl)) (pss_cons (ps_setLc (i := 8) (own := [("j", 9)]) (by rfl) sc__law_made.nd rfl rfl (sw_true rfl rfl rfl (by decide +kernel)) (pi_range2 (by rfl) T.no_range (pa_cons (pe_callB (call_max2 rfl) (by rfl) T.no_max (by decide +kernel) (pa_cons pe_int (pa_cons (pe_op op_sub (pv 6) (pe_ix (ix_tupK (K := g.K) rfl) (pv 1) pe_int (fun _ _ => rfl))) pa_nil))) (pa_cons (pe_callB (call_max2 rfl) (by rfl) T.no_max (by decide +kernel) (pa_cons pe_int (pa_cons (pe_op op_add (pe_op op_sub (pv 6) (pe_ix (ix_tupK (K := g.K) rfl) (pv 1) pe_int (fun _ _ => rfl))) pe_int) pa_nil))) pa_nil))) (blkOk_by (own := [("j", 9)]) (N := N__law_made) (sc := defScope s__law_made) (by decide +kernel)) (fun _ _ _ _ _ => (pg_name (i := 9) sc__law_made.nd rfl (by first | exact Or.inl rfl | exact Or.inr rfl))) (fun _ _ _ _ _ => pts_nil) (fun _ _ _ _ _ => (pe_ix (ix_listK (K := g.K) rfl) (pv 5) (pv 9) (fun _ _ => rfl))))
 (pss_one (ps_if (pt_cmpR op_eq (pe_callB (call_len_seqK (K := g.K) rfl) (by rfl) T.no_len (by decide +kernel) (pa_cons (pv 8) pa_nil)) pe_int (nomark _)) (pss_one (ps_expr (pe_bm PySem.F.plainAttrs_list PySem.F.slot_list_append PySem.F.type_list_append mt_append (pv 7) (pa_cons (pe_ix (ix_listK (K := g.K) rfl) (pv 5) (pv 6) (fun _ _ => rfl)) pa_nil)))) (pss_one (ps_expr (pe_bm PySem.F.plainAttrs_list PySem.F.slot_list_append PySem.F.type_list_append mt_append (pv 7) (pa_cons (pe_op op_sub (pe_callB (cr_minK (K := g.K) rfl rfl) (by rfl) T.no_min (by decide +kernel) (pa_cons (pv 8) pa_nil)) (pe_callTy call_int1 (by rfl) T.no_int (by decide +kernel) (pa_cons (pe_cmpR op_eq (pe_call (ok__law_take T) (hr.mono (by decide)) (by rfl) T.mg__law_take T.kp__law_take T.b__law_take .nil (passes_call (takes_of rfl rfl rfl rfl) (fun _ _ _ _ h_ => h_)) (pa_cons (pv 0) (pa_cons pe_int pa_nil))) pe_int (nomark _)) pa_nil))) pa_nil))))))))
 (pss_one (ps_ret (pe_tup (pa_cons (pe_callB (cr_minK (K := g.K) rfl rfl) (by rfl) T.no_min (by decide +kernel) (pa_cons (pe_slice (sl_listK (K := g.K) rfl) (pv 5) (po_some (pe_callB (call_max2 rfl) (by rfl) T.no_max (by decide +kernel) (pa_cons pe_int (pa_cons (pe_op op_sub (pv 2) (pe_ix (ix_tupK (K := g.K) rfl) (pv 1) pe_int (fun _ _ => rfl))) pa_nil)))) po_none) pa_nil)) (pa_cons (pv 7) (pa_cons (pv 5) pa_nil))))))))))), fun B qs cs o E D hps hrel hini hrt hx hfall => ?_⟩)
  obtain ⟨pool, ab, n, most, rfl, hrel⟩ := hrel
  generalize hm : m_law_made pool ab n most = r at hrel
  obtain ⟨hne, hret, hex⟩ := res1_ne hrel
  clear hrel
  obtain ⟨q_pool, qs1, E1, rfl, rfl, hini1⟩ := ini_m hini
  obtain ⟨E2, rfl, hini2⟩ := ini_k hini1
  obtain ⟨E3, rfl, hini3⟩ := ini_k hini2
  obtain ⟨E4, rfl, hini4⟩ := ini_k hini3
  obtain ⟨rfl, rfl⟩ := ini_nil hini4
  have hret := fun y_ h_ => (hret y_ h_ ▸ hrt : DRt g B D.rt _)
  have hex := fun c_ d_ h_ => hx c_ d_ (hex c_ d_ h_)
  unfold m_law_made at hm
  show Sx g B [.io q_pool (pool : (List Int)), .kp (ab : (Int × Int)), .kp (n : Int), .kp (most : Int), .un, .un, .un, .un, .un, .un] _ _
  obtain ⟨⟨t1, pool2⟩, h3, hm⟩ := ob_ne hm hne
  refine sx_seq (sx_asg (i := 4) ((px_call (x := t1) (outs := [.mk pool2]) (X := X) (pa_s (i := 0) rfl (by intro h_; cases h_) (pa_k ((px_int (n := 3))) pa_n)) (.m (by exact rfl) (by exact trivial) RdL.io (.k .nil)) (.m (.k .nil)) (by decide) ⟨pool, (3 : Int), rfl, by rw [(opt_ok h3)]; rfl⟩)) (nx_of ?_))
  obtain ⟨⟨t4, pool5⟩, h6, hm⟩ := ob_ne hm hne
  obtain ⟨behind7, h8, hm⟩ := elet_eq (v := ([((0 : Int) - t4)] : (List Int))) hm
  refine sx_seq (sx_asgO (i := 5) (pn_eq (pn_lst (ps_cons ((px_op (px_int (n := 0)) (px_call (x := t4) (outs := [.mk pool5]) (X := X) (pa_s (i := 0) rfl (by intro h_; cases h_) (pa_k ((px_int (n := 2))) pa_n)) (.m (by exact rfl) (by exact trivial) RdL.io (.k .nil)) (.m (.k .nil)) (by decide) ⟨pool2, (2 : Int), rfl, by rw [(opt_ok h6)]; rfl⟩) r2_sub)) ps_nil) (by simp only [List.length_cons, List.length_nil]; decide)) h8) (nx_of ?_))
  obtain ⟨g9, hm⟩ := gd_ne hm hne
  obtain ⟨out_, hL_, hno_, hm⟩ := bind_split hm hne
  refine sx_seq (sx_fold (s0 := (pool5, behind7)) (X := fun B_ c_ d_ => XkOk g B_ X c_ d_) (Ei := (fun ((pool11, behind12) : (List Int) × (List Int)) => [.io q_pool (pool11 : (List Int)), .kp (ab : (Int × Int)), .kp (n : Int), .kp (most : Int), .kp (t1 : Int), .ow (behind12 : (List Int)), .un, .un, .un, .un])) (fun _ _ _ _ n_ h_ => h_.nest n_) (sr_r2 (px_int (n := 1)) (px_v (i := 2) (by exact rfl)) (by decide) g9) (tg_n) (by exact (LeE.cons .refl (LeE.cons .refl (LeE.cons .refl (LeE.cons .refl (LeE.cons .refl (LeE.cons .refl (LeE.cons .un (LeE.cons .un (LeE.cons .un (LeE.cons .un LeE.nil))))))))))) hL_ hno_ (fun c_ d_ h_ => hex c_ d_ (by rw [h_] at hm; exact hm.symm)) (fun B x10 s_ r_ D hB_ hx_ hm hne hnx hct hex => ?_) (fun s_ hs_ => ?_))
  · obtain ⟨pool11, behind12⟩ := s_
    have hps := hB_.1.trans hps
    show Sx g B [.io q_pool (pool11 : (List Int)), .kp (ab : (Int × Int)), .kp (n : Int), .kp (most : Int), .kp (t1 : Int), .ow (behind12 : (List Int)), .kp (x10 : Int), .un, .un, .un] _ _
    refine sx_if (pt_test (px_op ((px_v (i := 4) (by exact rfl))) ((px_int (n := 0))) r2_eq)) (fun e13 => ?_) (fun e13 => ?_)
    · have hm := (if_pos e13).symm.trans hm
      obtain ⟨t14, h15, hm⟩ := ob_ne hm hne
      obtain ⟨⟨t16, pool17⟩, h18, hm⟩ := ob_ne hm hne
      obtain ⟨g19, hm⟩ := gd_ne hm hne
      exact sx_append (i := 5) rfl ((px_op (px_idx (pl_s (i := 5) (by exact rfl) RdL.ow) (px_un (px_int (n := 1)) r1_neg) rfl h15) (px_call (x := t16) (outs := [.mk pool17]) (X := X) (pa_s (i := 0) rfl (by intro h_; cases h_) (pa_k ((px_int (n := 3))) pa_n)) (.m (by exact rfl) (by exact trivial) RdL.io (.k .nil)) (.m (.k .nil)) (by decide) ⟨pool11, (3 : Int), rfl, by rw [(opt_ok h18)]; rfl⟩) r2_add)) rfl trivial RdL.ow g19 (nx_le (LeE.cons .refl (LeE.cons .refl (LeE.cons .refl (LeE.cons .refl (LeE.cons .refl (LeE.cons .refl (LeE.cons .un (LeE.cons .un (LeE.cons .un (LeE.cons .un LeE.nil)))))))))) (hnx _ hm.symm))
    · have hm := (if_neg (fun z_ => Bool.false_ne_true (e13.symm.trans z_))).symm.trans hm
      refine sx_if (pt_test (px_op ((px_v (i := 4) (by exact rfl))) ((px_int (n := 1))) r2_eq)) (fun e20 => ?_) (fun e20 => ?_)
      · have hm := (if_pos e20).symm.trans hm
        obtain ⟨⟨t21, pool22⟩, h23, hm⟩ := ob_ne hm hne
        obtain ⟨g24, hm⟩ := gd_ne hm hne
        exact sx_append (i := 5) rfl ((px_call (x := t21) (outs := [.mk pool22]) (X := X) (pa_s (i := 0) rfl (by intro h_; cases h_) (pa_k ((px_op (px_v (i := 3) (by exact rfl)) (px_int (n := 1)) r2_add)) pa_n)) (.m (by exact rfl) (by exact trivial) RdL.io (.k .nil)) (.m (.k .nil)) (by decide) ⟨pool11, (most + (1 : Int)), rfl, by rw [(opt_ok h23)]; rfl⟩)) rfl trivial RdL.ow g24 (nx_le (LeE.cons .refl (LeE.cons .refl (LeE.cons .refl (LeE.cons .refl (LeE.cons .refl (LeE.cons .refl (LeE.cons .un (LeE.cons .un (LeE.cons .un (LeE.cons .un LeE.nil)))))))))) (hnx _ hm.symm))
      · have hm := (if_neg (fun z_ => Bool.false_ne_true (e20.symm.trans z_))).symm.trans hm
        obtain ⟨⟨t25, pool26⟩, h27, hm⟩ := ob_ne hm hne
        obtain ⟨g28, hm⟩ := gd_ne hm hne
        exact sx_append (i := 5) rfl ((px_op (px_min2 (px_v (i := 3) (by exact rfl)) (px_v (i := 6) (by exact rfl))) (px_call (x := t25) (outs := [.mk pool26]) (X := X) (pa_s (i := 0) rfl (by intro h_; cases h_) (pa_k ((px_int (n := 3))) pa_n)) (.m (by exact rfl) (by exact trivial) RdL.io (.k .nil)) (.m (.k .nil)) (by decide) ⟨pool11, (3 : Int), rfl, by rw [(opt_ok h27)]; rfl⟩) r2_sub)) rfl trivial RdL.ow g28 (nx_le (LeE.cons .refl (LeE.cons .refl (LeE.cons .refl (LeE.cons .refl (LeE.cons .refl (LeE.cons .refl (LeE.cons .un (LeE.cons .un (LeE.cons .un (LeE.cons .un LeE.nil)))))))))) (hnx _ hm.symm))
  · rw [hs_] at hm
    clear hs_ hL_ hno_
    obtain ⟨pool29, behind30⟩ := s_
    replace hm := rbind_ok hm
    refine nx_of ?_
    show Sx g B [.io q_pool (pool29 : (List Int)), .kp (ab : (Int × Int)), .kp (n : Int), .kp (most : Int), .kp (t1 : Int), .ow (behind30 : (List Int)), .un, .un, .un, .un] _ _
    obtain ⟨ahead31, h32, hm⟩ := elet_eq (v := ([] : (List Int))) hm
    refine sx_seq (sx_asgO (i := 7) (pn_eq (pn_lst (xs := ([] : (List Int))) ps_nil (by decide)) h32) (nx_of ?_))
    obtain ⟨g33, hm⟩ := gd_ne hm hne
    obtain ⟨out_, hL_, hno_, hm⟩ := bind_split hm hne
    refine sx_seq (sx_fold (s0 := (pool29, ahead31)) (X := fun B_ c_ d_ => XkOk g B_ X c_ d_) (Ei := (fun ((pool35, ahead36) : (List Int) × (List Int)) => [.io q_pool (pool35 : (List Int)), .kp (ab : (Int × Int)), .kp (n : Int), .kp (most : Int), .kp (t1 : Int), .ow (behind30 : (List Int)), .un, .ow (ahead36 : (List Int)), .un, .un])) (fun _ _ _ _ n_ h_ => h_.nest n_) (sr_r1 (px_v (i := 2) (by exact rfl)) g33) (tg_n) (by exact (LeE.cons .refl (LeE.cons .refl (LeE.cons .refl (LeE.cons .refl (LeE.cons .refl (LeE.cons .refl (LeE.cons .un (LeE.cons .refl (LeE.cons .un (LeE.cons .un LeE.nil))))))))))) hL_ hno_ (fun c_ d_ h_ => hex c_ d_ (by rw [h_] at hm; exact hm.symm)) (fun B x34 s_ r_ D hB_ hx_ hm hne hnx hct hex => ?_) (fun s_ hs_ => ?_))
    · obtain ⟨pool35, ahead36⟩ := s_
      have hps := hB_.1.trans hps
      show Sx g B [.io q_pool (pool35 : (List Int)), .kp (ab : (Int × Int)), .kp (n : Int), .kp (most : Int), .kp (t1 : Int), .ow (behind30 : (List Int)), .kp (x34 : Int), .ow (ahead36 : (List Int)), .un, .un] _ _
      obtain ⟨g37, hm⟩ := gd_ne hm hne
      obtain ⟨g38, hm⟩ := gd_ne hm hne
      obtain ⟨g42, hm⟩ := gd_ne hm hne
      obtain ⟨ys43, h44, hm⟩ := ob_ne hm hne
      refine sx_seq (sx_asg (i := 8) ((PxN.pxA Int (pn_map (sr_r2 (px_max2 (px_int (n := 0)) (px_op (px_v (i := 6) (by exact rfl)) (px_t1 (px_v (i := 1) (by exact rfl))) r2_sub)) (px_max2 (px_int (n := 0)) (px_op (px_op (px_v (i := 6) (by exact rfl)) (px_t0 (px_v (i := 1) (by exact rfl))) r2_sub) (px_int (n := 1)) r2_add)) g37 g38) (tc_n (by decide)) (opt_ok h44) g42 (by exact nowns1 (nown rfl (fun z_ => z_))) (fun x_ => leE_set rfl) (fun B_ x39 y45 n_ hx_ e46 => by
          obtain ⟨t40, h41, e46⟩ := ob_ne e46 ok_ne
          have e46 := R.ok.inj e46
          subst e46
          exact (px_idx (pl_s (i := 5) (by exact rfl) RdL.ow) (px_v (i := 9) (by exact rfl)) rfl h41))))) (nx_of ?_))
      refine sx_if (pt_test (px_op ((px_len (pl_k (px_v (i := 8) (by exact rfl))) trivial)) ((px_int (n := 0))) r2_eq)) (fun e47 => ?_) (fun e47 => ?_)
      · have hm := (if_pos e47).symm.trans hm
        obtain ⟨t48, h49, hm⟩ := ob_ne hm hne
        obtain ⟨g50, hm⟩ := gd_ne hm hne
        exact sx_append (i := 7) rfl ((px_idx (pl_s (i := 5) (by exact rfl) RdL.ow) (px_v (i := 6) (by exact rfl)) rfl h49)) rfl trivial RdL.ow g50 (nx_le (LeE.cons .refl (LeE.cons .refl (LeE.cons .refl (LeE.cons .refl (LeE.cons .refl (LeE.cons .refl (LeE.cons .un (LeE.cons .refl (LeE.cons .un (LeE.cons .un LeE.nil)))))))))) (hnx _ hm.symm))
      · have hm := (if_neg (fun z_ => Bool.false_ne_true (e47.symm.trans z_))).symm.trans hm
        obtain ⟨t51, h52, hm⟩ := ob_ne hm hne
        obtain ⟨⟨t53, pool54⟩, h55, hm⟩ := ob_ne hm hne
        obtain ⟨g56, hm⟩ := gd_ne hm hne
        exact sx_append (i := 7) rfl ((px_op (px_min (pl_k (px_v (i := 8) (by exact rfl))) trivial h52) (px_intB (px_op ((px_call (x := t53) (outs := [.mk pool54]) (X := X) (pa_s (i := 0) rfl (by intro h_; cases h_) (pa_k ((px_int (n := 8))) pa_n)) (.m (by exact rfl) (by exact trivial) RdL.io (.k .nil)) (.m (.k .nil)) (by decide) ⟨pool35, (8 : Int), rfl, by rw [(opt_ok h55)]; rfl⟩)) ((px_int (n := 0))) r2_eq)) r2_sub)) rfl trivial RdL.ow g56 (nx_le (LeE.cons .refl (LeE.cons .refl (LeE.cons .refl (LeE.cons .refl (LeE.cons .refl (LeE.cons .refl (LeE.cons .un (LeE.cons .refl (LeE.cons .un (LeE.cons .un LeE.nil)))))))))) (hnx _ hm.symm))
    · rw [hs_] at hm
      clear hs_ hL_ hno_
      obtain ⟨pool57, ahead58⟩ := s_
      replace hm := rbind_ok hm
      refine nx_of ?_
      show Sx g B [.io q_pool (pool57 : (List Int)), .kp (ab : (Int × Int)), .kp (n : Int), .kp (most : Int), .kp (t1 : Int), .ow (behind30 : (List Int)), .un, .ow (ahead58 : (List Int)), .un, .un] _ _
      refine sx_freeze (i := 7) rfl (.inr ⟨0, (by decide), _, _, _, _, hps, rfl⟩) ?_
      refine sx_freeze (i := 5) rfl (.inr ⟨0, (by decide), _, _, _, _, hps, rfl⟩) ?_
      obtain ⟨t59, h60, hm⟩ := ob_ne hm hne
      exact sx_ret' ((px_tp3 ((px_min (pl_k ((PxN.pxA Int (pn_sl (pl_k (px_v (i := 5) (by exact rfl))) (po_yes (px_max2 (px_int (n := 0)) (px_op (px_v (i := 2) (by exact rfl)) (px_t1 (px_v (i := 1) (by exact rfl))) r2_sub))) po_no trivial)))) trivial h60)) ((px_v (i := 7) (by exact rfl))) ((px_v (i := 5) (by exact rfl))))) hps (.cons (i := 0) rfl .nil) (hret _ hm.symm)

def N__law_bent : List Str := ["pool", "labels", "top", "ahead", "behind", "at", "more", "way", "k"]
theorem sc__law_bent : FnScope N__law_bent ["pool", "labels"] (defScope s__law_bent) := ⟨rfl, rfl, rfl, by decide +kernel, rfl, by decide +kernel, by decide +kernel⟩
def rel__law_bent (cs : List Ca) (o : Out) : Prop := ∃ (pool : (List Int)) (labels : (T3 Int (List Int) (List Int))), cs = [.m pool, .k labels] ∧ res1 (m_law_bent pool labels) o
theorem ok__law_bent {g : Gx} {P : Program} {w : World} {mg : Str → Option Value} {base : Heap} {A : Ad} (T : Txt g mg A) : FnOk P w g.K mg base (L2.CX P w) 2 A.f__law_bent A.d__law_bent ["pool", "labels"] (spOf g rel__law_bent) := by
  refine fn_go T.F__law_bent sc__law_bent (fun cs o h => by obtain ⟨_, _, rfl, _⟩ := h; rfl) (by decide) (fun cdv A_ outer s H X hr => ⟨_, (pss_cons (ps_set (i := 2) sc__law_bent.nd rfl (by first | exact Or.inl rfl | exact Or.inr rfl) (pe_ix (ix_tupK (K := g.K) rfl) (pv 1) pe_int (fun _ _ => rfl)))
 (pss_cons (ps_set (i := 3) sc__law_bent.nd rfl (by first | exact Or.inl rfl | exact Or.inr rfl) (pe_callTy (call_list_ofK (K := g.K) rfl) (by rfl) T.no_list (by decide +kernel) (pa_cons (pe_ix (ix_tupK (K := g.K) rfl) (pv 1) pe_int (fun _ _ => rfl)) pa_nil)))
 (pss_cons (ps_set (i := 4) sc__law_bent.nd rfl (by first | exact Or.inl rfl | exact Or.inr rfl) (pe_callTy (call_list_ofK (K := g.K) rfl) (by rfl) T.no_list (by decide +kernel) (pa_cons (pe_ix (ix_tupK (K := g.K) rfl) (pv 1) pe_int (fun _ _ => rfl)) pa_nil)))
 (pss_cons (ps_set (i := 5) sc__law_bent.nd rfl (by first | exact Or.inl rfl | exact Or.inr rfl) (pe_call (ok__law_take T) (hr.mono (by decide)) (by rfl) T.mg__law_take T.kp__law_take T.b__law_take .nil (passes_call (takes_of rfl rfl rfl rfl) (fun _ _ _ _ h_ => h_)) (pa_cons (pv 0) (pa_cons (pe_callB (call_len_seqK (K := g.K) rfl) (by rfl) T.no_len (by decide +kernel) (pa_cons (pv 3) pa_nil)) pa_nil))))
 (pss_cons (ps_set (i := 6) sc__law_bent.nd rfl (by first | exact Or.inl rfl | exact Or.inr rfl) (pe_op op_add pe_int (pe_call (ok__law_take T) (hr.mono (by decide)) (by rfl) T.mg__law_take T.kp__law_take T.b__law_take .nil (passes_call (takes_of rfl rfl rfl rfl) (fun _ _ _ _ h_ => h_)) (pa_cons (pv 0) (pa_cons pe_int pa_nil)))))
 (pss_cons (ps_set (i := 7) sc__law_bent.nd rfl (by first | exact Or.inl rfl | exact Or.inr rfl) (pe_call (ok__law_take T) (hr.mono (by decide)) (by rfl) T.mg__law_take T.kp__law_take T.b__law_take .nil (passes_call (takes_of rfl rfl rfl rfl) (fun _ _ _ _ h_ => h_)) (pa_cons (pv 0) (pa_cons pe_int pa_nil))))
 (pss_cons (ps_if (pt_cmpR op_eq (pv 7) pe_int (nomark _)) (pss_one (ps_asg (pe_op op_add (pe_ix (ix_listK (K := g.K) rfl) (pv 3) (pv 5) (fun _ _ => rfl)) (pv 6)) (pg_sub (pv 3) (pv 5) set_list))) (pss_one (ps_if (pt_cmpR op_eq (pv 7) pe_int (nomark _)) (pss_one (ps_asg (pe_op op_sub (pe_ix (ix_listK (K := g.K) rfl) (pv 4) (pv 5) (fun _ _ => rfl)) (pv 6)) (pg_sub (pv 4) (pv 5) set_list))) (pss_one (ps_if (pt_cmpR op_eq (pv 7) pe_int (nomark _)) (pss_one (ps_asg (pe_op op_add (pe_ix (ix_listK (K := g.K) rfl) (pv 4) (pv 5) (fun _ _ => rfl)) (pv 6)) (pg_sub (pv 4) (pv 5) set_list))) (pss_one (ps_if (pt_cmpR op_eq (pv 7) pe_int (nomark _)) (pss_one (ps_set (i := 2) sc__law_bent.nd rfl (by first | exact Or.inl rfl | exact Or.inr rfl) (pe_op op_add (pv 2) (pv 6)))) (pss_one (ps_if (pt_cmpR op_eq (pv 7) pe_int (nomark _)) (pss_one (ps_set (i := 2) sc__law_bent.nd rfl (by first | exact Or.inl rfl | exact Or.inr rfl) (pe_op op_sub (pv 2) (pv 6)))) (pss_one (ps_if (pt_cmpR op_eq (pv 7) pe_int (nomark _)) (pss_one (ps_set (i := 3) sc__law_bent.nd rfl (by first | exact Or.inl rfl | exact Or.inr rfl) (pe_ix (ix_listK (K := g.K) rfl) (pe_lst (pa_cons (pe_op op_cat (pv 3) (pe_lst (pa_cons pe_int pa_nil))) (pa_cons (pe_slice (sl_listK (K := g.K) rfl) (pv 3) po_none (po_some (pe_op op_sub (pe_callB (call_len_seqK (K := g.K) rfl) (by rfl) T.no_len (by decide +kernel) (pa_cons (pv 3) pa_nil)) pe_int))) pa_nil))) (pe_call (ok__law_take T) (hr.mono (by decide)) (by rfl) T.mg__law_take T.kp__law_take T.b__law_take .nil (passes_call (takes_of rfl rfl rfl rfl) (fun _ _ _ _ h_ => h_)) (pa_cons (pv 0) (pa_cons pe_int pa_nil))) (fun _ _ => rfl)))) (pss_one (ps_if (pt_cmpR op_eq (pv 7) pe_int (nomark _)) (pss_one (ps_set (i := 4) sc__law_bent.nd rfl (by first | exact Or.inl rfl | exact Or.inr rfl) (pe_ix (ix_listK (K := g.K) rfl) (pe_lst (pa_cons (pe_op op_cat (pv 4) (pe_lst (pa_cons (pe_ix (ix_listK (K := g.K) rfl) (pv 4) (pe_un un_neg pe_int) (fun _ _ => rfl)) pa_nil))) (pa_cons (pe_slice (sl_listK (K := g.K) rfl) (pv 4) po_none (po_some (pe_op op_sub (pe_callB (call_len_seqK (K := g.K) rfl) (by rfl) T.no_len (by decide +kernel) (pa_cons (pv 4) pa_nil)) pe_int))) pa_nil))) (pe_call (ok__law_take T) (hr.mono (by decide)) (by rfl) T.mg__law_take T.kp__law_take T.b__law_take .nil (passes_call (takes_of rfl rfl rfl rfl) (fun _ _ _ _ h_ => h_)) (pa_cons (pv 0) (pa_cons pe_int pa_nil))) (fun _ _ => rfl)))) (pss_one (ps_if (pt_cmpR op_eq (pv 7) pe_int (nomark _)) (pss_one (ps_ret (pe_tup (pa_cons (pv 2) (pa_cons (pv 4) (pa_cons (pv 3) pa_nil)))))) (pss_one (ps_ret (pe_tup (pa_cons (pv 2) (pa_cons (pe_lc (own := [("k", 8)]) (by rfl) sc__law_bent.nd (pi_listK (K := g.K) rfl (pv 3)) (blkOk_by (own := [("k", 8)]) (N := N__law_bent) (sc := defScope s__law_bent) (by decide +kernel)) (fun _ _ _ _ _ => (pg_name (i := 8) sc__law_bent.nd rfl (by first | exact Or.inl rfl | exact Or.inr rfl))) (fun _ _ _ _ _ => pts_nil) (fun _ _ _ _ _ => (pe_op op_sub (pe_call (ok__law_take T) (hr.mono (by decide)) (by rfl) T.mg__law_take T.kp__law_take T.b__law_take .nil passL (pa_cons (pv 0) (pa_cons pe_int pa_nil))) pe_int))) (pa_cons (pe_lc (own := [("k", 8)]) (by rfl) sc__law_bent.nd (pi_listK (K := g.K) rfl (pv 4)) (blkOk_by (own := [("k", 8)]) (N := N__law_bent) (sc := defScope s__law_bent) (by decide +kernel)) (fun _ _ _ _ _ => (pg_name (i := 8) sc__law_bent.nd rfl (by first | exact Or.inl rfl | exact Or.inr rfl))) (fun _ _ _ _ _ => pts_nil) (fun _ _ _ _ _ => (pe_op op_sub (pe_call (ok__law_take T) (hr.mono (by decide)) (by rfl) T.mg__law_take T.kp__law_take T.b__law_take .nil passL (pa_cons (pv 0) (pa_cons pe_int pa_nil))) pe_int))) pa_nil)))))))))))))))))))))
 (pss_one (ps_ret (pe_tup (pa_cons (pv 2) (pa_cons (pv 3) (pa_cons (pv 4) pa_nil))))))))))))), fun B qs cs o E D hps hrel hini hrt hx hfall => ?_⟩)
  obtain ⟨pool, labels, rfl, hrel⟩ := hrel
  generalize hm : m_law_bent pool labels = r at hrel
  obtain ⟨hne, hret, hex⟩ := res1_ne hrel
  clear hrel
  obtain ⟨q_pool, qs1, E1, rfl, rfl, hini1⟩ := ini_m hini
  obtain ⟨E2, rfl, hini2⟩ := ini_k hini1
  obtain ⟨rfl, rfl⟩ := ini_nil hini2
  have hret := fun y_ h_ => (hret y_ h_ ▸ hrt : DRt g B D.rt _)
  have hex := fun c_ d_ h_ => hx c_ d_ (hex c_ d_ h_)
  unfold m_law_bent at hm
  show Sx g B [.io q_pool (pool : (List Int)), .kp (labels : (T3 Int (List Int) (List Int))), .un, .un, .un, .un, .un, .un, .un] _ _
  refine sx_seq (sx_asg (i := 2) ((px_t30 (px_v (i := 1) (by exact rfl)))) (nx_of ?_))
  refine sx_seq (sx_asgO (i := 3) (pn_list (pl_k ((px_t31 (px_v (i := 1) (by exact rfl))))) trivial) (nx_of ?_))
  refine sx_seq (sx_asgO (i := 4) (pn_list (pl_k ((px_t32 (px_v (i := 1) (by exact rfl))))) trivial) (nx_of ?_))
  obtain ⟨⟨t1, pool2⟩, h3, hm⟩ := ob_ne hm hne
  refine sx_seq (sx_asg (i := 5) ((px_call (x := t1) (outs := [.mk pool2]) (X := X) (pa_s (i := 0) rfl (by intro h_; cases h_) (pa_k ((px_len (pl_s (i := 3) (by exact rfl) RdL.ow) rfl)) pa_n)) (.m (by exact rfl) (by exact trivial) RdL.io (.k .nil)) (.m (.k .nil)) (by decide) ⟨pool, (labels.b.length : Int), rfl, by rw [(opt_ok h3)]; rfl⟩)) (nx_of ?_))
  obtain ⟨⟨t4, pool5⟩, h6, hm⟩ := ob_ne hm hne
  obtain ⟨more7, h8, hm⟩ := elet_eq (v := (((1 : Int) + t4) : Int)) hm
  refine sx_seq (sx_asg (i := 6) (px_eq ((px_op (px_int (n := 1)) (px_call (x := t4) (outs := [.mk pool5]) (X := X) (pa_s (i := 0) rfl (by intro h_; cases h_) (pa_k ((px_int (n := 4))) pa_n)) (.m (by exact rfl) (by exact trivial) RdL.io (.k .nil)) (.m (.k .nil)) (by decide) ⟨pool2, (4 : Int), rfl, by rw [(opt_ok h6)]; rfl⟩) r2_add)) h8) (nx_of ?_))
  obtain ⟨⟨t9, pool10⟩, h11, hm⟩ := ob_ne hm hne
  refine sx_seq (sx_asg (i := 7) ((px_call (x := t9) (outs := [.mk pool10]) (X := X) (pa_s (i := 0) rfl (by intro h_; cases h_) (pa_k ((px_int (n := 9))) pa_n)) (.m (by exact rfl) (by exact trivial) RdL.io (.k .nil)) (.m (.k .nil)) (by decide) ⟨pool5, (9 : Int), rfl, by rw [(opt_ok h11)]; rfl⟩)) (nx_of ?_))
  refine sx_seq (sx_if (pt_test (px_op ((px_v (i := 7) (by exact rfl))) ((px_int (n := 0))) r2_eq)) (fun e12 => ?_) (fun e12 => ?_))
  · have hm := (if_pos e12).symm.trans hm
    obtain ⟨t13, h14, hm⟩ := ob_ne hm hne
    obtain ⟨ahead15, h16, hm⟩ := ob_ne hm hne
    refine sx_setitem (i := 3) ((px_op (px_idx (pl_s (i := 3) (by exact rfl) RdL.ow) (px_v (i := 5) (by exact rfl)) rfl h14) (px_v (i := 6) (by exact rfl)) r2_add)) rfl (px_v (i := 5) (by exact rfl)) rfl trivial RdL.ow h16 (nx_of ?_)
    refine sx_freeze (i := 3) rfl (.inr ⟨0, (by decide), _, _, _, _, hps, rfl⟩) ?_
    refine sx_freeze (i := 4) rfl (.inr ⟨0, (by decide), _, _, _, _, hps, rfl⟩) ?_
    exact sx_ret' ((px_tp3 ((px_v (i := 2) (by exact rfl))) ((px_v (i := 3) (by exact rfl))) ((px_v (i := 4) (by exact rfl))))) hps (.cons (i := 0) rfl .nil) (hret _ hm.symm)
  · have hm := (if_neg (fun z_ => Bool.false_ne_true (e12.symm.trans z_))).symm.trans hm
    refine sx_if (pt_test (px_op ((px_v (i := 7) (by exact rfl))) ((px_int (n := 1))) r2_eq)) (fun e17 => ?_) (fun e17 => ?_)
    · have hm := (if_pos e17).symm.trans hm
      obtain ⟨t18, h19, hm⟩ := ob_ne hm hne
      obtain ⟨behind20, h21, hm⟩ := ob_ne hm hne
      refine sx_setitem (i := 4) ((px_op (px_idx (pl_s (i := 4) (by exact rfl) RdL.ow) (px_v (i := 5) (by exact rfl)) rfl h19) (px_v (i := 6) (by exact rfl)) r2_sub)) rfl (px_v (i := 5) (by exact rfl)) rfl trivial RdL.ow h21 (nx_of ?_)
      refine sx_freeze (i := 3) rfl (.inr ⟨0, (by decide), _, _, _, _, hps, rfl⟩) ?_
      refine sx_freeze (i := 4) rfl (.inr ⟨0, (by decide), _, _, _, _, hps, rfl⟩) ?_
      exact sx_ret' ((px_tp3 ((px_v (i := 2) (by exact rfl))) ((px_v (i := 3) (by exact rfl))) ((px_v (i := 4) (by exact rfl))))) hps (.cons (i := 0) rfl .nil) (hret _ hm.symm)
    · have hm := (if_neg (fun z_ => Bool.false_ne_true (e17.symm.trans z_))).symm.trans hm
      refine sx_if (pt_test (px_op ((px_v (i := 7) (by exact rfl))) ((px_int (n := 2))) r2_eq)) (fun e22 => ?_) (fun e22 => ?_)
      · have hm := (if_pos e22).symm.trans hm
        obtain ⟨t23, h24, hm⟩ := ob_ne hm hne
        obtain ⟨behind25, h26, hm⟩ := ob_ne hm hne
        refine sx_setitem (i := 4) ((px_op (px_idx (pl_s (i := 4) (by exact rfl) RdL.ow) (px_v (i := 5) (by exact rfl)) rfl h24) (px_v (i := 6) (by exact rfl)) r2_add)) rfl (px_v (i := 5) (by exact rfl)) rfl trivial RdL.ow h26 (nx_of ?_)
        refine sx_freeze (i := 3) rfl (.inr ⟨0, (by decide), _, _, _, _, hps, rfl⟩) ?_
        refine sx_freeze (i := 4) rfl (.inr ⟨0, (by decide), _, _, _, _, hps, rfl⟩) ?_
        exact sx_ret' ((px_tp3 ((px_v (i := 2) (by exact rfl))) ((px_v (i := 3) (by exact rfl))) ((px_v (i := 4) (by exact rfl))))) hps (.cons (i := 0) rfl .nil) (hret _ hm.symm)
      · have hm := (if_neg (fun z_ => Bool.false_ne_true (e22.symm.trans z_))).symm.trans hm
        refine sx_if (pt_test (px_op ((px_v (i := 7) (by exact rfl))) ((px_int (n := 3))) r2_eq)) (fun e27 => ?_) (fun e27 => ?_)
        · have hm := (if_pos e27).symm.trans hm
          obtain ⟨top28, h29, hm⟩ := elet_eq (v := ((labels.a + more7) : Int)) hm
          refine sx_asg (i := 2) (px_eq ((px_op (px_v (i := 2) (by exact rfl)) (px_v (i := 6) (by exact rfl)) r2_add)) h29) (nx_of ?_)
          refine sx_freeze (i := 3) rfl (.inr ⟨0, (by decide), _, _, _, _, hps, rfl⟩) ?_
          refine sx_freeze (i := 4) rfl (.inr ⟨0, (by decide), _, _, _, _, hps, rfl⟩) ?_
          exact sx_ret' ((px_tp3 ((px_v (i := 2) (by exact rfl))) ((px_v (i := 3) (by exact rfl))) ((px_v (i := 4) (by exact rfl))))) hps (.cons (i := 0) rfl .nil) (hret _ hm.symm)
        · have hm := (if_neg (fun z_ => Bool.false_ne_true (e27.symm.trans z_))).symm.trans hm
          refine sx_if (pt_test (px_op ((px_v (i := 7) (by exact rfl))) ((px_int (n := 4))) r2_eq)) (fun e30 => ?_) (fun e30 => ?_)
          · have hm := (if_pos e30).symm.trans hm
            obtain ⟨top31, h32, hm⟩ := elet_eq (v := ((labels.a - more7) : Int)) hm
            refine sx_asg (i := 2) (px_eq ((px_op (px_v (i := 2) (by exact rfl)) (px_v (i := 6) (by exact rfl)) r2_sub)) h32) (nx_of ?_)
            refine sx_freeze (i := 3) rfl (.inr ⟨0, (by decide), _, _, _, _, hps, rfl⟩) ?_
            refine sx_freeze (i := 4) rfl (.inr ⟨0, (by decide), _, _, _, _, hps, rfl⟩) ?_
            exact sx_ret' ((px_tp3 ((px_v (i := 2) (by exact rfl))) ((px_v (i := 3) (by exact rfl))) ((px_v (i := 4) (by exact rfl))))) hps (.cons (i := 0) rfl .nil) (hret _ hm.symm)
          · have hm := (if_neg (fun z_ => Bool.false_ne_true (e30.symm.trans z_))).symm.trans hm
            refine sx_if (pt_test (px_op ((px_v (i := 7) (by exact rfl))) ((px_int (n := 5))) r2_eq)) (fun e33 => ?_) (fun e33 => ?_)
            · have hm := (if_pos e33).symm.trans hm
              obtain ⟨g34, hm⟩ := gd_ne hm hne
              obtain ⟨⟨t35, pool36⟩, h37, hm⟩ := ob_ne hm hne
              obtain ⟨t38, h39, hm⟩ := ob_ne hm hne
              refine sx_asg (i := 3) ((px_idx (pl_k ((PxN.pxA (List Int) (pn_lst (ps_cons ((PxN.pxA Int (pn_cat (pl_s (i := 3) (by exact rfl) RdL.ow) (pl_k ((PxN.pxA Int (pn_lst (ps_cons ((px_int (n := 0))) ps_nil) (by simp only [List.length_cons, List.length_nil]; decide))))) rfl trivial g34))) (ps_cons ((PxN.pxA Int (pn_sl (pl_s (i := 3) (by exact rfl) RdL.ow) po_no (po_yes (px_op (px_len (pl_s (i := 3) (by exact rfl) RdL.ow) rfl) (px_int (n := 1)) r2_sub)) rfl))) ps_nil)) (by simp only [List.length_cons, List.length_nil]; decide))))) (px_call (x := t35) (outs := [.mk pool36]) (X := X) (pa_s (i := 0) rfl (by intro h_; cases h_) (pa_k ((px_int (n := 2))) pa_n)) (.m (by exact rfl) (by exact trivial) RdL.io (.k .nil)) (.m (.k .nil)) (by decide) ⟨pool10, (2 : Int), rfl, by rw [(opt_ok h37)]; rfl⟩) trivial h39)) (nx_of ?_)
              refine sx_freeze (i := 4) rfl (.inr ⟨0, (by decide), _, _, _, _, hps, rfl⟩) ?_
              exact sx_ret' ((px_tp3 ((px_v (i := 2) (by exact rfl))) ((px_v (i := 3) (by exact rfl))) ((px_v (i := 4) (by exact rfl))))) hps (.cons (i := 0) rfl .nil) (hret _ hm.symm)
            · have hm := (if_neg (fun z_ => Bool.false_ne_true (e33.symm.trans z_))).symm.trans hm
              refine sx_if (pt_test (px_op ((px_v (i := 7) (by exact rfl))) ((px_int (n := 6))) r2_eq)) (fun e40 => ?_) (fun e40 => ?_)
              · have hm := (if_pos e40).symm.trans hm
                obtain ⟨t41, h42, hm⟩ := ob_ne hm hne
                obtain ⟨g43, hm⟩ := gd_ne hm hne
                obtain ⟨⟨t44, pool45⟩, h46, hm⟩ := ob_ne hm hne
                obtain ⟨t47, h48, hm⟩ := ob_ne hm hne
                refine sx_asg (i := 4) ((px_idx (pl_k ((PxN.pxA (List Int) (pn_lst (ps_cons ((PxN.pxA Int (pn_cat (pl_s (i := 4) (by exact rfl) RdL.ow) (pl_k ((PxN.pxA Int (pn_lst (ps_cons ((px_idx (pl_s (i := 4) (by exact rfl) RdL.ow) (px_un (px_int (n := 1)) r1_neg) rfl h42)) ps_nil) (by simp only [List.length_cons, List.length_nil]; decide))))) rfl trivial g43))) (ps_cons ((PxN.pxA Int (pn_sl (pl_s (i := 4) (by exact rfl) RdL.ow) po_no (po_yes (px_op (px_len (pl_s (i := 4) (by exact rfl) RdL.ow) rfl) (px_int (n := 1)) r2_sub)) rfl))) ps_nil)) (by simp only [List.length_cons, List.length_nil]; decide))))) (px_call (x := t44) (outs := [.mk pool45]) (X := X) (pa_s (i := 0) rfl (by intro h_; cases h_) (pa_k ((px_int (n := 2))) pa_n)) (.m (by exact rfl) (by exact trivial) RdL.io (.k .nil)) (.m (.k .nil)) (by decide) ⟨pool10, (2 : Int), rfl, by rw [(opt_ok h46)]; rfl⟩) trivial h48)) (nx_of ?_)
                refine sx_freeze (i := 3) rfl (.inr ⟨0, (by decide), _, _, _, _, hps, rfl⟩) ?_
                exact sx_ret' ((px_tp3 ((px_v (i := 2) (by exact rfl))) ((px_v (i := 3) (by exact rfl))) ((px_v (i := 4) (by exact rfl))))) hps (.cons (i := 0) rfl .nil) (hret _ hm.symm)
              · have hm := (if_neg (fun z_ => Bool.false_ne_true (e40.symm.trans z_))).symm.trans hm
                refine sx_if (pt_test (px_op ((px_v (i := 7) (by exact rfl))) ((px_int (n := 7))) r2_eq)) (fun e49 => ?_) (fun e49 => ?_)
                · have hm := (if_pos e49).symm.trans hm
                  refine sx_freeze (i := 4) rfl (.inr ⟨0, (by decide), _, _, _, _, hps, rfl⟩) ?_
                  refine sx_freeze (i := 3) rfl (.inr ⟨0, (by decide), _, _, _, _, hps, rfl⟩) ?_
                  exact sx_ret' ((px_tp3 ((px_v (i := 2) (by exact rfl))) ((px_v (i := 4) (by exact rfl))) ((px_v (i := 3) (by exact rfl))))) hps (.cons (i := 0) rfl .nil) (hret _ hm.symm)
                · have hm := (if_neg (fun z_ => Bool.false_ne_true (e49.symm.trans z_))).symm.trans hm
                  refine sx_freeze (i := 3) rfl (.inr ⟨0, (by decide), _, _, _, _, hps, rfl⟩) ?_
                  refine sx_freeze (i := 4) rfl (.inr ⟨0, (by decide), _, _, _, _, hps, rfl⟩) ?_
                  obtain ⟨g54, hm⟩ := gd_ne hm hne
                  obtain ⟨⟨ys55, pool61⟩, h56, hm⟩ := ob_ne hm hne
                  obtain ⟨g68, hm⟩ := gd_ne hm hne
                  obtain ⟨⟨ys69, pool75⟩, h70, hm⟩ := ob_ne hm hne
                  exact sx_ret' ((px_tp3 ((px_v (i := 2) (by exact rfl))) ((PxN.pxA Int (pn_comp (Es := (fun (pool57 : (List Int)) => [.io q_pool (pool57 : (List Int)), .kp (labels : (T3 Int (List Int) (List Int))), .kp (labels.a : Int), .kp (labels.b : (List Int)), .kp (labels.c : (List Int)), .kp (t1 : Int), .kp (more7 : Int), .kp (t9 : Int), .un])) (sr_list ((px_v (i := 3) (by exact rfl)))) (tc_n (by decide)) (opt_ok h56) g54 (fun _ => rfl) (fun s_ => (by exact same1 ⟨rfl, nown rfl (fun z_ => z_)⟩)) (fun B_ x50 pool57 r62 n_ hx_ e63 => by
                      obtain ⟨⟨t58, pool59⟩, h60, e63⟩ := ob_ne e63 ok_ne
                      have e63 := R.ok.inj e63
                      subst e63
                      exact ⟨true, _, pt_yes, (fun _ => ⟨_, _, rfl, (px_op (px_call (x := t58) (outs := [.mk pool59]) (X := E0) (pa_s (i := 0) rfl (by intro h_; cases h_) (pa_k ((px_int (n := 19))) pa_n)) (.m (by exact rfl) (by exact trivial) RdL.io (.k .nil)) (.m (.k .nil)) (by decide) ⟨pool57, (19 : Int), rfl, by rw [(opt_ok h60)]; rfl⟩) (px_int (n := 9)) r2_sub), (LeE.cons .refl (LeE.cons .refl (LeE.cons .refl (LeE.cons .refl (LeE.cons .refl (LeE.cons .refl (LeE.cons .refl (LeE.cons .refl (LeE.cons .un LeE.nil)))))))))⟩), (fun h_ => nomatch h_)⟩)))) ((PxN.pxA Int (pn_comp (Es := (fun (pool71 : (List Int)) => [.io q_pool (pool71 : (List Int)), .kp (labels : (T3 Int (List Int) (List Int))), .kp (labels.a : Int), .kp (labels.b : (List Int)), .kp (labels.c : (List Int)), .kp (t1 : Int), .kp (more7 : Int), .kp (t9 : Int), .un])) (sr_list ((px_v (i := 4) (by exact rfl)))) (tc_n (by decide)) (opt_ok h70) g68 (fun _ => rfl) (fun s_ => (by exact same1 ⟨rfl, nown rfl (fun z_ => z_)⟩)) (fun B_ x64 pool71 r76 n_ hx_ e77 => by
                      obtain ⟨⟨t72, pool73⟩, h74, e77⟩ := ob_ne e77 ok_ne
                      have e77 := R.ok.inj e77
                      subst e77
                      exact ⟨true, _, pt_yes, (fun _ => ⟨_, _, rfl, (px_op (px_call (x := t72) (outs := [.mk pool73]) (X := E0) (pa_s (i := 0) rfl (by intro h_; cases h_) (pa_k ((px_int (n := 19))) pa_n)) (.m (by exact rfl) (by exact trivial) RdL.io (.k .nil)) (.m (.k .nil)) (by decide) ⟨pool71, (19 : Int), rfl, by rw [(opt_ok h74)]; rfl⟩) (px_int (n := 9)) r2_sub), (LeE.cons .refl (LeE.cons .refl (LeE.cons .refl (LeE.cons .refl (LeE.cons .refl (LeE.cons .refl (LeE.cons .refl (LeE.cons .refl (LeE.cons .un LeE.nil)))))))))⟩), (fun h_ => nomatch h_)⟩)))))) hps (.cons (i := 0) rfl .nil) (hret _ hm.symm)

def N__law_just : List Str := ["ab", "signs", "prices", "k", "labels", "extra", "h", "price"]
theorem sc__law_just : FnScope N__law_just ["ab", "signs", "prices", "k", "labels"] (defScope s__law_just) := ⟨rfl, rfl, rfl, by decide +kernel, rfl, by decide +kernel, by decide +kernel⟩
def rel__law_just (cs : List Ca) (o : Out) : Prop := ∃ (ab : (Int × Int)) (signs : Tx) (prices : (List Int)) (k : Int) (labels : (T3 Int (List Int) (List Int))), cs = [.k ab, .k signs, .k prices, .k k, .k labels] ∧ res0 (m_law_just ab signs prices k labels) o
theorem ok__law_just {g : Gx} {P : Program} {w : World} {mg : Str → Option Value} {base : Heap} {A : Ad} (T : Txt g mg A) : FnOk P w g.K mg base (L2.CX P w) 1 A.f__law_just A.d__law_just ["ab", "signs", "prices", "k", "labels"] (spOf g rel__law_just) := by
  refine fn_go T.F__law_just sc__law_just (fun cs o h => by obtain ⟨_, _, _, _, _, rfl, _⟩ := h; rfl) (by decide) (fun cdv A_ outer s H X hr => ⟨_, (pss_cons (ps_set (i := 5) sc__law_just.nd rfl (by first | exact Or.inl rfl | exact Or.inr rfl) (pe_op op_mul (pv 3) (pe_ix (ix_tupK (K := g.K) rfl) (pv 4) pe_int (fun _ _ => rfl))))
 (pss_cons (ps_for (passes_of rfl) rfl (pi_range2 (by rfl) T.no_range (pa_cons pe_int (pa_cons (pe_op op_add (pe_callB call_len_str (by rfl) T.no_len (by decide +kernel) (pa_cons (pv 1) pa_nil)) pe_int) pa_nil))) (pg_name (i := 6) sc__law_just.nd rfl (by first | exact Or.inl rfl | exact Or.inr rfl)) (pss_one (ps_if (PW.pt (pw_and (pt_cmpR op_le (pv 6) (pe_callB (call_len_seqK (K := g.K) rfl) (by rfl) T.no_len (by decide +kernel) (pa_cons (pe_ix (ix_tupK (K := g.K) rfl) (pv 4) pe_int (fun _ _ => rfl)) pa_nil)) (nomark _)) (pw_and1 (pt_cmpR op_le (pv 6) (pe_callB (call_len_seqK (K := g.K) rfl) (by rfl) T.no_len (by decide +kernel) (pa_cons (pe_ix (ix_tupK (K := g.K) rfl) (pv 4) pe_int (fun _ _ => rfl)) pa_nil)) (nomark _))))) (pss_cons (ps_set (i := 7) sc__law_just.nd rfl (by first | exact Or.inl rfl | exact Or.inr rfl) (pe_op op_mul (pe_callTy call_int1 (by rfl) T.no_int (by decide +kernel) (pa_cons (pe_cmpR op_eq (pe_ix ix_str (pv 1) (pe_op op_sub (pv 6) pe_int) (fun _ _ => rfl)) pe_str (nomark _)) pa_nil)) (pe_ix (ix_listK (K := g.K) rfl) (pv 2) (pe_op op_sub (pv 6) pe_int) (fun _ _ => rfl))))
 (pss_one (ps_set (i := 5) sc__law_just.nd rfl (by first | exact Or.inl rfl | exact Or.inr rfl) (pe_op op_sub (pv 5) (pe_callB (call_max2 rfl) (by rfl) T.no_max (by decide +kernel) (pa_cons pe_int (pa_cons (pe_op op_sub (pe_op op_sub (pe_ix (ix_listK (K := g.K) rfl) (pe_ix (ix_tupK (K := g.K) rfl) (pv 4) pe_int (fun _ _ => rfl)) (pe_op op_sub (pv 6) pe_int) (fun _ _ => rfl)) (pe_ix (ix_listK (K := g.K) rfl) (pe_ix (ix_tupK (K := g.K) rfl) (pv 4) pe_int (fun _ _ => rfl)) (pe_op op_sub (pv 6) pe_int) (fun _ _ => rfl))) (pv 7)) pa_nil))))))) pss_nil)))
 (pss_one (ps_ret (pv 5))))), fun B qs cs o E D hps hrel hini hrt hx hfall => ?_⟩)
  obtain ⟨ab, signs, prices, k, labels, rfl, hrel⟩ := hrel
  generalize hm : m_law_just ab signs prices k labels = r at hrel
  obtain ⟨hne, hret, hex⟩ := res0_ne hrel
  clear hrel
  obtain ⟨E1, rfl, hini1⟩ := ini_k hini
  obtain ⟨E2, rfl, hini2⟩ := ini_k hini1
  obtain ⟨E3, rfl, hini3⟩ := ini_k hini2
  obtain ⟨E4, rfl, hini4⟩ := ini_k hini3
  obtain ⟨E5, rfl, hini5⟩ := ini_k hini4
  obtain ⟨rfl, rfl⟩ := ini_nil hini5
  have hret := fun y_ h_ => (hret y_ h_ ▸ hrt : DRt g B D.rt _)
  have hex := fun c_ d_ h_ => hx c_ d_ (hex c_ d_ h_)
  unfold m_law_just at hm
  show Sx g B [.kp (ab : (Int × Int)), .kp (signs : Tx), .kp (prices : (List Int)), .kp (k : Int), .kp (labels : (T3 Int (List Int) (List Int))), .un, .un, .un] _ _
  obtain ⟨g1, hm⟩ := gd_ne hm hne
  obtain ⟨extra2, h3, hm⟩ := elet_eq (v := ((k * labels.a) : Int)) hm
  refine sx_seq (sx_asg (i := 5) (px_eq ((px_op (px_v (i := 3) (by exact rfl)) (px_t30 (px_v (i := 4) (by exact rfl))) (r2_mul g1))) h3) (nx_of ?_))
  obtain ⟨g4, hm⟩ := gd_ne hm hne
  obtain ⟨g5, hm⟩ := gd_ne hm hne
  obtain ⟨out_, hL_, hno_, hm⟩ := bind_split hm hne
  refine sx_seq (sx_fold (s0 := extra2) (X := fun B_ c_ d_ => XkOk g B_ X c_ d_) (Ei := (fun (extra7 : Int) => [.kp (ab : (Int × Int)), .kp (signs : Tx), .kp (prices : (List Int)), .kp (k : Int), .kp (labels : (T3 Int (List Int) (List Int))), .kp (extra7 : Int), .un, .un])) (fun _ _ _ _ n_ h_ => h_.nest n_) (sr_r2 (px_int (n := 2)) (px_op (px_lenS (px_v (i := 1) (by exact rfl)) g4) (px_int (n := 1)) r2_add) (by decide) g5) (tg_n) (by exact (LeE.cons .refl (LeE.cons .refl (LeE.cons .refl (LeE.cons .refl (LeE.cons .refl (LeE.cons .refl (LeE.cons .un (LeE.cons .un LeE.nil))))))))) hL_ hno_ (fun c_ d_ h_ => hex c_ d_ (by rw [h_] at hm; exact hm.symm)) (fun B x6 extra7 r_ D hB_ hx_ hm hne hnx hct hex => ?_) (fun extra23 hs_ => ?_))
  · have hps := hB_.1.trans hps
    show Sx g B [.kp (ab : (Int × Int)), .kp (signs : Tx), .kp (prices : (List Int)), .kp (k : Int), .kp (labels : (T3 Int (List Int) (List Int))), .kp (extra7 : Int), .kp (x6 : Int), .un] _ _
    refine sx_if (pt_and (pt_test (px_op ((px_v (i := 6) (by exact rfl))) ((px_len (pl_k ((px_t31 (px_v (i := 4) (by exact rfl))))) trivial)) r2_le)) (fun _ => (pt_test (px_op ((px_v (i := 6) (by exact rfl))) ((px_len (pl_k ((px_t32 (px_v (i := 4) (by exact rfl))))) trivial)) r2_le))) (fun _ => rfl)) (fun e8 => ?_) (fun e8 => ?_)
    · have hm := (if_pos e8).symm.trans hm
      obtain ⟨g9, hm⟩ := gd_ne hm hne
      obtain ⟨t10, h11, hm⟩ := ob_ne hm hne
      obtain ⟨t12, h13, hm⟩ := ob_ne hm hne
      obtain ⟨g14, hm⟩ := gd_ne hm hne
      obtain ⟨price15, h16, hm⟩ := elet_eq (v := (((if (decide (([t10] : Tx) = ([35] : Tx))) = true then (1 : Int) else 0) * t12) : Int)) hm
      refine sx_seq (sx_asg (i := 7) (px_eq ((px_op (px_intB (px_op ((px_idxS (px_v (i := 1) (by exact rfl)) (px_op (px_v (i := 6) (by exact rfl)) (px_int (n := 1)) r2_sub) g9 h11)) ((px_str (t := ([35] : Tx)) rfl)) r2_eq)) (px_idx (pl_k (px_v (i := 2) (by exact rfl))) (px_op (px_v (i := 6) (by exact rfl)) (px_int (n := 1)) r2_sub) trivial h13) (r2_mul g14))) h16) (nx_of ?_))
      obtain ⟨t17, h18, hm⟩ := ob_ne hm hne
      obtain ⟨t19, h20, hm⟩ := ob_ne hm hne
      obtain ⟨extra21, h22, hm⟩ := elet_eq (v := ((extra7 - (max (0 : Int) ((t17 - t19) - price15))) : Int)) hm
      exact sx_asg (i := 5) (px_eq ((px_op (px_v (i := 5) (by exact rfl)) (px_max2 (px_int (n := 0)) (px_op (px_op (px_idx (pl_k ((px_t32 (px_v (i := 4) (by exact rfl))))) (px_op (px_v (i := 6) (by exact rfl)) (px_int (n := 1)) r2_sub) trivial h18) (px_idx (pl_k ((px_t31 (px_v (i := 4) (by exact rfl))))) (px_op (px_v (i := 6) (by exact rfl)) (px_int (n := 1)) r2_sub) trivial h20) r2_sub) (px_v (i := 7) (by exact rfl)) r2_sub)) r2_sub)) h22) (nx_le (LeE.cons .refl (LeE.cons .refl (LeE.cons .refl (LeE.cons .refl (LeE.cons .refl (LeE.cons .refl (LeE.cons .un (LeE.cons .un LeE.nil)))))))) (hnx _ hm.symm))
    · have hm := (if_neg (fun z_ => Bool.false_ne_true (e8.symm.trans z_))).symm.trans hm
      exact sx_next (nx_le (LeE.cons .refl (LeE.cons .refl (LeE.cons .refl (LeE.cons .refl (LeE.cons .refl (LeE.cons .refl (LeE.cons .un (LeE.cons .un LeE.nil)))))))) (hnx _ hm.symm))
  · rw [hs_] at hm
    clear hs_ hL_ hno_
    replace hm := rbind_ok hm
    refine nx_of ?_
    show Sx g B [.kp (ab : (Int × Int)), .kp (signs : Tx), .kp (prices : (List Int)), .kp (k : Int), .kp (labels : (T3 Int (List Int) (List Int))), .kp (extra23 : Int), .un, .un] _ _
    exact sx_ret' ((px_v (i := 5) (by exact rfl))) hps .nil (hret _ hm.symm)

def N__law_due : List Str := ["ab", "signs", "prices", "k", "cost", "labels"]
theorem sc__law_due : FnScope N__law_due ["ab", "signs", "prices", "k", "cost", "labels"] (defScope s__law_due) := ⟨rfl, rfl, rfl, by decide +kernel, rfl, by decide +kernel, by decide +kernel⟩
def rel__law_due (cs : List Ca) (o : Out) : Prop := ∃ (ab : (Int × Int)) (signs : Tx) (prices : (List Int)) (k : Int) (cost : Int) (labels : (T3 Int (List Int) (List Int))), cs = [.k ab, .k signs, .k prices, .k k, .k cost, .k labels] ∧ res0 (m_law_due ab signs prices k cost labels) o
theorem ok__law_due {g : Gx} {P : Program} {w : World} {mg : Str → Option Value} {base : Heap} {A : Ad} (T : Txt g mg A) : FnOk P w g.K mg base (L2.CX P w) 2 A.f__law_due A.d__law_due ["ab", "signs", "prices", "k", "cost", "labels"] (spOf g rel__law_due) := by
  refine fn_go T.F__law_due sc__law_due (fun cs o h => by obtain ⟨_, _, _, _, _, _, rfl, _⟩ := h; rfl) (by decide) (fun cdv A_ outer s H X hr => ⟨_, (pss_cons (ps_if (PW.pt (pw_or (pt_cmpR op_ne (pe_callB (call_len_seqK (K := g.K) rfl) (by rfl) T.no_len (by decide +kernel) (pa_cons (pe_ix (ix_tupK (K := g.K) rfl) (pv 5) pe_int (fun _ _ => rfl)) pa_nil)) (pe_callB call_len_str (by rfl) T.no_len (by decide +kernel) (pa_cons (pv 1) pa_nil)) (nomark _)) (pw_or1 (pt_cmpR op_ne (pe_callB (call_len_seqK (K := g.K) rfl) (by rfl) T.no_len (by decide +kernel) (pa_cons (pe_ix (ix_tupK (K := g.K) rfl) (pv 5) pe_int (fun _ _ => rfl)) pa_nil)) (pe_callB call_len_str (by rfl) T.no_len (by decide +kernel) (pa_cons (pv 1) pa_nil)) (nomark _))))) (pss_one (ps_ret pe_bl)) pss_nil)
 (pss_one (ps_ret (pe_call (ok__law_supports T) (hr.mono (by decide)) (by rfl) T.mg__law_supports T.kp__law_supports T.b__law_supports .nil (passes_call (takes_of rfl rfl rfl rfl) (fun _ _ _ _ h_ => h_)) (pa_cons (pv 0) (pa_cons (pv 1) (pa_cons (pv 2) (pa_cons (pv 3) (pa_cons (pv 4) (pa_cons (pv 5) pa_nil)))))))))), fun B qs cs o E D hps hrel hini hrt hx hfall => ?_⟩)
  obtain ⟨ab, signs, prices, k, cost, labels, rfl, hrel⟩ := hrel
  generalize hm : m_law_due ab signs prices k cost labels = r at hrel
  obtain ⟨hne, hret, hex⟩ := res0_ne hrel
  clear hrel
  obtain ⟨E1, rfl, hini1⟩ := ini_k hini
  obtain ⟨E2, rfl, hini2⟩ := ini_k hini1
  obtain ⟨E3, rfl, hini3⟩ := ini_k hini2
  obtain ⟨E4, rfl, hini4⟩ := ini_k hini3
  obtain ⟨E5, rfl, hini5⟩ := ini_k hini4
  obtain ⟨E6, rfl, hini6⟩ := ini_k hini5
  obtain ⟨rfl, rfl⟩ := ini_nil hini6
  have hret := fun y_ h_ => (hret y_ h_ ▸ hrt : DRt g B D.rt _)
  have hex := fun c_ d_ h_ => hx c_ d_ (hex c_ d_ h_)
  unfold m_law_due at hm
  show Sx g B [.kp (ab : (Int × Int)), .kp (signs : Tx), .kp (prices : (List Int)), .kp (k : Int), .kp (cost : Int), .kp (labels : (T3 Int (List Int) (List Int)))] _ _
  obtain ⟨g1, hm⟩ := gd_ne hm hne
  obtain ⟨c3, h4, hm⟩ := ob_ne hm hne
  refine sx_seq (sx_if (pt_orR (c := c3) (pt_test (px_op ((px_len (pl_k ((px_t31 (px_v (i := 5) (by exact rfl))))) trivial)) ((px_lenS (px_v (i := 1) (by exact rfl)) g1)) r2_ne)) (fun e5_ => by
    have e5 := (if_neg (fun z_ => Bool.false_ne_true (e5_.symm.trans z_))).symm.trans (opt_ok h4)
    obtain ⟨g2, e5⟩ := gd_ne e5 ok_ne
    have e5 := R.ok.inj e5
    subst e5
    exact (pt_test (px_op ((px_len (pl_k ((px_t32 (px_v (i := 5) (by exact rfl))))) trivial)) ((px_lenS (px_v (i := 1) (by exact rfl)) g2)) r2_ne))) (fun e5_ => by
    have e5 := (if_pos e5_).symm.trans (opt_ok h4)
    have e5 := R.ok.inj e5
    subst e5
    exact ⟨rfl, rfl⟩)) (fun e6 => ?_) (fun e6 => ?_))
  · have hm := (if_pos e6).symm.trans hm
    exact sx_ret' (px_bl) hps .nil (hret _ hm.symm)
  · have hm := (if_neg (fun z_ => Bool.false_ne_true (e6.symm.trans z_))).symm.trans hm
    refine sx_next (nx_of ?_)
    obtain ⟨t7, h8, hm⟩ := ob_ne hm hne
    exact sx_ret' ((px_call (x := t7) (outs := []) (X := X) (pa_k ((px_v (i := 0) (by exact rfl))) (pa_k ((px_v (i := 1) (by exact rfl))) (pa_k ((px_v (i := 2) (by exact rfl))) (pa_k ((px_v (i := 3) (by exact rfl))) (pa_k ((px_v (i := 4) (by exact rfl))) (pa_k ((px_v (i := 5) (by exact rfl))) pa_n)))))) (.k (.k (.k (.k (.k (.k .nil)))))) (.k (.k (.k (.k (.k (.k .nil)))))) (by decide) ⟨ab, signs, prices, k, cost, labels, rfl, by rw [(opt_ok h8)]; rfl⟩)) hps .nil (hret _ hm.symm)

def N__law_held : List Str := ["lacquer", "weather", "prices", "k", "cost", "labels", "given", "paid", "told"]
theorem sc__law_held : FnScope N__law_held ["lacquer", "weather", "prices", "k", "cost", "labels"] (defScope s__law_held) := ⟨rfl, rfl, rfl, by decide +kernel, rfl, by decide +kernel, by decide +kernel⟩
def rel__law_held (cs : List Ca) (o : Out) : Prop := ∃ (lacquer : O_Lacquer) (weather : O_Weather) (prices : (List Int)) (k : Int) (cost : Int) (labels : (T3 Int (List Int) (List Int))), cs = [.k lacquer, .k weather, .k prices, .k k, .k cost, .k labels] ∧ res0 (m_law_held lacquer weather prices k cost labels) o
theorem ok__law_held {g : Gx} {P : Program} {w : World} {mg : Str → Option Value} {base : Heap} {A : Ad} (T : Txt g mg A) : FnOk P w g.K mg base (L2.CX P w) 9 A.f__law_held A.d__law_held ["lacquer", "weather", "prices", "k", "cost", "labels"] (spOf g rel__law_held) := by
  refine fn_go T.F__law_held sc__law_held (fun cs o h => by obtain ⟨_, _, _, _, _, _, rfl, _⟩ := h; rfl) (by decide) (fun cdv A_ outer s H X hr => ⟨_, (pss_cons (ps_set (i := 6) sc__law_held.nd rfl (by first | exact Or.inl rfl | exact Or.inr rfl) (pe_tup (pa_cons (pe_ix (ix_tupK (K := g.K) rfl) (pv 5) pe_int (fun _ _ => rfl)) (pa_cons (pe_callTy (call_list_ofK (K := g.K) rfl) (by rfl) T.no_list (by decide +kernel) (pa_cons (pe_ix (ix_tupK (K := g.K) rfl) (pv 5) pe_int (fun _ _ => rfl)) pa_nil)) (pa_cons (pe_callTy (call_list_ofK (K := g.K) rfl) (by rfl) T.no_list (by decide +kernel) (pa_cons (pe_ix (ix_tupK (K := g.K) rfl) (pv 5) pe_int (fun _ _ => rfl)) pa_nil)) pa_nil)))))
 (pss_cons (ps_set (i := 7) sc__law_held.nd rfl (by first | exact Or.inl rfl | exact Or.inr rfl) (pe_callTy (call_list_ofK (K := g.K) rfl) (by rfl) T.no_list (by decide +kernel) (pa_cons (pv 2) pa_nil)))
 (pss_cons (ps_set (i := 8) sc__law_held.nd rfl (by first | exact Or.inl rfl | exact Or.inr rfl) (pe_call (ok_crew_labels_hold T) (hr.mono (by decide)) (by rfl) T.mg_crew_labels_hold T.kp_crew_labels_hold T.b_crew_labels_hold .nil (passes_call (takes_of rfl rfl rfl rfl) (fun _ _ _ _ h_ => h_)) (pa_cons (pv 0) (pa_cons (pv 1) (pa_cons (pv 7) (pa_cons (pv 3) (pa_cons (pv 4) (pa_cons (pv 6) pa_nil))))))))
 (pss_cons (ps_if (PW.pt (pw_or (L2.pt_not (pt_val (pe_call (ok__law_same T) (hr.mono (by decide)) (by rfl) T.mg__law_same T.kp__law_same T.b__law_same .nil (passes_call (takes_of rfl rfl rfl rfl) (fun _ _ _ _ h_ => h_)) (pa_cons (pv 6) (pa_cons (pv 5) pa_nil))))) (pw_or1 (L2.pt_not (pt_val (pe_call (ok__law_same T) (hr.mono (by decide)) (by rfl) T.mg__law_same T.kp__law_same T.b__law_same .nil (passes_call (takes_of rfl rfl rfl rfl) (fun _ _ _ _ h_ => h_)) (pa_cons (pv 7) (pa_cons (pv 2) pa_nil)))))))) (pss_one (ps_ret pe_str)) pss_nil)
 (pss_one (ps_ret (pv 8))))))), fun B qs cs o E D hps hrel hini hrt hx hfall => ?_⟩)
  obtain ⟨lacquer, weather, prices, k, cost, labels, rfl, hrel⟩ := hrel
  generalize hm : m_law_held lacquer weather prices k cost labels = r at hrel
  obtain ⟨hne, hret, hex⟩ := res0_ne hrel
  clear hrel
  obtain ⟨E1, rfl, hini1⟩ := ini_k hini
  obtain ⟨E2, rfl, hini2⟩ := ini_k hini1
  obtain ⟨E3, rfl, hini3⟩ := ini_k hini2
  obtain ⟨E4, rfl, hini4⟩ := ini_k hini3
  obtain ⟨E5, rfl, hini5⟩ := ini_k hini4
  obtain ⟨E6, rfl, hini6⟩ := ini_k hini5
  obtain ⟨rfl, rfl⟩ := ini_nil hini6
  have hret := fun y_ h_ => (hret y_ h_ ▸ hrt : DRt g B D.rt _)
  have hex := fun c_ d_ h_ => hx c_ d_ (hex c_ d_ h_)
  unfold m_law_held at hm
  show Sx g B [.kp (lacquer : O_Lacquer), .kp (weather : O_Weather), .kp (prices : (List Int)), .kp (k : Int), .kp (cost : Int), .kp (labels : (T3 Int (List Int) (List Int))), .un, .un, .un] _ _
  obtain ⟨given1, h2, hm⟩ := elet_eq (v := ((T3.mk labels.a labels.b labels.c) : (T3 Int (List Int) (List Int)))) hm
  refine sx_seq (sx_asg (i := 6) (px_eq ((px_tp3 ((px_t30 (px_v (i := 5) (by exact rfl)))) ((PxN.pxA Int (pn_list (pl_k ((px_t31 (px_v (i := 5) (by exact rfl))))) trivial))) ((PxN.pxA Int (pn_list (pl_k ((px_t32 (px_v (i := 5) (by exact rfl))))) trivial))))) h2) (nx_of ?_))
  refine sx_seq (sx_asg (i := 7) ((PxN.pxA Int (pn_list (pl_k (px_v (i := 2) (by exact rfl))) trivial))) (nx_of ?_))
  rcases bind_cases hm with ⟨t3, h4, hm⟩ | ⟨c5, d6, h4, h7⟩ | h7
  rotate_left
  · exact sx_seq (sx_exprE (pe_callX (pa_k ((px_v (i := 0) (by exact rfl))) (pa_k ((px_v (i := 1) (by exact rfl))) (pa_k ((px_v (i := 7) (by exact rfl))) (pa_k ((px_v (i := 3) (by exact rfl))) (pa_k ((px_v (i := 4) (by exact rfl))) (pa_k ((px_v (i := 6) (by exact rfl))) pa_n)))))) (.k (.k (.k (.k (.k (.k .nil)))))) (.k (.k (.k (.k (.k (.k .nil)))))) ⟨lacquer, weather, prices, k, cost, given1, rfl, by rw [h4]; rfl⟩ (hex _ _ h7)))
  · exact absurd h7 hne
  refine sx_seq (sx_asg (i := 8) ((px_call (x := t3) (outs := []) (X := X) (pa_k ((px_v (i := 0) (by exact rfl))) (pa_k ((px_v (i := 1) (by exact rfl))) (pa_k ((px_v (i := 7) (by exact rfl))) (pa_k ((px_v (i := 3) (by exact rfl))) (pa_k ((px_v (i := 4) (by exact rfl))) (pa_k ((px_v (i := 6) (by exact rfl))) pa_n)))))) (.k (.k (.k (.k (.k (.k .nil)))))) (.k (.k (.k (.k (.k (.k .nil)))))) (by decide) ⟨lacquer, weather, prices, k, cost, given1, rfl, by rw [h4]; rfl⟩)) (nx_of ?_))
  obtain ⟨t8, h9, hm⟩ := ob_ne hm hne
  obtain ⟨c12, h13, hm⟩ := ob_ne hm hne
  refine sx_seq (sx_if (pt_orR (c := c12) (pt_not (pt_B (px_call (x := t8) (outs := []) (X := X) (pa_k (px_d ((px_v (i := 6) (by exact rfl)))) (pa_k (px_d ((px_v (i := 5) (by exact rfl)))) pa_n)) (.k (.k .nil)) (.k (.k .nil)) (by decide) ⟨(ToD.d given1), (ToD.d labels), rfl, by rw [(opt_ok h9)]; rfl⟩))) (fun e14_ => by
    have e14 := (if_neg (fun z_ => Bool.false_ne_true (e14_.symm.trans z_))).symm.trans (opt_ok h13)
    obtain ⟨t10, h11, e14⟩ := ob_ne e14 ok_ne
    have e14 := R.ok.inj e14
    subst e14
    exact (pt_not (pt_B (px_call (x := t10) (outs := []) (X := X) (pa_k (px_d ((px_v (i := 7) (by exact rfl)))) (pa_k (px_d ((px_v (i := 2) (by exact rfl)))) pa_n)) (.k (.k .nil)) (.k (.k .nil)) (by decide) ⟨(ToD.d prices), (ToD.d prices), rfl, by rw [(opt_ok h11)]; rfl⟩)))) (fun e14_ => by
    have e14 := (if_pos e14_).symm.trans (opt_ok h13)
    have e14 := R.ok.inj e14
    subst e14
    exact ⟨rfl, rfl⟩)) (fun e15 => ?_) (fun e15 => ?_))
  · have hm := (if_pos e15).symm.trans hm
    exact sx_ret' (px_d ((px_str (t := ([119, 114, 111, 110, 103] : Tx)) rfl))) hps .nil (hret _ hm.symm)
  · have hm := (if_neg (fun z_ => Bool.false_ne_true (e15.symm.trans z_))).symm.trans hm
    refine sx_next (nx_of ?_)
    exact sx_ret' (px_d ((px_v (i := 8) (by exact rfl)))) hps .nil (hret _ hm.symm)

def N__law_refused : List Str := ["lacquer", "weather", "prices", "which", "k", "word", "e"]
theorem sc__law_refused : FnScope N__law_refused ["lacquer", "weather", "prices", "which", "k"] (defScope s__law_refused) := ⟨rfl, rfl, rfl, by decide +kernel, rfl, by decide +kernel, by decide +kernel⟩
def rel__law_refused (cs : List Ca) (o : Out) : Prop := ∃ (lacquer : O_Lacquer) (weather : O_Weather) (prices : (List Int)) (which : Int) (k : Int), cs = [.k lacquer, .k weather, .k prices, .k which, .k k] ∧ res0 (m_law_refused lacquer weather prices which k) o
theorem ok__law_refused {g : Gx} {P : Program} {w : World} {mg : Str → Option Value} {base : Heap} {A : Ad} (T : Txt g mg A) : FnOk P w g.K mg base (L2.CX P w) 6 A.f__law_refused A.d__law_refused ["lacquer", "weather", "prices", "which", "k"] (spOf g rel__law_refused) := by
  refine fn_go T.F__law_refused sc__law_refused (fun cs o h => by obtain ⟨_, _, _, _, _, rfl, _⟩ := h; rfl) (by decide) (fun cdv A_ outer s H X hr => ⟨_, (pss_cons (ps_set (i := 5) sc__law_refused.nd rfl (by first | exact Or.inl rfl | exact Or.inr rfl) pe_str)
 (Evl.pss_cut (ps_try_asMG (K := g.K) (Wo := fun _ _ _ _ => False) rfl rfl rfl sc__law_refused.nd takes0 (fun W_ pn_ xe_ tk_ _ => (pss_one (ps_if (pt_cmpR op_eq (pv 3) pe_int (nomark _)) (pss_one (ps_expr (pe_callS (ok_crew_labels_hold T) (hr.mono (by decide)) (by rfl) T.mg_crew_labels_hold T.kp_crew_labels_hold T.b_crew_labels_hold (fun σ_ => passAt tk_ σ_) (pa_cons (pv 0) (pa_cons (pv 1) (pa_cons (pv 2) (pa_cons (pv 4) (pa_cons pe_int (pa_cons (pe_tup (pa_cons pe_int (pa_cons (pe_lst (pa_cons pe_int pa_nil)) (pa_cons (pe_lst (pa_cons pe_int pa_nil)) pa_nil)))) pa_nil))))))))) (pss_one (ps_if (pt_cmpR op_eq (pv 3) pe_int (nomark _)) (pss_one (ps_expr (pe_callS (ok_crew_heating T) (hr.mono (by decide)) (by rfl) T.mg_crew_heating T.kp_crew_heating T.b_crew_heating (fun σ_ => passAt tk_ σ_) (pa_cons (pv 0) (pa_cons (pv 1) (pa_cons (pv 2) (pa_cons (pv 4) pa_nil))))))) (pss_one (ps_expr (pe_callS (ok_crew_heat_labels T) (hr.mono (by decide)) (by rfl) T.mg_crew_heat_labels T.kp_crew_heat_labels T.b_crew_heat_labels (fun σ_ => passAt tk_ σ_) (pa_cons (pv 0) (pa_cons (pv 1) (pa_cons (pv 2) (pa_cons (pv 4) pa_nil)))))))))))) (.cons (i := 6) ⟨by rfl, by decide, .inl T.mg_BadNumber⟩ rfl rfl (fun a_ oe_ cls_ d_ pn_ hz_ hf_ => (pss_one (ps_if (PW.pt (pw_and (pt_val (pe_isE (K := g.K) rfl hz_ hf_ (by rfl) T.no_isinstance (pa_cons (pv 6) (pa_cons (pe_glob (v := .ref (g.ca (Str.ofString "DampError"))) (by rfl) T.mg_DampError rfl) pa_nil)))) (pw_and (pt_val (pe_isE (K := g.K) rfl hz_ hf_ (by rfl) T.no_isinstance (pa_cons (pv 6) (pa_cons (pe_bltn (v := .ty "ValueError") (by rfl) T.no_ValueError (by decide +kernel) rfl) pa_nil)))) (pw_and1 (L2.pt_not (pt_val (pe_isE (K := g.K) rfl hz_ hf_ (by rfl) T.no_isinstance (pa_cons (pv 6) (pa_cons (pe_glob (v := .ref (g.ca (Str.ofString "BadPrice"))) (by rfl) T.mg_BadPrice rfl) pa_nil))))))))) (pss_one (ps_set (i := 5) sc__law_refused.nd rfl (by first | exact Or.inl rfl | exact Or.inr rfl) pe_str)) pss_nil))) (.cons (i := 6) ⟨by rfl, by decide, .inl T.mg_BadPrice⟩ rfl rfl (fun a_ oe_ cls_ d_ pn_ hz_ hf_ => (pss_one (ps_if (PW.pt (pw_and (pt_val (pe_isE (K := g.K) rfl hz_ hf_ (by rfl) T.no_isinstance (pa_cons (pv 6) (pa_cons (pe_glob (v := .ref (g.ca (Str.ofString "DampError"))) (by rfl) T.mg_DampError rfl) pa_nil)))) (pw_and (pt_val (pe_isE (K := g.K) rfl hz_ hf_ (by rfl) T.no_isinstance (pa_cons (pv 6) (pa_cons (pe_bltn (v := .ty "ValueError") (by rfl) T.no_ValueError (by decide +kernel) rfl) pa_nil)))) (pw_and1 (L2.pt_not (pt_val (pe_isE (K := g.K) rfl hz_ hf_ (by rfl) T.no_isinstance (pa_cons (pv 6) (pa_cons (pe_glob (v := .ref (g.ca (Str.ofString "BadNumber"))) (by rfl) T.mg_BadNumber rfl) pa_nil))))))))) (pss_one (ps_set (i := 5) sc__law_refused.nd rfl (by first | exact Or.inl rfl | exact Or.inr rfl) pe_str)) pss_nil))) .nil)))
 (pss_one (ps_ret (pv 5))))), fun B qs cs o E D hps hrel hini hrt hx hfall => ?_⟩)
  obtain ⟨lacquer, weather, prices, which, k, rfl, hrel⟩ := hrel
  generalize hm : m_law_refused lacquer weather prices which k = r at hrel
  obtain ⟨hne, hret, hex⟩ := res0_ne hrel
  clear hrel
  obtain ⟨E1, rfl, hini1⟩ := ini_k hini
  obtain ⟨E2, rfl, hini2⟩ := ini_k hini1
  obtain ⟨E3, rfl, hini3⟩ := ini_k hini2
  obtain ⟨E4, rfl, hini4⟩ := ini_k hini3
  obtain ⟨E5, rfl, hini5⟩ := ini_k hini4
  obtain ⟨rfl, rfl⟩ := ini_nil hini5
  have hret := fun y_ h_ => (hret y_ h_ ▸ hrt : DRt g B D.rt _)
  have hex := fun c_ d_ h_ => hx c_ d_ (hex c_ d_ h_)
  unfold m_law_refused at hm
  show Sx g B [.kp (lacquer : O_Lacquer), .kp (weather : O_Weather), .kp (prices : (List Int)), .kp (which : Int), .kp (k : Int), .un, .un] _ _
  refine sx_seq (sx_asg (i := 5) ((px_str (t := ([] : Tx)) rfl)) (nx_of ?_))
  obtain ⟨word2, h23, hm⟩ := ob_ne hm hne
  refine sx_cut (E' := [.kp (lacquer : O_Lacquer), .kp (weather : O_Weather), .kp (prices : (List Int)), .kp (which : Int), .kp (k : Int), .kp (word2 : Tx), .un]) (fun M_ hM3 => ?_) ?_
  · clear hm
    have hT_ := opt_ok h23
    generalize hm : ((if (decide (which = (0 : Int))) = true then ((m_crew_labels_hold lacquer weather prices k (0 : Int) (T3.mk (0 : Int) ([(0 : Int)]) ([(0 : Int)])))).bind fun t5 => .ok ([] : Tx) else (if (decide (which = (1 : Int))) = true then ((m_crew_heating lacquer weather prices k)).bind fun t11 => .ok ([] : Tx) else ((m_crew_heat_labels lacquer weather prices k)).bind fun t16 => .ok ([] : Tx))) : R (Tx)) = r_ at hT_
    have hneT_ := try_ne hT_
    refine sx_tryM (Es := [.kp (lacquer : O_Lacquer), .kp (weather : O_Weather), .kp (prices : (List Int)), .kp (which : Int), .kp (k : Int), .kp (([] : Tx) : Tx), .un]) (r := r_) ?_ (fun hexS_ => ?_)
    · clear hm
      intro c_ d_ hc_ E1 hE1_ F A σ H dx hs_ hp_
      obtain ⟨rfl, hs2_⟩ := try_ex hT_ hc_
      clear hT_ hneT_
      rcases if_two hs2_ with ⟨hc2_, hm⟩ | ⟨_, hs2_⟩
      · have hc2_ := eq_of_beq hc2_
        subst hc2_
        refine (asM_yes (E1 := [.kp (lacquer : O_Lacquer), .kp (weather : O_Weather), .kp (prices : (List Int)), .kp (which : Int), .kp (k : Int), .kp (([] : Tx) : Tx), .un]) (cn := Str.ofString "BadNumber") T.exm_BadNumber_BadNumber (fun a1 => ?_)) F A σ H dx (hs_.weak hE1_) hp_
        show Sx g B [.kp (lacquer : O_Lacquer), .kp (weather : O_Weather), .kp (prices : (List Int)), .kp (which : Int), .kp (k : Int), .kp (([] : Tx) : Tx), .kp ((Adr.mk a1) : Adr)] _ _
        refine sx_if (pt_and (pt_B (px_isE rfl T.exc_BadNumber (fun _ h_ => h_) T.kit_BadNumber_DampError)) (fun _ => (pt_and (pt_B (px_isE rfl T.exc_BadNumber (fun _ h_ => h_) T.kit_BadNumber_ValueError)) (fun _ => (pt_not (pt_B (px_isE rfl T.exc_BadNumber (fun _ h_ => h_) T.kit_BadNumber_BadPrice)))) (fun _ => rfl))) (fun _ => rfl)) (fun e21 => ?_) (fun e21 => ?_)
        · have hm := (if_pos e21).symm.trans hm
          try have hm := try_ok hm hT_
          have hm := R.ok.inj hm
          subst hm
          exact sx_asg (i := 5) ((px_str (t := ([110, 117, 109, 98, 101, 114] : Tx)) rfl)) (nx_un (i := 6) (nown rfl (fun z_ => z_)) (nx_le (LeE.cons .refl (LeE.cons .refl (LeE.cons .refl (LeE.cons .refl (LeE.cons .refl (LeE.cons .refl (LeE.cons .un LeE.nil))))))) hM3))
        · have hm := (if_neg (fun z_ => Bool.false_ne_true (e21.symm.trans z_))).symm.trans hm
          try have hm := try_ok hm hT_
          have hm := R.ok.inj hm
          subst hm
          exact sx_next (nx_un (i := 6) (nown rfl (fun z_ => z_)) (nx_le (LeE.cons .refl (LeE.cons .refl (LeE.cons .refl (LeE.cons .refl (LeE.cons .refl (LeE.cons .refl (LeE.cons .un LeE.nil))))))) hM3))
      obtain ⟨hc2_, hm⟩ := if_ok hs2_
      have hc2_ := eq_of_beq hc2_
      subst hc2_
      refine (asM_no T.exn_BadPrice_BadNumber (asM_yes (E1 := [.kp (lacquer : O_Lacquer), .kp (weather : O_Weather), .kp (prices : (List Int)), .kp (which : Int), .kp (k : Int), .kp (([] : Tx) : Tx), .un]) (cn := Str.ofString "BadPrice") T.exm_BadPrice_BadPrice (fun a1 => ?_))) F A σ H dx (hs_.weak hE1_) hp_
      show Sx g B [.kp (lacquer : O_Lacquer), .kp (weather : O_Weather), .kp (prices : (List Int)), .kp (which : Int), .kp (k : Int), .kp (([] : Tx) : Tx), .kp ((Adr.mk a1) : Adr)] _ _
      refine sx_if (pt_and (pt_B (px_isE rfl T.exc_BadPrice (fun _ h_ => h_) T.kit_BadPrice_DampError)) (fun _ => (pt_and (pt_B (px_isE rfl T.exc_BadPrice (fun _ h_ => h_) T.kit_BadPrice_ValueError)) (fun _ => (pt_not (pt_B (px_isE rfl T.exc_BadPrice (fun _ h_ => h_) T.kit_BadPrice_BadNumber)))) (fun _ => rfl))) (fun _ => rfl)) (fun e22 => ?_) (fun e22 => ?_)
      · have hm := (if_pos e22).symm.trans hm
        try have hm := try_ok hm hT_
        have hm := R.ok.inj hm
        subst hm
        exact sx_asg (i := 5) ((px_str (t := ([112, 114, 105, 99, 101] : Tx)) rfl)) (nx_un (i := 6) (nown rfl (fun z_ => z_)) (nx_le (LeE.cons .refl (LeE.cons .refl (LeE.cons .refl (LeE.cons .refl (LeE.cons .refl (LeE.cons .refl (LeE.cons .un LeE.nil))))))) hM3))
      · have hm := (if_neg (fun z_ => Bool.false_ne_true (e22.symm.trans z_))).symm.trans hm
        try have hm := try_ok hm hT_
        have hm := R.ok.inj hm
        subst hm
        exact sx_next (nx_un (i := 6) (nown rfl (fun z_ => z_)) (nx_le (LeE.cons .refl (LeE.cons .refl (LeE.cons .refl (LeE.cons .refl (LeE.cons .refl (LeE.cons .refl (LeE.cons .un LeE.nil))))))) hM3))
    · refine sx_if (pt_test (px_op ((px_v (i := 3) (by exact rfl))) ((px_int (n := 0))) r2_eq)) (fun e4 => ?_) (fun e4 => ?_)
      · have hm := (if_pos e4).symm.trans hm
        rcases bind_cases hm with ⟨t5, h6, hm⟩ | ⟨c7, d8, h6, h9⟩ | h9
        rotate_left
        · exact sx_dropE (pe_callXS (pa_k ((px_v (i := 0) (by exact rfl))) (pa_k ((px_v (i := 1) (by exact rfl))) (pa_k ((px_v (i := 2) (by exact rfl))) (pa_k ((px_v (i := 4) (by exact rfl))) (pa_k ((px_int (n := 0))) (pa_k ((px_tp3 ((px_int (n := 0))) ((PxN.pxA Int (pn_lst (ps_cons ((px_int (n := 0))) ps_nil) (by simp only [List.length_cons, List.length_nil]; decide)))) ((PxN.pxA Int (pn_lst (ps_cons ((px_int (n := 0))) ps_nil) (by simp only [List.length_cons, List.length_nil]; decide)))))) pa_n)))))) (.k (.k (.k (.k (.k (.k .nil)))))) (.k (.k (.k (.k (.k (.k .nil)))))) ⟨lacquer, weather, prices, k, (0 : Int), (T3.mk (0 : Int) ([(0 : Int)]) ([(0 : Int)])), rfl, by rw [h6]; rfl⟩ (hexS_ _ _ h9 _ (LeE.cons .refl (LeE.cons .refl (LeE.cons .refl (LeE.cons .refl (LeE.cons .refl (LeE.cons .refl (LeE.cons .un LeE.nil)))))))))
        · exact absurd h9 hneT_
        try have hm := try_ok hm hT_
        have hm := R.ok.inj hm
        subst hm
        exact sx_drop ((px_callS (x := t5) (outs := []) (pa_k ((px_v (i := 0) (by exact rfl))) (pa_k ((px_v (i := 1) (by exact rfl))) (pa_k ((px_v (i := 2) (by exact rfl))) (pa_k ((px_v (i := 4) (by exact rfl))) (pa_k ((px_int (n := 0))) (pa_k ((px_tp3 ((px_int (n := 0))) ((PxN.pxA Int (pn_lst (ps_cons ((px_int (n := 0))) ps_nil) (by simp only [List.length_cons, List.length_nil]; decide)))) ((PxN.pxA Int (pn_lst (ps_cons ((px_int (n := 0))) ps_nil) (by simp only [List.length_cons, List.length_nil]; decide)))))) pa_n)))))) (.k (.k (.k (.k (.k (.k .nil)))))) (.k (.k (.k (.k (.k (.k .nil)))))) (by decide) ⟨lacquer, weather, prices, k, (0 : Int), (T3.mk (0 : Int) ([(0 : Int)]) ([(0 : Int)])), rfl, by rw [h6]; rfl⟩)) (nx_le (LeE.cons .refl (LeE.cons .refl (LeE.cons .refl (LeE.cons .refl (LeE.cons .refl (LeE.cons .refl (LeE.cons .un LeE.nil))))))) hM3)
      · have hm := (if_neg (fun z_ => Bool.false_ne_true (e4.symm.trans z_))).symm.trans hm
        refine sx_if (pt_test (px_op ((px_v (i := 3) (by exact rfl))) ((px_int (n := 1))) r2_eq)) (fun e10 => ?_) (fun e10 => ?_)
        · have hm := (if_pos e10).symm.trans hm
          rcases bind_cases hm with ⟨t11, h12, hm⟩ | ⟨c13, d14, h12, h15⟩ | h15
          rotate_left
          · exact sx_dropE (pe_callXS (pa_k ((px_v (i := 0) (by exact rfl))) (pa_k ((px_v (i := 1) (by exact rfl))) (pa_k ((px_v (i := 2) (by exact rfl))) (pa_k ((px_v (i := 4) (by exact rfl))) pa_n)))) (.k (.k (.k (.k .nil)))) (.k (.k (.k (.k .nil)))) ⟨lacquer, weather, prices, k, rfl, by rw [h12]; rfl⟩ (hexS_ _ _ h15 _ (LeE.cons .refl (LeE.cons .refl (LeE.cons .refl (LeE.cons .refl (LeE.cons .refl (LeE.cons .refl (LeE.cons .un LeE.nil)))))))))
          · exact absurd h15 hneT_
          try have hm := try_ok hm hT_
          have hm := R.ok.inj hm
          subst hm
          exact sx_drop ((px_callS (x := t11) (outs := []) (pa_k ((px_v (i := 0) (by exact rfl))) (pa_k ((px_v (i := 1) (by exact rfl))) (pa_k ((px_v (i := 2) (by exact rfl))) (pa_k ((px_v (i := 4) (by exact rfl))) pa_n)))) (.k (.k (.k (.k .nil)))) (.k (.k (.k (.k .nil)))) (by decide) ⟨lacquer, weather, prices, k, rfl, by rw [h12]; rfl⟩)) (nx_le (LeE.cons .refl (LeE.cons .refl (LeE.cons .refl (LeE.cons .refl (LeE.cons .refl (LeE.cons .refl (LeE.cons .un LeE.nil))))))) hM3)
        · have hm := (if_neg (fun z_ => Bool.false_ne_true (e10.symm.trans z_))).symm.trans hm
          rcases bind_cases hm with ⟨t16, h17, hm⟩ | ⟨c18, d19, h17, h20⟩ | h20
          rotate_left
          · exact sx_dropE (pe_callXS (pa_k ((px_v (i := 0) (by exact rfl))) (pa_k ((px_v (i := 1) (by exact rfl))) (pa_k ((px_v (i := 2) (by exact rfl))) (pa_k ((px_v (i := 4) (by exact rfl))) pa_n)))) (.k (.k (.k (.k .nil)))) (.k (.k (.k (.k .nil)))) ⟨lacquer, weather, prices, k, rfl, by rw [h17]; rfl⟩ (hexS_ _ _ h20 _ (LeE.cons .refl (LeE.cons .refl (LeE.cons .refl (LeE.cons .refl (LeE.cons .refl (LeE.cons .refl (LeE.cons .un LeE.nil)))))))))
          · exact absurd h20 hneT_
          try have hm := try_ok hm hT_
          have hm := R.ok.inj hm
          subst hm
          exact sx_drop ((px_callS (x := t16) (outs := []) (pa_k ((px_v (i := 0) (by exact rfl))) (pa_k ((px_v (i := 1) (by exact rfl))) (pa_k ((px_v (i := 2) (by exact rfl))) (pa_k ((px_v (i := 4) (by exact rfl))) pa_n)))) (.k (.k (.k (.k .nil)))) (.k (.k (.k (.k .nil)))) (by decide) ⟨lacquer, weather, prices, k, rfl, by rw [h17]; rfl⟩)) (nx_le (LeE.cons .refl (LeE.cons .refl (LeE.cons .refl (LeE.cons .refl (LeE.cons .refl (LeE.cons .refl (LeE.cons .un LeE.nil))))))) hM3)
  · exact sx_ret' ((px_v (i := 5) (by exact rfl))) hps .nil (hret _ hm.symm)

def N__law_cell : List Str := ["script", "k"]
theorem sc__law_cell : FnScope N__law_cell ["script", "k"] (defScope s__law_cell) := ⟨rfl, rfl, rfl, by decide +kernel, rfl, by decide +kernel, by decide +kernel⟩
def rel__law_cell (cs : List Ca) (o : Out) : Prop := ∃ (script : Sc) (k : Int), cs = [.k script, .k k] ∧ res0 (m_law_cell script k) o
theorem ok__law_cell {g : Gx} {P : Program} {w : World} {mg : Str → Option Value} {base : Heap} {A : Ad} (T : Txt g mg A) : FnOk P w g.K mg base (L2.CX P w) 1 A.f__law_cell A.d__law_cell ["script", "k"] (spOf g rel__law_cell) := by
  refine fn_go T.F__law_cell sc__law_cell (fun cs o h => by obtain ⟨_, _, rfl, _⟩ := h; rfl) (by decide) (fun cdv A_ outer s H X hr => ⟨_, (pss_cons (ps_if (pt_cmpR op_lt (pv 1) (pe_callB (call_len_seqK (K := g.K) rfl) (by rfl) T.no_len (by decide +kernel) (pa_cons (pv 0) pa_nil)) (nomark _)) (pss_one (ps_ret (pe_ix (ix_listK (K := g.K) rfl) (pv 0) (pv 1) (fun _ _ => rfl)))) pss_nil)
 (pss_one (ps_ret (pe_op op_add (pe_op op_mul pe_int (pv 1)) pe_int)))), fun B qs cs o E D hps hrel hini hrt hx hfall => ?_⟩)
  obtain ⟨script, k, rfl, hrel⟩ := hrel
  generalize hm : m_law_cell script k = r at hrel
  obtain ⟨hne, hret, hex⟩ := res0_ne hrel
  clear hrel
  obtain ⟨E1, rfl, hini1⟩ := ini_k hini
  obtain ⟨E2, rfl, hini2⟩ := ini_k hini1
  obtain ⟨rfl, rfl⟩ := ini_nil hini2
  have hret := fun y_ h_ => (hret y_ h_ ▸ hrt : DRt g B D.rt _)
  have hex := fun c_ d_ h_ => hx c_ d_ (hex c_ d_ h_)
  unfold m_law_cell at hm
  show Sx g B [.kp (script : Sc), .kp (k : Int)] _ _
  refine sx_seq (sx_if (pt_test (px_op ((px_v (i := 1) (by exact rfl))) ((px_lenSc ((px_v (i := 0) (by exact rfl))))) r2_lt)) (fun e1 => ?_) (fun e1 => ?_))
  · have hm := (if_pos e1).symm.trans hm
    obtain ⟨t2, h3, hm⟩ := ob_ne hm hne
    exact sx_ret' ((px_idxSc ((px_v (i := 0) (by exact rfl))) (px_v (i := 1) (by exact rfl)) h3)) hps .nil (hret _ hm.symm)
  · have hm := (if_neg (fun z_ => Bool.false_ne_true (e1.symm.trans z_))).symm.trans hm
    refine sx_next (nx_of ?_)
    exact sx_ret' ((px_op (px_op (px_int (n := 977)) (px_v (i := 1) (by exact rfl)) (r2_mul (mulOk_l (by decide)))) (px_int (n := 31)) r2_add)) hps .nil (hret _ hm.symm)

def N_law : List Str := ["script", "pool", "other", "ab", "n", "signs", "prices", "k", "lacquer", "weather", "made", "lists", "far", "bad", "wrong", "again", "labels", "just", "cost", "due", "which", "j"]
theorem sc_law : FnScope N_law ["script"] (defScope s_law) := ⟨rfl, rfl, rfl, by decide +kernel, rfl, by decide +kernel, by decide +kernel⟩
def rel_law (cs : List Ca) (o : Out) : Prop := ∃ (script : Sc), cs = [.k script] ∧ res0 (m_law script) o
theorem ok_law {g : Gx} {P : Program} {w : World} {mg : Str → Option Value} {base : Heap} {A : Ad} (T : Txt g mg A) : FnOk P w g.K mg base (L2.CX P w) 11 A.f_law A.d_law ["script"] (spOf g rel_law) := by
  refine fn_go T.F_law sc_law (fun cs o h => by obtain ⟨_, rfl, _⟩ := h; rfl) (by decide) (fun cdv A_ outer s H X hr => ⟨_, (pss_cons (ps_set (i := 1) sc_law.nd rfl (by first | exact Or.inl rfl | exact Or.inr rfl) (pe_call (ok__law_pool T) (hr.mono (by decide)) (by rfl) T.mg__law_pool T.kp__law_pool T.b__law_pool .nil (passes_call (takes_of rfl rfl rfl rfl) (fun _ _ _ _ h_ => h_)) (pa_cons (pe_call (ok__law_cell T) (hr.mono (by decide)) (by rfl) T.mg__law_cell T.kp__law_cell T.b__law_cell .nil (passes_call (takes_of rfl rfl rfl rfl) (fun _ _ _ _ h_ => h_)) (pa_cons (pv 0) (pa_cons pe_int pa_nil))) pa_nil)))
 (pss_cons (ps_set (i := 2) sc_law.nd rfl (by first | exact Or.inl rfl | exact Or.inr rfl) (pe_call (ok__law_pool T) (hr.mono (by decide)) (by rfl) T.mg__law_pool T.kp__law_pool T.b__law_pool .nil (passes_call (takes_of rfl rfl rfl rfl) (fun _ _ _ _ h_ => h_)) (pa_cons (pe_call (ok__law_cell T) (hr.mono (by decide)) (by rfl) T.mg__law_cell T.kp__law_cell T.b__law_cell .nil (passes_call (takes_of rfl rfl rfl rfl) (fun _ _ _ _ h_ => h_)) (pa_cons (pv 0) (pa_cons pe_int pa_nil))) pa_nil)))
 (pss_cons (ps_set (i := 3) sc_law.nd rfl (by first | exact Or.inl rfl | exact Or.inr rfl) (pe_call (ok__law_board_ab T) (hr.mono (by decide)) (by rfl) T.mg__law_board_ab T.kp__law_board_ab T.b__law_board_ab .nil (passes_call (takes_of rfl rfl rfl rfl) (fun _ _ _ _ h_ => h_)) (pa_cons (pv 1) pa_nil)))
 (pss_cons (ps_set (i := 4) sc_law.nd rfl (by first | exact Or.inl rfl | exact Or.inr rfl) (pe_op op_add pe_int (pe_call (ok__law_take T) (hr.mono (by decide)) (by rfl) T.mg__law_take T.kp__law_take T.b__law_take .nil (passes_call (takes_of rfl rfl rfl rfl) (fun _ _ _ _ h_ => h_)) (pa_cons (pv 1) (pa_cons pe_int pa_nil)))))
 (Evl.pss_cut (ps_if (pt_cmpR op_eq (pe_call (ok__law_take T) (hr.mono (by decide)) (by rfl) T.mg__law_take T.kp__law_take T.b__law_take .nil (passes_call (takes_of rfl rfl rfl rfl) (fun _ _ _ _ h_ => h_)) (pa_cons (pv 1) (pa_cons pe_int pa_nil))) pe_int (nomark _)) (pss_one (ps_set (i := 4) sc_law.nd rfl (by first | exact Or.inl rfl | exact Or.inr rfl) (pe_op op_add pe_int (pe_call (ok__law_take T) (hr.mono (by decide)) (by rfl) T.mg__law_take T.kp__law_take T.b__law_take .nil (passes_call (takes_of rfl rfl rfl rfl) (fun _ _ _ _ h_ => h_)) (pa_cons (pv 1) (pa_cons pe_int pa_nil)))))) pss_nil)
 (pss_cons (ps_set (i := 5) sc_law.nd rfl (by first | exact Or.inl rfl | exact Or.inr rfl) (pe_call (ok__law_board_signs T) (hr.mono (by decide)) (by rfl) T.mg__law_board_signs T.kp__law_board_signs T.b__law_board_signs .nil (passes_call (takes_of rfl rfl rfl rfl) (fun _ _ _ _ h_ => h_)) (pa_cons (pv 2) (pa_cons (pv 3) (pa_cons (pe_op op_add pe_int (pe_call (ok__law_take T) (hr.mono (by decide)) (by rfl) T.mg__law_take T.kp__law_take T.b__law_take .nil (passes_call (takes_of rfl rfl rfl rfl) (fun _ _ _ _ h_ => h_)) (pa_cons (pv 1) (pa_cons (pe_op op_add (pe_op op_sub (pe_ix (ix_tupK (K := g.K) rfl) (pv 3) pe_int (fun _ _ => rfl)) (pe_ix (ix_tupK (K := g.K) rfl) (pv 3) pe_int (fun _ _ => rfl))) pe_int) pa_nil)))) (pa_cons (pv 4) pa_nil))))))
 (pss_cons (ps_set (i := 6) sc_law.nd rfl (by first | exact Or.inl rfl | exact Or.inr rfl) (pe_call (ok__law_prices T) (hr.mono (by decide)) (by rfl) T.mg__law_prices T.kp__law_prices T.b__law_prices .nil (passes_call (takes_of rfl rfl rfl rfl) (fun _ _ _ _ h_ => h_)) (pa_cons (pv 2) (pa_cons (pv 4) pa_nil))))
 (pss_cons (ps_set (i := 7) sc_law.nd rfl (by first | exact Or.inl rfl | exact Or.inr rfl) (pe_op op_add pe_int (pe_call (ok__law_take T) (hr.mono (by decide)) (by rfl) T.mg__law_take T.kp__law_take T.b__law_take .nil (passes_call (takes_of rfl rfl rfl rfl) (fun _ _ _ _ h_ => h_)) (pa_cons (pv 2) (pa_cons (pe_ix (ix_listK (K := g.K) rfl) (pe_lst (pa_cons pe_int (pa_cons pe_int pa_nil))) (pe_call (ok__law_take T) (hr.mono (by decide)) (by rfl) T.mg__law_take T.kp__law_take T.b__law_take .nil (passes_call (takes_of rfl rfl rfl rfl) (fun _ _ _ _ h_ => h_)) (pa_cons (pv 2) (pa_cons pe_int pa_nil))) (fun _ _ => rfl)) pa_nil)))))
 (pss_cons (ps_set (i := 8) sc_law.nd rfl (by first | exact Or.inl rfl | exact Or.inr rfl) (pe_make T.mk_Lacquer (ok_Lacquer___init__ T) (hr.mono (by decide)) (by rfl) T.mg_Lacquer T.b_Lacquer___init__ .nil (passes_call (takes_of rfl rfl rfl rfl) (fun _ _ _ _ h_ => h_)) (pa_cons (pe_ix (ix_tupK (K := g.K) rfl) (pv 3) pe_int (fun _ _ => rfl)) (pa_cons (pe_ix (ix_tupK (K := g.K) rfl) (pv 3) pe_int (fun _ _ => rfl)) pa_nil))))
 (pss_cons (ps_set (i := 9) sc_law.nd rfl (by first | exact Or.inl rfl | exact Or.inr rfl) (pe_smeth (pe_glob (v := .ref (g.ca (Str.ofString "Weather"))) (by rfl) T.mg_Weather rfl) T.sm_Weather_of_signs.choose_spec (ok_Weather_of_signs T) (hr.mono (by decide)) T.b_Weather_of_signs (passes_call (takes_of rfl rfl rfl rfl) (fun _ _ _ _ h_ => h_)) (pa_cons (pv 5) pa_nil)))
 (pss_cons (ps_set (i := 10) sc_law.nd rfl (by first | exact Or.inl rfl | exact Or.inr rfl) (pe_lc (own := [("j", 21)]) (by rfl) sc_law.nd (pi_range1 (by rfl) T.no_range (pa_cons pe_int pa_nil)) (blkOk_by (own := [("j", 21)]) (N := N_law) (sc := defScope s_law) (by decide +kernel)) (fun _ _ _ _ _ => (pg_name (i := 21) sc_law.nd rfl (by first | exact Or.inl rfl | exact Or.inr rfl))) (fun _ _ _ _ _ => pts_nil) (fun _ _ _ _ _ => (pe_call (ok__law_made T) (hr.mono (by decide)) (by rfl) T.mg__law_made T.kp__law_made T.b__law_made .nil passL (pa_cons (pv 2) (pa_cons (pv 3) (pa_cons (pv 4) (pa_cons (pe_callB (cr_maxK (K := g.K) rfl rfl) (by rfl) T.no_max (by decide +kernel) (pa_cons (pv 6) pa_nil)) pa_nil))))))))
 (pss_cons (ps_set (i := 11) sc_law.nd rfl (by first | exact Or.inl rfl | exact Or.inr rfl) (pe_op op_cat (pv 10) (pe_lc (own := [("j", 21)]) (by rfl) sc_law.nd (pi_range1 (by rfl) T.no_range (pa_cons pe_int pa_nil)) (blkOk_by (own := [("j", 21)]) (N := N_law) (sc := defScope s_law) (by decide +kernel)) (fun _ _ _ _ _ => (pg_name (i := 21) sc_law.nd rfl (by first | exact Or.inl rfl | exact Or.inr rfl))) (fun _ _ _ _ _ => pts_nil) (fun _ _ _ _ _ => (pe_call (ok__law_bent T) (hr.mono (by decide)) (by rfl) T.mg__law_bent T.kp__law_bent T.b__law_bent .nil passL (pa_cons (pv 2) (pa_cons (pe_ix (ix_listK (K := g.K) rfl) (pv 10) (pe_op op_mod (pe_callTy call_int1 (by rfl) T.no_int (by decide +kernel) (pa_cons (pv 21) pa_nil)) pe_int) (fun _ _ => rfl)) pa_nil)))))))
 (pss_cons (ps_set (i := 12) sc_law.nd rfl (by first | exact Or.inl rfl | exact Or.inr rfl) (pe_call (ok__law_take T) (hr.mono (by decide)) (by rfl) T.mg__law_take T.kp__law_take T.b__law_take .nil (passes_call (takes_of rfl rfl rfl rfl) (fun _ _ _ _ h_ => h_)) (pa_cons (pv 2) (pa_cons pe_int pa_nil))))
 (pss_cons (ps_set (i := 13) sc_law.nd rfl (by first | exact Or.inl rfl | exact Or.inr rfl) (pe_ix (ix_listK (K := g.K) rfl) (pe_lst (pa_cons (pe_op op_cat (pv 6) (pe_lst (pa_cons pe_int pa_nil))) (pa_cons (pe_slice (sl_listK (K := g.K) rfl) (pv 6) po_none (po_some (pe_op op_sub (pv 4) pe_int))) (pa_cons (pe_op op_cat (pe_lst (pa_cons (pe_op op_sub (pe_un un_neg pe_int) (pv 12)) pa_nil)) (pe_slice (sl_listK (K := g.K) rfl) (pv 6) (po_some pe_int) po_none)) (pa_cons (pe_op op_cat (pe_slice (sl_listK (K := g.K) rfl) (pv 6) po_none (po_some (pe_op op_sub (pv 4) pe_int))) (pe_lst (pa_cons (pe_op op_add pe_int (pv 12)) pa_nil))) pa_nil))))) (pe_call (ok__law_take T) (hr.mono (by decide)) (by rfl) T.mg__law_take T.kp__law_take T.b__law_take .nil (passes_call (takes_of rfl rfl rfl rfl) (fun _ _ _ _ h_ => h_)) (pa_cons (pv 2) (pa_cons pe_int pa_nil))) (fun _ _ => rfl)))
 (pss_cons (ps_set (i := 14) sc_law.nd rfl (by first | exact Or.inl rfl | exact Or.inr rfl) (pe_ix (ix_listK (K := g.K) rfl) (pe_lst (pa_cons pe_int (pa_cons (pe_op op_sub (pe_un un_neg pe_int) (pv 12)) (pa_cons pe_int (pa_cons (pe_op op_add pe_int (pv 12)) pa_nil))))) (pe_call (ok__law_take T) (hr.mono (by decide)) (by rfl) T.mg__law_take T.kp__law_take T.b__law_take .nil (passes_call (takes_of rfl rfl rfl rfl) (fun _ _ _ _ h_ => h_)) (pa_cons (pv 2) (pa_cons pe_int pa_nil))) (fun _ _ => rfl)))
 (pss_cons (ps_for (passes_of rfl) rfl (pi_range1 (by rfl) T.no_range (pa_cons pe_int pa_nil)) (pg_name (i := 15) sc_law.nd rfl (by first | exact Or.inl rfl | exact Or.inr rfl)) (pss_cons (ps_for (passes_of rfl) rfl (pi_listK (K := g.K) rfl (pv 11)) (pg_name (i := 16) sc_law.nd rfl (by first | exact Or.inl rfl | exact Or.inr rfl)) (pss_cons (ps_set (i := 17) sc_law.nd rfl (by first | exact Or.inl rfl | exact Or.inr rfl) (pe_call (ok__law_just T) (hr.mono (by decide)) (by rfl) T.mg__law_just T.kp__law_just T.b__law_just .nil (passes_call (takes_of rfl rfl rfl rfl) (fun _ _ _ _ h_ => h_)) (pa_cons (pv 3) (pa_cons (pv 5) (pa_cons (pv 6) (pa_cons (pv 7) (pa_cons (pv 16) pa_nil)))))))
 (pss_one (ps_for (passes_of rfl) rfl (pi_listK (K := g.K) rfl (pe_lst (pa_cons (pv 17) (pa_cons (pe_op op_add (pv 17) pe_int) (pa_cons (pe_op op_sub (pv 17) (pv 12)) pa_nil))))) (pg_name (i := 18) sc_law.nd rfl (by first | exact Or.inl rfl | exact Or.inr rfl)) (pss_cons (ps_set (i := 19) sc_law.nd rfl (by first | exact Or.inl rfl | exact Or.inr rfl) (pe_call (ok__law_due T) (hr.mono (by decide)) (by rfl) T.mg__law_due T.kp__law_due T.b__law_due .nil (passes_call (takes_of rfl rfl rfl rfl) (fun _ _ _ _ h_ => h_)) (pa_cons (pv 3) (pa_cons (pv 5) (pa_cons (pv 6) (pa_cons (pv 7) (pa_cons (pv 18) (pa_cons (pv 16) pa_nil))))))))
 (pss_one (ps_if (L2.pt_not (pt_val (pe_call (ok__law_same T) (hr.mono (by decide)) (by rfl) T.mg__law_same T.kp__law_same T.b__law_same .nil (passes_call (takes_of rfl rfl rfl rfl) (fun _ _ _ _ h_ => h_)) (pa_cons (pe_call (ok__law_held T) (hr.mono (by decide)) (by rfl) T.mg__law_held T.kp__law_held T.b__law_held .nil (passes_call (takes_of rfl rfl rfl rfl) (fun _ _ _ _ h_ => h_)) (pa_cons (pv 8) (pa_cons (pv 9) (pa_cons (pv 6) (pa_cons (pv 7) (pa_cons (pv 18) (pa_cons (pv 16) pa_nil))))))) (pa_cons (pv 19) pa_nil))))) (pss_one (ps_ret pe_bl)) pss_nil)))))))
 (pss_one (ps_for (passes_of rfl) rfl (pi_range1 (by rfl) T.no_range (pa_cons pe_int pa_nil)) (pg_name (i := 20) sc_law.nd rfl (by first | exact Or.inl rfl | exact Or.inr rfl)) (pss_cons (ps_if (pt_cmpR op_ne (pe_call (ok__law_refused T) (hr.mono (by decide)) (by rfl) T.mg__law_refused T.kp__law_refused T.b__law_refused .nil (passes_call (takes_of rfl rfl rfl rfl) (fun _ _ _ _ h_ => h_)) (pa_cons (pv 8) (pa_cons (pv 9) (pa_cons (pe_callTy (call_list_ofK (K := g.K) rfl) (by rfl) T.no_list (by decide +kernel) (pa_cons (pv 13) pa_nil)) (pa_cons (pv 20) (pa_cons (pv 7) pa_nil)))))) pe_str (nomark _)) (pss_one (ps_ret pe_bl)) pss_nil)
 (pss_one (ps_if (pt_cmpR op_ne (pe_call (ok__law_refused T) (hr.mono (by decide)) (by rfl) T.mg__law_refused T.kp__law_refused T.b__law_refused .nil (passes_call (takes_of rfl rfl rfl rfl) (fun _ _ _ _ h_ => h_)) (pa_cons (pv 8) (pa_cons (pv 9) (pa_cons (pe_callTy (call_list_ofK (K := g.K) rfl) (by rfl) T.no_list (by decide +kernel) (pa_cons (pe_ix (ix_listK (K := g.K) rfl) (pe_lst (pa_cons (pv 6) (pa_cons (pv 13) pa_nil))) (pv 15) (fun _ _ => rfl)) pa_nil)) (pa_cons (pv 20) (pa_cons (pv 14) pa_nil)))))) pe_str (nomark _)) (pss_one (ps_ret pe_bl)) pss_nil)))))))
 (pss_one (ps_ret pe_bl)))))))))))))))))), fun B qs cs o E D hps hrel hini hrt hx hfall => ?_⟩)
  obtain ⟨script, rfl, hrel⟩ := hrel
  generalize hm : m_law script = r at hrel
  obtain ⟨hne, hret, hex⟩ := res0_ne hrel
  clear hrel
  obtain ⟨E1, rfl, hini1⟩ := ini_k hini
  obtain ⟨rfl, rfl⟩ := ini_nil hini1
  have hret := fun y_ h_ => (hret y_ h_ ▸ hrt : DRt g B D.rt _)
  have hex := fun c_ d_ h_ => hx c_ d_ (hex c_ d_ h_)
  unfold m_law at hm
  show Sx g B [.kp (script : Sc), .un, .un, .un, .un, .un, .un, .un, .un, .un, .un, .un, .un, .un, .un, .un, .un, .un, .un, .un, .un, .un] _ _
  obtain ⟨t1, h2, hm⟩ := ob_ne hm hne
  obtain ⟨t3, h4, hm⟩ := ob_ne hm hne
  refine sx_seq (sx_asgO (i := 1) (px_callN (xs := t3) (outs := []) (X := X) (pa_k ((px_call (x := t1) (outs := []) (X := X) (pa_k ((px_v (i := 0) (by exact rfl))) (pa_k ((px_int (n := 0))) pa_n)) (.k (.k .nil)) (.k (.k .nil)) (by decide) ⟨script, (0 : Int), rfl, by rw [(opt_ok h2)]; rfl⟩)) pa_n) (.k .nil) (.k .nil) (by decide) ⟨t1, rfl, by rw [(opt_ok h4)]; rfl⟩) (nx_of ?_))
  obtain ⟨t5, h6, hm⟩ := ob_ne hm hne
  obtain ⟨t7, h8, hm⟩ := ob_ne hm hne
  refine sx_seq (sx_asgO (i := 2) (px_callN (xs := t7) (outs := []) (X := X) (pa_k ((px_call (x := t5) (outs := []) (X := X) (pa_k ((px_v (i := 0) (by exact rfl))) (pa_k ((px_int (n := 1))) pa_n)) (.k (.k .nil)) (.k (.k .nil)) (by decide) ⟨script, (1 : Int), rfl, by rw [(opt_ok h6)]; rfl⟩)) pa_n) (.k .nil) (.k .nil) (by decide) ⟨t5, rfl, by rw [(opt_ok h8)]; rfl⟩) (nx_of ?_))
  obtain ⟨⟨t9, pool10⟩, h11, hm⟩ := ob_ne hm hne
  refine sx_seq (sx_asg (i := 3) ((px_call (x := t9) (outs := [.mk pool10]) (X := X) (pa_s (i := 1) rfl (by intro h_; cases h_) pa_n) (.m (by exact rfl) (by exact trivial) RdL.ow .nil) (.m .nil) (by decide) ⟨t3, rfl, by rw [(opt_ok h11)]; rfl⟩)) (nx_of ?_))
  obtain ⟨⟨t12, pool13⟩, h14, hm⟩ := ob_ne hm hne
  obtain ⟨n15, h16, hm⟩ := elet_eq (v := (((1 : Int) + t12) : Int)) hm
  refine sx_seq (sx_asg (i := 4) (px_eq ((px_op (px_int (n := 1)) (px_call (x := t12) (outs := [.mk pool13]) (X := X) (pa_s (i := 1) rfl (by intro h_; cases h_) (pa_k ((px_int (n := 20))) pa_n)) (.m (by exact rfl) (by exact trivial) RdL.ow (.k .nil)) (.m (.k .nil)) (by decide) ⟨pool10, (20 : Int), rfl, by rw [(opt_ok h14)]; rfl⟩) r2_add)) h16) (nx_of ?_))
  obtain ⟨⟨t17, pool18⟩, h19, hm⟩ := ob_ne hm hne
  obtain ⟨⟨pool21, n22⟩, h29, hm⟩ := ob_ne hm hne
  refine sx_cut (E' := [.kp (script : Sc), .ow (pool21 : (List Int)), .ow (t7 : (List Int)), .kp (t9 : (Int × Int)), .kp (n22 : Int), .un, .un, .un, .un, .un, .un, .un, .un, .un, .un, .un, .un, .un, .un, .un, .un, .un]) (fun M_ hM23 => ?_) ?_
  · clear hm
    refine sx_if (pt_test (px_op ((px_call (x := t17) (outs := [.mk pool18]) (X := X) (pa_s (i := 1) rfl (by intro h_; cases h_) (pa_k ((px_int (n := 16))) pa_n)) (.m (by exact rfl) (by exact trivial) RdL.ow (.k .nil)) (.m (.k .nil)) (by decide) ⟨pool13, (16 : Int), rfl, by rw [(opt_ok h19)]; rfl⟩)) ((px_int (n := 9))) r2_eq)) (fun e20 => ?_) (fun e20 => ?_)
    · have hm := (if_pos e20).symm.trans (opt_ok h29)
      obtain ⟨⟨t24, pool25⟩, h26, hm⟩ := ob_ne hm ok_ne
      obtain ⟨n27, h28, hm⟩ := elet_eq (v := (((1 : Int) + t24) : Int)) hm
      try have hm := try_ok hm hT_
      have hm := R.ok.inj hm
      obtain ⟨hm_a0, hm_b0⟩ := Prod.mk.inj hm
      subst hm_a0
      subst hm_b0
      exact sx_asg (i := 4) (px_eq ((px_op (px_int (n := 1)) (px_call (x := t24) (outs := [.mk pool25]) (X := X) (pa_s (i := 1) rfl (by intro h_; cases h_) (pa_k ((px_int (n := 100))) pa_n)) (.m (by exact rfl) (by exact trivial) RdL.ow (.k .nil)) (.m (.k .nil)) (by decide) ⟨pool18, (100 : Int), rfl, by rw [(opt_ok h26)]; rfl⟩) r2_add)) h28) (nx_le (LeE.cons .refl (LeE.cons .refl (LeE.cons .refl (LeE.cons .refl (LeE.cons .refl (LeE.cons .un (LeE.cons .un (LeE.cons .un (LeE.cons .un (LeE.cons .un (LeE.cons .un (LeE.cons .un (LeE.cons .un (LeE.cons .un (LeE.cons .un (LeE.cons .un (LeE.cons .un (LeE.cons .un (LeE.cons .un (LeE.cons .un (LeE.cons .un (LeE.cons .un LeE.nil)))))))))))))))))))))) hM23)
    · have hm := (if_neg (fun z_ => Bool.false_ne_true (e20.symm.trans z_))).symm.trans (opt_ok h29)
      try have hm := try_ok hm hT_
      have hm := R.ok.inj hm
      obtain ⟨hm_a0, hm_b0⟩ := Prod.mk.inj hm
      subst hm_a0
      subst hm_b0
      exact sx_next (nx_le (LeE.cons .refl (LeE.cons .refl (LeE.cons .refl (LeE.cons .refl (LeE.cons .refl (LeE.cons .un (LeE.cons .un (LeE.cons .un (LeE.cons .un (LeE.cons .un (LeE.cons .un (LeE.cons .un (LeE.cons .un (LeE.cons .un (LeE.cons .un (LeE.cons .un (LeE.cons .un (LeE.cons .un (LeE.cons .un (LeE.cons .un (LeE.cons .un (LeE.cons .un LeE.nil)))))))))))))))))))))) hM23)
  · obtain ⟨⟨t30, pool31⟩, h32, hm⟩ := ob_ne hm hne
    obtain ⟨⟨t33, other34⟩, h35, hm⟩ := ob_ne hm hne
    refine sx_seq (sx_asg (i := 5) ((px_call (x := t33) (outs := [.mk other34]) (X := X) (pa_s (i := 2) rfl (by intro h_; cases h_) (pa_k ((px_v (i := 3) (by exact rfl))) (pa_k ((px_op (px_int (n := 1)) (px_call (x := t30) (outs := [.mk pool31]) (X := X) (pa_s (i := 1) rfl (by intro h_; cases h_) (pa_k ((px_op (px_op (px_t1 (px_v (i := 3) (by exact rfl))) (px_t0 (px_v (i := 3) (by exact rfl))) r2_sub) (px_int (n := 1)) r2_add)) pa_n)) (.m (by exact rfl) (by exact trivial) RdL.ow (.k .nil)) (.m (.k .nil)) (by decide) ⟨pool21, ((t9.2 - t9.1) + (1 : Int)), rfl, by rw [(opt_ok h32)]; rfl⟩) r2_add)) (pa_k ((px_v (i := 4) (by exact rfl))) pa_n)))) (.m (by exact rfl) (by exact trivial) RdL.ow (.k (.k (.k .nil)))) (.m (.k (.k (.k .nil)))) (by decide) ⟨t7, t9, ((1 : Int) + t30), n22, rfl, by rw [(opt_ok h35)]; rfl⟩)) (nx_of ?_))
    obtain ⟨⟨t36, other37⟩, h38, hm⟩ := ob_ne hm hne
    refine sx_seq (sx_asg (i := 6) ((px_call (x := t36) (outs := [.mk other37]) (X := X) (pa_s (i := 2) rfl (by intro h_; cases h_) (pa_k ((px_v (i := 4) (by exact rfl))) pa_n)) (.m (by exact rfl) (by exact trivial) RdL.ow (.k .nil)) (.m (.k .nil)) (by decide) ⟨other34, n22, rfl, by rw [(opt_ok h38)]; rfl⟩)) (nx_of ?_))
    obtain ⟨⟨t39, other40⟩, h41, hm⟩ := ob_ne hm hne
    obtain ⟨t42, h43, hm⟩ := ob_ne hm hne
    obtain ⟨⟨t44, other45⟩, h46, hm⟩ := ob_ne hm hne
    obtain ⟨k47, h48, hm⟩ := elet_eq (v := (((1 : Int) + t44) : Int)) hm
    refine sx_seq (sx_asg (i := 7) (px_eq ((px_op (px_int (n := 1)) (px_call (x := t44) (outs := [.mk other45]) (X := X) (pa_s (i := 2) rfl (by intro h_; cases h_) (pa_k ((px_idx (pl_k ((PxN.pxA Int (pn_lst (ps_cons ((px_int (n := 3))) (ps_cons ((px_int (n := 12))) ps_nil)) (by simp only [List.length_cons, List.length_nil]; decide))))) (px_call (x := t39) (outs := [.mk other40]) (X := X) (pa_s (i := 2) rfl (by intro h_; cases h_) (pa_k ((px_int (n := 2))) pa_n)) (.m (by exact rfl) (by exact trivial) RdL.ow (.k .nil)) (.m (.k .nil)) (by decide) ⟨other37, (2 : Int), rfl, by rw [(opt_ok h41)]; rfl⟩) trivial h43)) pa_n)) (.m (by exact rfl) (by exact trivial) RdL.ow (.k .nil)) (.m (.k .nil)) (by decide) ⟨other40, t42, rfl, by rw [(opt_ok h46)]; rfl⟩) r2_add)) h48) (nx_of ?_))
    rcases bind_cases hm with ⟨t49, h50, hm⟩ | ⟨c51, d52, h50, h53⟩ | h53
    rotate_left
    · exact sx_seq (sx_exprE (pe_makeX rfl (pa_k ((px_t0 (px_v (i := 3) (by exact rfl)))) (pa_k ((px_t1 (px_v (i := 3) (by exact rfl)))) pa_n)) (.k (.k .nil)) (.k (.k .nil)) ⟨t9.1, t9.2, rfl, h50.symm⟩ (hex _ _ h53)))
    · exact absurd h53 hne
    refine sx_seq (sx_asg (i := 8) ((px_make (x := t49) (X := X) rfl (pa_k ((px_t0 (px_v (i := 3) (by exact rfl)))) (pa_k ((px_t1 (px_v (i := 3) (by exact rfl)))) pa_n)) (.k (.k .nil)) (.k (.k .nil)) ⟨t9.1, t9.2, rfl, h50.symm⟩)) (nx_of ?_))
    rcases bind_cases hm with ⟨t54, h55, hm⟩ | ⟨c56, d57, h55, h58⟩ | h58
    rotate_left
    · exact sx_seq (sx_exprE (pe_smethX (pa_k ((px_v (i := 5) (by exact rfl))) pa_n) (.k .nil) (.k .nil) ⟨t33, rfl, by rw [h55]; rfl⟩ (hex _ _ h58)))
    · exact absurd h58 hne
    refine sx_seq (sx_asg (i := 9) ((px_smeth (x := t54) (outs := []) (X := X) (pa_k ((px_v (i := 5) (by exact rfl))) pa_n) (.k .nil) (.k .nil) (by decide) ⟨t33, rfl, by rw [h55]; rfl⟩)) (nx_of ?_))
    obtain ⟨g65, hm⟩ := gd_ne hm hne
    obtain ⟨⟨ys66, other74⟩, h67, hm⟩ := ob_ne hm hne
    refine sx_seq (sx_asg (i := 10) ((PxN.pxA (T3 Int (List Int) (List Int)) (pn_comp (Es := (fun (other68 : (List Int)) => [.kp (script : Sc), .ow (pool31 : (List Int)), .ow (other68 : (List Int)), .kp (t9 : (Int × Int)), .kp (n22 : Int), .kp (t33 : Tx), .kp (t36 : (List Int)), .kp (k47 : Int), .kp (t49 : O_Lacquer), .kp (t54 : O_Weather), .un, .un, .un, .un, .un, .un, .un, .un, .un, .un, .un, .un])) (sr_r1 (px_int (n := 3)) (by decide)) (tc_n (by decide)) (opt_ok h67) g65 (fun _ => rfl) (fun s_ => (by exact same1 ⟨rfl, nown rfl (fun z_ => z_)⟩)) (fun B_ x59 other68 r75 n_ hx_ e76 => by
        obtain ⟨t69, h70, e76⟩ := ob_ne e76 ok_ne
        obtain ⟨⟨t71, other72⟩, h73, e76⟩ := ob_ne e76 ok_ne
        have e76 := R.ok.inj e76
        subst e76
        exact ⟨true, _, pt_yes, (fun _ => ⟨_, _, rfl, (px_call (x := t71) (outs := [.mk other72]) (X := E0) (pa_s (i := 2) rfl (by intro h_; cases h_) (pa_k ((px_v (i := 3) (by exact rfl))) (pa_k ((px_v (i := 4) (by exact rfl))) (pa_k ((px_max (pl_k (px_v (i := 6) (by exact rfl))) trivial h70)) pa_n)))) (.m (by exact rfl) (by exact trivial) RdL.ow (.k (.k (.k .nil)))) (.m (.k (.k (.k .nil)))) (by decide) ⟨other68, t9, n22, t69, rfl, by rw [(opt_ok h73)]; rfl⟩), (LeE.cons .refl (LeE.cons .refl (LeE.cons .refl (LeE.cons .refl (LeE.cons .refl (LeE.cons .refl (LeE.cons .refl (LeE.cons .refl (LeE.cons .refl (LeE.cons .refl (LeE.cons .un (LeE.cons .un (LeE.cons .un (LeE.cons .un (LeE.cons .un (LeE.cons .un (LeE.cons .un (LeE.cons .un (LeE.cons .un (LeE.cons .un (LeE.cons .un (LeE.cons .un LeE.nil))))))))))))))))))))))⟩), (fun h_ => nomatch h_)⟩)))) (nx_of ?_))
    obtain ⟨g83, hm⟩ := gd_ne hm hne
    obtain ⟨⟨ys84, other92⟩, h85, hm⟩ := ob_ne hm hne
    obtain ⟨g95, hm⟩ := gd_ne hm hne
    obtain ⟨lists96, h97, hm⟩ := elet_eq (v := ((ys66 ++ ys84) : (List (T3 Int (List Int) (List Int))))) hm
    refine sx_seq (sx_asg (i := 11) ((PxN.pxA (T3 Int (List Int) (List Int)) (pn_eq (pn_cat (pl_k (px_v (i := 10) (by exact rfl))) (pl_k ((PxN.pxA (T3 Int (List Int) (List Int)) (pn_comp (Es := (fun (other86 : (List Int)) => [.kp (script : Sc), .ow (pool31 : (List Int)), .ow (other86 : (List Int)), .kp (t9 : (Int × Int)), .kp (n22 : Int), .kp (t33 : Tx), .kp (t36 : (List Int)), .kp (k47 : Int), .kp (t49 : O_Lacquer), .kp (t54 : O_Weather), .kp (ys66 : (List (T3 Int (List Int) (List Int)))), .un, .un, .un, .un, .un, .un, .un, .un, .un, .un, .un])) (sr_r1 (px_int (n := 9)) (by decide)) (tc_n (by decide)) (opt_ok h85) g83 (fun _ => rfl) (fun s_ => (by exact same1 ⟨rfl, nown rfl (fun z_ => z_)⟩)) (fun B_ x77 other86 r93 n_ hx_ e94 => by
        obtain ⟨t87, h88, e94⟩ := ob_ne e94 ok_ne
        obtain ⟨⟨t89, other90⟩, h91, e94⟩ := ob_ne e94 ok_ne
        have e94 := R.ok.inj e94
        subst e94
        exact ⟨true, _, pt_yes, (fun _ => ⟨_, _, rfl, (px_call (x := t89) (outs := [.mk other90]) (X := E0) (pa_s (i := 2) rfl (by intro h_; cases h_) (pa_k ((px_idx (pl_k (px_v (i := 10) (by exact rfl))) (px_op (px_intI (px_v (i := 21) (by exact rfl))) (px_int (n := 3)) (r2_mod (by decide))) trivial h88)) pa_n)) (.m (by exact rfl) (by exact trivial) RdL.ow (.k .nil)) (.m (.k .nil)) (by decide) ⟨other86, t87, rfl, by rw [(opt_ok h91)]; rfl⟩), (LeE.cons .refl (LeE.cons .refl (LeE.cons .refl (LeE.cons .refl (LeE.cons .refl (LeE.cons .refl (LeE.cons .refl (LeE.cons .refl (LeE.cons .refl (LeE.cons .refl (LeE.cons .refl (LeE.cons .un (LeE.cons .un (LeE.cons .un (LeE.cons .un (LeE.cons .un (LeE.cons .un (LeE.cons .un (LeE.cons .un (LeE.cons .un (LeE.cons .un (LeE.cons .un LeE.nil))))))))))))))))))))))⟩), (fun h_ => nomatch h_)⟩))))) trivial trivial g95) h97))) (nx_of ?_))
    obtain ⟨⟨t98, other99⟩, h100, hm⟩ := ob_ne hm hne
    refine sx_seq (sx_asg (i := 12) ((px_call (x := t98) (outs := [.mk other99]) (X := X) (pa_s (i := 2) rfl (by intro h_; cases h_) (pa_k ((px_int (n := 9))) pa_n)) (.m (by exact rfl) (by exact trivial) RdL.ow (.k .nil)) (.m (.k .nil)) (by decide) ⟨other92, (9 : Int), rfl, by rw [(opt_ok h100)]; rfl⟩)) (nx_of ?_))
    obtain ⟨g101, hm⟩ := gd_ne hm hne
    obtain ⟨g102, hm⟩ := gd_ne hm hne
    obtain ⟨g103, hm⟩ := gd_ne hm hne
    obtain ⟨⟨t104, other105⟩, h106, hm⟩ := ob_ne hm hne
    obtain ⟨t107, h108, hm⟩ := ob_ne hm hne
    refine sx_seq (sx_asg (i := 13) ((px_idx (pl_k ((PxN.pxA (List Int) (pn_lst (ps_cons ((PxN.pxA Int (pn_cat (pl_k (px_v (i := 6) (by exact rfl))) (pl_k ((PxN.pxA Int (pn_lst (ps_cons ((px_int (n := 0))) ps_nil) (by simp only [List.length_cons, List.length_nil]; decide))))) trivial trivial g101))) (ps_cons ((PxN.pxA Int (pn_sl (pl_k (px_v (i := 6) (by exact rfl))) po_no (po_yes (px_op (px_v (i := 4) (by exact rfl)) (px_int (n := 1)) r2_sub)) trivial))) (ps_cons ((PxN.pxA Int (pn_cat (pl_k ((PxN.pxA Int (pn_lst (ps_cons ((px_op (px_un (px_int (n := 1)) r1_neg) (px_v (i := 12) (by exact rfl)) r2_sub)) ps_nil) (by simp only [List.length_cons, List.length_nil]; decide))))) (pl_k ((PxN.pxA Int (pn_sl (pl_k (px_v (i := 6) (by exact rfl))) (po_yes (px_int (n := 1))) po_no trivial)))) trivial trivial g102))) (ps_cons ((PxN.pxA Int (pn_cat (pl_k ((PxN.pxA Int (pn_sl (pl_k (px_v (i := 6) (by exact rfl))) po_no (po_yes (px_op (px_v (i := 4) (by exact rfl)) (px_int (n := 1)) r2_sub)) trivial)))) (pl_k ((PxN.pxA Int (pn_lst (ps_cons ((px_op (px_int (n := 1001)) (px_v (i := 12) (by exact rfl)) r2_add)) ps_nil) (by simp only [List.length_cons, List.length_nil]; decide))))) trivial trivial g103))) ps_nil)))) (by simp only [List.length_cons, List.length_nil]; decide))))) (px_call (x := t104) (outs := [.mk other105]) (X := X) (pa_s (i := 2) rfl (by intro h_; cases h_) (pa_k ((px_int (n := 4))) pa_n)) (.m (by exact rfl) (by exact trivial) RdL.ow (.k .nil)) (.m (.k .nil)) (by decide) ⟨other99, (4 : Int), rfl, by rw [(opt_ok h106)]; rfl⟩) trivial h108)) (nx_of ?_))
    obtain ⟨⟨t109, other110⟩, h111, hm⟩ := ob_ne hm hne
    obtain ⟨t112, h113, hm⟩ := ob_ne hm hne
    refine sx_seq (sx_asg (i := 14) ((px_idx (pl_k ((PxN.pxA Int (pn_lst (ps_cons ((px_int (n := 0))) (ps_cons ((px_op (px_un (px_int (n := 1)) r1_neg) (px_v (i := 12) (by exact rfl)) r2_sub)) (ps_cons ((px_int (n := 13))) (ps_cons ((px_op (px_int (n := 14)) (px_v (i := 12) (by exact rfl)) r2_add)) ps_nil)))) (by simp only [List.length_cons, List.length_nil]; decide))))) (px_call (x := t109) (outs := [.mk other110]) (X := X) (pa_s (i := 2) rfl (by intro h_; cases h_) (pa_k ((px_int (n := 4))) pa_n)) (.m (by exact rfl) (by exact trivial) RdL.ow (.k .nil)) (.m (.k .nil)) (by decide) ⟨other105, (4 : Int), rfl, by rw [(opt_ok h111)]; rfl⟩) trivial h113)) (nx_of ?_))
    obtain ⟨out_, hL_, hno_, hm⟩ := bind_split hm hne
    refine sx_seq (sx_for (s0 := ()) (X := fun B_ c_ d_ => XkOk g B_ X c_ d_) (fin := (fun y_ => Out.ret y_ [])) (Ei := (fun (_ : Unit) => [.kp (script : Sc), .ow (pool31 : (List Int)), .ow (other110 : (List Int)), .kp (t9 : (Int × Int)), .kp (n22 : Int), .kp (t33 : Tx), .kp (t36 : (List Int)), .kp (k47 : Int), .kp (t49 : O_Lacquer), .kp (t54 : O_Weather), .kp (ys66 : (List (T3 Int (List Int) (List Int)))), .kp (lists96 : (List (T3 Int (List Int) (List Int)))), .kp (t98 : Int), .kp (t107 : (List Int)), .kp (t112 : Int), .un, .un, .un, .un, .un, .un, .un])) (fun _ _ _ _ n_ h_ => h_.nest n_) (sr_r1 (px_int (n := 2)) (by decide)) (tg_n) (by exact (LeE.cons .refl (LeE.cons .refl (LeE.cons .refl (LeE.cons .refl (LeE.cons .refl (LeE.cons .refl (LeE.cons .refl (LeE.cons .refl (LeE.cons .refl (LeE.cons .refl (LeE.cons .refl (LeE.cons .refl (LeE.cons .refl (LeE.cons .refl (LeE.cons .refl (LeE.cons .un (LeE.cons .un (LeE.cons .un (LeE.cons .un (LeE.cons .un (LeE.cons .un (LeE.cons .un LeE.nil))))))))))))))))))))))) hL_ hno_ (fun y_ h_ => hret _ (loop_ret h_ hm).symm) (fun c_ d_ h_ => hex c_ d_ (by rw [h_] at hm; exact hm.symm)) (fun B x114 s_ r_ D hB_ hx_ hm hne hnx hct hbk hret hex => ?_) (fun s_ hs_ => ?_))
    · have hps := hB_.1.trans hps
      show Sx g B [.kp (script : Sc), .ow (pool31 : (List Int)), .ow (other110 : (List Int)), .kp (t9 : (Int × Int)), .kp (n22 : Int), .kp (t33 : Tx), .kp (t36 : (List Int)), .kp (k47 : Int), .kp (t49 : O_Lacquer), .kp (t54 : O_Weather), .kp (ys66 : (List (T3 Int (List Int) (List Int)))), .kp (lists96 : (List (T3 Int (List Int) (List Int)))), .kp (t98 : Int), .kp (t107 : (List Int)), .kp (t112 : Int), .kp (x114 : Int), .un, .un, .un, .un, .un, .un] _ _
      obtain ⟨out_, hL_, hno_, hm⟩ := bind_split hm hne
      refine sx_seq (sx_for (s0 := ()) (X := fun B_ c_ d_ => XkOk g B_ X c_ d_) (fin := (fun y_ => Out.ret y_ [])) (Ei := (fun (_ : Unit) => [.kp (script : Sc), .ow (pool31 : (List Int)), .ow (other110 : (List Int)), .kp (t9 : (Int × Int)), .kp (n22 : Int), .kp (t33 : Tx), .kp (t36 : (List Int)), .kp (k47 : Int), .kp (t49 : O_Lacquer), .kp (t54 : O_Weather), .kp (ys66 : (List (T3 Int (List Int) (List Int)))), .kp (lists96 : (List (T3 Int (List Int) (List Int)))), .kp (t98 : Int), .kp (t107 : (List Int)), .kp (t112 : Int), .kp (x114 : Int), .un, .un, .un, .un, .un, .un])) (fun _ _ _ _ n_ h_ => h_.nest n_) (sr_list ((px_v (i := 11) (by exact rfl)))) (tg_n) (by exact (LeE.cons .refl (LeE.cons .refl (LeE.cons .refl (LeE.cons .refl (LeE.cons .refl (LeE.cons .refl (LeE.cons .refl (LeE.cons .refl (LeE.cons .refl (LeE.cons .refl (LeE.cons .refl (LeE.cons .refl (LeE.cons .refl (LeE.cons .refl (LeE.cons .refl (LeE.cons .refl (LeE.cons .un (LeE.cons .un (LeE.cons .un (LeE.cons .un (LeE.cons .un (LeE.cons .un LeE.nil))))))))))))))))))))))) hL_ hno_ (fun y_ h_ => hret _ (loop_ret h_ hm).symm) (fun c_ d_ h_ => hex c_ d_ (by rw [h_] at hm; exact hm.symm)) (fun B x115 s_ r_ D hB_ hx_ hm hne hnx hct hbk hret hex => ?_) (fun s_ hs_ => ?_))
      · have hps := hB_.1.trans hps
        show Sx g B [.kp (script : Sc), .ow (pool31 : (List Int)), .ow (other110 : (List Int)), .kp (t9 : (Int × Int)), .kp (n22 : Int), .kp (t33 : Tx), .kp (t36 : (List Int)), .kp (k47 : Int), .kp (t49 : O_Lacquer), .kp (t54 : O_Weather), .kp (ys66 : (List (T3 Int (List Int) (List Int)))), .kp (lists96 : (List (T3 Int (List Int) (List Int)))), .kp (t98 : Int), .kp (t107 : (List Int)), .kp (t112 : Int), .kp (x114 : Int), .kp (x115 : (T3 Int (List Int) (List Int))), .un, .un, .un, .un, .un] _ _
        obtain ⟨t116, h117, hm⟩ := ob_ne hm hne
        refine sx_seq (sx_asg (i := 17) ((px_call (x := t116) (outs := []) (X := X) (pa_k ((px_v (i := 3) (by exact rfl))) (pa_k ((px_v (i := 5) (by exact rfl))) (pa_k ((px_v (i := 6) (by exact rfl))) (pa_k ((px_v (i := 7) (by exact rfl))) (pa_k ((px_v (i := 16) (by exact rfl))) pa_n))))) (.k (.k (.k (.k (.k .nil))))) (.k (.k (.k (.k (.k .nil))))) (by decide) ⟨t9, t33, t36, k47, x115, rfl, by rw [(opt_ok h117)]; rfl⟩)) (nx_of ?_))
        obtain ⟨out_, hL_, hno_, hm⟩ := bind_split hm hne
        refine sx_for (s0 := ()) (X := fun B_ c_ d_ => XkOk g B_ X c_ d_) (fin := (fun y_ => Out.ret y_ [])) (Ei := (fun (_ : Unit) => [.kp (script : Sc), .ow (pool31 : (List Int)), .ow (other110 : (List Int)), .kp (t9 : (Int × Int)), .kp (n22 : Int), .kp (t33 : Tx), .kp (t36 : (List Int)), .kp (k47 : Int), .kp (t49 : O_Lacquer), .kp (t54 : O_Weather), .kp (ys66 : (List (T3 Int (List Int) (List Int)))), .kp (lists96 : (List (T3 Int (List Int) (List Int)))), .kp (t98 : Int), .kp (t107 : (List Int)), .kp (t112 : Int), .kp (x114 : Int), .kp (x115 : (T3 Int (List Int) (List Int))), .kp (t116 : Int), .un, .un, .un, .un])) (fun _ _ _ _ n_ h_ => h_.nest n_) (sr_list ((PxN.pxA Int (pn_lst (ps_cons ((px_v (i := 17) (by exact rfl))) (ps_cons ((px_op (px_v (i := 17) (by exact rfl)) (px_int (n := 1)) r2_add)) (ps_cons ((px_op (px_v (i := 17) (by exact rfl)) (px_v (i := 12) (by exact rfl)) r2_sub)) ps_nil))) (by simp only [List.length_cons, List.length_nil]; decide))))) (tg_n) (by exact (LeE.cons .refl (LeE.cons .refl (LeE.cons .refl (LeE.cons .refl (LeE.cons .refl (LeE.cons .refl (LeE.cons .refl (LeE.cons .refl (LeE.cons .refl (LeE.cons .refl (LeE.cons .refl (LeE.cons .refl (LeE.cons .refl (LeE.cons .refl (LeE.cons .refl (LeE.cons .refl (LeE.cons .refl (LeE.cons .refl (LeE.cons .un (LeE.cons .un (LeE.cons .un (LeE.cons .un LeE.nil))))))))))))))))))))))) hL_ hno_ (fun y_ h_ => hret _ (loop_ret h_ hm).symm) (fun c_ d_ h_ => hex c_ d_ (by rw [h_] at hm; exact hm.symm)) (fun B x118 s_ r_ D hB_ hx_ hm hne hnx hct hbk hret hex => ?_) (fun s_ hs_ => ?_)
        · have hps := hB_.1.trans hps
          show Sx g B [.kp (script : Sc), .ow (pool31 : (List Int)), .ow (other110 : (List Int)), .kp (t9 : (Int × Int)), .kp (n22 : Int), .kp (t33 : Tx), .kp (t36 : (List Int)), .kp (k47 : Int), .kp (t49 : O_Lacquer), .kp (t54 : O_Weather), .kp (ys66 : (List (T3 Int (List Int) (List Int)))), .kp (lists96 : (List (T3 Int (List Int) (List Int)))), .kp (t98 : Int), .kp (t107 : (List Int)), .kp (t112 : Int), .kp (x114 : Int), .kp (x115 : (T3 Int (List Int) (List Int))), .kp (t116 : Int), .kp (x118 : Int), .un, .un, .un] _ _
          obtain ⟨t119, h120, hm⟩ := ob_ne hm hne
          refine sx_seq (sx_asg (i := 19) ((px_call (x := t119) (outs := []) (X := X) (pa_k ((px_v (i := 3) (by exact rfl))) (pa_k ((px_v (i := 5) (by exact rfl))) (pa_k ((px_v (i := 6) (by exact rfl))) (pa_k ((px_v (i := 7) (by exact rfl))) (pa_k ((px_v (i := 18) (by exact rfl))) (pa_k ((px_v (i := 16) (by exact rfl))) pa_n)))))) (.k (.k (.k (.k (.k (.k .nil)))))) (.k (.k (.k (.k (.k (.k .nil)))))) (by decide) ⟨t9, t33, t36, k47, x118, x115, rfl, by rw [(opt_ok h120)]; rfl⟩)) (nx_of ?_))
          obtain ⟨t121, h122, hm⟩ := ob_ne hm hne
          obtain ⟨t123, h124, hm⟩ := ob_ne hm hne
          refine sx_if (pt_not (pt_B (px_call (x := t123) (outs := []) (X := X) (pa_k ((px_call (x := t121) (outs := []) (X := X) (pa_k ((px_v (i := 8) (by exact rfl))) (pa_k ((px_v (i := 9) (by exact rfl))) (pa_k ((px_v (i := 6) (by exact rfl))) (pa_k ((px_v (i := 7) (by exact rfl))) (pa_k ((px_v (i := 18) (by exact rfl))) (pa_k ((px_v (i := 16) (by exact rfl))) pa_n)))))) (.k (.k (.k (.k (.k (.k .nil)))))) (.k (.k (.k (.k (.k (.k .nil)))))) (by decide) ⟨t49, t54, t36, k47, x118, x115, rfl, by rw [(opt_ok h122)]; rfl⟩)) (pa_k (px_d ((px_v (i := 19) (by exact rfl)))) pa_n)) (.k (.k .nil)) (.k (.k .nil)) (by decide) ⟨t121, (ToD.d t119), rfl, by rw [(opt_ok h124)]; rfl⟩))) (fun e125 => ?_) (fun e125 => ?_)
          · have hm := (if_pos e125).symm.trans hm
            exact sx_ret' (px_bl) hps .nil (hret _ hm.symm)
          · have hm := (if_neg (fun z_ => Bool.false_ne_true (e125.symm.trans z_))).symm.trans hm
            exact sx_next (nx_le (LeE.cons .refl (LeE.cons .refl (LeE.cons .refl (LeE.cons .refl (LeE.cons .refl (LeE.cons .refl (LeE.cons .refl (LeE.cons .refl (LeE.cons .refl (LeE.cons .refl (LeE.cons .refl (LeE.cons .refl (LeE.cons .refl (LeE.cons .refl (LeE.cons .refl (LeE.cons .refl (LeE.cons .refl (LeE.cons .refl (LeE.cons .un (LeE.cons .un (LeE.cons .un (LeE.cons .un LeE.nil)))))))))))))))))))))) (hnx _ hm.symm))
        · have hm := loop_go hs_ hm
          clear hs_ hL_ hno_
          obtain _ := s_
          exact (nx_le (LeE.cons .refl (LeE.cons .refl (LeE.cons .refl (LeE.cons .refl (LeE.cons .refl (LeE.cons .refl (LeE.cons .refl (LeE.cons .refl (LeE.cons .refl (LeE.cons .refl (LeE.cons .refl (LeE.cons .refl (LeE.cons .refl (LeE.cons .refl (LeE.cons .refl (LeE.cons .refl (LeE.cons .un (LeE.cons .un (LeE.cons .un (LeE.cons .un (LeE.cons .un (LeE.cons .un LeE.nil)))))))))))))))))))))) (hnx _ hm.symm))
      · have hm := loop_go hs_ hm
        clear hs_ hL_ hno_
        obtain _ := s_
        refine nx_of ?_
        show Sx g B [.kp (script : Sc), .ow (pool31 : (List Int)), .ow (other110 : (List Int)), .kp (t9 : (Int × Int)), .kp (n22 : Int), .kp (t33 : Tx), .kp (t36 : (List Int)), .kp (k47 : Int), .kp (t49 : O_Lacquer), .kp (t54 : O_Weather), .kp (ys66 : (List (T3 Int (List Int) (List Int)))), .kp (lists96 : (List (T3 Int (List Int) (List Int)))), .kp (t98 : Int), .kp (t107 : (List Int)), .kp (t112 : Int), .kp (x114 : Int), .un, .un, .un, .un, .un, .un] _ _
        obtain ⟨out_, hL_, hno_, hm⟩ := bind_split hm hne
        refine sx_for (s0 := ()) (X := fun B_ c_ d_ => XkOk g B_ X c_ d_) (fin := (fun y_ => Out.ret y_ [])) (Ei := (fun (_ : Unit) => [.kp (script : Sc), .ow (pool31 : (List Int)), .ow (other110 : (List Int)), .kp (t9 : (Int × Int)), .kp (n22 : Int), .kp (t33 : Tx), .kp (t36 : (List Int)), .kp (k47 : Int), .kp (t49 : O_Lacquer), .kp (t54 : O_Weather), .kp (ys66 : (List (T3 Int (List Int) (List Int)))), .kp (lists96 : (List (T3 Int (List Int) (List Int)))), .kp (t98 : Int), .kp (t107 : (List Int)), .kp (t112 : Int), .kp (x114 : Int), .un, .un, .un, .un, .un, .un])) (fun _ _ _ _ n_ h_ => h_.nest n_) (sr_r1 (px_int (n := 3)) (by decide)) (tg_n) (by exact (LeE.cons .refl (LeE.cons .refl (LeE.cons .refl (LeE.cons .refl (LeE.cons .refl (LeE.cons .refl (LeE.cons .refl (LeE.cons .refl (LeE.cons .refl (LeE.cons .refl (LeE.cons .refl (LeE.cons .refl (LeE.cons .refl (LeE.cons .refl (LeE.cons .refl (LeE.cons .refl (LeE.cons .un (LeE.cons .un (LeE.cons .un (LeE.cons .un (LeE.cons .un (LeE.cons .un LeE.nil))))))))))))))))))))))) hL_ hno_ (fun y_ h_ => hret _ (loop_ret h_ hm).symm) (fun c_ d_ h_ => hex c_ d_ (by rw [h_] at hm; exact hm.symm)) (fun B x126 s_ r_ D hB_ hx_ hm hne hnx hct hbk hret hex => ?_) (fun s_ hs_ => ?_)
        · have hps := hB_.1.trans hps
          show Sx g B [.kp (script : Sc), .ow (pool31 : (List Int)), .ow (other110 : (List Int)), .kp (t9 : (Int × Int)), .kp (n22 : Int), .kp (t33 : Tx), .kp (t36 : (List Int)), .kp (k47 : Int), .kp (t49 : O_Lacquer), .kp (t54 : O_Weather), .kp (ys66 : (List (T3 Int (List Int) (List Int)))), .kp (lists96 : (List (T3 Int (List Int) (List Int)))), .kp (t98 : Int), .kp (t107 : (List Int)), .kp (t112 : Int), .kp (x114 : Int), .un, .un, .un, .un, .kp (x126 : Int), .un] _ _
          obtain ⟨t127, h128, hm⟩ := ob_ne hm hne
          refine sx_seq (sx_if (pt_test (px_op ((px_call (x := t127) (outs := []) (X := X) (pa_k ((px_v (i := 8) (by exact rfl))) (pa_k ((px_v (i := 9) (by exact rfl))) (pa_k ((PxN.pxA Int (pn_list (pl_k (px_v (i := 13) (by exact rfl))) trivial))) (pa_k ((px_v (i := 20) (by exact rfl))) (pa_k ((px_v (i := 7) (by exact rfl))) pa_n))))) (.k (.k (.k (.k (.k .nil))))) (.k (.k (.k (.k (.k .nil))))) (by decide) ⟨t49, t54, t107, x126, k47, rfl, by rw [(opt_ok h128)]; rfl⟩)) ((px_str (t := ([112, 114, 105, 99, 101] : Tx)) rfl)) r2_ne)) (fun e129 => ?_) (fun e129 => ?_))
          · have hm := (if_pos e129).symm.trans hm
            exact sx_ret' (px_bl) hps .nil (hret _ hm.symm)
          · have hm := (if_neg (fun z_ => Bool.false_ne_true (e129.symm.trans z_))).symm.trans hm
            refine sx_next (nx_of ?_)
            obtain ⟨t130, h131, hm⟩ := ob_ne hm hne
            obtain ⟨t132, h133, hm⟩ := ob_ne hm hne
            refine sx_if (pt_test (px_op ((px_call (x := t132) (outs := []) (X := X) (pa_k ((px_v (i := 8) (by exact rfl))) (pa_k ((px_v (i := 9) (by exact rfl))) (pa_k ((PxN.pxA Int (pn_list (pl_k ((px_idx (pl_k ((PxN.pxA (List Int) (pn_lst (ps_cons ((px_v (i := 6) (by exact rfl))) (ps_cons ((px_v (i := 13) (by exact rfl))) ps_nil)) (by simp only [List.length_cons, List.length_nil]; decide))))) (px_v (i := 15) (by exact rfl)) trivial h131))) trivial))) (pa_k ((px_v (i := 20) (by exact rfl))) (pa_k ((px_v (i := 14) (by exact rfl))) pa_n))))) (.k (.k (.k (.k (.k .nil))))) (.k (.k (.k (.k (.k .nil))))) (by decide) ⟨t49, t54, t130, x126, t112, rfl, by rw [(opt_ok h133)]; rfl⟩)) ((px_str (t := ([110, 117, 109, 98, 101, 114] : Tx)) rfl)) r2_ne)) (fun e134 => ?_) (fun e134 => ?_)
            · have hm := (if_pos e134).symm.trans hm
              exact sx_ret' (px_bl) hps .nil (hret _ hm.symm)
            · have hm := (if_neg (fun z_ => Bool.false_ne_true (e134.symm.trans z_))).symm.trans hm
              exact sx_next (nx_le (LeE.cons .refl (LeE.cons .refl (LeE.cons .refl (LeE.cons .refl (LeE.cons .refl (LeE.cons .refl (LeE.cons .refl (LeE.cons .refl (LeE.cons .refl (LeE.cons .refl (LeE.cons .refl (LeE.cons .refl (LeE.cons .refl (LeE.cons .refl (LeE.cons .refl (LeE.cons .refl (LeE.cons .un (LeE.cons .un (LeE.cons .un (LeE.cons .un (LeE.cons .un (LeE.cons .un LeE.nil)))))))))))))))))))))) (hnx _ hm.symm))
        · have hm := loop_go hs_ hm
          clear hs_ hL_ hno_
          obtain _ := s_
          exact (nx_le (LeE.cons .refl (LeE.cons .refl (LeE.cons .refl (LeE.cons .refl (LeE.cons .refl (LeE.cons .refl (LeE.cons .refl (LeE.cons .refl (LeE.cons .refl (LeE.cons .refl (LeE.cons .refl (LeE.cons .refl (LeE.cons .refl (LeE.cons .refl (LeE.cons .refl (LeE.cons .un (LeE.cons .un (LeE.cons .un (LeE.cons .un (LeE.cons .un (LeE.cons .un (LeE.cons .un LeE.nil)))))))))))))))))))))) (hnx _ hm.symm))
    · have hm := loop_go hs_ hm
      clear hs_ hL_ hno_
      obtain _ := s_
      refine nx_of ?_
      show Sx g B [.kp (script : Sc), .ow (pool31 : (List Int)), .ow (other110 : (List Int)), .kp (t9 : (Int × Int)), .kp (n22 : Int), .kp (t33 : Tx), .kp (t36 : (List Int)), .kp (k47 : Int), .kp (t49 : O_Lacquer), .kp (t54 : O_Weather), .kp (ys66 : (List (T3 Int (List Int) (List Int)))), .kp (lists96 : (List (T3 Int (List Int) (List Int)))), .kp (t98 : Int), .kp (t107 : (List Int)), .kp (t112 : Int), .un, .un, .un, .un, .un, .un, .un] _ _
      exact sx_ret' (px_bl) hps .nil (hret _ hm.symm)

end Gn
namespace Gn
open PySem L2
/-! ### plain laws: results -/
theorem ob_some {α β : Type} (a : α) (f : α → R β) : ob (some a) f = f a := rfl
theorem gd_t {β : Type} {c : Bool} (m : R β) (h : c = true) : gd c m = m := by subst h; rfl
theorem elet_ {α β : Type} (a : α) (f : α → R β) : elet a f = f a := rfl
theorem bind_ok_ {α β : Type} (a : α) (f : α → R β) : (R.ok a).bind f = f a := rfl
theorem opt_ok_ {α : Type} (a : α) : (R.ok a).opt = some a := rfl
theorem sz_le {n : Nat} (h : n ≤ 16777216) : sz n = true := decide_eq_true h
theorem rg_le {n : Int} (h0 : -1000000 ≤ n) (h : n ≤ 1000000) : rgOk n = true := by
  unfold rgOk
  rw [Bool.and_eq_true]
  exact ⟨decide_eq_true (Int.le_trans (by decide) h0), decide_eq_true (Int.lt_of_le_of_lt h (by decide))⟩
/-! ### lots -/
def IsPool (p : List Int) : Prop := ∃ a b c, p = [a, b, c]
theorem mulOk_mod {x m : Int} (h0 : 0 < m) (h1 : m < 4294967296) : mulOk (x % m) (x % m) = true := by
  unfold mulOk
  have h2 := Int.emod_nonneg x (Int.ne_of_gt h0)
  have h3 := Int.emod_lt_of_pos x h0
  have a1 : (-(2 ^ 64 : Int)) < x % m := Int.lt_of_lt_of_le (by decide) h2
  have a2 : x % m < 2 ^ 64 := Int.lt_trans h3 (Int.lt_trans h1 (by decide))
  rw [decide_eq_true a1, decide_eq_true a2]; rfl
theorem take_ok {p : List Int} {size : Int} (hp : IsPool p) (h0 : 0 < size) (h1 : size < 1073741824) : ∃ d q, m_law_take p size = .ok (d, q) ∧ IsPool q ∧ 0 ≤ d ∧ d < size := by
  obtain ⟨a, b, c, rfl⟩ := hp
  have g1 : decide (0 < size) = true := decide_eq_true h0
  have g2 : divOk size = true := by unfold divOk; rw [decide_eq_true h0, decide_eq_true h1]; rfl
  have e2 : atI [a, b, c] (2 : Int) = some c := rfl
  have e3 : setI [a, b, c] (2 : Int) (c + 1) = some [a, b, c + 1] := rfl
  have e4 : atI [a, b, c + 1] (0 : Int) = some a := rfl
  have e5 : atI [a, b, c + 1] (1 : Int) = some b := rfl
  have e6 : atI [a, b, c + 1] (2 : Int) = some (c + 1) := rfl
  unfold m_law_take
  rw [e2, ob_some, e3, ob_some, e4, ob_some]
  by_cases h : (1 : Int) < a
  · rw [if_pos (decide_eq_true h), ob_some, gd_t _ g1, elet_, ob_some, gd_t _ g2, show setI [a, b, c + 1] (0 : Int) (a / size) = some [a / size, b, c + 1] from rfl, ob_some]
    exact ⟨_, _, rfl, ⟨_, _, _, rfl⟩, Int.emod_nonneg _ (Int.ne_of_gt h0), Int.emod_lt_of_pos _ h0⟩
  · rw [if_neg (by rw [decide_eq_false h]; exact Bool.false_ne_true), e5, ob_some, e6, ob_some, elet_, gd_t _ (mulOk_mod (by decide) (by decide)), ob_some, elet_, gd_t _ (mulOk_mod (by decide) (by decide)), ob_some, elet_, gd_t _ g1]
    exact ⟨_, _, rfl, ⟨_, _, _, rfl⟩, Int.emod_nonneg _ (Int.ne_of_gt h0), Int.emod_lt_of_pos _ h0⟩
theorem pool_ok (c : Int) : ∃ p, m_law_pool c = .ok p ∧ IsPool p := by
  unfold m_law_pool
  split
  · exact ⟨_, rfl, _, _, _, rfl⟩
  · split
    · exact ⟨_, rfl, _, _, _, rfl⟩
    · exact ⟨_, rfl, _, _, _, rfl⟩
theorem cell_ok (s : Sc) (k : Int) (h : 0 ≤ k) : ∃ c, m_law_cell s k = .ok c := by
  unfold m_law_cell
  by_cases hk : k < (s.xs.length : Int)
  · rw [if_pos (decide_eq_true hk)]
    have hl : k.toNat < s.xs.length := by omega
    have e : atI s.xs k = some s.xs[k.toNat] := by
      unfold atI ixN
      rw [if_pos h, if_pos hk, Option.bind_some, List.getElem?_eq_getElem hl]
    rw [e, ob_some]
    exact ⟨_, rfl⟩
  · rw [if_neg (by rw [decide_eq_false hk]; exact Bool.false_ne_true)]
    exact ⟨_, rfl⟩
theorem ab_ok {p : List Int} {most : Int} (hp : IsPool p) (h0 : 2 ≤ most) (h1 : most ≤ 12) : ∃ a b q, m_law_ab p most = .ok ((a, b), q) ∧ IsPool q ∧ 1 ≤ a ∧ a < b ∧ b ≤ most := by
  obtain ⟨d, q, e, hq, d0, d1⟩ := take_ok (size := most - 1) hp (by omega) (by omega)
  obtain ⟨d', q', e', hq', d0', d1'⟩ := take_ok (size := most - (1 + d)) hq (by omega) (by omega)
  unfold m_law_ab
  rw [e, opt_ok_, ob_some]
  show ∃ a b q, (elet (1 + d) fun a4 => ob ((m_law_take _ (most - a4)).opt) fun (t6, pool7) => R.ok ((a4, a4 + 1 + t6), pool7)) = .ok ((a, b), q) ∧ _
  rw [elet_, e', opt_ok_, ob_some]
  exact ⟨_, _, _, rfl, hq', by omega, by omega, by omega⟩
theorem board_ab_ok {p : List Int} (hp : IsPool p) : ∃ a b q, m_law_board_ab p = .ok ((a, b), q) ∧ IsPool q ∧ 1 ≤ a ∧ a < b ∧ b ≤ 12 := by
  obtain ⟨d, q, e, hq, d0, d1⟩ := take_ok (size := 8) hp (by omega) (by omega)
  have hm : ∃ m : Int, (if (decide (d = (5 : Int))) = true then .ok (12 : Int) else .ok (6 : Int) : R (Int)) = .ok m ∧ 2 ≤ m ∧ m ≤ 12 := by
    split
    · exact ⟨_, rfl, by omega, by omega⟩
    · exact ⟨_, rfl, by omega, by omega⟩
  obtain ⟨m, em, m0, m1⟩ := hm
  obtain ⟨a, b, q2, e2, hq2, a0, a1, a2⟩ := ab_ok (most := m) hq m0 m1
  obtain ⟨d3, q3, e3, hq3, _, _⟩ := take_ok (size := 4) hq2 (by omega) (by omega)
  unfold m_law_board_ab
  rw [e, opt_ok_, ob_some]
  dsimp only
  rw [em, opt_ok_, ob_some, e2, opt_ok_, ob_some]
  dsimp only
  rw [e3, opt_ok_, ob_some]
  dsimp only
  by_cases h : d3 = 3
  · rw [if_pos (decide_eq_true h), elet_, opt_ok_, ob_some]
    exact ⟨_, _, _, rfl, hq3, by omega, by omega, by omega⟩
  · rw [if_neg (by rw [decide_eq_false h]; exact Bool.false_ne_true), opt_ok_, ob_some]
    exact ⟨_, _, _, rfl, hq3, by omega, by omega, by omega⟩
end Gn
namespace Gn
open PySem L2
/-! ### walks over ranges -/
theorem rng_nil {lo hi : Int} (h : hi ≤ lo) : rng lo hi = [] := by
  unfold rng
  have : (hi - lo).toNat = 0 := by omega
  rw [this]; rfl
theorem rng_cons {lo hi : Int} (h : lo < hi) : rng lo hi = lo :: rng (lo + 1) hi := by
  unfold rng
  have e : (hi - lo).toNat = (hi - (lo + 1)).toNat + 1 := by omega
  rw [e, List.range_succ_eq_map, List.map_cons, List.map_map]
  congr 1
  · simp
  · apply List.map_congr_left
    intro i _
    show lo + ((i + 1 : Nat) : Int) = lo + 1 + (i : Int)
    omega
theorem mem_rng {lo hi x : Int} : x ∈ rng lo hi ↔ lo ≤ x ∧ x < hi := by
  unfold rng
  rw [List.mem_map]
  constructor
  · rintro ⟨i, hi', rfl⟩
    have := List.mem_range.mp hi'
    omega
  · rintro ⟨h1, h2⟩
    exact ⟨(x - lo).toNat, List.mem_range.mpr (by omega), by omega⟩
theorem fold_rng {S : Type} {f : Int → S → R S} (I : Int → S → Prop) {hi : Int} (step : ∀ x s, x < hi → I x s → ∃ s', f x s = .ok s' ∧ I (x + 1) s') : ∀ {n : Nat} {lo : Int} {s0 : S}, (hi - lo).toNat = n → lo ≤ hi → I lo s0 → ∃ s', foldR (rng lo hi) s0 f = .ok s' ∧ I hi s'
  | 0, lo, s0, hn, h, h0 => by
    have : hi = lo := by omega
    subst this
    rw [rng_nil (Int.le_refl _)]
    exact ⟨s0, rfl, h0⟩
  | n + 1, lo, s0, hn, h, h0 => by
    have hl : lo < hi := by omega
    obtain ⟨s1, e1, h1⟩ := step lo s0 hl h0
    rw [rng_cons hl]
    obtain ⟨s2, e2, h2⟩ := fold_rng I step (n := n) (lo := lo + 1) (s0 := s1) (by omega) (by omega) h1
    refine ⟨s2, ?_, h2⟩
    show (f lo s0).bind (fun s' => foldR (rng (lo + 1) hi) s' f) = _
    rw [e1]
    exact e2
theorem mapR_ok {α β : Type} {f : α → R β} {g : α → β} : ∀ {xs : List α}, (∀ x ∈ xs, f x = .ok (g x)) → mapR xs f = .ok (xs.map g)
  | [], _ => rfl
  | x :: xs, h => by
    show (f x).bind _ = _
    rw [h x List.mem_cons_self]
    show (mapR xs f).bind _ = _
    rw [mapR_ok fun y hy => h y (List.mem_cons_of_mem _ hy)]
    rfl
theorem filR_ok {α β : Type} {f : α → R (Option β)} {g : α → Option β} : ∀ {xs : List α}, (∀ x ∈ xs, f x = .ok (g x)) → filR xs f = .ok (xs.filterMap g)
  | [], _ => rfl
  | x :: xs, h => by
    show (f x).bind _ = _
    rw [h x List.mem_cons_self]
    show (filR xs f).bind _ = _
    rw [filR_ok fun y hy => h y (List.mem_cons_of_mem _ hy), List.filterMap_cons]
    show R.ok _ = _
    cases g x <;> rfl
theorem atI_nat {α : Type} {xs : List α} {i : Int} {y : α} (h0 : 0 ≤ i) (h : xs[i.toNat]? = some y) : atI xs i = some y := by
  have hl := (List.getElem?_eq_some_iff.mp h).1
  unfold atI ixN
  rw [if_pos h0, if_pos (by omega), Option.bind_some, h]
/-! ### a plan, drawn -/
/-- the coats, k at hour 1 ahead of them -/
def coats (k : Nat) (used : List Int) : List Int := List.replicate k 1 ++ used
def co (k : Nat) (used : List Int) (i : Nat) : Int := (coats k used).getD i 0
theorem co_lo {k : Nat} {used : List Int} {i : Nat} (h : i < k) : co k used i = 1 := by
  unfold co coats
  rw [List.getD_eq_getElem?_getD, List.getElem?_append_left (by simpa using h), List.getElem?_replicate, if_pos h]; rfl
theorem co_snoc {k : Nat} {used : List Int} {x : Int} {i : Nat} (h : i < k + used.length) : co k (used ++ [x]) i = co k used i := by
  unfold co coats
  rw [← List.append_assoc, List.getD_eq_getElem?_getD, List.getElem?_append_left (by simpa using h), List.getD_eq_getElem?_getD]
theorem co_last {k : Nat} {used : List Int} {x : Int} : co k (used ++ [x]) (k + used.length) = x := by
  unfold co coats
  rw [← List.append_assoc, List.getD_eq_getElem?_getD, List.getElem?_append_right (by simp)]
  simp
theorem co_hi {k : Nat} {used : List Int} {i : Nat} : co k used (k + i) = used.getD i 0 := by
  unfold co coats
  rw [List.getD_eq_getElem?_getD, List.getElem?_append_right (by simp), List.getD_eq_getElem?_getD]
  simp
/-- what is kept while the hours go by; h: the next hour -/
structure Plan (a b : Int) (k : Nat) (h : Int) (ages used : List Int) : Prop where
  len : ages.length = k
  at_ : ∀ j, j < k → ages[j]? = some (h - 1 - co k used (used.length + j))
  mono : ∀ i j, i < j → j < k + used.length → co k used i ≤ co k used j
  str : ∀ i j, i < j → j < k + used.length → k ≤ i → co k used i < co k used j
  lo : ∀ i, k ≤ i → i < k + used.length → a < co k used i ∧ co k used i < h
  gap : ∀ i, i + k < k + used.length → a ≤ co k used (i + k) - co k used i ∧ co k used (i + k) - co k used i ≤ b
  due : ∀ j, j < k → h - co k used (used.length + j) + j ≤ b
  few : used.length ≤ (h - 2).toNat
theorem plan_start {a b : Int} {k : Nat} (hk : 1 ≤ k) (hkb : (k : Int) ≤ b - a + 1) (ha : 1 ≤ a) : Plan a b k 2 (List.replicate k 0) [] where
  len := by simp
  at_ := fun j hj => by
    rw [List.getElem?_replicate, if_pos hj, co_lo (by simpa using hj)]; rfl
  mono := fun i j h1 h2 => by
    have h2 : j < k := by simpa using h2
    rw [co_lo h2, co_lo (by omega)]; exact Int.le_refl _
  str := fun i j h1 h2 h3 => by
    have h2 : j < k := by simpa using h2
    omega
  lo := fun i h1 h2 => by
    have h2 : i < k := by simpa using h2
    omega
  gap := fun i h => by
    have h : i + k < k := by simpa using h
    omega
  due := fun j hj => by
    rw [co_lo (by simpa using hj)]; omega
  few := by simp
/-- an hour without a coat -/
theorem plan_skip {a b : Int} {k : Nat} {h : Int} {ages used : List Int} (h2 : 2 ≤ h) (p : Plan a b k h ages used) (hp : ∀ j, j < k → h - co k used (used.length + j) + j + 1 ≤ b) : Plan a b k (h + 1) (ages.map (· + 1)) used where
  len := by rw [List.length_map]; exact p.len
  at_ := fun j hj => by
    rw [List.getElem?_map, p.at_ j hj]
    show some (h - 1 - co k used (used.length + j) + 1) = some (h + 1 - 1 - co k used (used.length + j))
    congr 1; omega
  mono := p.mono
  str := p.str
  lo := fun i h1 h2 => by have := p.lo i h1 h2; omega
  gap := p.gap
  due := fun j hj => by have := hp j hj; omega
  few := by have := p.few; omega
/-- an hour with a coat -/
theorem plan_coat {a b : Int} {k : Nat} {h : Int} {ages used : List Int} (hk : 1 ≤ k) (hkb : (k : Int) ≤ b - a + 1) (ha : 1 ≤ a) (h2 : 2 ≤ h) (p : Plan a b k h ages used) (h0 : a ≤ h - co k used used.length) : Plan a b k (h + 1) ((ages.map (· + 1)).drop 1 ++ [0]) (used ++ [h]) where
  len := by
    rw [List.length_append, List.length_drop, List.length_map, p.len]; simp; omega
  at_ := fun j hj => by
    rw [List.length_append, List.length_singleton]
    by_cases hj2 : j < k - 1
    · rw [List.getElem?_append_left (by rw [List.length_drop, List.length_map, p.len]; exact hj2), List.getElem?_drop, List.getElem?_map, p.at_ (1 + j) (by omega), show used.length + 1 + j = used.length + (1 + j) from by omega, co_snoc (by omega)]
      show some (h - 1 - co k used (used.length + (1 + j)) + 1) = some (h + 1 - 1 - co k used (used.length + (1 + j)))
      congr 1; omega
    · have e : j = k - 1 := by omega
      rw [List.getElem?_append_right (by rw [List.length_drop, List.length_map, p.len]; omega), List.length_drop, List.length_map, p.len, show used.length + 1 + j = k + used.length from by omega, co_last, show j - (k - 1) = 0 from by omega]
      show some _ = some _
      congr 1; omega
  mono := fun i j h1 h3 => by
    rw [List.length_append, List.length_singleton] at h3
    by_cases hj : j < k + used.length
    · rw [co_snoc hj, co_snoc (by omega)]; exact p.mono i j h1 hj
    · have e : j = k + used.length := by omega
      subst e
      rw [co_last, co_snoc h1]
      by_cases hi : i < k
      · rw [co_lo hi]; omega
      · have := p.lo i (by omega) h1; omega
  str := fun i j h1 h3 hi => by
    rw [List.length_append, List.length_singleton] at h3
    by_cases hj : j < k + used.length
    · rw [co_snoc hj, co_snoc (by omega)]; exact p.str i j h1 hj hi
    · have e : j = k + used.length := by omega
      subst e
      rw [co_last, co_snoc h1]
      have := p.lo i hi h1; omega
  lo := fun i h1 h3 => by
    rw [List.length_append, List.length_singleton] at h3
    by_cases hj : i < k + used.length
    · rw [co_snoc hj]; have := p.lo i h1 hj; omega
    · have e : i = k + used.length := by omega
      subst e
      rw [co_last]
      have hc : 1 ≤ co k used used.length := by
        by_cases hi : used.length < k
        · rw [co_lo hi]; exact Int.le_refl _
        · have := p.lo used.length (by omega) (by omega); omega
      omega
  gap := fun i h3 => by
    rw [List.length_append, List.length_singleton] at h3
    by_cases hj : i + k < k + used.length
    · rw [co_snoc hj, co_snoc (by omega)]; exact p.gap i hj
    · have e : i = used.length := by omega
      subst e
      rw [show used.length + k = k + used.length from by omega, co_last, co_snoc (by omega)]
      have := p.due 0 (by omega)
      rw [Nat.add_zero] at this
      omega
  due := fun j hj => by
    rw [List.length_append, List.length_singleton]
    by_cases hj2 : j < k - 1
    · rw [show used.length + 1 + j = used.length + (1 + j) from by omega, co_snoc (by omega)]
      have := p.due (1 + j) (by omega)
      omega
    · rw [show used.length + 1 + j = k + used.length from by omega, co_last]; omega
  few := by
    rw [List.length_append, List.length_singleton]
    have := p.few; omega
end Gn
namespace Gn
open PySem L2
theorem sIx_pos {n d : Nat} {v : Int} (h : 0 ≤ v) : HT.sIx n d (some v) = min v.toNat n := by
  show (if v < 0 then _ else _) = _
  rw [if_neg (by omega)]
theorem cut_from {δ : Type} {xs : List δ} {lo : Int} (h0 : 0 ≤ lo) : cutL xs (some lo) none = xs.drop lo.toNat := by
  unfold cutL
  rw [sIx_pos h0]
  show (xs.drop _).take (xs.length - _) = _
  by_cases h : lo.toNat ≤ xs.length
  · rw [Nat.min_eq_left h, List.take_of_length_le (by rw [List.length_drop]; exact Nat.le_refl _)]
  · rw [Nat.min_eq_right (by omega), List.drop_eq_nil_of_le (Nat.le_refl _), List.drop_eq_nil_of_le (by omega)]; simp
theorem cut_to {δ : Type} {xs : List δ} {hi : Int} (h0 : 0 ≤ hi) : cutL xs none (some hi) = xs.take hi.toNat := by
  unfold cutL
  rw [sIx_pos h0]
  show (xs.drop 0).take (min hi.toNat xs.length - 0) = _
  rw [List.drop_zero, Nat.sub_zero]
  by_cases h : hi.toNat ≤ xs.length
  · rw [Nat.min_eq_left h]
  · rw [Nat.min_eq_right (by omega), List.take_of_length_le (Nat.le_refl _), List.take_of_length_le (by omega)]
theorem cut_both {δ : Type} {xs : List δ} {lo hi : Int} (h0 : 0 ≤ lo) (h1 : 0 ≤ hi) : cutL xs (some lo) (some hi) = (xs.take hi.toNat).drop lo.toNat := by
  unfold cutL
  rw [sIx_pos h0, sIx_pos h1, ← List.drop_take]
  by_cases h : hi.toNat ≤ xs.length
  · rw [Nat.min_eq_left h]
    by_cases h2 : lo.toNat ≤ xs.length
    · rw [Nat.min_eq_left h2]
    · rw [Nat.min_eq_right (by omega), List.drop_eq_nil_of_le (by rw [List.length_take]; omega), List.drop_eq_nil_of_le (by rw [List.length_take]; omega)]
  · rw [show min hi.toNat xs.length = xs.length from Nat.min_eq_right (by omega), List.take_of_length_le (Nat.le_refl _), List.take_of_length_le (by omega : xs.length ≤ hi.toNat)]
    by_cases h2 : lo.toNat ≤ xs.length
    · rw [Nat.min_eq_left h2]
    · rw [Nat.min_eq_right (by omega), List.drop_eq_nil_of_le (Nat.le_refl _), List.drop_eq_nil_of_le (by omega)]
theorem plan_ok {p : List Int} {a b k hours : Int} (hp : IsPool p) (ha : 1 ≤ a) (hab : a < b) (hb : b ≤ 12) (hk : 1 ≤ k) (hkb : k ≤ b - a + 1) (hh : 1 ≤ hours) (hh2 : hours ≤ 200) :
    ∃ used q ages, m_law_drawn_plan p (a, b) k hours = .ok (used, q) ∧ IsPool q ∧ Plan a b k.toNat (hours + 1) ages used := by
  have hrl : (rng 0 k).length = k.toNat := by rw [rng_len]; omega
  have hk1 : 1 ≤ k.toNat := by omega
  have hk2 : (k.toNat : Int) ≤ b - a + 1 := by omega
  unfold m_law_drawn_plan
  rw [gd_t _ (rg_le (by omega) (by omega)), gd_t _ (sz_le (by omega)), mapR_ok (g := fun _ => (0 : Int)) (fun _ _ => rfl), opt_ok_, ob_some, elet_, gd_t _ (rg_le (by omega) (by omega))]
  have e0 : (rng 0 k).map (fun _ => (0 : Int)) = List.replicate k.toNat 0 := by
    rw [List.map_const', hrl]
  rw [e0]
  obtain ⟨⟨q, ages, used⟩, e, hx, hq, hP⟩ := fold_rng (f := fun x11 ((pool12, ages13, used14) : (List Int) × (List Int) × (List Int)) => gd (sz ages13.length) <| ob ((mapR ages13 (fun x15 => .ok (x15 + (1 : Int)))).opt) fun ys17 => gd (rgOk k) <| gd (sz (rng 0 k).length) <| ob ((mapR (rng 0 k) (fun x22 => (ob (atI ys17 x22) fun t23 => .ok (decide (b < ((t23 + x22) + (1 : Int))))))).opt) fun ys26 => elet ((ys26.any id) : Bool) fun press30 => ob (atI ys17 (0 : Int)) fun t32 => ob ((if (decide (a ≤ t32)) = true then (ob ((m_law_take pool12 (2 : Int)).opt) fun (t34, pool35) => .ok (((decide (t34 = (0 : Int))) || press30), pool35)) else .ok (false, pool12) : R (Bool × (List Int))).opt) fun (c37, pool38) => (if c37 = true then gd (sz (used14.length + 1)) <| gd (sz ((cutL ys17 (some (1 : Int)) none).length + ([(0 : Int)]).length)) <| elet (((cutL ys17 (some (1 : Int)) none) ++ [(0 : Int)]) : (List Int)) fun ages44 => .ok (pool38, ages44, (used14 ++ [x11])) else .ok (pool38, ys17, used14)))
    (fun x (s : (List Int) × (List Int) × (List Int)) => 2 ≤ x ∧ IsPool s.1 ∧ Plan a b k.toNat x s.2.1 s.2.2) (hi := hours + 1) (fun x s hx ⟨h2, hq, hP⟩ => by
      obtain ⟨pl, ages, used⟩ := s
      have hq : IsPool pl := hq
      have hP : Plan a b k.toNat x ages used := hP
      have hlen := hP.len
      have hfew := hP.few
      dsimp only
      rw [gd_t _ (sz_le (by omega)), mapR_ok (g := fun x => x + (1 : Int)) (fun _ _ => rfl), opt_ok_, ob_some, gd_t _ (rg_le (by omega) (by omega)), gd_t _ (sz_le (by omega))]
      have hat : ∀ j : Int, 0 ≤ j → j < k → atI (ages.map fun x => x + (1 : Int)) j = some (x - co k.toNat used (used.length + j.toNat)) := fun j j0 j1 => by
        refine atI_nat j0 ?_
        rw [List.getElem?_map, hP.at_ j.toNat (by omega)]
        show some (x - 1 - co k.toNat used (used.length + j.toNat) + 1) = _
        congr 1; omega
      rw [mapR_ok (g := fun j : Int => decide (b < x - co k.toNat used (used.length + j.toNat) + j + 1)) (fun j hj => by
        obtain ⟨j0, j1⟩ := mem_rng.mp hj
        rw [hat j j0 j1, ob_some]), opt_ok_, ob_some, elet_, hat 0 (Int.le_refl _) (by omega), ob_some, Int.toNat_zero, Nat.add_zero]
      have skip : (∀ j, j < k.toNat → x - co k.toNat used (used.length + j) + j + 1 ≤ b) → Plan a b k.toNat (x + 1) (ages.map fun x => x + (1 : Int)) used := fun h => plan_skip h2 hP h
      have coat : a ≤ x - co k.toNat used used.length → ∀ pl' : List Int, IsPool pl' → ∃ s', (gd (sz (used.length + 1)) <| gd (sz ((cutL (ages.map fun x => x + (1 : Int)) (some (1 : Int)) none).length + ([(0 : Int)]).length)) <| elet (((cutL (ages.map fun x => x + (1 : Int)) (some (1 : Int)) none) ++ [(0 : Int)]) : (List Int)) fun ages44 => R.ok (pl', ages44, (used ++ [x]))) = .ok s' ∧ 2 ≤ x + 1 ∧ IsPool s'.1 ∧ Plan a b k.toNat (x + 1) s'.2.1 s'.2.2 := fun h pl' hpl' => by
        rw [cut_from (by omega), gd_t _ (sz_le (by omega)), gd_t _ (sz_le (by rw [List.length_drop, List.length_map, List.length_singleton]; omega)), elet_]
        exact ⟨_, rfl, by omega, hpl', plan_coat hk1 hk2 ha h2 hP h⟩
      by_cases hc : a ≤ x - co k.toNat used used.length
      · obtain ⟨d, q2, e2, hq2, _, _⟩ := take_ok (size := 2) hq (by omega) (by omega)
        rw [if_pos (decide_eq_true hc), e2, opt_ok_, ob_some]
        dsimp only
        rw [opt_ok_, ob_some]
        dsimp only
        generalize hpr : (List.map (fun j : Int => decide (b < x - co k.toNat used (used.length + j.toNat) + j + 1)) (rng 0 k)).any id = press
        cases hcc : (decide (d = 0) || press) with
        | true => rw [if_pos rfl]; exact coat hc q2 hq2
        | false =>
          rw [if_neg Bool.false_ne_true]
          have hpf : press = false := (Bool.or_eq_false_iff.mp hcc).2
          subst hpf
          refine ⟨_, rfl, by omega, hq2, skip fun j hj => ?_⟩
          have := List.any_eq_false.mp hpr (decide (b < x - co k.toNat used (used.length + ((j : Int)).toNat) + (j : Int) + 1)) (List.mem_map.mpr ⟨(j : Int), mem_rng.mpr ⟨by omega, by omega⟩, rfl⟩)
          have h3 : ¬ (b < x - co k.toNat used (used.length + ((j : Int)).toNat) + (j : Int) + 1) := by simpa using this
          rw [Int.toNat_natCast] at h3
          omega
      · rw [if_neg (by rw [decide_eq_false hc]; exact Bool.false_ne_true), opt_ok_, ob_some]
        dsimp only
        rw [if_neg Bool.false_ne_true]
        refine ⟨_, rfl, by omega, hq, skip fun j hj => ?_⟩
        by_cases h0 : j = 0
        · subst h0; rw [Nat.add_zero]; omega
        · have := hP.mono used.length (used.length + j) (by omega) (by omega)
          omega) (n := (hours + 1 - 2).toNat) (lo := 2) (s0 := (p, List.replicate k.toNat 0, [])) rfl (by omega) ⟨by omega, hp, plan_start hk1 hk2 ha⟩
  refine ⟨used, q, ages, ?_, hq, hP⟩
  show (foldR _ _ _).bind _ = _
  rw [e]
  rfl
end Gn
namespace Gn
open PySem L2
/-! ### skies -/
structure Sky (t : Tx) : Prop where
  one : 1 ≤ t.length
  most : t.length ≤ 200
  fst : t[0]? = some 46
  all : ∀ c ∈ t, c = 46 ∨ c = 35
theorem around_ok {p : List Int} {used : List Int} {hours thick : Int} (hp : IsPool p) (hh : 1 ≤ hours) (hh2 : hours ≤ 200) (ht : 1 ≤ thick) (ht2 : thick ≤ 100) :
    ∃ t q, m_law_around p used hours thick = .ok (t, q) ∧ IsPool q ∧ Sky t ∧ (t.length : Int) = hours ∧ ∀ u ∈ used, 2 ≤ u → u ≤ hours → t[u.toNat - 1]? = some 46 := by
  unfold m_law_around
  rw [gd_t _ (rg_le (by omega) (by omega))]
  obtain ⟨⟨q, t⟩, e, hx, hq, hl, h0, ha, hu⟩ := fold_rng (f := fun x2 ((pool3, signs4) : (List Int) × Tx) => ob ((if (decide (x2 ∈ used)) = true then .ok (true, pool3) else (ob ((m_law_take pool3 thick).opt) fun (t5, pool6) => .ok ((decide (t5 = (0 : Int))), pool6)) : R (Bool × (List Int))).opt) fun (c8, pool9) => (if c8 = true then gd (sz (signs4.length + ([46] : Tx).length)) <| elet ((signs4 ++ ([46] : Tx)) : Tx) fun signs14 => .ok (pool9, signs14) else gd (sz (signs4.length + ([35] : Tx).length)) <| elet ((signs4 ++ ([35] : Tx)) : Tx) fun signs17 => .ok (pool9, signs17)))
    (fun x (s : (List Int) × Tx) => 2 ≤ x ∧ IsPool s.1 ∧ (s.2.length : Int) = x - 1 ∧ s.2[0]? = some 46 ∧ (∀ c ∈ s.2, c = 46 ∨ c = 35) ∧ ∀ u ∈ used, 2 ≤ u → u < x → s.2[u.toNat - 1]? = some 46) (hi := hours + 1) (fun x s hx ⟨h2, hq, hl, h0, ha, hu⟩ => by
      obtain ⟨pl, t⟩ := s
      have hq : IsPool pl := hq
      have hl : (t.length : Int) = x - 1 := hl
      have h0 : t[0]? = some 46 := h0
      have ha : ∀ c ∈ t, c = 46 ∨ c = 35 := ha
      have hu : ∀ u ∈ used, 2 ≤ u → u < x → t[u.toNat - 1]? = some 46 := hu
      dsimp only
      have dot : ∀ pl' : List Int, IsPool pl' → ∃ s', (gd (sz (t.length + ([46] : Tx).length)) <| elet ((t ++ ([46] : Tx)) : Tx) fun signs14 => R.ok (pl', signs14)) = .ok s' ∧ 2 ≤ x + 1 ∧ IsPool s'.1 ∧ (s'.2.length : Int) = x + 1 - 1 ∧ s'.2[0]? = some 46 ∧ (∀ c ∈ s'.2, c = 46 ∨ c = 35) ∧ ∀ u ∈ used, 2 ≤ u → u < x + 1 → s'.2[u.toNat - 1]? = some 46 := fun pl' h' => by
        rw [gd_t _ (sz_le (by rw [List.length_singleton]; omega)), elet_]
        refine ⟨_, rfl, by omega, h', ?_, ?_, fun c hc => ?_, fun u hm u1 u2 => ?_⟩
        · show ((t ++ [46]).length : Int) = _
          rw [List.length_append, List.length_singleton]; omega
        · show (t ++ [46])[0]? = _
          rw [List.getElem?_append_left (by omega)]; exact h0
        · rcases List.mem_append.mp hc with h | h
          · exact ha c h
          · exact .inl (List.mem_singleton.mp h)
        · show (t ++ [46])[u.toNat - 1]? = _
          by_cases h : u < x
          · rw [List.getElem?_append_left (by omega)]; exact hu u hm u1 h
          · rw [List.getElem?_append_right (by omega), show u.toNat - 1 - t.length = 0 from by omega]; rfl
      by_cases hm : x ∈ used
      · rw [if_pos (decide_eq_true hm), opt_ok_, ob_some]
        dsimp only
        rw [if_pos rfl]
        exact dot pl hq
      · obtain ⟨d, q2, e2, hq2, _, _⟩ := take_ok (size := thick) hq (by omega) (by omega)
        rw [if_neg (by rw [decide_eq_false hm]; exact Bool.false_ne_true), e2, opt_ok_, ob_some]
        dsimp only
        rw [opt_ok_, ob_some]
        dsimp only
        cases hd : decide (d = 0) with
        | true => rw [if_pos rfl]; exact dot q2 hq2
        | false =>
          rw [if_neg Bool.false_ne_true, gd_t _ (sz_le (by rw [List.length_singleton]; omega)), elet_]
          refine ⟨_, rfl, by omega, hq2, ?_, ?_, fun c hc => ?_, fun u hm2 u1 u2 => ?_⟩
          · show ((t ++ [35]).length : Int) = _
            rw [List.length_append, List.length_singleton]; omega
          · show (t ++ [35])[0]? = _
            rw [List.getElem?_append_left (by omega)]; exact h0
          · rcases List.mem_append.mp hc with h | h
            · exact ha c h
            · exact .inr (List.mem_singleton.mp h)
          · show (t ++ [35])[u.toNat - 1]? = _
            have h : u < x := by
              rcases Int.lt_or_eq_of_le (Int.lt_add_one_iff.mp u2) with h | h
              · exact h
              · exact absurd (h ▸ hm2) hm
            rw [List.getElem?_append_left (by omega)]; exact hu u hm2 u1 h) (n := (hours + 1 - 2).toNat) (lo := 2) (s0 := (p, [46])) rfl (by omega) ⟨by omega, hp, rfl, rfl, fun c hc => .inl (List.mem_singleton.mp hc), fun u _ h1 h2 => by omega⟩
  refine ⟨t, q, ?_, hq, ⟨by have : (t.length : Int) = hours + 1 - 1 := hl; omega, by have : (t.length : Int) = hours + 1 - 1 := hl; omega, h0, ha⟩, by have : (t.length : Int) = hours + 1 - 1 := hl; omega, fun u hm h1 h2 => hu u hm h1 (by omega)⟩
  show (foldR _ _ _).bind _ = _
  rw [e]
  rfl
/-! ### runs and spells -/
def sgn (p : Nat) : Nat := if p % 2 = 0 then 46 else 35
def dec : Nat → List Int → Tx
  | _, [] => []
  | p, l :: ls => List.replicate l.toNat (sgn p) ++ dec (p + 1) ls
theorem dec_snoc : ∀ {p : Nat} {ls : List Int} {l : Int}, dec p (ls ++ [l]) = dec p ls ++ List.replicate l.toNat (sgn (p + ls.length))
  | p, [], l => by simp [dec]
  | p, m :: ls, l => by
    show List.replicate m.toNat (sgn p) ++ dec (p + 1) (ls ++ [l]) = _
    rw [dec_snoc]
    show _ = (List.replicate m.toNat (sgn p) ++ dec (p + 1) ls) ++ _
    rw [List.append_assoc, show p + 1 + ls.length = p + (m :: ls).length from by rw [List.length_cons]; omega]
theorem fold_ix {α S : Type} {f : Int × α → S → R S} (I : Nat → S → Prop) : ∀ {xs : List α} {n : Nat} {s0 : S}, (∀ i x s, xs[i]? = some x → I (n + i) s → ∃ s', f (((n + i : Nat) : Int), x) s = .ok s' ∧ I (n + i + 1) s') → I n s0 →
    ∃ s', foldR ((xs.zipIdx n).map fun x => ((x.2 : Int), x.1)) s0 f = .ok s' ∧ I (n + xs.length) s'
  | [], n, s0, _, h0 => ⟨s0, rfl, h0⟩
  | x :: xs, n, s0, step, h0 => by
    obtain ⟨s1, e1, h1⟩ := step 0 x s0 rfl h0
    obtain ⟨s2, e2, h2⟩ := fold_ix I (xs := xs) (n := n + 1) (s0 := s1) (fun i y s hi hI => by
      have e : n + 1 + i = n + (i + 1) := by omega
      rw [e] at hI ⊢
      exact step (i + 1) y s (by simpa using hi) hI) h1
    refine ⟨s2, ?_, ?_⟩
    · rw [List.zipIdx_cons, List.map_cons]
      show (f _ s0).bind _ = _
      exact (congrArg (fun r => R.bind r _) e1).trans e2
    · rw [List.length_cons, show n + (xs.length + 1) = n + 1 + xs.length from by omega]; exact h2
end Gn
namespace Gn
open PySem L2
theorem len_le_sum : ∀ {L : List Int}, (∀ l ∈ L, 1 ≤ l) → (L.length : Int) ≤ L.sum ∧ 0 ≤ L.sum
  | [], _ => by simp
  | l :: L, h => by
    have := len_le_sum (L := L) fun x hx => h x (List.mem_cons_of_mem _ hx)
    have h1 := h l List.mem_cons_self
    rw [List.length_cons, List.sum_cons]; omega
theorem le_sum : ∀ {L : List Int}, (∀ l ∈ L, 1 ≤ l) → ∀ x ∈ L, x ≤ L.sum
  | l :: L, h, x, hx => by
    have h2 := len_le_sum (L := L) fun x hx => h x (List.mem_cons_of_mem _ hx)
    have h1 := h l List.mem_cons_self
    rw [List.sum_cons]
    rcases List.mem_cons.mp hx with e | hx
    · omega
    · have := le_sum (fun x hx => h x (List.mem_cons_of_mem _ hx)) x hx
      omega
theorem tl_joinT (ys : List Tx) : joinT [] ys = ys.flatten := by
  have e : ∀ ys : List Tx, TL.joinL [] ys = ys.flatten := by
    intro ys
    induction ys with
    | nil => rfl
    | cons p r ih =>
      cases r with
      | nil => simp [TL.joinL]
      | cons q r =>
        show p ++ ([] ++ TL.joinL [] (q :: r)) = _
        rw [ih, List.nil_append]
        simp
  unfold joinT
  have h := SX.join_S ([] : List Nat) ys
  show (Txt.join (Tx.s []) (ys.map Tx.s)).cps.toList = _
  have e2 : Txt.join (Tx.s []) (ys.map Tx.s) = SX.S (TL.joinL [] ys) := h
  rw [e2, e]
theorem dec_flat : ∀ {L : List Int} {n : Nat}, (((L.zipIdx n).map fun x => ((x.2 : Int), x.1)).map fun x => repL [sgn x.1.toNat] x.2).flatten = dec n L
  | [], n => rfl
  | l :: L, n => by
    rw [List.zipIdx_cons, List.map_cons, List.map_cons, List.flatten_cons, dec_flat]
    show repL [sgn ((n : Int)).toNat] l ++ _ = List.replicate l.toNat (sgn n) ++ _
    rw [Int.toNat_natCast]
    unfold repL
    congr 1
    induction l.toNat with
    | zero => rfl
    | succ m ih => rw [List.replicate_succ, List.flatten_cons, ih]; rfl
theorem dec_len : ∀ {L : List Int} {n : Nat}, (∀ l ∈ L, 1 ≤ l) → ((dec n L).length : Int) = L.sum
  | [], n, _ => rfl
  | l :: L, n, h => by
    have h1 := h l List.mem_cons_self
    have := dec_len (L := L) (n := n + 1) fun x hx => h x (List.mem_cons_of_mem _ hx)
    show ((List.replicate l.toNat (sgn n) ++ dec (n + 1) L).length : Int) = _
    rw [List.length_append, List.length_replicate, List.sum_cons]; omega
theorem init_ok {L : List Int} (hn : L ≠ []) (h : ∀ l ∈ L, 1 ≤ l) (hs : L.sum ≤ 200) : m_Weather__init L = .ok ⟨⟨L⟩, dec 0 L⟩ := by
  obtain ⟨h1, h2⟩ := len_le_sum h
  have e1 : L.isEmpty = false := by cases L with
    | nil => exact absurd rfl hn
    | cons _ _ => rfl
  obtain ⟨m, hm⟩ : ∃ m, L.min? = some m := by cases L with
    | nil => exact absurd rfl hn
    | cons _ _ => exact ⟨_, rfl⟩
  have hm1 : 1 ≤ m := h m (List.min?_mem hm)
  unfold m_Weather__init
  rw [e1, hm]
  have ec : (if (!(!false)) = true then .ok true else (ob (some m) fun t1 => .ok ((decide (t1 < (1 : Int))) || (decide ((200 : Int) < L.sum)))) : R Bool).opt = some false := by
    rw [if_neg (by decide), ob_some, decide_eq_false (by omega), decide_eq_false (by omega)]; rfl
  rw [ec, ob_some, if_neg Bool.false_ne_true, gd_t _ (sz_le (by rw [enumL_len]; omega))]
  rw [mapR_ok (g := fun x : Int × Int => repL [sgn x.1.toNat] x.2) (fun x hx => by
    obtain ⟨i, hi⟩ := List.getElem?_of_mem hx
    obtain ⟨x1, x2⟩ := enumL_get hi
    have hx2 := List.mem_of_getElem? x2
    have l1 := h _ hx2
    have l2 := le_sum h _ hx2
    have ea : atI ([46, 35] : Tx) (x.1 % (2 : Int)) = some (sgn x.1.toNat) := by
      rw [x1, Int.toNat_natCast]
      unfold sgn
      rcases Nat.mod_two_eq_zero_or_one i with h | h
      · rw [if_pos h, show ((i : Int)) % 2 = 0 from by omega]; rfl
      · rw [if_neg (by omega), show ((i : Int)) % 2 = 1 from by omega]; rfl
    rw [gd_t _ (show sz ([46, 35] : Tx).length = true from rfl), ea, ob_some, gd_t]
    unfold repOk
    rw [decide_eq_true (by have : -(2 ^ 63 : Int) ≤ 0 := by decide
                           omega), decide_eq_true (by have : (200 : Int) < 2 ^ 63 := by decide
                                                      omega), sz_le (by simp; omega)]
    rfl), opt_ok_, ob_some]
  have ed : ((enumL L).map fun x : Int × Int => repL [sgn x.1.toNat] x.2).flatten = dec 0 L := dec_flat
  rw [gd_t, tl_joinT, ed]
  unfold joinOk
  refine decide_eq_true ?_
  have e3 := dec_len (n := 0) h
  rw [← ed, List.length_flatten] at e3
  rw [List.length_nil, Nat.mul_zero]
  show (List.map List.length (List.map (fun x : Int × Int => repL [sgn x.1.toNat] x.2) (enumL L))).sum + 0 ≤ 16777216
  have e5 : ((List.map List.length (List.map (fun x : Int × Int => repL [sgn x.1.toNat] x.2) (enumL L))).sum : Int) = L.sum := e3
  omega
theorem signs_ok {t : Tx} (h : Sky t) : ∃ ls, m_Weather_of_signs t = .ok ⟨⟨ls⟩, t⟩ := by
  have h1 := h.one
  have h2 := h.most
  unfold m_Weather_of_signs
  have ea : atI t (0 : Int) = some 46 := atI_nat (Int.le_refl _) h.fst
  have ec : (if (!((decide ((1 : Int) ≤ (t.length : Int))) && (decide ((t.length : Int) ≤ (200 : Int))))) = true then .ok true else (gd (sz t.length) <| ob (atI t (0 : Int)) fun t3 => .ok (!(decide (([t3] : Tx) = ([46] : Tx))))) : R Bool).opt = some false := by
    rw [decide_eq_true (by omega), decide_eq_true (by omega), if_neg (by decide), gd_t _ (sz_le (by omega)), ea, ob_some]; rfl
  rw [gd_t _ (sz_le (by omega)), ec, ob_some, if_neg Bool.false_ne_true, elet_]
  obtain ⟨⟨L, l⟩, e, hA, hB, hC, hD, hE, hF⟩ := fold_ix (f := fun x11 ((lengths12, length13) : (List Int) × Int) => gd (one x11.2) <| (if (!(inS x11.2 ([46, 35] : Tx))) = true then .ex (Str.ofString "BadWeather") .non else ob ((if (decide ((0 : Int) < x11.1)) = true then (gd (sz t.length) <| ob (atI t (x11.1 - (1 : Int))) fun t17 => .ok (!(decide (x11.2 = ([t17] : Tx))))) else .ok false : R (Bool)).opt) fun c19 => ob ((if c19 = true then gd (sz (lengths12.length + 1)) <| .ok ((lengths12 ++ [length13]), (0 : Int)) else .ok (lengths12, length13) : R ((List Int) × Int)).opt) fun (lengths23, length24) => .ok (lengths23, (length24 + (1 : Int)))))
    (fun i (s : List Int × Int) => dec 0 (s.1 ++ [s.2]) = t.take i ∧ (∀ l ∈ s.1, 1 ≤ l) ∧ (i = 0 → s.1 = [] ∧ s.2 = 0) ∧ (0 < i → 1 ≤ s.2 ∧ t[i - 1]? = some (sgn s.1.length)) ∧ s.1.length ≤ i ∧ s.1.sum + s.2 = (i : Int))
    (xs := t.map fun c => ([c] : Tx)) (n := 0) (s0 := ([], 0)) (fun i x s hi ⟨hA, hB, hC, hD, hE, hF⟩ => by
      obtain ⟨L, l⟩ := s
      rw [Nat.zero_add] at hA hC hD hE hF ⊢
      have hA : dec 0 (L ++ [l]) = t.take i := hA
      have hB : ∀ l ∈ L, 1 ≤ l := hB
      have hC : i = 0 → L = [] ∧ l = 0 := hC
      have hD : 0 < i → 1 ≤ l ∧ t[i - 1]? = some (sgn L.length) := hD
      have hE : L.length ≤ i := hE
      have hF : L.sum + l = (i : Int) := hF
      rw [List.getElem?_map] at hi
      obtain ⟨c, hc, rfl⟩ := Option.map_eq_some_iff.mp hi
      have hil : i < t.length := (List.getElem?_eq_some_iff.mp hc).1
      have hcc := h.all c (List.mem_of_getElem? hc)
      have hin : inS [c] ([46, 35] : Tx) = true := by
        rcases hcc with e | e <;> (subst e; rfl)
      have htk : t.take (i + 1) = t.take i ++ [c] := by rw [List.take_succ, hc]; rfl
      dsimp only
      rw [gd_t _ (show one [c] = true from rfl), hin, if_neg (by decide)]
      rw [dec_snoc, Nat.zero_add] at hA
      by_cases h0 : i = 0
      · subst h0
        obtain ⟨rfl, rfl⟩ := hC rfl
        rw [if_neg (show ¬ (decide ((0 : Int) < ((0 : Nat) : Int)) = true) from by simp), opt_ok_, ob_some, if_neg Bool.false_ne_true, opt_ok_, ob_some]
        have ec : c = 46 := by
          have := h.fst
          rw [hc] at this
          exact Option.some.inj this
        subst ec
        refine ⟨_, rfl, ?_, hB, fun z => by omega, fun _ => ⟨by decide, hc⟩, by decide, by decide⟩
        rw [htk]; rfl
      · obtain ⟨hl, hd⟩ := hD (by omega)
        have ei : atI t (((i : Nat) : Int) - 1) = some (sgn L.length) := atI_nat (by omega) (by rw [show (((i : Nat) : Int) - 1).toNat = i - 1 from by omega]; exact hd)
        rw [if_pos (decide_eq_true (by omega)), gd_t _ (sz_le (by omega)), ei, ob_some, opt_ok_, ob_some]
        by_cases hcd : c = sgn L.length
        · have e1 : (!decide ([c] = [sgn L.length])) = false := by rw [hcd]; simp
          rw [e1, if_neg Bool.false_ne_true, opt_ok_, ob_some]
          refine ⟨_, rfl, ?_, hB, fun z => by omega, fun _ => ⟨?_, ?_⟩, ?_, ?_⟩
          · show dec 0 (L ++ [l + 1]) = _
            rw [dec_snoc, Nat.zero_add, htk, ← hA, List.append_assoc, show (l + 1).toNat = l.toNat + 1 from by omega, List.replicate_succ', hcd]
          · show 1 ≤ l + 1; omega
          · show t[i + 1 - 1]? = some (sgn L.length)
            rw [Nat.add_sub_cancel, hc, hcd]
          · show L.length ≤ i + 1; omega
          · show L.sum + (l + 1) = ((i + 1 : Nat) : Int); omega
        · have e1 : (!decide ([c] = [sgn L.length])) = true := by
            have : ¬ ([c] = [sgn L.length]) := fun z => hcd (List.cons.inj z).1
            rw [decide_eq_false this]; rfl
          rw [e1, if_pos rfl, gd_t _ (sz_le (by omega)), opt_ok_, ob_some]
          have es : c = sgn (L.length + 1) := by
            unfold sgn at hcd ⊢
            rcases Nat.mod_two_eq_zero_or_one L.length with h | h
            · rw [if_pos h] at hcd
              rw [if_neg (by omega)]
              rcases hcc with e | e
              · exact absurd e hcd
              · exact e
            · rw [if_neg (by omega)] at hcd
              rw [if_pos (by omega)]
              rcases hcc with e | e
              · exact e
              · exact absurd e hcd
          refine ⟨_, rfl, ?_, ?_, fun z => by omega, fun _ => ⟨?_, ?_⟩, ?_, ?_⟩
          · show dec 0 ((L ++ [l]) ++ [0 + 1]) = _
            rw [dec_snoc, dec_snoc, Nat.zero_add, Nat.zero_add, htk, ← hA, List.length_append, List.length_singleton, es]; rfl
          · intro y hy
            rcases List.mem_append.mp hy with h | h
            · exact hB y h
            · rw [List.mem_singleton.mp h]; exact hl
          · show 1 ≤ (0 : Int) + 1; decide
          · show t[i + 1 - 1]? = some (sgn (L ++ [l]).length)
            rw [Nat.add_sub_cancel, hc, List.length_append, List.length_singleton, es]
          · show (L ++ [l]).length ≤ i + 1
            rw [List.length_append, List.length_singleton]; omega
          · show (L ++ [l]).sum + (0 + 1) = ((i + 1 : Nat) : Int)
            rw [List.sum_append, List.sum_singleton]; omega) ⟨rfl, (by intro y hy; cases hy), (fun _ => ⟨rfl, rfl⟩), (fun z => absurd z (by omega)), Nat.le_refl _, rfl⟩
  have hlen : 0 + (t.map fun c => ([c] : Tx)).length = t.length := by rw [Nat.zero_add, List.length_map]
  rw [hlen] at hA hC hD hE hF
  have hA : dec 0 (L ++ [l]) = t.take t.length := hA
  have hB : ∀ l ∈ L, 1 ≤ l := hB
  obtain ⟨hl, _⟩ := hD (by omega)
  have hE : L.length ≤ t.length := hE
  have hF : L.sum + l = (t.length : Int) := hF
  have e' : foldR (enumL (t.map fun c => ([c] : Tx))) (([] : List Int), (0 : Int)) _ = _ := e
  refine ⟨L ++ [l], ?_⟩
  show (foldR (enumL (t.map fun c => ([c] : Tx))) (([] : List Int), (0 : Int)) _).bind _ = _
  rw [e']
  show (gd (sz (L.length + 1)) <| (m_Weather__init (L ++ [l])).bind fun t31 => .ok t31) = _
  rw [gd_t _ (sz_le (by omega)), init_ok (by simp) (fun y hy => by
    rcases List.mem_append.mp hy with h | h
    · exact hB y h
    · rw [List.mem_singleton.mp h]; exact hl) (by rw [List.sum_append, List.sum_singleton]; omega), hA, List.take_length]
  rfl
end Gn
namespace Gn
open PySem L2
/-! ### walks without a return -/
theorem loop_step {α S ρ : Type} {f : α → S → R (Stp S ρ)} {x : α} {xs : List α} {s s' : S} (h : f x s = .ok (.go s')) : loopR (x :: xs) s f = loopR xs s' f := by
  show (match f x s with | .ok (.go s') => loopR xs s' f | r => r) = _
  rw [h]
theorem loop_stop {α S ρ : Type} {f : α → S → R (Stp S ρ)} {x : α} {xs : List α} {s : S} {y : ρ} (h : f x s = .ok (.ret y)) : loopR (x :: xs) s f = .ok (.ret y) := by
  show (match f x s with | .ok (.go s') => loopR xs s' f | r => r) = _
  rw [h]
theorem loop_go1 {α ρ : Type} {f : α → Unit → R (Stp Unit ρ)} : ∀ {xs : List α}, (∀ x ∈ xs, f x () = .ok (.go ())) → loopR xs () f = .ok (.go ())
  | [], _ => rfl
  | x :: xs, h => by
    rw [loop_step (h x List.mem_cons_self)]
    exact loop_go1 fun y hy => h y (List.mem_cons_of_mem _ hy)
theorem loop_any {α ρ : Type} {f : α → Unit → R (Stp Unit ρ)} {c : α → Bool} {y : ρ} : ∀ {xs : List α}, (∀ x ∈ xs, f x () = if c x = true then .ok (.ret y) else .ok (.go ())) → loopR xs () f = if xs.any c = true then .ok (.ret y) else .ok (.go ())
  | [], _ => rfl
  | x :: xs, h => by
    have hx := h x List.mem_cons_self
    rw [List.any_cons]
    cases hc : c x with
    | true =>
      rw [hc, if_pos rfl] at hx
      rw [loop_stop hx]; rfl
    | false =>
      rw [hc, if_neg Bool.false_ne_true] at hx
      rw [loop_step hx, Bool.false_or]
      exact loop_any fun y hy => h y (List.mem_cons_of_mem _ hy)
/-! ### the same data -/
def okD : Nat → D → Prop
  | 0, _ => False
  | n + 1, .lst xs => xs.length ≤ 1000000 ∧ ∀ y ∈ xs, okD n y
  | n + 1, .tup xs => xs.length ≤ 1000000 ∧ ∀ y ∈ xs, okD n y
  | _ + 1, _ => True
theorem same_seq {rec_ : D → D → R Bool} {x : D} {xs : List D} (hat : ∀ i : Int, x.at i = atI xs i) (h : ∀ y ∈ xs, rec_ y y = .ok true) :
    (loopR (ρ := Bool) (rng 0 (xs.length : Int)) () (fun x30 (_ : Unit) => ob (x.at x30) fun t31 => ob (x.at x30) fun t33 => ob ((rec_ t31 t33).opt) fun t35 => (if (!t35) = true then .ok (.ret false) else .ok (.go ())))) = .ok (.go ()) := by
  refine loop_go1 fun i hi => ?_
  obtain ⟨i0, i1⟩ := mem_rng.mp hi
  have hl : i.toNat < xs.length := by omega
  have e : x.at i = some xs[i.toNat] := by rw [hat]; exact atI_nat i0 (List.getElem?_eq_getElem hl)
  rw [e, ob_some, ob_some, h _ (List.getElem_mem hl), opt_ok_, ob_some]
  rfl
theorem same_ok : ∀ {n : Nat} {x : D}, okD n x → nm_law_same n x x = .ok true
  | n + 1, .non, _ => rfl
  | n + 1, .bl b, _ => by
    show bm_law_same (nm_law_same n) (.bl b) (.bl b) = _
    unfold bm_law_same
    rw [if_neg (show ¬ (D.bl b).isN = true from fun h => nomatch h), if_pos (show isT (.bl b) "bool" = true from rfl), if_pos (show isT (.bl b) "bool" = true from rfl), gd_t _ (show eqK (.bl b) (.bl b) = true from rfl), opt_ok_, ob_some]
    show R.ok (decide (b = b)) = _
    rw [decide_eq_true rfl]
  | n + 1, .int b, _ => by
    show bm_law_same (nm_law_same n) (.int b) (.int b) = _
    unfold bm_law_same
    rw [if_neg (show ¬ (D.int b).isN = true from fun h => nomatch h), if_neg (show ¬ isT (.int b) "bool" = true from fun h => nomatch h), if_pos (show isT (.int b) "int" = true from rfl), if_pos (show isT (.int b) "int" = true from rfl),
      if_pos (show (!isT (.int b) "bool") = true from rfl), gd_t _ (show eqK (.int b) (.int b) = true from rfl), opt_ok_, ob_some, opt_ok_, ob_some]
    show R.ok (decide (b = b)) = _
    rw [decide_eq_true rfl]
  | n + 1, .str b, _ => by
    show bm_law_same (nm_law_same n) (.str b) (.str b) = _
    unfold bm_law_same
    rw [if_neg (show ¬ (D.str b).isN = true from fun h => nomatch h), if_neg (show ¬ isT (.str b) "bool" = true from fun h => nomatch h), if_neg (show ¬ isT (.str b) "int" = true from fun h => nomatch h), if_pos (show isT (.str b) "str" = true from rfl), if_pos (show isT (.str b) "str" = true from rfl),
      gd_t _ (show eqK (.str b) (.str b) = true from rfl), opt_ok_, ob_some]
    show R.ok (decide (b = b)) = _
    rw [decide_eq_true rfl]
  | n + 1, .lst xs, h => by
    have h : xs.length ≤ 1000000 ∧ ∀ y ∈ xs, okD n y := by simpa [okD] using h
    show bm_law_same (nm_law_same n) (.lst xs) (.lst xs) = _
    unfold bm_law_same
    rw [if_neg (show ¬ (D.lst xs).isN = true from fun h => nomatch h), if_neg (show ¬ isT (.lst xs) "bool" = true from fun h => nomatch h), if_neg (show ¬ isT (.lst xs) "int" = true from fun h => nomatch h), if_neg (show ¬ isT (.lst xs) "str" = true from fun h => nomatch h),
      if_neg (show ¬ (isT (.lst xs) "tuple" && !isT (.lst xs) "tuple") = true from fun h => nomatch h), if_neg (show ¬ (isT (.lst xs) "list" && !isT (.lst xs) "list") = true from fun h => nomatch h),
      show (D.lst xs).len = some (xs.length : Int) from rfl, ob_some, ob_some, if_neg (by rw [decide_eq_true rfl]; decide), ob_some, gd_t _ (rg_le (by omega) (by omega)), same_seq (fun i => rfl) fun y hy => same_ok (h.2 y hy)]
    rfl
  | n + 1, .tup xs, h => by
    have h : xs.length ≤ 1000000 ∧ ∀ y ∈ xs, okD n y := by simpa [okD] using h
    show bm_law_same (nm_law_same n) (.tup xs) (.tup xs) = _
    unfold bm_law_same
    rw [if_neg (show ¬ (D.tup xs).isN = true from fun h => nomatch h), if_neg (show ¬ isT (.tup xs) "bool" = true from fun h => nomatch h), if_neg (show ¬ isT (.tup xs) "int" = true from fun h => nomatch h), if_neg (show ¬ isT (.tup xs) "str" = true from fun h => nomatch h),
      if_neg (show ¬ (isT (.tup xs) "tuple" && !isT (.tup xs) "tuple") = true from fun h => nomatch h), if_neg (show ¬ (isT (.tup xs) "list" && !isT (.tup xs) "list") = true from fun h => nomatch h),
      show (D.tup xs).len = some (xs.length : Int) from rfl, ob_some, ob_some, if_neg (by rw [decide_eq_true rfl]; decide), ob_some, gd_t _ (rg_le (by omega) (by omega)), same_seq (fun i => rfl) fun y hy => same_ok (h.2 y hy)]
    rfl
theorem same_bl (b : Bool) : m_law_same (.bl b) (.bl b) = .ok true := same_ok (n := 8) (by simp [okD])
theorem same_str (t : Tx) : m_law_same (.str t) (.str t) = .ok true := same_ok (n := 8) (by simp [okD])
theorem same_ints {xs : List Int} (h : xs.length ≤ 1000000) : m_law_same (ToD.d xs) (ToD.d xs) = .ok true := same_ok (n := 8) (by
  show okD 8 (.lst (xs.map ToD.d))
  refine ⟨by rw [List.length_map]; exact h, fun y hy => ?_⟩
  obtain ⟨i, _, rfl⟩ := List.mem_map.mp hy
  trivial)
/-! ### rosters, judged twice -/
def okH (t : Tx) : Int → List Int → Bool
  | _, [] => true
  | last, h :: hs => (decide (last < h) && (decide (h ≤ (t.length : Int)) && decide (t[(h - 1).toNat]? = some 46))) && okH t h hs
def flg (fl : List Bool) (hs : List Int) : List Bool := hs.foldl (fun f h => f.set h.toNat true) fl
def b01 (b : Bool) : Int := if b = true then 1 else 0
theorem flg_len : ∀ {hs : List Int} {fl : List Bool}, (flg fl hs).length = fl.length
  | [], _ => rfl
  | h :: hs, fl => by
    show (flg (fl.set h.toNat true) hs).length = _
    rw [flg_len, List.length_set]
theorem setI_nat {α : Type} {xs : List α} {i : Int} {y : α} (h0 : 0 ≤ i) (h : i < xs.length) : setI xs i y = some (xs.set i.toNat y) := by
  unfold setI ixN
  rw [if_pos h0, if_pos h]; rfl
theorem atI_chr {t : Tx} {h : Int} (h1 : 1 ≤ h) (h2 : h ≤ (t.length : Int)) : ∃ c, atI t (h - 1) = some c ∧ t[(h - 1).toNat]? = some c := by
  have hl : (h - 1).toNat < t.length := by omega
  exact ⟨t[(h - 1).toNat], atI_nat (by omega) (List.getElem?_eq_getElem hl), List.getElem?_eq_getElem hl⟩
theorem walk_marks {t : Tx} (ht : t.length ≤ 200) : ∀ {hs : List Int} {last : Int} {fl : List Bool}, 0 ≤ last → fl.length = t.length + 1 →
    (loopR (ρ := Bool) hs (fl.map b01, last) (fun x11 ((marks12, last13) : (List Int) × Int) => ob ((if (decide (x11 ≤ last13)) = true then .ok true else (ob ((if (decide ((t.length : Int) < x11)) = true then .ok true else (gd (sz t.length) <| ob (atI t (x11 - (1 : Int))) fun t15 => .ok (!(decide (([t15] : Tx) = ([46] : Tx))))) : R (Bool)).opt) fun c17 => .ok c17) : R (Bool)).opt) fun c20 => (if c20 = true then .ok (.ret false) else ob (setI marks12 x11 (1 : Int)) fun marks24 => .ok (.go (marks24, x11)))))
      = if okH t last hs = true then .ok (.go ((flg fl hs).map b01, hs.getLastD last)) else .ok (.ret false)
  | [], last, fl, _, _ => rfl
  | h :: hs, last, fl, h0, hf => by
    by_cases c1 : h ≤ last
    · have : okH t last (h :: hs) = false := by
        show ((decide (last < h) && _) && _) = false
        rw [decide_eq_false (by omega)]; rfl
      rw [this]
      refine loop_stop ?_
      dsimp only
      rw [if_pos (decide_eq_true c1), opt_ok_, ob_some, if_pos rfl]
    · by_cases c2 : (t.length : Int) < h
      · have : okH t last (h :: hs) = false := by
          show ((decide (last < h) && (decide (h ≤ (t.length : Int)) && _)) && _) = false
          rw [decide_eq_false (show ¬ h ≤ (t.length : Int) from by omega), Bool.false_and, Bool.and_false]; rfl
        rw [this]
        refine loop_stop ?_
        dsimp only
        rw [if_neg (by rw [decide_eq_false c1]; exact Bool.false_ne_true), if_pos (decide_eq_true c2), opt_ok_, ob_some, opt_ok_, ob_some, if_pos rfl]
      · obtain ⟨c, e1, e2⟩ := atI_chr (t := t) (h := h) (by omega) (by omega)
        have hok : okH t last (h :: hs) = (decide (c = 46) && okH t h hs) := by
          show ((decide (last < h) && (decide (h ≤ (t.length : Int)) && decide (t[(h - 1).toNat]? = some 46))) && okH t h hs) = _
          rw [decide_eq_true (show last < h from by omega), decide_eq_true (show h ≤ (t.length : Int) from by omega), e2, Bool.true_and, Bool.true_and]
          congr 1
          simp
        rw [hok]
        by_cases c3 : c = 46
        · have em : (fl.map b01).set h.toNat 1 = (fl.set h.toNat true).map b01 := by rw [List.map_set]; rfl
          rw [decide_eq_true c3, Bool.true_and]
          refine (loop_step (s' := ((fl.set h.toNat true).map b01, h)) ?_).trans ?_
          · dsimp only
            rw [if_neg (by rw [decide_eq_false c1]; exact Bool.false_ne_true), if_neg (by rw [decide_eq_false c2]; exact Bool.false_ne_true), gd_t _ (sz_le (by omega)), e1, ob_some, opt_ok_, ob_some, opt_ok_, ob_some,
              if_neg (by rw [c3]; decide), setI_nat (by omega) (by rw [List.length_map]; omega), ob_some, em]
          · rw [walk_marks ht (by omega) (by rw [List.length_set]; exact hf)]
            have e3 : (h :: hs).getLastD last = hs.getLastD h := by cases hs <;> rfl
            rw [e3]; rfl
        · rw [decide_eq_false c3]
          refine loop_stop ?_
          dsimp only
          rw [if_neg (by rw [decide_eq_false c1]; exact Bool.false_ne_true), if_neg (by rw [decide_eq_false c2]; exact Bool.false_ne_true), gd_t _ (sz_le (by omega)), e1, ob_some, opt_ok_, ob_some, opt_ok_, ob_some, if_pos (by
            have : ¬ ([c] = ([46] : Tx)) := fun z => c3 (List.cons.inj z).1
            rw [decide_eq_false this]; rfl)]
end Gn
namespace Gn
open PySem L2
theorem cut_len {δ : Type} {xs : List δ} {lo hi : Option Int} : (cutL xs lo hi).length ≤ xs.length := by
  unfold cutL; rw [List.length_take, List.length_drop]; omega
theorem fin_go {S ρ β : Type} (s : S) (fr : ρ → R β) (fs : S → R β) : (Stp.go s).fin fr fs = fs s := rfl
theorem ifn {α : Type} {c : Bool} {x y : α} (h : c = false) : (if c = true then x else y) = y := if_neg (by rw [h]; exact Bool.false_ne_true)
theorem ift {α : Type} {c : Bool} {x y : α} (h : c = true) : (if c = true then x else y) = x := if_pos h
theorem board_signs_ok {p : List Int} {a b k hours : Int} (hp : IsPool p) (ha : 1 ≤ a) (hab : a < b) (hb : b ≤ 12) (hk : 1 ≤ k) (hkb : k ≤ b - a + 1) (hh : 1 ≤ hours) (hh2 : hours ≤ 200) :
    ∃ t q, m_law_board_signs p (a, b) k hours = .ok (t, q) ∧ IsPool q ∧ Sky t ∧ (t.length : Int) = hours := by
  obtain ⟨used, p1, ages, e1, h1, hP⟩ := plan_ok (k := k) hp ha hab hb hk hkb hh hh2
  have hfew := hP.few
  obtain ⟨w, p2, e2, h2, w0, w1⟩ := take_ok (size := 4) h1 (by omega) (by omega)
  unfold m_law_board_signs
  rw [e1, opt_ok_, ob_some]
  dsimp only
  rw [e2, opt_ok_, ob_some]
  dsimp only
  obtain ⟨u1, eu, hu⟩ : ∃ u1, (if (decide (w = (1 : Int))) = true then elet ([] : (List Int)) fun used10 => .ok used10 else .ok used : R ((List Int))) = .ok u1 ∧ u1.length ≤ 200 := by
    by_cases h : w = 1
    · exact ⟨[], by rw [ift (decide_eq_true h)]; rfl, by simp⟩
    · exact ⟨used, by rw [ifn (decide_eq_false h)], by omega⟩
  rw [eu, opt_ok_, ob_some]
  obtain ⟨p3, u2, e3, h3, hu2⟩ : ∃ p3 u2, (if ((decide (w = (2 : Int))) && (decide ((0 : Int) < (u1.length : Int)))) = true then ob ((m_law_take p2 (u1.length : Int)).opt) fun (t17, pool18) => gd (sz ((cutL u1 none (some t17)).length + (cutL u1 (some (t17 + (1 : Int))) none).length)) <| elet (((cutL u1 none (some t17)) ++ (cutL u1 (some (t17 + (1 : Int))) none)) : (List Int)) fun used21 => .ok (pool18, used21) else .ok (p2, u1) : R ((List Int) × (List Int))) = .ok (p3, u2) ∧ IsPool p3 ∧ u2.length ≤ 400 := by
    by_cases h : ((decide (w = (2 : Int))) && (decide ((0 : Int) < (u1.length : Int)))) = true
    · have h0 := of_decide_eq_true (Bool.and_eq_true_iff.mp h).2
      obtain ⟨d, q, e, hq, _, _⟩ := take_ok (size := (u1.length : Int)) h2 h0 (by omega)
      have c1 : (cutL u1 none (some d)).length ≤ u1.length := cut_len
      have c2 : (cutL u1 (some (d + 1)) none).length ≤ u1.length := cut_len
      rw [if_pos h, e, opt_ok_, ob_some]
      dsimp only
      rw [gd_t _ (sz_le (by omega)), elet_]
      exact ⟨_, _, rfl, hq, by rw [List.length_append]; omega⟩
    · rw [if_neg h]; exact ⟨_, _, rfl, h2, by omega⟩
  rw [e3, opt_ok_, ob_some]
  dsimp only
  obtain ⟨d4, p4, e4, h4, d40, d41⟩ := take_ok (size := 4) h3 (by omega) (by omega)
  rw [e4, opt_ok_, ob_some]
  dsimp only
  rw [elet_]
  obtain ⟨th, et, t0, t1⟩ : ∃ th : Int, (if (decide (w = (1 : Int))) = true then elet ((min (2 : Int) (1 + d4)) : Int) fun thick32 => .ok thick32 else .ok (1 + d4) : R (Int)) = .ok th ∧ 1 ≤ th ∧ th ≤ 100 := by
    by_cases h : w = 1
    · exact ⟨_, by rw [ift (decide_eq_true h)]; rfl, by omega, by omega⟩
    · exact ⟨_, by rw [ifn (decide_eq_false h)], by omega, by omega⟩
  rw [et, opt_ok_, ob_some]
  obtain ⟨t, q, e5, h5, st, tl, _⟩ := around_ok (used := u2) (hours := hours) (thick := th) h4 hh hh2 t0 t1
  rw [e5, opt_ok_, ob_some]
  exact ⟨t, q, rfl, h5, st, tl⟩
theorem comp_ok {α β S : Type} {f : α → S → R (Option β × S)} {I : S → Prop} : ∀ {xs : List α} {s : S}, (∀ x ∈ xs, ∀ s, I s → ∃ y s', f x s = .ok (y, s') ∧ I s') → I s → ∃ ys s', compR xs s f = .ok (ys, s') ∧ I s' ∧ ys.length ≤ xs.length
  | [], s, _, h => ⟨[], s, rfl, h, Nat.le_refl _⟩
  | x :: xs, s, h, hs => by
    obtain ⟨y, s1, e1, h1⟩ := h x List.mem_cons_self s hs
    obtain ⟨ys, s2, e2, h2, h3⟩ := comp_ok (xs := xs) (fun z hz => h z (List.mem_cons_of_mem _ hz)) h1
    cases y with
    | none =>
      refine ⟨ys, s2, ?_, h2, by rw [List.length_cons]; omega⟩
      show (f x s).bind _ = _
      rw [e1, bind_ok_, e2]; rfl
    | some z =>
      refine ⟨z :: ys, s2, ?_, h2, by rw [List.length_cons, List.length_cons]; omega⟩
      show (f x s).bind _ = _
      rw [e1, bind_ok_, e2]; rfl
theorem atI_lt {α : Type} {xs : List α} {i : Int} (h : -(xs.length : Int) ≤ i) (h2 : i < xs.length) : ∃ y, atI xs i = some y := by
  unfold atI ixN
  by_cases h0 : 0 ≤ i
  · have hl : i.toNat < xs.length := by omega
    rw [if_pos h0, if_pos h2, Option.bind_some, List.getElem?_eq_getElem hl]; exact ⟨_, rfl⟩
  · have hl : (i + xs.length).toNat < xs.length := by omega
    rw [if_neg h0, if_pos h, Option.bind_some, List.getElem?_eq_getElem hl]; exact ⟨_, rfl⟩
theorem setI_lt {α : Type} {xs : List α} {i : Int} {y : α} (h : -(xs.length : Int) ≤ i) (h2 : i < xs.length) : ∃ ys, setI xs i y = some ys ∧ ys.length = xs.length := by
  unfold setI ixN
  by_cases h0 : 0 ≤ i
  · rw [if_pos h0, if_pos h2]; exact ⟨_, rfl, List.length_set⟩
  · rw [if_neg h0, if_pos h]; exact ⟨_, rfl, List.length_set⟩
theorem loop_acc {α S ρ : Type} {f : α → S → R (Stp S ρ)} {c : α → Bool} {g : α → S → S} {y : ρ} : ∀ {xs : List α} {s : S}, (∀ x ∈ xs, ∀ s, f x s = if c x = true then .ok (.ret y) else .ok (.go (g x s))) → loopR xs s f = if xs.any c = true then .ok (.ret y) else .ok (.go (xs.foldl (fun s x => g x s) s))
  | [], s, _ => rfl
  | x :: xs, s, h => by
    have h1 := h x List.mem_cons_self s
    have ih := loop_acc (xs := xs) (s := g x s) fun z hz => h z (List.mem_cons_of_mem _ hz)
    rw [List.any_cons]
    cases hc : c x with
    | true => rw [hc, ift rfl] at h1; rw [loop_stop h1, Bool.true_or, ift rfl]
    | false => rw [hc, ifn rfl] at h1; rw [loop_step h1, Bool.false_or, ih]; rfl
theorem lacq_ok {a b : Int} (a1 : 1 ≤ a) (ab : a < b) (b2 : b ≤ 12) : m_Lacquer__init a b = .ok ⟨a, b⟩ := by
  unfold m_Lacquer__init
  rw [decide_eq_true a1, decide_eq_true ab, decide_eq_true b2]; rfl
/-- the price of a sign's hour -/
def dmp (t : Tx) (ps : List Int) (i : Int) : Int := if t.getD i.toNat 0 = 35 then ps.getD i.toNat 0 else 0
theorem boards_ok {k : Int} (h1 : 1 ≤ k) (h2 : k ≤ 12) : m_demand_boards k = .ok () := by
  unfold m_demand_boards
  rw [decide_eq_true h1, decide_eq_true h2]; rfl
theorem boards_no {k : Int} (h : k < 1 ∨ 12 < k) : m_demand_boards k = .ex (Str.ofString "BadNumber") .non := by
  unfold m_demand_boards
  rw [ift]
  rcases h with h | h
  · rw [decide_eq_false (show ¬ 1 ≤ k by omega)]; rfl
  · rw [decide_eq_false (show ¬ k ≤ 12 by omega), Bool.and_false]; rfl
theorem atI_get {δ : Type} {xs : List δ} {d : δ} {i : Int} (i0 : 0 ≤ i) (h : i < xs.length) : atI xs i = some (xs.getD i.toNat d) := by
  have hl : i.toNat < xs.length := by omega
  rw [atI_nat i0 (List.getElem?_eq_getElem hl), List.getD_eq_getElem?_getD, List.getElem?_eq_getElem hl]; rfl
end Gn
namespace Gn
open PySem L2
theorem min_some {xs : List Int} (h : xs ≠ []) : ∃ m, xs.min? = some m ∧ m ∈ xs ∧ ∀ x ∈ xs, m ≤ x := by
  cases e : xs.min? with
  | none => exact absurd (List.min?_eq_none_iff.mp e) h
  | some m =>
    refine ⟨m, rfl, List.min?_mem e, fun x hx => ?_⟩
    exact (List.le_min?_iff e).mp (Int.le_refl _) x hx
theorem max_some {xs : List Int} (h : xs ≠ []) : ∃ m, xs.max? = some m ∧ m ∈ xs ∧ ∀ x ∈ xs, x ≤ m := by
  cases e : xs.max? with
  | none => exact absurd (List.max?_eq_none_iff.mp e) h
  | some m =>
    refine ⟨m, rfl, List.max?_mem e, fun x hx => ?_⟩
    exact (List.max?_le_iff e).mp (Int.le_refl _) x hx
theorem costs_ok {w : O_Weather} {t : Tx} {ps : List Int} (hw : w.f_signs = t) (h1 : 1 ≤ t.length) (h2 : t.length ≤ 200) (hl : ps.length = t.length) (hp : ∀ p ∈ ps, 0 ≤ p ∧ p ≤ 1000) :
    m_hour_costs w ps = .ok (0 :: (rng 0 (t.length : Int)).map (dmp t ps)) := by
  have hn : ps ≠ [] := fun z => by subst z; rw [List.length_nil] at hl; omega
  obtain ⟨lo, elo, mlo, _⟩ := min_some hn
  obtain ⟨hi, ehi, mhi, _⟩ := max_some hn
  have l0 := (hp lo mlo).1
  have l1 := (hp hi mhi).2
  have hr : (rng 0 (t.length : Int)).length = t.length := by rw [rng_len]; omega
  unfold m_hour_costs m_Weather_hours m_Weather_signs
  rw [hw, gd_t _ (sz_le (by omega)), opt_ok_, ob_some, hl, ifn (by rw [decide_eq_true rfl]; rfl), elo, ob_some, ifn (c := decide (lo < 0)) (decide_eq_false (by omega)), ehi, ob_some, opt_ok_, ob_some, ifn (decide_eq_false (by omega)), opt_ok_, ob_some, gd_t _ (rg_le (by omega) (by omega)), gd_t _ (sz_le (by omega)), mapR_ok (g := dmp t ps) (fun x hx => ?_), opt_ok_, ob_some, gd_t _ (sz_le (by rw [List.length_map, List.length_singleton]; omega))]
  · rfl
  · obtain ⟨x0, x1⟩ := mem_rng.mp hx
    rw [gd_t _ (sz_le (by omega)), atI_get (d := 0) x0 x1, ob_some, atI_get (d := 0) x0 (by omega), ob_some]
    unfold dmp
    by_cases hc : t.getD x.toNat 0 = 35
    · rw [ift (decide_eq_true (by rw [hc])), opt_ok_, ob_some, if_pos hc]
    · rw [ifn (decide_eq_false (fun z => hc (List.cons.inj z).1)), opt_ok_, ob_some, if_neg hc]
theorem costs_no {w : O_Weather} {t : Tx} {ps : List Int} (hw : w.f_signs = t) (h2 : t.length ≤ 200) (h1 : 1 ≤ t.length) (h : ps.length ≠ t.length ∨ (ps.length = t.length ∧ ∃ p ∈ ps, p < 0 ∨ 1000 < p)) : m_hour_costs w ps = .ex (Str.ofString "BadPrice") .non := by
  unfold m_hour_costs m_Weather_hours
  rw [hw, gd_t _ (sz_le (by omega)), opt_ok_, ob_some]
  rcases h with h | ⟨hl, p, hp, h⟩
  · rw [ift]
    rw [decide_eq_false (show ¬ (ps.length : Int) = (t.length : Int) by omega)]; rfl
  · have hn : ps ≠ [] := fun z => by subst z; cases hp
    obtain ⟨lo, elo, mlo, klo⟩ := min_some hn
    obtain ⟨hi, ehi, mhi, khi⟩ := max_some hn
    have a1 := klo p hp
    have a2 := khi p hp
    rw [hl, ifn (by rw [decide_eq_true rfl]; rfl), elo, ob_some, ehi]
    by_cases hlo : lo < 0
    · rw [ift (c := decide (lo < 0)) (decide_eq_true hlo), opt_ok_, ob_some, ift rfl]
    · rw [ifn (c := decide (lo < 0)) (decide_eq_false hlo), ob_some, opt_ok_, ob_some, ift (decide_eq_true (by omega))]
/-- a refused call -/
theorem refused_ok {lq : O_Lacquer} {w : O_Weather} {ps : List Int} {which k : Int} {c : Str} {r : Tx}
    (hr : r = if (c == Str.ofString "BadNumber") = true then ([110, 117, 109, 98, 101, 114] : Tx) else [112, 114, 105, 99, 101]) (hc : c = Str.ofString "BadNumber" ∨ c = Str.ofString "BadPrice")
    (h : m_demand_boards k = .ex c .non ∨ (m_demand_boards k = .ok () ∧ m_hour_costs w ps = .ex c .non)) : m_law_refused lq w ps which k = .ok r := by
  have h0 : m_crew_labels_hold lq w ps k 0 (T3.mk (0 : Int) ([(0 : Int)]) ([(0 : Int)])) = .ex c .non := by
    unfold m_crew_labels_hold
    rcases h with h | ⟨h, h'⟩
    · rw [h]; rfl
    · rw [h, bind_ok_, h']; rfl
  have h1 : m_crew_heating lq w ps k = .ex c .non := by
    unfold m_crew_heating
    rcases h with h | ⟨h, h'⟩
    · rw [h]; rfl
    · rw [h, bind_ok_, h']; rfl
  have h2 : m_crew_heat_labels lq w ps k = .ex c .non := by
    unfold m_crew_heat_labels
    rcases h with h | ⟨h, h'⟩
    · rw [h]; rfl
    · rw [h, bind_ok_, h']; rfl
  unfold m_law_refused
  rw [h0, h1, h2]
  have hb : (if (decide (which = (0 : Int))) = true then ((R.ex c .non : R Bool)).bind fun t5 => .ok ([] : Tx) else (if (decide (which = (1 : Int))) = true then ((R.ex c .non : R Unit)).bind fun t11 => .ok ([] : Tx) else ((R.ex c .non : R Unit)).bind fun t16 => .ok ([] : Tx)) : R Tx) = .ex c .non := by
    split
    · rfl
    · split <;> rfl
  rw [hb, hr]
  rcases hc with hc | hc <;> subst hc <;> rfl
end Gn
namespace Gn
open PySem L2
def gi (xs : List Int) (i : Int) : Int := xs.getD i.toNat 0
def cA (a b n : Int) (A Bh : List Int) (h : Int) : Bool := (rng (h + a) (min (h + b) n + 1)).any fun l => decide (gi Bh (h - 1) < gi A (l - 1))
def cB (b n top : Int) (Bh : List Int) (h : Int) : Bool := decide (n < h + b) && decide (gi Bh (h - 1) < top)
def spv (t : Tx) (ps A Bh : List Int) (i : Int) : Int := max 0 ((gi Bh i - gi A i) - dmp t ps i)
def spare (t : Tx) (ps A Bh : List Int) : Int := ((rng 1 (t.length : Int)).map (spv t ps A Bh)).sum
/-- what both ask of lists of the right length -/
def fits (a b : Int) (t : Tx) (ps : List Int) (k cost top : Int) (A Bh : List Int) : Bool :=
  !((rng 1 ((t.length : Int) + 1)).any fun h => cA a b t.length A Bh h || cB b t.length top Bh h) && decide (cost + spare t ps A Bh ≤ k * top)
def allfit (a b : Int) (t : Tx) (ps : List Int) (k cost : Int) (L : T3 Int (List Int) (List Int)) : Bool :=
  if L.b.length = t.length ∧ L.c.length = t.length ∧ gi L.c 0 ≤ 0 then fits a b t ps k cost L.a L.b L.c else false
theorem mul_le {k x : Int} (h0 : 0 ≤ k) (h : k ≤ 1000000) : mulOk k x = true := by
  unfold mulOk
  rw [decide_eq_true (show -(2 ^ 64) < k by omega), decide_eq_true (show k < 2 ^ 64 by omega)]; rfl
theorem foldl_spare {v : Int → Int} {n : Int} : ∀ {m : Nat} {lo : Int} {e : Int}, (n - lo).toNat = m → 1 ≤ lo → (rng (lo + 1) (n + 1)).foldl (fun e h => if 1 < h then e + v (h - 1) else e) e = e + ((rng lo n).map v).sum
  | 0, lo, e, hm, hl => by
    rw [rng_nil (show n + 1 ≤ lo + 1 by omega), rng_nil (show n ≤ lo by omega)]; simp
  | m + 1, lo, e, hm, hl => by
    rw [rng_cons (show lo + 1 < n + 1 by omega), rng_cons (show lo < n by omega)]
    show (rng (lo + 1 + 1) (n + 1)).foldl _ (if 1 < lo + 1 then e + v (lo + 1 - 1) else e) = e + (v lo + ((rng (lo + 1) n).map v).sum)
    rw [if_pos (by omega), foldl_spare (m := m) (by omega) (by omega), show lo + 1 - 1 = lo by omega]
    omega
theorem supports_ok {a b k cost : Int} {t : Tx} {ps : List Int} {L : T3 Int (List Int) (List Int)} (a1 : 1 ≤ a) (ab : a < b) (b2 : b ≤ 12) (h1 : 1 ≤ t.length) (h2 : t.length ≤ 200) (hl : ps.length = t.length) (hp : ∀ p ∈ ps, 0 ≤ p ∧ p ≤ 1000) (k1 : 1 ≤ k) (k2 : k ≤ 12) :
    m_law_due (a, b) t ps k cost L = .ok (allfit a b t ps k cost L) := by
  unfold m_law_due allfit
  rw [gd_t _ (sz_le (by omega)), gd_t _ (sz_le (by omega))]
  by_cases hb : L.b.length = t.length
  rotate_left
  · rw [ift (by rw [decide_eq_false (show ¬ ((L.b.length : Int) = (t.length : Int)) by omega)]; rfl), opt_ok_, ob_some, ift rfl, if_neg (fun z => hb z.1)]
  rw [ifn (c := !(decide ((L.b.length : Int) = (t.length : Int)))) (by rw [decide_eq_true (show ((L.b.length : Int) = (t.length : Int)) by omega)]; rfl), opt_ok_, ob_some]
  by_cases hc : L.c.length = t.length
  rotate_left
  · rw [ift (by rw [decide_eq_false (show ¬ ((L.c.length : Int) = (t.length : Int)) by omega)]; rfl), if_neg (fun z => hc z.2.1)]
  rw [ifn (by rw [decide_eq_true (show ((L.c.length : Int) = (t.length : Int)) by omega)]; rfl)]
  unfold m_law_supports
  rw [gd_t _ (sz_le (by omega)), elet_]
  rw [ifn (c := !(decide ((L.b.length : Int) = (t.length : Int)))) (by rw [decide_eq_true (show ((L.b.length : Int) = (t.length : Int)) by omega)]; rfl), ifn (c := !(decide ((L.c.length : Int) = (t.length : Int)))) (by rw [decide_eq_true (show ((L.c.length : Int) = (t.length : Int)) by omega)]; rfl), atI_get (d := 0) (by omega) (by omega), ob_some, opt_ok_, ob_some, opt_ok_, ob_some]
  by_cases h0 : gi L.c 0 ≤ 0
  rotate_left
  · have h0' : (0 : Int) < L.c.getD (0 : Int).toNat 0 := by have : ¬ L.c.getD (0 : Int).toNat 0 ≤ 0 := h0; omega
    rw [ift (decide_eq_true h0'), opt_ok_, ob_some, if_neg (fun z => h0 z.2.2)]
  have h0' : ¬ (0 : Int) < L.c.getD (0 : Int).toNat 0 := by have : L.c.getD (0 : Int).toNat 0 ≤ 0 := h0; omega
  rw [ifn (decide_eq_false h0'), if_pos ⟨hb, hc, h0⟩, gd_t _ (rg_le (by omega) (by omega))]
  have hloop : loopR (ρ := Bool) (rng (1 : Int) ((t.length : Int) + (1 : Int))) (0 : Int) (fun x14 (extra15 : Int) => gd (rgOk (x14 + (a, b).1)) <| gd (rgOk ((min (x14 + (a, b).2) (t.length : Int)) + (1 : Int))) <| (loopR (ρ := Bool) (rng (x14 + (a, b).1) ((min (x14 + (a, b).2) (t.length : Int)) + (1 : Int))) () (fun x18 (_ : Unit) => ob (atI L.b (x18 - (1 : Int))) fun t19 => ob (atI L.c (x14 - (1 : Int))) fun t21 => (if (decide (t21 < t19)) = true then .ok (.ret false) else .ok (.go ())))).bind fun o_ => o_.fin (fun y_ => .ok (.ret y_)) fun _ => ob ((if (decide ((t.length : Int) < (x14 + (a, b).2))) = true then (ob (atI L.c (x14 - (1 : Int))) fun t24 => .ok (decide (t24 < L.a))) else .ok false : R (Bool)).opt) fun c26 => (if c26 = true then .ok (.ret false) else (if (decide ((1 : Int) < x14)) = true then ob (atI L.c (x14 - (1 : Int))) fun t31 => ob (atI L.b (x14 - (1 : Int))) fun t33 => gd (sz t.length) <| ob (atI t (x14 - (1 : Int))) fun t36 => ob (atI ps (x14 - (1 : Int))) fun t38 => gd (mulOk (if (decide (([t36] : Tx) = ([35] : Tx))) = true then (1 : Int) else 0) t38) <| elet ((extra15 + (max (0 : Int) ((t31 - t33) - ((if (decide (([t36] : Tx) = ([35] : Tx))) = true then (1 : Int) else 0) * t38)))) : Int) fun extra41 => .ok (.go extra41) else .ok (.go extra15))))
      = if ((rng 1 ((t.length : Int) + 1)).any fun h => cA a b t.length L.b L.c h || cB b t.length L.a L.c h) = true then .ok (.ret false) else .ok (.go ((rng 1 ((t.length : Int) + 1)).foldl (fun e h => if 1 < h then e + spv t ps L.b L.c (h - 1) else e) 0)) := by
    refine loop_acc (c := fun h => cA a b t.length L.b L.c h || cB b t.length L.a L.c h) (g := fun h e => if 1 < h then e + spv t ps L.b L.c (h - 1) else e) (fun h hh e => ?_)
    obtain ⟨x0, x1⟩ := mem_rng.mp hh
    dsimp only
    rw [gd_t _ (rg_le (by omega) (by omega)), gd_t _ (rg_le (by omega) (by omega))]
    have inn : loopR (ρ := Bool) (rng (h + a) ((min (h + b) (t.length : Int)) + (1 : Int))) () (fun x18 (_ : Unit) => ob (atI L.b (x18 - (1 : Int))) fun t19 => ob (atI L.c (h - (1 : Int))) fun t21 => (if (decide (t21 < t19)) = true then .ok (.ret false) else .ok (.go ()))) = if cA a b t.length L.b L.c h = true then .ok (.ret false) else .ok (.go ()) := by
      refine loop_any (c := fun l => decide (gi L.c (h - 1) < gi L.b (l - 1))) (fun l hl => ?_)
      obtain ⟨y0, y1⟩ := mem_rng.mp hl
      rw [atI_get (d := 0) (by omega) (by omega), ob_some, atI_get (d := 0) (by omega) (by omega), ob_some]
      rfl
    refine (congrArg (fun r => R.bind r _) inn).trans ?_
    cases hA : cA a b t.length L.b L.c h with
    | true => rfl
    | false =>
      rw [ifn rfl, bind_ok_, fin_go, Bool.false_or]
      have hc26 : (if (decide ((t.length : Int) < (h + b))) = true then (ob (atI L.c (h - (1 : Int))) fun t24 => .ok (decide (t24 < L.a))) else .ok false : R (Bool)) = .ok (cB b t.length L.a L.c h) := by
        unfold cB
        by_cases hq : (t.length : Int) < h + b
        · rw [ift (decide_eq_true hq), atI_get (d := 0) (by omega) (by omega), ob_some, decide_eq_true hq, Bool.true_and]; rfl
        · rw [ifn (decide_eq_false hq), decide_eq_false hq, Bool.false_and]
      rw [hc26, opt_ok_, ob_some]
      cases hB : cB b t.length L.a L.c h with
      | true => rfl
      | false =>
        rw [ifn rfl, ifn rfl]
        by_cases hq : 1 < h
        · rw [ift (decide_eq_true hq), if_pos hq, atI_get (d := 0) (by omega) (by omega), ob_some, atI_get (d := 0) (by omega) (by omega), ob_some, gd_t _ (sz_le (by omega)), atI_get (d := 0) (by omega) (by omega), ob_some, atI_get (d := 0) (by omega) (by omega), ob_some]
          unfold spv dmp
          by_cases hs : t.getD (h - 1).toNat 0 = 35
          · rw [ift (decide_eq_true (by rw [hs])), gd_t _ (mul_le (by omega) (by omega)), elet_, if_pos hs, Int.one_mul]; rfl
          · rw [ifn (decide_eq_false (fun z => hs (List.cons.inj z).1)), gd_t _ (mul_le (by omega) (by omega)), elet_, if_neg hs, Int.zero_mul]; rfl
        · rw [ifn (decide_eq_false hq), if_neg hq]
  refine (congrArg (fun r => ob (R.opt (R.bind r (fun o_ => o_.fin (fun y_ => .ok y_) fun extra43 => gd (mulOk k L.a) <| .ok (decide ((cost + extra43) ≤ (k * L.a)))))) (fun t7 => .ok t7)) hloop).trans ?_
  unfold fits spare
  cases hany : ((rng 1 ((t.length : Int) + 1)).any fun h => cA a b t.length L.b L.c h || cB b t.length L.a L.c h) with
  | true => rfl
  | false =>
    rw [ifn rfl, bind_ok_, fin_go, gd_t _ (mul_le (by omega) (by omega)), rng_cons (show (1 : Int) < (t.length : Int) + 1 by omega)]
    have e := foldl_spare (v := spv t ps L.b L.c) (n := (t.length : Int)) (m := ((t.length : Int) - 1).toNat) (lo := 1) (e := 0) rfl (by omega)
    rw [Int.zero_add] at e
    rw [← e]
    rfl
end Gn
namespace Gn
open PySem L2
theorem enumL_mem {α : Type} {xs : List α} {x : Int × α} (h : x ∈ enumL xs) : 0 ≤ x.1 ∧ x.1 < xs.length ∧ xs[x.1.toNat]? = some x.2 := by
  unfold enumL at h
  obtain ⟨⟨y, i⟩, hm, rfl⟩ := List.mem_map.mp h
  have := List.mem_zipIdx hm
  simp only [Nat.zero_le, Nat.zero_add, Nat.sub_zero, true_and] at this
  obtain ⟨h1, h2⟩ := this
  refine ⟨by show (0 : Int) ≤ (i : Int); omega, by show (i : Int) < _; omega, ?_⟩
  show xs[((i : Int)).toNat]? = some y
  rw [Int.toNat_natCast, List.getElem?_eq_getElem h1, h2]
theorem steps_ok {lq : O_Lacquer} {n : Nat} {A Bh : List Int} (a1 : 1 ≤ lq.f_a) (b2 : lq.f_b ≤ 12) (ab : lq.f_a < lq.f_b) (hA : A.length = n) (hB : Bh.length = n) (hn : n ≤ 200) :
    m_steps_fit lq A Bh = .ok (!((rng 1 ((n : Int) + 1)).any fun h => cA lq.f_a lq.f_b n A Bh h)) := by
  unfold m_steps_fit
  have h := loop_any (ρ := Bool) (y := false) (xs := enumL Bh) (c := fun x => cA lq.f_a lq.f_b n A Bh (x.1 + 1)) (f := fun x1 (_ : Unit) => gd (rgOk (x1.1 + lq.f_a)) <| gd (rgOk ((min (x1.1 + lq.f_b) ((A.length : Int) - (1 : Int))) + (1 : Int))) <| (loopR (ρ := Bool) (rng (x1.1 + lq.f_a) ((min (x1.1 + lq.f_b) ((A.length : Int) - (1 : Int))) + (1 : Int))) () (fun x4 (_ : Unit) => ob (atI A x4) fun t5 => (if (decide (x1.2 < t5)) = true then .ok (.ret false) else .ok (.go ())))).bind fun o_ => o_.fin (fun y_ => .ok (.ret y_)) fun _ => .ok (.go ())) (fun x hx => by
    obtain ⟨x0, x1, x2⟩ := enumL_mem hx
    rw [gd_t _ (rg_le (by omega) (by omega)), gd_t _ (rg_le (by omega) (by omega))]
    have inn : loopR (ρ := Bool) (rng (x.1 + lq.f_a) ((min (x.1 + lq.f_b) ((A.length : Int) - (1 : Int))) + (1 : Int))) () (fun x4 (_ : Unit) => ob (atI A x4) fun t5 => (if (decide (x.2 < t5)) = true then .ok (.ret false) else .ok (.go ()))) = if ((rng (x.1 + lq.f_a) ((min (x.1 + lq.f_b) ((A.length : Int) - (1 : Int))) + (1 : Int))).any fun l => decide (x.2 < gi A l)) = true then .ok (.ret false) else .ok (.go ()) := by
      refine loop_any (fun l hl => ?_)
      obtain ⟨y0, y1⟩ := mem_rng.mp hl
      rw [atI_get (d := 0) (by omega) (by omega), ob_some]
      rfl
    refine (congrArg (fun r => R.bind r _) inn).trans ?_
    have e : ((rng (x.1 + lq.f_a) ((min (x.1 + lq.f_b) ((A.length : Int) - (1 : Int))) + (1 : Int))).any fun l => decide (x.2 < gi A l)) = cA lq.f_a lq.f_b n A Bh (x.1 + 1) := by
      rw [Bool.eq_iff_iff]
      unfold cA
      simp only [List.any_eq_true, mem_rng, decide_eq_true_eq]
      have g : gi Bh (x.1 + 1 - 1) = x.2 := by
        unfold gi
        rw [show x.1 + 1 - 1 = x.1 by omega, List.getD_eq_getElem?_getD, x2]; rfl
      rw [g]
      constructor
      · rintro ⟨l, ⟨l0, l1⟩, hl⟩
        exact ⟨l + 1, ⟨by omega, by omega⟩, by rw [show l + 1 - 1 = l by omega]; exact hl⟩
      · rintro ⟨l, ⟨l0, l1⟩, hl⟩
        exact ⟨l - 1, ⟨by omega, by omega⟩, hl⟩
    rw [e]
    cases cA lq.f_a lq.f_b n A Bh (x.1 + 1) <;> rfl)
  refine (congrArg (fun r => R.bind r _) h).trans ?_
  have e : ((enumL Bh).any fun x => cA lq.f_a lq.f_b n A Bh (x.1 + 1)) = (rng 1 ((n : Int) + 1)).any fun h => cA lq.f_a lq.f_b n A Bh h := by
    rw [Bool.eq_iff_iff]
    simp only [List.any_eq_true, mem_rng]
    constructor
    · rintro ⟨x, hx, hc⟩
      obtain ⟨x0, x1, _⟩ := enumL_mem hx
      exact ⟨x.1 + 1, ⟨by omega, by omega⟩, hc⟩
    · rintro ⟨h, ⟨h0, h1⟩, hc⟩
      have hl : (h - 1).toNat < Bh.length := by omega
      refine ⟨(h - 1, Bh[(h - 1).toNat]), ?_, by show cA _ _ _ _ _ (h - 1 + 1) = true; rw [show h - 1 + 1 = h by omega]; exact hc⟩
      unfold enumL
      refine List.mem_map.mpr ⟨(Bh[(h - 1).toNat], (h - 1).toNat), ?_, by simp; omega⟩
      rw [List.mem_zipIdx_iff_getElem?]
      exact List.getElem?_eq_getElem hl
  rw [e]
  cases ((rng 1 ((n : Int) + 1)).any fun h => cA lq.f_a lq.f_b n A Bh h) <;> rfl
end Gn
namespace Gn
open PySem L2
theorem any_or {α : Type} {p q : α → Bool} : ∀ {xs : List α}, (xs.any fun x => p x || q x) = (xs.any p || xs.any q)
  | [] => rfl
  | x :: xs => by rw [List.any_cons, List.any_cons, List.any_cons, any_or]; cases p x <;> cases q x <;> cases xs.any p <;> rfl
theorem hold_ok {a b k cost : Int} {w : O_Weather} {t : Tx} {ps : List Int} {L : T3 Int (List Int) (List Int)} (hw : w.f_signs = t) (a1 : 1 ≤ a) (ab : a < b) (b2 : b ≤ 12) (h1 : 1 ≤ t.length) (h2 : t.length ≤ 200) (hl : ps.length = t.length) (hp : ∀ p ∈ ps, 0 ≤ p ∧ p ≤ 1000) (k1 : 1 ≤ k) (k2 : k ≤ 12) :
    m_crew_labels_hold ⟨a, b⟩ w ps k cost L = .ok (allfit a b t ps k cost L) := by
  unfold m_crew_labels_hold allfit
  rw [boards_ok k1 k2, bind_ok_, costs_ok hw h1 h2 hl hp, bind_ok_]
  unfold m_Weather_hours
  rw [hw, gd_t _ (sz_le (by omega)), opt_ok_, ob_some]
  by_cases hb : L.b.length = t.length
  rotate_left
  · rw [ift (by rw [decide_eq_false (show ¬ ((L.b.length : Int) = (t.length : Int)) by omega)]; rfl), opt_ok_, ob_some, ift rfl, if_neg (fun z => hb z.1)]
  rw [ifn (c := !(decide ((L.b.length : Int) = (t.length : Int)))) (by rw [decide_eq_true (show ((L.b.length : Int) = (t.length : Int)) by omega)]; rfl)]
  by_cases hc : L.c.length = t.length
  rotate_left
  · rw [ift (c := !(decide ((L.c.length : Int) = (t.length : Int)))) (by rw [decide_eq_false (show ¬ ((L.c.length : Int) = (t.length : Int)) by omega)]; rfl), opt_ok_, ob_some, opt_ok_, ob_some, ift rfl, if_neg (fun z => hc z.2.1)]
  rw [ifn (c := !(decide ((L.c.length : Int) = (t.length : Int)))) (by rw [decide_eq_true (show ((L.c.length : Int) = (t.length : Int)) by omega)]; rfl), atI_get (d := 0) (by omega) (by omega), ob_some, opt_ok_, ob_some, opt_ok_, ob_some]
  by_cases h0 : gi L.c 0 ≤ 0
  rotate_left
  · have h0' : (0 : Int) < L.c.getD (0 : Int).toNat 0 := by have : ¬ L.c.getD (0 : Int).toNat 0 ≤ 0 := h0; omega
    rw [ift (decide_eq_true h0'), if_neg (fun z => h0 z.2.2)]
  have h0' : ¬ (0 : Int) < L.c.getD (0 : Int).toNat 0 := by have : L.c.getD (0 : Int).toNat 0 ≤ 0 := h0; omega
  rw [ifn (decide_eq_false h0'), if_pos ⟨hb, hc, h0⟩, steps_ok (lq := ⟨a, b⟩) (n := t.length) a1 b2 ab hb hc h2, opt_ok_, ob_some, Bool.not_not]
  unfold fits
  rw [any_or]
  dsimp only
  cases hA : (rng 1 ((t.length : Int) + 1)).any fun h => cA a b t.length L.b L.c h with
  | true => rfl
  | false =>
    rw [ifn rfl, Bool.false_or, cut_from (by omega)]
    have hne : L.c.drop (max (0 : Int) ((t.length : Int) - b)).toNat ≠ [] := fun z => by
      have := congrArg List.length z
      rw [List.length_drop, List.length_nil] at this
      omega
    obtain ⟨m, em, mm, lm⟩ := min_some hne
    rw [em, ob_some]
    have eB : ((rng 1 ((t.length : Int) + 1)).any fun h => cB b t.length L.a L.c h) = decide (m < L.a) := by
      rw [Bool.eq_iff_iff]
      unfold cB
      simp only [List.any_eq_true, mem_rng, decide_eq_true_eq, Bool.and_eq_true]
      constructor
      · rintro ⟨h, ⟨x0, x1⟩, y0, y1⟩
        have hx : gi L.c (h - 1) ∈ L.c.drop (max (0 : Int) ((t.length : Int) - b)).toNat := by
          have hl2 : (h - 1).toNat < L.c.length := by omega
          unfold gi
          rw [List.getD_eq_getElem?_getD, List.getElem?_eq_getElem hl2]
          rw [List.mem_drop_iff_getElem]
          exact ⟨(h - 1).toNat - (max (0 : Int) ((t.length : Int) - b)).toNat, by omega, by
            congr 1; omega⟩
        have := lm _ hx
        omega
      · intro hm
        obtain ⟨i, hi, e⟩ := List.mem_drop_iff_getElem.mp mm
        refine ⟨((max (0 : Int) ((t.length : Int) - b)).toNat + i : Nat) + 1, ⟨by omega, by omega⟩, by omega, ?_⟩
        unfold gi
        rw [show (((max (0 : Int) ((t.length : Int) - b)).toNat + i : Nat) : Int) + 1 - 1 = (((max (0 : Int) ((t.length : Int) - b)).toNat + i : Nat) : Int) by omega, Int.toNat_natCast, List.getD_eq_getElem?_getD, List.getElem?_eq_getElem (by omega), Option.getD_some]
        rw [← e] at hm
        exact hm
    rw [eB]
    by_cases hm : m < L.a
    · rw [ift (decide_eq_true hm), decide_eq_true hm]; rfl
    rw [ifn (decide_eq_false hm), decide_eq_false hm, gd_t _ (rg_le (by omega) (by omega)), gd_t _ (sz_le (by rw [rng_len]; omega)), mapR_ok (g := spv t ps L.b L.c) (fun x hx => ?_), opt_ok_, ob_some, gd_t _ (mul_le (by omega) (by omega))]
    · unfold spare
      rw [Bool.not_false, Bool.true_and]
      congr 1
      rw [decide_eq_decide]
      omega
    · obtain ⟨x0, x1⟩ := mem_rng.mp hx
      rw [atI_get (d := 0) (by omega) (by omega), ob_some, atI_get (d := 0) (by omega) (by omega), ob_some, atI_get (d := 0) (by omega) (by rw [List.length_cons, List.length_map, rng_len]; omega), ob_some]
      have e : (0 :: (rng 0 (t.length : Int)).map (dmp t ps)).getD (x + 1).toNat 0 = dmp t ps x := by
        have e1 : (rng 0 (t.length : Int))[x.toNat]? = some x := by
          unfold rng
          rw [List.getElem?_map, List.getElem?_range (by omega)]
          show some ((0 : Int) + (x.toNat : Int)) = some x
          congr 1; omega
        rw [show (x + 1).toNat = x.toNat + 1 by omega, List.getD_cons_succ, List.getD_eq_getElem?_getD, List.getElem?_map, e1]; rfl
      rw [e]; rfl
end Gn
namespace Gn
open PySem L2
theorem comp_all {α β S : Type} {f : α → S → R (Option β × S)} {I : S → Prop} {P : β → Prop} : ∀ {xs : List α} {s : S}, (∀ x ∈ xs, ∀ s, I s → ∃ y s', f x s = .ok (some y, s') ∧ I s' ∧ P y) → I s → ∃ ys s', compR xs s f = .ok (ys, s') ∧ I s' ∧ ys.length = xs.length ∧ ∀ y ∈ ys, P y
  | [], s, _, h => ⟨[], s, rfl, h, rfl, fun _ h => nomatch h⟩
  | x :: xs, s, h, hs => by
    obtain ⟨y, s1, e1, h1, py⟩ := h x List.mem_cons_self s hs
    obtain ⟨ys, s2, e2, h2, h3, h4⟩ := comp_all (xs := xs) (fun z hz => h z (List.mem_cons_of_mem _ hz)) h1
    refine ⟨y :: ys, s2, ?_, h2, by rw [List.length_cons, List.length_cons, h3], fun z hz => ?_⟩
    · show (f x s).bind _ = _
      rw [e1, bind_ok_, e2]; rfl
    · rcases List.mem_cons.mp hz with hz | hz
      · rw [hz]; exact py
      · exact h4 z hz
theorem prices_ok {p : List Int} {n : Int} (hp : IsPool p) (h1 : 1 ≤ n) (h2 : n ≤ 200) : ∃ ps q, m_law_prices p n = .ok (ps, q) ∧ IsPool q ∧ (ps.length : Int) = n ∧ ∀ x ∈ ps, 0 ≤ x ∧ x ≤ 1000 := by
  obtain ⟨d1, q1, e1, p1, d10, d11⟩ := take_ok (size := 4) hp (by omega) (by omega)
  unfold m_law_prices
  rw [e1, opt_ok_, ob_some]
  dsimp only
  obtain ⟨m, em, m0, m1⟩ : ∃ m, atI ([(2 : Int), (4 : Int), (10 : Int), (1001 : Int)]) d1 = some m ∧ 2 ≤ m ∧ m ≤ 1001 := by
    rcases (show d1 = 0 ∨ d1 = 1 ∨ d1 = 2 ∨ d1 = 3 from by omega) with h | h | h | h <;> (subst h; exact ⟨_, rfl, by omega, by omega⟩)
  obtain ⟨d2, q2, e2, p2, d20, d21⟩ := take_ok (size := 2) p1 (by omega) (by omega)
  rw [em, ob_some, e2, opt_ok_, ob_some]
  dsimp only
  have hr : (rng 0 n).length = n.toNat := by rw [rng_len]; omega
  rw [gd_t _ (rg_le (by omega) (by omega)), gd_t _ (sz_le (by omega))]
  obtain ⟨ys, q3, e3, p3, l3, b3⟩ := comp_all (I := IsPool) (P := fun x : Int => 0 ≤ x ∧ x ≤ 1000) (xs := rng 0 n) (s := q2) (f := fun x10 pool17 => (ob ((m_law_take pool17 (m - d2)).opt) fun (t18, pool19) => .ok (some (d2 + t18), pool19))) (fun x _ s hs => by
    obtain ⟨d, q, e, h, _, _⟩ := take_ok (size := m - d2) hs (by omega) (by omega)
    rw [e, opt_ok_, ob_some]
    exact ⟨_, _, rfl, h, by omega, by omega⟩) p2
  rw [e3, opt_ok_, ob_some]
  exact ⟨ys, q3, rfl, p3, by omega, b3⟩
end Gn
namespace Gn
open PySem L2
theorem just_ok {a b k : Int} {t : Tx} {ps : List Int} {L : T3 Int (List Int) (List Int)} (h2 : t.length ≤ 200) (hl : ps.length = t.length) (k1 : 1 ≤ k) (k2 : k ≤ 12) : ∃ v, m_law_just (a, b) t ps k L = .ok v := by
  unfold m_law_just
  rw [gd_t _ (mul_le (by omega) (by omega)), elet_, gd_t _ (sz_le (by omega)), gd_t _ (rg_le (by omega) (by omega))]
  by_cases hn : (t.length : Int) + 1 < 2
  · rw [rng_nil (by omega)]; exact ⟨_, rfl⟩
  obtain ⟨v, e, _⟩ := fold_rng (f := fun x6 (extra7 : Int) => (if ((decide (x6 ≤ (L.b.length : Int))) && (decide (x6 ≤ (L.c.length : Int)))) = true then gd (sz t.length) <| ob (atI t (x6 - (1 : Int))) fun t10 => ob (atI ps (x6 - (1 : Int))) fun t12 => gd (mulOk (if (decide (([t10] : Tx) = ([35] : Tx))) = true then (1 : Int) else 0) t12) <| elet (((if (decide (([t10] : Tx) = ([35] : Tx))) = true then (1 : Int) else 0) * t12) : Int) fun price15 => ob (atI L.c (x6 - (1 : Int))) fun t17 => ob (atI L.b (x6 - (1 : Int))) fun t19 => elet ((extra7 - (max (0 : Int) ((t17 - t19) - price15))) : Int) fun extra21 => .ok extra21 else .ok extra7))
    (fun x (s : Int) => 2 ≤ x) (hi := (t.length : Int) + 1) (fun x s hx h0 => by
      by_cases hc : ((decide (x ≤ (L.b.length : Int))) && (decide (x ≤ (L.c.length : Int)))) = true
      · obtain ⟨c1, c2⟩ := Bool.and_eq_true_iff.mp hc
        have c1 := of_decide_eq_true c1
        have c2 := of_decide_eq_true c2
        rw [if_pos hc, gd_t _ (sz_le (by omega)), atI_get (d := 0) (by omega) (by omega), ob_some, atI_get (d := 0) (by omega) (by omega), ob_some, gd_t _ (mul_le (by split <;> omega) (by split <;> omega)), elet_, atI_get (d := 0) (by omega) (by omega), ob_some, atI_get (d := 0) (by omega) (by omega), ob_some, elet_]
        exact ⟨_, rfl, by omega⟩
      · rw [if_neg hc]; exact ⟨_, rfl, by omega⟩) (n := ((t.length : Int) + 1 - 2).toNat) (lo := 2) (s0 := k * L.a) rfl (by omega) (by omega)
  exact ⟨v, (congrArg (fun r => R.bind r _) e).trans rfl⟩
end Gn
namespace Gn
open PySem L2
theorem made_ok {p : List Int} {a b n most : Int} (hp : IsPool p) (a1 : 1 ≤ a) (ab : a < b) (b2 : b ≤ 12) (h1 : 1 ≤ n) (h2 : n ≤ 200) (m0 : 0 ≤ most) (m1 : most ≤ 1000) :
    ∃ L q, m_law_made p (a, b) n most = .ok (L, q) ∧ IsPool q ∧ (L.b.length : Int) = n ∧ (L.c.length : Int) = n := by
  obtain ⟨d1, q1, e1, p1, d10, d11⟩ := take_ok (size := 3) hp (by omega) (by omega)
  obtain ⟨d2, q2, e2, p2, d20, d21⟩ := take_ok (size := 2) p1 (by omega) (by omega)
  unfold m_law_made
  rw [e1, opt_ok_, ob_some]
  dsimp only
  rw [e2, opt_ok_, ob_some]
  dsimp only
  rw [elet_, gd_t _ (rg_le (by omega) (by omega))]
  obtain ⟨⟨q3, B3⟩, e3, x3, p3, l3⟩ := fold_rng (f := fun x10 ((pool11, behind12) : (List Int) × (List Int)) => (if (decide (d1 = (0 : Int))) = true then ob (atI behind12 (-1 : Int)) fun t14 => ob ((m_law_take pool11 (3 : Int)).opt) fun (t16, pool17) => gd (sz (behind12.length + 1)) <| .ok (pool17, (behind12 ++ [(t14 + t16)])) else (if (decide (d1 = (1 : Int))) = true then ob ((m_law_take pool11 (most + (1 : Int))).opt) fun (t21, pool22) => gd (sz (behind12.length + 1)) <| .ok (pool22, (behind12 ++ [t21])) else ob ((m_law_take pool11 (3 : Int)).opt) fun (t25, pool26) => gd (sz (behind12.length + 1)) <| .ok (pool26, (behind12 ++ [((min most x10) - t25)])))))
    (fun x (s : (List Int) × (List Int)) => 1 ≤ x ∧ IsPool s.1 ∧ (s.2.length : Int) = x) (hi := n) (fun x s hx ⟨x0, hq, hl⟩ => by
      obtain ⟨pl, B⟩ := s
      have hq : IsPool pl := hq
      have hl : (B.length : Int) = x := hl
      dsimp only
      have app : ∀ y : Int, ((B ++ [y]).length : Int) = x + 1 := fun y => by rw [List.length_append, List.length_singleton]; omega
      by_cases w0 : d1 = 0
      · obtain ⟨y, ey⟩ := atI_lt (xs := B) (i := -1) (by omega) (by omega)
        obtain ⟨d, q, e, h, _, _⟩ := take_ok (size := 3) hq (by omega) (by omega)
        rw [ift (decide_eq_true w0), ey, ob_some, e, opt_ok_, ob_some]
        dsimp only
        rw [gd_t _ (sz_le (by omega))]
        exact ⟨_, rfl, by omega, h, app _⟩
      rw [ifn (decide_eq_false w0)]
      by_cases w1 : d1 = 1
      · obtain ⟨d, q, e, h, _, _⟩ := take_ok (size := most + 1) hq (by omega) (by omega)
        rw [ift (decide_eq_true w1), e, opt_ok_, ob_some]
        dsimp only
        rw [gd_t _ (sz_le (by omega))]
        exact ⟨_, rfl, by omega, h, app _⟩
      rw [ifn (decide_eq_false w1)]
      obtain ⟨d, q, e, h, _, _⟩ := take_ok (size := 3) hq (by omega) (by omega)
      rw [e, opt_ok_, ob_some]
      dsimp only
      rw [gd_t _ (sz_le (by omega))]
      exact ⟨_, rfl, by omega, h, app _⟩) (n := (n - 1).toNat) (lo := 1) (s0 := (q2, [((0 : Int) - d2)])) rfl (by omega) ⟨by omega, p2, rfl⟩
  have p3 : IsPool q3 := p3
  have l3 : (B3.length : Int) = n := l3
  obtain ⟨⟨q4, A4⟩, e4, x4, p4, l4⟩ := fold_rng (f := fun x34 ((pool35, ahead36) : (List Int) × (List Int)) => gd (rgOk (max (0 : Int) (x34 - b))) <| gd (rgOk (max (0 : Int) ((x34 - a) + (1 : Int)))) <| gd (sz (rng (max (0 : Int) (x34 - b)) (max (0 : Int) ((x34 - a) + (1 : Int)))).length) <| ob ((mapR (rng (max (0 : Int) (x34 - b)) (max (0 : Int) ((x34 - a) + (1 : Int)))) (fun x39 => (ob (atI B3 x39) fun t40 => .ok t40))).opt) fun ys43 => (if (decide ((ys43.length : Int) = (0 : Int))) = true then ob (atI B3 x34) fun t48 => gd (sz (ahead36.length + 1)) <| .ok (pool35, (ahead36 ++ [t48])) else ob (ys43.min?) fun t51 => ob ((m_law_take pool35 (8 : Int)).opt) fun (t53, pool54) => gd (sz (ahead36.length + 1)) <| .ok (pool54, (ahead36 ++ [(t51 - (if (decide (t53 = (0 : Int))) = true then (1 : Int) else 0))]))))
    (fun x (s : (List Int) × (List Int)) => 0 ≤ x ∧ IsPool s.1 ∧ (s.2.length : Int) = x) (hi := n) (fun x s hx ⟨x0, hq, hl⟩ => by
      obtain ⟨pl, A⟩ := s
      have hq : IsPool pl := hq
      have hl : (A.length : Int) = x := hl
      dsimp only
      have app : ∀ y : Int, ((A ++ [y]).length : Int) = x + 1 := fun y => by rw [List.length_append, List.length_singleton]; omega
      rw [gd_t _ (rg_le (by omega) (by omega)), gd_t _ (rg_le (by omega) (by omega)), gd_t _ (sz_le (by rw [rng_len]; omega)), mapR_ok (g := gi B3) (fun y hy => by
        obtain ⟨y0, y1⟩ := mem_rng.mp hy
        rw [atI_get (d := 0) (by omega) (by omega), ob_some]; rfl), opt_ok_, ob_some]
      by_cases hz : (((rng (max (0 : Int) (x - b)) (max (0 : Int) ((x - a) + (1 : Int)))).map (gi B3)).length : Int) = 0
      · rw [ift (decide_eq_true hz), atI_get (d := 0) (by omega) (by omega), ob_some, gd_t _ (sz_le (by omega))]
        exact ⟨_, rfl, by omega, hq, app _⟩
      · obtain ⟨m, em, _⟩ := min_some (xs := (rng (max (0 : Int) (x - b)) (max (0 : Int) ((x - a) + (1 : Int)))).map (gi B3)) (fun z => hz (by rw [z]; rfl))
        obtain ⟨d, q, e, h, _, _⟩ := take_ok (size := 8) hq (by omega) (by omega)
        rw [ifn (decide_eq_false hz), em, ob_some, e, opt_ok_, ob_some]
        dsimp only
        rw [gd_t _ (sz_le (by omega))]
        exact ⟨_, rfl, by omega, h, app _⟩) (n := (n - 0).toNat) (lo := 0) (s0 := (q3, [])) rfl (by omega) ⟨by omega, p3, rfl⟩
  have l4 : (A4.length : Int) = n := l4
  have hne : cutL B3 (some (max (0 : Int) (n - b))) none ≠ [] := fun z => by
    rw [cut_from (by omega)] at z
    have := congrArg List.length z
    rw [List.length_drop, List.length_nil] at this
    omega
  obtain ⟨m, em, _⟩ := min_some hne
  refine ⟨T3.mk m A4 B3, q4, ?_, p4, l4, l3⟩
  refine (congrArg (fun r => R.bind r _) e3).trans ?_
  rw [bind_ok_]
  dsimp only
  rw [elet_, gd_t _ (rg_le (by omega) (by omega))]
  refine (congrArg (fun r => R.bind r _) e4).trans ?_
  rw [bind_ok_]
  dsimp only
  rw [em, ob_some]
end Gn
namespace Gn
open PySem L2
theorem cutT_len {xs : List Int} {lo hi : Option Int} : (cutL xs lo hi).length ≤ xs.length := cut_len
theorem bent_ok {p : List Int} {n : Int} {L : T3 Int (List Int) (List Int)} (hp : IsPool p) (h1 : 1 ≤ n) (h2 : n ≤ 200) (lb : (L.b.length : Int) = n) (lc : (L.c.length : Int) = n) :
    ∃ L2 q, m_law_bent p L = .ok (L2, q) ∧ IsPool q ∧ L2.b.length ≤ 1000 ∧ L2.c.length ≤ 1000 := by
  obtain ⟨d1, q1, e1, p1, d10, d11⟩ := take_ok (size := (L.b.length : Int)) hp (by omega) (by omega)
  obtain ⟨d2, q2, e2, p2, d20, d21⟩ := take_ok (size := 4) p1 (by omega) (by omega)
  obtain ⟨d3, q3, e3, p3, d30, d31⟩ := take_ok (size := 9) p2 (by omega) (by omega)
  unfold m_law_bent
  rw [e1, opt_ok_, ob_some]
  dsimp only
  rw [e2, opt_ok_, ob_some]
  dsimp only
  rw [elet_, e3, opt_ok_, ob_some]
  dsimp only
  by_cases w0 : d3 = 0
  · obtain ⟨y, ey⟩ := atI_lt (xs := L.b) (i := d1) (by omega) (by omega)
    obtain ⟨s, es, ls⟩ := setI_lt (xs := L.b) (i := d1) (y := y + (1 + d2)) (by omega) (by omega)
    rw [ift (decide_eq_true w0), ey, ob_some, es, ob_some]
    exact ⟨_, _, rfl, p3, by show s.length ≤ _; omega, by show L.c.length ≤ _; omega⟩
  rw [ifn (decide_eq_false w0)]
  by_cases w1 : d3 = 1
  · obtain ⟨y, ey⟩ := atI_lt (xs := L.c) (i := d1) (by omega) (by omega)
    obtain ⟨s, es, ls⟩ := setI_lt (xs := L.c) (i := d1) (y := y - (1 + d2)) (by omega) (by omega)
    rw [ift (decide_eq_true w1), ey, ob_some, es, ob_some]
    exact ⟨_, _, rfl, p3, by show L.b.length ≤ _; omega, by show s.length ≤ _; omega⟩
  rw [ifn (decide_eq_false w1)]
  by_cases w2 : d3 = 2
  · obtain ⟨y, ey⟩ := atI_lt (xs := L.c) (i := d1) (by omega) (by omega)
    obtain ⟨s, es, ls⟩ := setI_lt (xs := L.c) (i := d1) (y := y + (1 + d2)) (by omega) (by omega)
    rw [ift (decide_eq_true w2), ey, ob_some, es, ob_some]
    exact ⟨_, _, rfl, p3, by show L.b.length ≤ _; omega, by show s.length ≤ _; omega⟩
  rw [ifn (decide_eq_false w2)]
  by_cases w3 : d3 = 3
  · rw [ift (decide_eq_true w3), elet_]
    exact ⟨_, _, rfl, p3, by show L.b.length ≤ _; omega, by show L.c.length ≤ _; omega⟩
  rw [ifn (decide_eq_false w3)]
  by_cases w4 : d3 = 4
  · rw [ift (decide_eq_true w4), elet_]
    exact ⟨_, _, rfl, p3, by show L.b.length ≤ _; omega, by show L.c.length ≤ _; omega⟩
  rw [ifn (decide_eq_false w4)]
  have two : ∀ (X Y : List Int) (d : Int), 0 ≤ d → d < 2 → X.length ≤ 1000 → Y.length ≤ 1000 → ∃ Z, atI [X, Y] d = some Z ∧ Z.length ≤ 1000 := fun X Y d d0 d1 hX hY => by
    rcases (show d = 0 ∨ d = 1 from by omega) with h | h
    · subst h; exact ⟨X, rfl, hX⟩
    · subst h; exact ⟨Y, rfl, hY⟩
  by_cases w5 : d3 = 5
  · obtain ⟨d, q, e, h, d0, d1⟩ := take_ok (size := 2) p3 (by omega) (by omega)
    have cl : (cutL L.b none (some ((L.b.length : Int) - (1 : Int)))).length ≤ L.b.length := cut_len
    obtain ⟨Z, eZ, lZ⟩ := two (L.b ++ [(0 : Int)]) (cutL L.b none (some ((L.b.length : Int) - (1 : Int)))) d d0 d1 (by rw [List.length_append, List.length_singleton]; omega) (by omega)
    rw [ift (decide_eq_true w5), gd_t _ (sz_le (by rw [List.length_singleton]; omega)), e, opt_ok_, ob_some]
    dsimp only
    rw [eZ, ob_some]
    exact ⟨_, _, rfl, h, lZ, by show L.c.length ≤ _; omega⟩
  rw [ifn (decide_eq_false w5)]
  by_cases w6 : d3 = 6
  · obtain ⟨y, ey⟩ := atI_lt (xs := L.c) (i := -1) (by omega) (by omega)
    obtain ⟨d, q, e, h, d0, d1⟩ := take_ok (size := 2) p3 (by omega) (by omega)
    have cl : (cutL L.c none (some ((L.c.length : Int) - (1 : Int)))).length ≤ L.c.length := cut_len
    obtain ⟨Z, eZ, lZ⟩ := two (L.c ++ [y]) (cutL L.c none (some ((L.c.length : Int) - (1 : Int)))) d d0 d1 (by rw [List.length_append, List.length_singleton]; omega) (by omega)
    rw [ift (decide_eq_true w6), ey, ob_some, gd_t _ (sz_le (by rw [List.length_singleton]; omega)), e, opt_ok_, ob_some]
    dsimp only
    rw [eZ, ob_some]
    exact ⟨_, _, rfl, h, by show L.b.length ≤ _; omega, lZ⟩
  rw [ifn (decide_eq_false w6)]
  by_cases w7 : d3 = 7
  · rw [ift (decide_eq_true w7)]
    exact ⟨_, _, rfl, p3, by show L.c.length ≤ _; omega, by show L.b.length ≤ _; omega⟩
  rw [ifn (decide_eq_false w7), gd_t _ (sz_le (by omega))]
  have nine : ∀ x ∈ L.b, ∀ s, IsPool s → ∃ y s', (ob ((m_law_take s (19 : Int)).opt) fun (t58, pool59) => R.ok (some (t58 - (9 : Int)), pool59)) = .ok (y, s') ∧ IsPool s' := fun x _ s hs => by
    obtain ⟨d, q, e, h, _, _⟩ := take_ok (size := 19) hs (by omega) (by omega)
    rw [e, opt_ok_, ob_some]
    exact ⟨_, _, rfl, h⟩
  have nine2 : ∀ x ∈ L.c, ∀ s, IsPool s → ∃ y s', (ob ((m_law_take s (19 : Int)).opt) fun (t58, pool59) => R.ok (some (t58 - (9 : Int)), pool59)) = .ok (y, s') ∧ IsPool s' := fun x _ s hs => by
    obtain ⟨d, q, e, h, _, _⟩ := take_ok (size := 19) hs (by omega) (by omega)
    rw [e, opt_ok_, ob_some]
    exact ⟨_, _, rfl, h⟩
  obtain ⟨ys, q4, e4, p4, l4⟩ := comp_ok nine p3
  obtain ⟨zs, q5, e5, p5, l5⟩ := comp_ok nine2 p4
  rw [e4, opt_ok_, ob_some]
  dsimp only
  rw [gd_t _ (sz_le (by omega)), e5, opt_ok_, ob_some]
  exact ⟨_, _, rfl, p5, by show ys.length ≤ _; omega, by show zs.length ≤ _; omega⟩
end Gn
namespace Gn
open PySem L2
/-! ### outcomes asked -/
def W {α : Type} (m : R α) (Q : α → Prop) : Prop := ∃ a, m = .ok a ∧ Q a
/-- what is asked of a turn's end -/
inductive SP {S ρ : Type} (I J : S → Prop) (E : ρ → Prop) : Stp S ρ → Prop
  | go {s : S} : I s → SP I J E (.go s)
  | brk {s : S} : J s → SP I J E (.brk s)
  | ret {y : ρ} : E y → SP I J E (.ret y)
section
variable {α β γ S ρ : Type}
theorem W.eq {m : R α} {a : α} (h : W m (· = a)) : m = .ok a := by obtain ⟨b, e, rfl⟩ := h; exact e
theorem W.of {m : R α} {a : α} (h : m = .ok a) : W m (· = a) := ⟨a, h, rfl⟩
theorem W.mono {m : R α} {P Q : α → Prop} (h : W m P) (k : ∀ a, P a → Q a) : W m Q := by obtain ⟨a, e, p⟩ := h; exact ⟨a, e, k a p⟩
theorem w_ok {a : α} {Q : α → Prop} (h : Q a) : W (.ok a) Q := ⟨a, rfl, h⟩
theorem w_ob {o : Option α} {x : α} {f : α → R β} {Q : β → Prop} (e : o = some x) (h : W (f x) Q) : W (ob o f) Q := by subst e; exact h
theorem w_call {m : R α} {P : α → Prop} {f : α → R β} {Q : β → Prop} (hm : W m P) (h : ∀ a, P a → W (f a) Q) : W (ob m.opt f) Q := by obtain ⟨a, rfl, p⟩ := hm; exact h a p
theorem w_call2 {m : R (α × γ)} {P : α × γ → Prop} {f : α × γ → R β} {Q : β → Prop} (hm : W m P) (h : ∀ a b, P (a, b) → W (f (a, b)) Q) : W (ob m.opt f) Q := by obtain ⟨⟨a, b⟩, rfl, p⟩ := hm; exact h a b p
theorem w_bind {m : R α} {P : α → Prop} {f : α → R β} {Q : β → Prop} (hm : W m P) (h : ∀ a, P a → W (f a) Q) : W (m.bind f) Q := by obtain ⟨a, rfl, p⟩ := hm; exact h a p
theorem w_bind2 {m : R (α × γ)} {P : α × γ → Prop} {f : α × γ → R β} {Q : β → Prop} (hm : W m P) (h : ∀ a b, P (a, b) → W (f (a, b)) Q) : W (m.bind f) Q := by obtain ⟨⟨a, b⟩, rfl, p⟩ := hm; exact h a b p
theorem w_gd {c : Bool} {m : R β} {Q : β → Prop} (hc : c = true) (h : W m Q) : W (gd c m) Q := by subst hc; exact h
theorem w_elet {a : α} {f : α → R β} {Q : β → Prop} (h : W (f a) Q) : W (elet a f) Q := h
/-- .. the value forgotten but for what is said of it -/
theorem w_eletP {a : α} (P : α → Prop) {f : α → R β} {Q : β → Prop} (p : P a) (h : ∀ a, P a → W (f a) Q) : W (elet a f) Q := h a p
theorem w_ite {c : Bool} {x y : R β} {Q : β → Prop} (h1 : c = true → W x Q) (h2 : c = false → W y Q) : W (if c = true then x else y) Q := by
  cases c with
  | true => exact h1 rfl
  | false => exact h2 rfl
theorem w_ifd {p : Prop} [Decidable p] {x y : R β} {Q : β → Prop} (h1 : p → W x Q) (h2 : ¬ p → W y Q) : W (if decide p = true then x else y) Q := by
  by_cases h : p
  · rw [if_pos (decide_eq_true h)]; exact h1 h
  · rw [if_neg (by rw [decide_eq_false h]; exact Bool.false_ne_true)]; exact h2 h
theorem w_ift {c : Bool} {x y : R β} {Q : β → Prop} (h : c = true) (h1 : W x Q) : W (if c = true then x else y) Q := by subst h; exact h1
theorem w_iff {c : Bool} {x y : R β} {Q : β → Prop} (h : c = false) (h1 : W y Q) : W (if c = true then x else y) Q := by subst h; exact h1
theorem w_go {I J : S → Prop} {E : ρ → Prop} {s : S} (h : I s) : W (.ok (.go s)) (SP I J E) := w_ok (.go h)
theorem w_brk {I J : S → Prop} {E : ρ → Prop} {s : S} (h : J s) : W (.ok (.brk s)) (SP I J E) := w_ok (.brk h)
theorem w_ret {I J : S → Prop} {E : ρ → Prop} {y : ρ} (h : E y) : W (.ok (.ret y) : R (Stp S ρ)) (SP I J E) := w_ok (.ret h)
theorem w_fin {I J : S → Prop} {E : ρ → Prop} {m : R (Stp S ρ)} {fr : ρ → R β} {fs : S → R β} {Q : β → Prop} (hm : W m (SP I J E)) (hE : ∀ y, E y → W (fr y) Q) (hI : ∀ s, I s → W (fs s) Q) (hJ : ∀ s, J s → W (fs s) Q) : W (m.bind fun o => o.fin fr fs) Q := by
  obtain ⟨o, rfl, h⟩ := hm
  cases h with
  | go h => exact hI _ h
  | brk h => exact hJ _ h
  | ret h => exact hE _ h
/-! lists walked -/
theorem w_foldL {f : α → S → R S} (I : List α → S → Prop) : ∀ {done xs : List α} {s0 : S}, I done s0 → (∀ d x r s, xs = d ++ x :: r → I (done ++ d) s → W (f x s) (I (done ++ d ++ [x]))) → W (foldR xs s0 f) (I (done ++ xs))
  | done, [], s0, h0, _ => w_ok (by rw [List.append_nil]; exact h0)
  | done, x :: xs, s0, h0, step => by
    refine w_bind (step [] x xs s0 rfl (by rw [List.append_nil]; exact h0)) fun s h => ?_
    rw [List.append_nil] at h
    have := w_foldL (f := f) I (done := done ++ [x]) (xs := xs) (s0 := s) h fun d y r s' e h' => by
      have := step (x :: d) y r s' (by rw [e]; rfl) (by simpa using h')
      simpa using this
    simpa using this
theorem w_fold {f : α → S → R S} (I : List α → S → Prop) {xs : List α} {s0 : S} (h0 : I [] s0) (step : ∀ d x r s, xs = d ++ x :: r → I d s → W (f x s) (I (d ++ [x]))) : W (foldR xs s0 f) (I xs) :=
  w_foldL I (done := []) h0 step
theorem w_foldM {f : α → S → R S} (I : S → Prop) {xs : List α} {s0 : S} (h0 : I s0) (step : ∀ x ∈ xs, ∀ s, I s → W (f x s) I) : W (foldR xs s0 f) I :=
  w_fold (fun _ => I) h0 fun d x r s e h => step x (by rw [e]; simp) s h
theorem w_loopL {f : α → S → R (Stp S ρ)} (I : List α → S → Prop) {J : S → Prop} {E : ρ → Prop} : ∀ {done xs : List α} {s0 : S}, I done s0 → (∀ d x r s, xs = d ++ x :: r → I (done ++ d) s → W (f x s) (SP (I (done ++ d ++ [x])) J E)) → W (loopR xs s0 f) (SP (I (done ++ xs)) J E)
  | done, [], s0, h0, _ => w_go (by rw [List.append_nil]; exact h0)
  | done, x :: xs, s0, h0, step => by
    obtain ⟨o, e, h⟩ := step [] x xs s0 rfl (by rw [List.append_nil]; exact h0)
    rw [List.append_nil] at h
    unfold loopR
    rw [e]
    cases h with
    | go h =>
      rename_i s
      have := w_loopL (f := f) I (J := J) (E := E) (done := done ++ [x]) (xs := xs) (s0 := s) h fun d y r s' e h' => by
        have := step (x :: d) y r s' (by rw [e]; rfl) (by simpa using h')
        simpa using this
      simpa using this
    | brk h => exact w_brk h
    | ret h => exact w_ret h
theorem w_loop {f : α → S → R (Stp S ρ)} (I : List α → S → Prop) (J : S → Prop) (E : ρ → Prop) {xs : List α} {s0 : S} (h0 : I [] s0) (step : ∀ d x r s, xs = d ++ x :: r → I d s → W (f x s) (SP (I (d ++ [x])) J E)) : W (loopR xs s0 f) (SP (I xs) J E) :=
  w_loopL I (done := []) h0 step
theorem w_loopM {f : α → S → R (Stp S ρ)} (I : S → Prop) (J : S → Prop) (E : ρ → Prop) {xs : List α} {s0 : S} (h0 : I s0) (step : ∀ x ∈ xs, ∀ s, I s → W (f x s) (SP I J E)) : W (loopR xs s0 f) (SP I J E) :=
  w_loop (fun _ => I) J E h0 fun d x r s e h => step x (by rw [e]; simp) s h
/-- .. each turn gives one -/
theorem w_comp1 {f : α → S → R (Option β × S)} (I : S → Prop) (P : β → Prop) : ∀ {xs : List α} {s : S}, I s → (∀ x ∈ xs, ∀ s, I s → W (f x s) fun o => I o.2 ∧ ∃ y, o.1 = some y ∧ P y) → W (compR xs s f) fun o => I o.2 ∧ o.1.length = xs.length ∧ ∀ y ∈ o.1, P y
  | [], s, h, _ => w_ok ⟨h, rfl, fun y hy => nomatch hy⟩
  | x :: xs, s, hs, h => by
    refine w_bind (h x List.mem_cons_self s hs) fun ⟨o, s1⟩ ⟨h1, y, h2, h3⟩ => w_bind (w_comp1 (f := f) I P (xs := xs) (s := s1) h1 fun y hy => h y (List.mem_cons_of_mem _ hy)) fun q hq => w_ok ?_
    obtain ⟨q1, q2, q3⟩ := hq
    have h2 : o = some y := h2
    subst h2
    exact ⟨q1, by simp only [List.length_cons]; omega, fun z hz => by
        rcases List.mem_cons.mp hz with hz | hz
        · rw [hz]; exact h3
        · exact q3 z hz⟩
end
theorem w_callE {α β : Type} {m : R α} {a : α} {f : α → R β} {Q : β → Prop} (e : m = .ok a) (h : W (f a) Q) : W (ob m.opt f) Q := by subst e; exact h
theorem w_bindE {α β : Type} {m : R α} {a : α} {f : α → R β} {Q : β → Prop} (e : m = .ok a) (h : W (f a) Q) : W (m.bind f) Q := by subst e; exact h
theorem same_labels {L : T3 Int (List Int) (List Int)} (h1 : L.b.length ≤ 1000) (h2 : L.c.length ≤ 1000) : m_law_same (ToD.d (T3.mk L.a L.b L.c)) (ToD.d L) = .ok true := same_ok (n := 8) (by
  show okD 8 (.tup [.int L.a, .lst (L.b.map .int), .lst (L.c.map .int)])
  simp only [okD, List.mem_cons, List.mem_map, List.length_cons, List.length_map, List.length_nil, List.not_mem_nil, or_false]
  refine ⟨by omega, fun y hy => ?_⟩
  rcases hy with rfl | rfl | rfl
  · simp [okD]
  · simp only [okD, List.length_map, List.mem_map]
    refine ⟨by omega, fun y hy => ?_⟩
    obtain ⟨i, _, rfl⟩ := hy
    simp [okD]
  · simp only [okD, List.length_map, List.mem_map]
    refine ⟨by omega, fun y hy => ?_⟩
    obtain ⟨i, _, rfl⟩ := hy
    simp [okD])
theorem held_ok {lq : O_Lacquer} {w : O_Weather} {ps : List Int} {k c : Int} {L : T3 Int (List Int) (List Int)} {v : Bool} (hl : L.b.length ≤ 1000) (hl2 : L.c.length ≤ 1000) (hp : ps.length ≤ 1000) (h : m_crew_labels_hold lq w ps k c L = .ok v) : m_law_held lq w ps k c L = .ok (.bl v) := by
  unfold m_law_held
  refine W.eq ?_
  refine w_elet (w_bindE h (w_callE (same_labels hl hl2) ?_))
  refine w_callE (a := false) ?_ (w_iff rfl (w_ok rfl))
  rw [Bool.not_true, ifn rfl, same_ints (by omega)]; rfl
theorem law_W (s : Sc) : W (m_law s) (· = true) := by
  obtain ⟨c0, ec0⟩ := cell_ok s 0 (by omega)
  obtain ⟨c1, ec1⟩ := cell_ok s 1 (by omega)
  obtain ⟨p0, ep0, hp0⟩ := pool_ok c0
  obtain ⟨o0, eo0, ho0⟩ := pool_ok c1
  obtain ⟨a, b, p1, e1, hp1, a1, ab, b2⟩ := board_ab_ok hp0
  obtain ⟨d2, p2, e2, hp2, d20, d21⟩ := take_ok (size := 20) hp1 (by omega) (by omega)
  obtain ⟨d3, p3, e3, hp3, d30, d31⟩ := take_ok (size := 16) hp2 (by omega) (by omega)
  unfold m_law
  refine w_callE ec0 (w_callE ep0 (w_callE ec1 (w_callE eo0 (w_callE e1 (w_callE e2 (w_elet (w_callE e3 ?_)))))))
  refine w_call2 (P := fun o => IsPool o.1 ∧ 1 ≤ o.2 ∧ o.2 ≤ 100) ?_ fun p4 n h4 => ?_
  · refine w_ifd (fun h => ?_) (fun h => w_ok ⟨hp3, by show 1 ≤ 1 + d2; omega, by show 1 + d2 ≤ 100; omega⟩)
    obtain ⟨d, q, e, hq, d0, d1⟩ := take_ok (size := 100) hp3 (by omega) (by omega)
    exact w_callE e (w_elet (w_ok ⟨hq, by show 1 ≤ 1 + d; omega, by show 1 + d ≤ 100; omega⟩))
  obtain ⟨hp4, n1, n2⟩ := h4
  have hp4 : IsPool p4 := hp4
  have n1 : 1 ≤ n := n1
  have n2 : n ≤ 100 := n2
  obtain ⟨d5, p5, e5, hp5, d50, d51⟩ := take_ok (size := b - a + 1) hp4 (by omega) (by omega)
  obtain ⟨t, o6, e6, ho6, st, tl⟩ := board_signs_ok (k := 1 + d5) ho0 a1 ab b2 (by omega) (by omega) n1 (by omega)
  obtain ⟨ps, o7, e7, ho7, pl, pr⟩ := prices_ok ho6 n1 (by omega)
  obtain ⟨d8, o8, e8, ho8, d80, d81⟩ := take_ok (size := 2) ho7 (by omega) (by omega)
  obtain ⟨m9, e9, m90, m91⟩ : ∃ m, atI ([(3 : Int), (12 : Int)]) d8 = some m ∧ 3 ≤ m ∧ m ≤ 12 := by
    rcases (show d8 = 0 ∨ d8 = 1 from by omega) with h | h <;> (subst h; exact ⟨_, rfl, by omega, by omega⟩)
  obtain ⟨d10, o10, e10, ho10, d100, d101⟩ := take_ok (size := m9) ho8 (by omega) (by omega)
  obtain ⟨ll, ew⟩ := signs_ok st
  have hne : ps ≠ [] := fun z => by subst z; rw [List.length_nil] at pl; omega
  obtain ⟨mx, emx, mmx, _⟩ := max_some hne
  have mx0 := pr mx mmx
  have hsl : ps.length = t.length := by omega
  have ht1 := st.one
  have ht2 := st.most
  refine w_callE e5 (w_callE e6 (w_callE e7 (w_callE e8 (w_ob e9 (w_callE e10 (w_elet (w_bindE (lacq_ok a1 ab b2) (w_bindE ew ?_))))))))
  have hr3 : (rng 0 3).length = 3 := by rw [rng_len]; rfl
  have hr9 : (rng 0 9).length = 9 := by rw [rng_len]; rfl
  refine w_gd (sz_le (by rw [hr3]; omega)) (w_call2 (w_comp1 IsPool (fun L : T3 Int (List Int) (List Int) => (L.b.length : Int) = n ∧ (L.c.length : Int) = n) ho10 fun x _ q hq => ?_) fun made o11 h11 => ?_)
  · obtain ⟨L, q2, e, h, l1, l2⟩ := made_ok (n := n) (most := mx) hq a1 ab b2 n1 (by omega) mx0.1 mx0.2
    exact w_ob emx (w_callE e (w_ok ⟨h, L, rfl, l1, l2⟩))
  obtain ⟨ho11, l11, h11⟩ := h11
  have ho11 : IsPool o11 := ho11
  have l11 : made.length = 3 := by have : made.length = (rng 0 3).length := l11; omega
  have h11 : ∀ L ∈ made, (L.b.length : Int) = n ∧ (L.c.length : Int) = n := h11
  refine w_gd (sz_le (by rw [hr9]; omega)) (w_call2 (w_comp1 IsPool (fun L : T3 Int (List Int) (List Int) => L.b.length ≤ 1000 ∧ L.c.length ≤ 1000) ho11 fun x hx q hq => ?_) fun bent o12 h12 => ?_)
  · obtain ⟨L, eL⟩ := atI_lt (xs := made) (i := x % 3) (by omega) (by omega)
    have hm : L ∈ made := by
      unfold atI at eL
      cases hix : ixN made.length (x % 3) with
      | none => rw [hix] at eL; cases eL
      | some j => rw [hix] at eL; exact List.mem_of_getElem? eL
    obtain ⟨l1, l2⟩ := h11 L hm
    obtain ⟨L2, q2, e, h, k1, k2⟩ := bent_ok (n := n) (L := L) hq n1 (by omega) l1 l2
    exact w_ob eL (w_callE e (w_ok ⟨h, L2, rfl, k1, k2⟩))
  obtain ⟨ho12, l12, h12⟩ := h12
  have ho12 : IsPool o12 := ho12
  have l12 : bent.length = 9 := by have : bent.length = (rng 0 9).length := l12; omega
  have h12 : ∀ L ∈ bent, L.b.length ≤ 1000 ∧ L.c.length ≤ 1000 := h12
  have all : ∀ L ∈ made ++ bent, L.b.length ≤ 1000 ∧ L.c.length ≤ 1000 := fun L hL => by
    rcases List.mem_append.mp hL with h | h
    · have := h11 L h; omega
    · exact h12 L h
  obtain ⟨d13, o13, e13, ho13, d130, d131⟩ := take_ok (size := 9) ho12 (by omega) (by omega)
  obtain ⟨d14, o14, e14, ho14, d140, d141⟩ := take_ok (size := 4) ho13 (by omega) (by omega)
  obtain ⟨d15, o15, e15, ho15, d150, d151⟩ := take_ok (size := 4) ho14 (by omega) (by omega)
  have k1 : (cutL ps (some (1 : Int)) none).length ≤ ps.length := cut_len
  have k2 : (cutL ps none (some (n - (1 : Int)))).length ≤ ps.length := cut_len
  have b1 : (cutL ps none (some (n - (1 : Int)))).length = t.length - 1 := by rw [cut_to (by omega), List.length_take]; omega
  have b2' : (cutL ps (some (1 : Int)) none).length = t.length - 1 := by rw [cut_from (by omega), List.length_drop]; omega
  obtain ⟨bad, ebad, hbad⟩ : ∃ bad, atI ([(ps ++ [(0 : Int)]), (cutL ps none (some (n - (1 : Int)))), ([((-1 : Int) - d13)] ++ (cutL ps (some (1 : Int)) none)), ((cutL ps none (some (n - (1 : Int)))) ++ [((1001 : Int) + d13)])]) d14 = some bad ∧ (bad.length ≠ t.length ∨ (bad.length = t.length ∧ ∃ p ∈ bad, p < 0 ∨ 1000 < p)) := by
    rcases (show d14 = 0 ∨ d14 = 1 ∨ d14 = 2 ∨ d14 = 3 from by omega) with h | h | h | h
    · subst h; exact ⟨_, rfl, .inl (by rw [List.length_append, List.length_singleton]; omega)⟩
    · subst h; exact ⟨_, rfl, .inl (by omega)⟩
    · subst h; exact ⟨_, rfl, .inr ⟨by rw [List.length_append, List.length_singleton]; omega, -1 - d13, List.mem_append_left _ List.mem_cons_self, by omega⟩⟩
    · subst h; exact ⟨_, rfl, .inr ⟨by rw [List.length_append, List.length_singleton]; omega, 1001 + d13, List.mem_append_right _ List.mem_cons_self, by omega⟩⟩
  obtain ⟨wr, ewr, hwr⟩ : ∃ wr, atI ([(0 : Int), ((-1 : Int) - d13), (13 : Int), ((14 : Int) + d13)]) d15 = some wr ∧ (wr < 1 ∨ 12 < wr) := by
    rcases (show d15 = 0 ∨ d15 = 1 ∨ d15 = 2 ∨ d15 = 3 from by omega) with h | h | h | h <;> (subst h; exact ⟨_, rfl, by omega⟩)
  refine w_gd (sz_le (by omega)) (w_elet (w_callE e13 (w_gd (sz_le (by rw [List.length_singleton]; omega)) (w_gd (sz_le (by rw [List.length_singleton]; omega)) (w_gd (sz_le (by rw [List.length_singleton]; omega)) (w_callE e14 (w_ob ebad (w_callE e15 (w_ob ewr ?_)))))))))
  refine w_fin (w_loopM (fun _ => True) (fun _ => False) (fun _ => False) trivial fun again hag _ _ => ?_) (fun y h => h.elim) (fun _ _ => w_ok rfl) (fun _ h => h.elim)
  refine w_fin (w_loopM (fun _ => True) (fun _ => False) (fun _ => False) trivial fun L hL _ _ => ?_) (fun y h => h.elim) (fun _ _ => ?_) (fun _ h => h.elim)
  · obtain ⟨l1, l2⟩ := all L hL
    obtain ⟨v, ev⟩ := just_ok (a := a) (b := b) (k := 1 + d10) (t := t) (ps := ps) (L := L) (by omega) hsl (by omega) (by omega)
    refine w_callE ev ?_
    refine w_fin (w_loopM (fun _ => True) (fun _ => False) (fun _ => False) trivial fun cost _ _ _ => ?_) (fun y h => h.elim) (fun _ _ => w_go trivial) (fun _ h => h.elim)
    refine w_callE (supports_ok a1 ab b2 ht1 ht2 hsl pr (by omega) (by omega)) (w_callE (held_ok l1 l2 (by omega) (hold_ok (w := ⟨⟨ll⟩, t⟩) rfl a1 ab b2 ht1 ht2 hsl pr (by omega) (by omega))) (w_callE (same_bl _) ?_))
    exact w_iff rfl (w_go trivial)
  · refine w_fin (w_loopM (fun _ => True) (fun _ => False) (fun _ => False) trivial fun which _ _ _ => ?_) (fun y h => h.elim) (fun _ _ => w_go trivial) (fun _ h => h.elim)
    refine w_callE (refused_ok (c := Str.ofString "BadPrice") rfl (.inr rfl) (.inr ⟨boards_ok (by omega) (by omega), costs_no (t := t) rfl ht2 ht1 hbad⟩)) ?_
    refine w_iff (by rfl) ?_
    obtain ⟨x0, x1⟩ := mem_rng.mp hag
    obtain ⟨pp, epp⟩ : ∃ pp, atI [ps, bad] again = some pp := by
      rcases (show again = 0 ∨ again = 1 from by omega) with h | h <;> (subst h; exact ⟨_, rfl⟩)
    refine w_ob epp (w_callE (refused_ok (c := Str.ofString "BadNumber") rfl (.inl rfl) (.inl (boards_no hwr))) ?_)
    exact w_iff (by rfl) (w_go trivial)
theorem law_true (ns : List Int) (h : ns.length ≤ 63) : rel_law [.k (Sc.mk ns)] (.ret true []) := ⟨Sc.mk ns, rfl, by rw [(law_W _).eq]; rfl⟩
end Gn
namespace Gn
open PySem L2
open Rp (rp)

def caOf (C_BadLacquer C_BadNumber C_BadPrice C_BadWeather C_DampError C_Lacquer C_Weather : Addr) : Str → Addr := fun s => if s = Str.ofString "BadLacquer" then C_BadLacquer else if s = Str.ofString "BadNumber" then C_BadNumber else if s = Str.ofString "BadPrice" then C_BadPrice else if s = Str.ofString "BadWeather" then C_BadWeather else if s = Str.ofString "DampError" then C_DampError else if s = Str.ofString "Lacquer" then C_Lacquer else if s = Str.ofString "Weather" then C_Weather else 0
theorem all_mk {P : Program} {w : World} {K : PySem.W.Frag} {h : Heap} {mg : Str → Option Value} {fa C_BadLacquer C_BadNumber C_BadPrice C_BadWeather C_DampError C_Lacquer C_Weather f0 f1 f2 p2 f3 f4 p4 f5 f6 f7 f8 f9 f10 f11 f12 f13 f14 f15 f16 f17 f18 f19 f20 f21 f22 f23 f24 f25 f26 f27 f28 : Addr} (X : K.In h) (G : h.Ns mainGlobals mg) (hfa : mg "law" = some (.ref fa))
    {od0 an0 od1 an1 od2 an2 od3 an3 od4 an4 od5 an5 od6 an6 od7 an7 od8 an8 od9 an9 od10 an10 od11 an11 od12 an12 od13 an13 od14 an14 od15 an15 od16 an16 od17 an17 od18 an18 od19 an19 od20 an20 od21 an21 od22 an22 od23 an23 od24 an24 od25 an25 od26 an26 od27 an27 od28 an28 : Option Addr} {sl0 sl1 sl2 sl3 sl4 sl5 sl6 sl7 sl8 sl9 sl10 sl11 sl12 sl13 sl14 sl15 sl16 sl17 sl18 sl19 sl20 sl21 sl22 sl23 sl24 sl25 sl26 sl27 sl28 : Array (Option Value)} {oc0 kV0 dc0 pm0 cd0 ct0 oc1 kV1 dc1 pm1 cd1 ct1 oc2 kV2 dc2 pm2 cd2 ct2 oc3 kV3 dc3 pm3 cd3 ct3 oc4 kV4 dc4 pm4 cd4 ct4 oc5 kV5 dc5 pm5 cd5 ct5 oc6 kV6 dc6 pm6 cd6 ct6 oc7 kV7 dc7 pm7 cd7 ct7 oc8 kV8 dc8 pm8 cd8 ct8 oc9 kV9 dc9 pm9 cd9 ct9 oc10 kV10 dc10 pm10 cd10 ct10 oc11 kV11 dc11 pm11 cd11 ct11 oc12 kV12 dc12 pm12 cd12 ct12 oc13 kV13 dc13 pm13 cd13 ct13 oc14 kV14 dc14 pm14 cd14 ct14 oc15 kV15 dc15 pm15 cd15 ct15 oc16 kV16 dc16 pm16 cd16 ct16 oc17 kV17 dc17 pm17 cd17 ct17 oc18 kV18 dc18 pm18 cd18 ct18 oc19 kV19 dc19 pm19 cd19 ct19 oc20 kV20 dc20 pm20 cd20 ct20 oc21 kV21 dc21 pm21 cd21 ct21 oc22 kV22 dc22 pm22 cd22 ct22 oc23 kV23 dc23 pm23 cd23 ct23 oc24 kV24 dc24 pm24 cd24 ct24 oc25 kV25 dc25 pm25 cd25 ct25 oc26 kV26 dc26 pm26 cd26 ct26 oc27 kV27 dc27 pm27 cd27 ct27 oc28 kV28 dc28 pm28 cd28 ct28 : Value}
    {t_Lacquer_MOST tv_BOTH_SIGNS tv_MOST_BOARDS tv_MOST_HOURS tv_MOST_PRICE : Tok}
    {rest2 rest4 : List Value}
    (a_BadLacquer : PySem.W.nsIn K mainGlobals "BadLacquer" = some (some (.ref C_BadLacquer)))
    (x_BadLacquer : PySem.W.excIn K C_BadLacquer [.type "ValueError", .type "Exception", .type "BaseException", .type "object"] "ValueError.__new__" = true)
    (kp_BadLacquer : PySem.W.keepIn K (.ref C_BadLacquer) = true)
    (s_BadLacquer : PySem.W.subIn K (.ref C_BadLacquer) (.type "BaseException") = some true)
    (t_BadLacquer : PySem.W.typeIn K (.ref C_BadLacquer) = some (.type "type"))
    (a_BadNumber : PySem.W.nsIn K mainGlobals "BadNumber" = some (some (.ref C_BadNumber)))
    (x_BadNumber : PySem.W.excIn K C_BadNumber [.type "ValueError", .type "Exception", .type "BaseException", .type "object"] "ValueError.__new__" = true)
    (kp_BadNumber : PySem.W.keepIn K (.ref C_BadNumber) = true)
    (s_BadNumber : PySem.W.subIn K (.ref C_BadNumber) (.type "BaseException") = some true)
    (t_BadNumber : PySem.W.typeIn K (.ref C_BadNumber) = some (.type "type"))
    (hd_BadNumber : PySem.W.hasDictIn K C_BadNumber = true)
    (eg_BadNumber : PySem.W.findIn K (.ref C_BadNumber) "__getattribute__" = some (some (.builtin "BaseException.__getattribute__")))
    (ek_BadNumber : PySem.W.findIn K (.ref C_BadNumber) "__getattr__" = some none)
    (ea_BadNumber : PySem.W.findIn K (.ref C_BadNumber) "__class__" = some (some (.builtin "object.__class__")))
    (em_BadNumber : PySem.W.mroIn K C_BadNumber (.type "object") = some true)
    (a_BadPrice : PySem.W.nsIn K mainGlobals "BadPrice" = some (some (.ref C_BadPrice)))
    (x_BadPrice : PySem.W.excIn K C_BadPrice [.type "ValueError", .type "Exception", .type "BaseException", .type "object"] "ValueError.__new__" = true)
    (kp_BadPrice : PySem.W.keepIn K (.ref C_BadPrice) = true)
    (s_BadPrice : PySem.W.subIn K (.ref C_BadPrice) (.type "BaseException") = some true)
    (t_BadPrice : PySem.W.typeIn K (.ref C_BadPrice) = some (.type "type"))
    (hd_BadPrice : PySem.W.hasDictIn K C_BadPrice = true)
    (eg_BadPrice : PySem.W.findIn K (.ref C_BadPrice) "__getattribute__" = some (some (.builtin "BaseException.__getattribute__")))
    (ek_BadPrice : PySem.W.findIn K (.ref C_BadPrice) "__getattr__" = some none)
    (ea_BadPrice : PySem.W.findIn K (.ref C_BadPrice) "__class__" = some (some (.builtin "object.__class__")))
    (em_BadPrice : PySem.W.mroIn K C_BadPrice (.type "object") = some true)
    (a_BadWeather : PySem.W.nsIn K mainGlobals "BadWeather" = some (some (.ref C_BadWeather)))
    (x_BadWeather : PySem.W.excIn K C_BadWeather [.type "ValueError", .type "Exception", .type "BaseException", .type "object"] "ValueError.__new__" = true)
    (kp_BadWeather : PySem.W.keepIn K (.ref C_BadWeather) = true)
    (s_BadWeather : PySem.W.subIn K (.ref C_BadWeather) (.type "BaseException") = some true)
    (t_BadWeather : PySem.W.typeIn K (.ref C_BadWeather) = some (.type "type"))
    (a_DampError : PySem.W.nsIn K mainGlobals "DampError" = some (some (.ref C_DampError)))
    (x_DampError : PySem.W.excIn K C_DampError [.type "ValueError", .type "Exception", .type "BaseException", .type "object"] "ValueError.__new__" = true)
    (kp_DampError : PySem.W.keepIn K (.ref C_DampError) = true)
    (s_DampError : PySem.W.subIn K (.ref C_DampError) (.type "BaseException") = some true)
    (t_DampError : PySem.W.typeIn K (.ref C_DampError) = some (.type "type"))
    (a_Lacquer : PySem.W.nsIn K mainGlobals "Lacquer" = some (some (.ref C_Lacquer)))
    (pg_Lacquer : PySem.W.plainGet K C_Lacquer Str.empty = true)
    (hd_Lacquer : PySem.W.hasDictIn K C_Lacquer = true)
    (po_Lacquer : PySem.W.plainOver K C_Lacquer = true)
    (sa_Lacquer : PySem.W.findIn K (.ref C_Lacquer) "__setattr__" = some (some (.builtin "object.__setattr__")))
    (na_Lacquer_f_a : PySem.W.findIn K (.ref C_Lacquer) "a" = some none)
    (na_Lacquer_f_b : PySem.W.findIn K (.ref C_Lacquer) "b" = some none)
    (rd_Lacquer : PySem.W.readsIn K C_Lacquer (.type "type") = true)
    (ga_Lacquer : PySem.W.specialIn K (.ref C_Lacquer) "__getattribute__" = some (some (.builtin "type.__getattribute__")))
    (cv_Lacquer_MOST : PySem.W.findCls K (.ref C_Lacquer) (.type "type") "MOST" = some (.val (.int (12) t_Lacquer_MOST)))
    (mk_Lacquer : PySem.W.makesIn K C_Lacquer = true)
    (kc_Lacquer : PySem.W.keepIn K (.ref C_Lacquer) = true)
    (a_Weather : PySem.W.nsIn K mainGlobals "Weather" = some (some (.ref C_Weather)))
    (pg_Weather : PySem.W.plainGet K C_Weather Str.empty = true)
    (hd_Weather : PySem.W.hasDictIn K C_Weather = true)
    (po_Weather : PySem.W.plainOver K C_Weather = true)
    (sa_Weather : PySem.W.findIn K (.ref C_Weather) "__setattr__" = some (some (.builtin "object.__setattr__")))
    (na_Weather_f_signs : PySem.W.findIn K (.ref C_Weather) "_signs" = some none)
    (na_Weather_f_lengths : PySem.W.findIn K (.ref C_Weather) "lengths" = some none)
    (rd_Weather : PySem.W.readsIn K C_Weather (.type "type") = true)
    (ga_Weather : PySem.W.specialIn K (.ref C_Weather) "__getattribute__" = some (some (.builtin "type.__getattribute__")))
    (mk_Weather : PySem.W.makesIn K C_Weather = true)
    (kc_Weather : PySem.W.keepIn K (.ref C_Weather) = true)
    (en_ : PySem.W.specialIn K (.builtin "object.__class__") "__get__" = some (some (.builtin "getset_descriptor.__get__")))
    (et_ : PySem.W.takesIn K (.builtin "object.__class__") = some true)
    (kit_BadNumber_BadPrice : PySem.W.kitOne K (.ref C_BadNumber) (.ref C_BadPrice) = some false)
    (kit_BadNumber_DampError : PySem.W.kitOne K (.ref C_BadNumber) (.ref C_DampError) = some true)
    (kit_BadNumber_ValueError : PySem.W.kitOne K (.ref C_BadNumber) (.type "ValueError") = some true)
    (kit_BadPrice_BadNumber : PySem.W.kitOne K (.ref C_BadPrice) (.ref C_BadNumber) = some false)
    (kit_BadPrice_DampError : PySem.W.kitOne K (.ref C_BadPrice) (.ref C_DampError) = some true)
    (kit_BadPrice_ValueError : PySem.W.kitOne K (.ref C_BadPrice) (.type "ValueError") = some true)
    (nsub_BadPrice_BadNumber : PySem.W.subIn K (.ref C_BadPrice) (.ref C_BadNumber) = some false)
    (sub_BadNumber_BadNumber : PySem.W.subIn K (.ref C_BadNumber) (.ref C_BadNumber) = some true)
    (sub_BadPrice_BadPrice : PySem.W.subIn K (.ref C_BadPrice) (.ref C_BadPrice) = some true)
    (a0 : PySem.W.findIn K (.ref C_Lacquer) "__init__" = some (some (.ref f0)))
    (i0 : PySem.W.isFn K (.ref f0) = true)
    (l0 : K.lookup f0 = some ⟨oc0, od0, .func (PySem.W.fnOf "__init__" "Lacquer.__init__" (defArgs s_Lacquer___init__) (defBody s_Lacquer___init__) (defScope s_Lacquer___init__) .none kV0 dc0 pm0 an0 cd0 ct0), sl0⟩)
    (c0 : PySem.W.codeIn K cd0 "Lacquer.__init__" = true)
    (k0 : PySem.W.keepIn K (.ref f0) = true)
    (a1 : PySem.W.findIn K (.ref C_Weather) "__init__" = some (some (.ref f1)))
    (i1 : PySem.W.isFn K (.ref f1) = true)
    (l1 : K.lookup f1 = some ⟨oc1, od1, .func (PySem.W.fnOf "__init__" "Weather.__init__" (defArgs s_Weather___init__) (defBody s_Weather___init__) (defScope s_Weather___init__) .none kV1 dc1 pm1 an1 cd1 ct1), sl1⟩)
    (c1 : PySem.W.codeIn K cd1 "Weather.__init__" = true)
    (k1 : PySem.W.keepIn K (.ref f1) = true)
    (a2 : PySem.W.findIn K (.ref C_Weather) "hours" = some (some (.ref p2)))
    (g2 : PySem.W.specialIn K (.ref p2) "__get__" = some (some (.builtin "property.__get__")))
    (t2 : PySem.W.takesIn K (.ref p2) = some true)
    (r2 : PySem.W.recIn K p2 "property" = some (.ref f2 :: rest2))
    (l2 : K.lookup f2 = some ⟨oc2, od2, .func (PySem.W.fnOf "hours" "Weather.hours" (defArgs s_Weather_hours) (defBody s_Weather_hours) (defScope s_Weather_hours) .none kV2 dc2 pm2 an2 cd2 ct2), sl2⟩)
    (c2 : PySem.W.codeIn K cd2 "Weather.hours" = true)
    (k2 : PySem.W.keepIn K (.ref f2) = true)
    (a3 : PySem.W.findIn K (.ref C_Weather) "signs" = some (some (.ref f3)))
    (i3 : PySem.W.isFn K (.ref f3) = true)
    (l3 : K.lookup f3 = some ⟨oc3, od3, .func (PySem.W.fnOf "signs" "Weather.signs" (defArgs s_Weather_signs) (defBody s_Weather_signs) (defScope s_Weather_signs) .none kV3 dc3 pm3 an3 cd3 ct3), sl3⟩)
    (c3 : PySem.W.codeIn K cd3 "Weather.signs" = true)
    (k3 : PySem.W.keepIn K (.ref f3) = true)
    (a4 : PySem.W.findCls K (.ref C_Weather) (.type "type") "of_signs" = some (.get (.builtin "staticmethod.__get__") (.ref p4) .none (.ref C_Weather)))
    (r4 : PySem.W.recIn K p4 "staticmethod" = some (.ref f4 :: rest4))
    (l4 : K.lookup f4 = some ⟨oc4, od4, .func (PySem.W.fnOf "of_signs" "Weather.of_signs" (defArgs s_Weather_of_signs) (defBody s_Weather_of_signs) (defScope s_Weather_of_signs) .none kV4 dc4 pm4 an4 cd4 ct4), sl4⟩)
    (c4 : PySem.W.codeIn K cd4 "Weather.of_signs" = true)
    (k4 : PySem.W.keepIn K (.ref f4) = true)
    (a5 : PySem.W.nsIn K mainGlobals "demand_boards" = some (some (.ref f5)))
    (l5 : K.lookup f5 = some ⟨oc5, od5, .func (PySem.W.fnOf "demand_boards" "demand_boards" (defArgs s_demand_boards) (defBody s_demand_boards) (defScope s_demand_boards) .none kV5 dc5 pm5 an5 cd5 ct5), sl5⟩)
    (c5 : PySem.W.codeIn K cd5 "demand_boards" = true)
    (k5 : PySem.W.keepIn K (.ref f5) = true)
    (a6 : PySem.W.nsIn K mainGlobals "_hour_costs" = some (some (.ref f6)))
    (l6 : K.lookup f6 = some ⟨oc6, od6, .func (PySem.W.fnOf "_hour_costs" "_hour_costs" (defArgs s__hour_costs) (defBody s__hour_costs) (defScope s__hour_costs) .none kV6 dc6 pm6 an6 cd6 ct6), sl6⟩)
    (c6 : PySem.W.codeIn K cd6 "_hour_costs" = true)
    (k6 : PySem.W.keepIn K (.ref f6) = true)
    (a7 : PySem.W.nsIn K mainGlobals "crew_heating" = some (some (.ref f7)))
    (l7 : K.lookup f7 = some ⟨oc7, od7, .func (PySem.W.fnOf "crew_heating" "crew_heating" (defArgs s_crew_heating) (defBody s_crew_heating) (defScope s_crew_heating) .none kV7 dc7 pm7 an7 cd7 ct7), sl7⟩)
    (c7 : PySem.W.codeIn K cd7 "crew_heating" = true)
    (k7 : PySem.W.keepIn K (.ref f7) = true)
    (a8 : PySem.W.nsIn K mainGlobals "crew_heat_labels" = some (some (.ref f8)))
    (l8 : K.lookup f8 = some ⟨oc8, od8, .func (PySem.W.fnOf "crew_heat_labels" "crew_heat_labels" (defArgs s_crew_heat_labels) (defBody s_crew_heat_labels) (defScope s_crew_heat_labels) .none kV8 dc8 pm8 an8 cd8 ct8), sl8⟩)
    (c8 : PySem.W.codeIn K cd8 "crew_heat_labels" = true)
    (k8 : PySem.W.keepIn K (.ref f8) = true)
    (a9 : PySem.W.nsIn K mainGlobals "_steps_fit" = some (some (.ref f9)))
    (l9 : K.lookup f9 = some ⟨oc9, od9, .func (PySem.W.fnOf "_steps_fit" "_steps_fit" (defArgs s__steps_fit) (defBody s__steps_fit) (defScope s__steps_fit) .none kV9 dc9 pm9 an9 cd9 ct9), sl9⟩)
    (c9 : PySem.W.codeIn K cd9 "_steps_fit" = true)
    (k9 : PySem.W.keepIn K (.ref f9) = true)
    (a10 : PySem.W.nsIn K mainGlobals "crew_labels_hold" = some (some (.ref f10)))
    (l10 : K.lookup f10 = some ⟨oc10, od10, .func (PySem.W.fnOf "crew_labels_hold" "crew_labels_hold" (defArgs s_crew_labels_hold) (defBody s_crew_labels_hold) (defScope s_crew_labels_hold) .none kV10 dc10 pm10 an10 cd10 ct10), sl10⟩)
    (c10 : PySem.W.codeIn K cd10 "crew_labels_hold" = true)
    (k10 : PySem.W.keepIn K (.ref f10) = true)
    (a11 : PySem.W.nsIn K mainGlobals "_law_pool" = some (some (.ref f11)))
    (l11 : K.lookup f11 = some ⟨oc11, od11, .func (PySem.W.fnOf "_law_pool" "_law_pool" (defArgs s__law_pool) (defBody s__law_pool) (defScope s__law_pool) .none kV11 dc11 pm11 an11 cd11 ct11), sl11⟩)
    (c11 : PySem.W.codeIn K cd11 "_law_pool" = true)
    (k11 : PySem.W.keepIn K (.ref f11) = true)
    (a12 : PySem.W.nsIn K mainGlobals "_law_take" = some (some (.ref f12)))
    (l12 : K.lookup f12 = some ⟨oc12, od12, .func (PySem.W.fnOf "_law_take" "_law_take" (defArgs s__law_take) (defBody s__law_take) (defScope s__law_take) .none kV12 dc12 pm12 an12 cd12 ct12), sl12⟩)
    (c12 : PySem.W.codeIn K cd12 "_law_take" = true)
    (k12 : PySem.W.keepIn K (.ref f12) = true)
    (a13 : PySem.W.nsIn K mainGlobals "_law_same" = some (some (.ref f13)))
    (l13 : K.lookup f13 = some ⟨oc13, od13, .func (PySem.W.fnOf "_law_same" "_law_same" (defArgs s__law_same) (defBody s__law_same) (defScope s__law_same) .none kV13 dc13 pm13 an13 cd13 ct13), sl13⟩)
    (c13 : PySem.W.codeIn K cd13 "_law_same" = true)
    (k13 : PySem.W.keepIn K (.ref f13) = true)
    (a14 : PySem.W.nsIn K mainGlobals "_law_ab" = some (some (.ref f14)))
    (l14 : K.lookup f14 = some ⟨oc14, od14, .func (PySem.W.fnOf "_law_ab" "_law_ab" (defArgs s__law_ab) (defBody s__law_ab) (defScope s__law_ab) .none kV14 dc14 pm14 an14 cd14 ct14), sl14⟩)
    (c14 : PySem.W.codeIn K cd14 "_law_ab" = true)
    (k14 : PySem.W.keepIn K (.ref f14) = true)
    (a15 : PySem.W.nsIn K mainGlobals "_law_board_ab" = some (some (.ref f15)))
    (l15 : K.lookup f15 = some ⟨oc15, od15, .func (PySem.W.fnOf "_law_board_ab" "_law_board_ab" (defArgs s__law_board_ab) (defBody s__law_board_ab) (defScope s__law_board_ab) .none kV15 dc15 pm15 an15 cd15 ct15), sl15⟩)
    (c15 : PySem.W.codeIn K cd15 "_law_board_ab" = true)
    (k15 : PySem.W.keepIn K (.ref f15) = true)
    (a16 : PySem.W.nsIn K mainGlobals "_law_drawn_plan" = some (some (.ref f16)))
    (l16 : K.lookup f16 = some ⟨oc16, od16, .func (PySem.W.fnOf "_law_drawn_plan" "_law_drawn_plan" (defArgs s__law_drawn_plan) (defBody s__law_drawn_plan) (defScope s__law_drawn_plan) .none kV16 dc16 pm16 an16 cd16 ct16), sl16⟩)
    (c16 : PySem.W.codeIn K cd16 "_law_drawn_plan" = true)
    (k16 : PySem.W.keepIn K (.ref f16) = true)
    (a17 : PySem.W.nsIn K mainGlobals "_law_around" = some (some (.ref f17)))
    (l17 : K.lookup f17 = some ⟨oc17, od17, .func (PySem.W.fnOf "_law_around" "_law_around" (defArgs s__law_around) (defBody s__law_around) (defScope s__law_around) .none kV17 dc17 pm17 an17 cd17 ct17), sl17⟩)
    (c17 : PySem.W.codeIn K cd17 "_law_around" = true)
    (k17 : PySem.W.keepIn K (.ref f17) = true)
    (a18 : PySem.W.nsIn K mainGlobals "_law_board_signs" = some (some (.ref f18)))
    (l18 : K.lookup f18 = some ⟨oc18, od18, .func (PySem.W.fnOf "_law_board_signs" "_law_board_signs" (defArgs s__law_board_signs) (defBody s__law_board_signs) (defScope s__law_board_signs) .none kV18 dc18 pm18 an18 cd18 ct18), sl18⟩)
    (c18 : PySem.W.codeIn K cd18 "_law_board_signs" = true)
    (k18 : PySem.W.keepIn K (.ref f18) = true)
    (a19 : PySem.W.nsIn K mainGlobals "_law_supports" = some (some (.ref f19)))
    (l19 : K.lookup f19 = some ⟨oc19, od19, .func (PySem.W.fnOf "_law_supports" "_law_supports" (defArgs s__law_supports) (defBody s__law_supports) (defScope s__law_supports) .none kV19 dc19 pm19 an19 cd19 ct19), sl19⟩)
    (c19 : PySem.W.codeIn K cd19 "_law_supports" = true)
    (k19 : PySem.W.keepIn K (.ref f19) = true)
    (a20 : PySem.W.nsIn K mainGlobals "_law_prices" = some (some (.ref f20)))
    (l20 : K.lookup f20 = some ⟨oc20, od20, .func (PySem.W.fnOf "_law_prices" "_law_prices" (defArgs s__law_prices) (defBody s__law_prices) (defScope s__law_prices) .none kV20 dc20 pm20 an20 cd20 ct20), sl20⟩)
    (c20 : PySem.W.codeIn K cd20 "_law_prices" = true)
    (k20 : PySem.W.keepIn K (.ref f20) = true)
    (a21 : PySem.W.nsIn K mainGlobals "_law_made" = some (some (.ref f21)))
    (l21 : K.lookup f21 = some ⟨oc21, od21, .func (PySem.W.fnOf "_law_made" "_law_made" (defArgs s__law_made) (defBody s__law_made) (defScope s__law_made) .none kV21 dc21 pm21 an21 cd21 ct21), sl21⟩)
    (c21 : PySem.W.codeIn K cd21 "_law_made" = true)
    (k21 : PySem.W.keepIn K (.ref f21) = true)
    (a22 : PySem.W.nsIn K mainGlobals "_law_bent" = some (some (.ref f22)))
    (l22 : K.lookup f22 = some ⟨oc22, od22, .func (PySem.W.fnOf "_law_bent" "_law_bent" (defArgs s__law_bent) (defBody s__law_bent) (defScope s__law_bent) .none kV22 dc22 pm22 an22 cd22 ct22), sl22⟩)
    (c22 : PySem.W.codeIn K cd22 "_law_bent" = true)
    (k22 : PySem.W.keepIn K (.ref f22) = true)
    (a23 : PySem.W.nsIn K mainGlobals "_law_just" = some (some (.ref f23)))
    (l23 : K.lookup f23 = some ⟨oc23, od23, .func (PySem.W.fnOf "_law_just" "_law_just" (defArgs s__law_just) (defBody s__law_just) (defScope s__law_just) .none kV23 dc23 pm23 an23 cd23 ct23), sl23⟩)
    (c23 : PySem.W.codeIn K cd23 "_law_just" = true)
    (k23 : PySem.W.keepIn K (.ref f23) = true)
    (a24 : PySem.W.nsIn K mainGlobals "_law_due" = some (some (.ref f24)))
    (l24 : K.lookup f24 = some ⟨oc24, od24, .func (PySem.W.fnOf "_law_due" "_law_due" (defArgs s__law_due) (defBody s__law_due) (defScope s__law_due) .none kV24 dc24 pm24 an24 cd24 ct24), sl24⟩)
    (c24 : PySem.W.codeIn K cd24 "_law_due" = true)
    (k24 : PySem.W.keepIn K (.ref f24) = true)
    (a25 : PySem.W.nsIn K mainGlobals "_law_held" = some (some (.ref f25)))
    (l25 : K.lookup f25 = some ⟨oc25, od25, .func (PySem.W.fnOf "_law_held" "_law_held" (defArgs s__law_held) (defBody s__law_held) (defScope s__law_held) .none kV25 dc25 pm25 an25 cd25 ct25), sl25⟩)
    (c25 : PySem.W.codeIn K cd25 "_law_held" = true)
    (k25 : PySem.W.keepIn K (.ref f25) = true)
    (a26 : PySem.W.nsIn K mainGlobals "_law_refused" = some (some (.ref f26)))
    (l26 : K.lookup f26 = some ⟨oc26, od26, .func (PySem.W.fnOf "_law_refused" "_law_refused" (defArgs s__law_refused) (defBody s__law_refused) (defScope s__law_refused) .none kV26 dc26 pm26 an26 cd26 ct26), sl26⟩)
    (c26 : PySem.W.codeIn K cd26 "_law_refused" = true)
    (k26 : PySem.W.keepIn K (.ref f26) = true)
    (a27 : PySem.W.nsIn K mainGlobals "_law_cell" = some (some (.ref f27)))
    (l27 : K.lookup f27 = some ⟨oc27, od27, .func (PySem.W.fnOf "_law_cell" "_law_cell" (defArgs s__law_cell) (defBody s__law_cell) (defScope s__law_cell) .none kV27 dc27 pm27 an27 cd27 ct27), sl27⟩)
    (c27 : PySem.W.codeIn K cd27 "_law_cell" = true)
    (k27 : PySem.W.keepIn K (.ref f27) = true)
    (a28 : PySem.W.nsIn K mainGlobals "law" = some (some (.ref f28)))
    (l28 : K.lookup f28 = some ⟨oc28, od28, .func (PySem.W.fnOf "law" "law" (defArgs s_law) (defBody s_law) (defScope s_law) .none kV28 dc28 pm28 an28 cd28 ct28), sl28⟩)
    (c28 : PySem.W.codeIn K cd28 "law" = true)
    (k28 : PySem.W.keepIn K (.ref f28) = true)
    (v_BOTH_SIGNS : PySem.W.nsIn K mainGlobals "BOTH_SIGNS" = some (some (.str (Str.ofString ".#") tv_BOTH_SIGNS)))
    (v_MOST_BOARDS : PySem.W.nsIn K mainGlobals "MOST_BOARDS" = some (some (.int (12) tv_MOST_BOARDS)))
    (v_MOST_HOURS : PySem.W.nsIn K mainGlobals "MOST_HOURS" = some (some (.int (200) tv_MOST_HOURS)))
    (v_MOST_PRICE : PySem.W.nsIn K mainGlobals "MOST_PRICE" = some (some (.int (1000) tv_MOST_PRICE)))
    (no_ValueError : PySem.W.nsIn K mainGlobals "ValueError" = some none)
    (no_any : PySem.W.nsIn K mainGlobals "any" = some none)
    (no_bool : PySem.W.nsIn K mainGlobals "bool" = some none)
    (no_enumerate : PySem.W.nsIn K mainGlobals "enumerate" = some none)
    (no_int : PySem.W.nsIn K mainGlobals "int" = some none)
    (no_isinstance : PySem.W.nsIn K mainGlobals "isinstance" = some none)
    (no_len : PySem.W.nsIn K mainGlobals "len" = some none)
    (no_list : PySem.W.nsIn K mainGlobals "list" = some none)
    (no_max : PySem.W.nsIn K mainGlobals "max" = some none)
    (no_min : PySem.W.nsIn K mainGlobals "min" = some none)
    (no_range : PySem.W.nsIn K mainGlobals "range" = some none)
    (no_str : PySem.W.nsIn K mainGlobals "str" = some none)
    (no_sum : PySem.W.nsIn K mainGlobals "sum" = some none)
    (no_tuple : PySem.W.nsIn K mainGlobals "tuple" = some none)
    : ∃ fd : FuncData, (∀ (s : Shared) (v : Value), BindsTo s fd ⟨[v], []⟩ [("script", v)]) ∧ ∀ base : Heap, K.In base → base.Ns mainGlobals mg → FnOk P w K mg base (L2.CX P w) 11 fa fd ["script"] (spLaw K 63) := by
  have e_ : f28 = fa := by
    have z_ := hfa.symm.trans (PySem.W.mg_of X G a28)
    injection z_ with z_
    injection z_ with z_
    exact z_.symm
  subst e_
  let g : Gx := ⟨K, caOf C_BadLacquer C_BadNumber C_BadPrice C_BadWeather C_DampError C_Lacquer C_Weather⟩
  have e_BadLacquer : g.ca (Str.ofString "BadLacquer") = C_BadLacquer := by rfl
  have e_BadNumber : g.ca (Str.ofString "BadNumber") = C_BadNumber := by rfl
  have e_BadPrice : g.ca (Str.ofString "BadPrice") = C_BadPrice := by rfl
  have e_BadWeather : g.ca (Str.ofString "BadWeather") = C_BadWeather := by rfl
  have e_DampError : g.ca (Str.ofString "DampError") = C_DampError := by rfl
  have e_Lacquer : g.ca (Str.ofString "Lacquer") = C_Lacquer := by rfl
  have e_Weather : g.ca (Str.ofString "Weather") = C_Weather := by rfl
  let A : Ad := { f_Lacquer___init__ := f0, d_Lacquer___init__ := (PySem.W.fnOf "__init__" "Lacquer.__init__" (defArgs s_Lacquer___init__) (defBody s_Lacquer___init__) (defScope s_Lacquer___init__) .none kV0 dc0 pm0 an0 cd0 ct0), f_Weather___init__ := f1, d_Weather___init__ := (PySem.W.fnOf "__init__" "Weather.__init__" (defArgs s_Weather___init__) (defBody s_Weather___init__) (defScope s_Weather___init__) .none kV1 dc1 pm1 an1 cd1 ct1), f_Weather_hours := f2, d_Weather_hours := (PySem.W.fnOf "hours" "Weather.hours" (defArgs s_Weather_hours) (defBody s_Weather_hours) (defScope s_Weather_hours) .none kV2 dc2 pm2 an2 cd2 ct2), f_Weather_signs := f3, d_Weather_signs := (PySem.W.fnOf "signs" "Weather.signs" (defArgs s_Weather_signs) (defBody s_Weather_signs) (defScope s_Weather_signs) .none kV3 dc3 pm3 an3 cd3 ct3), f_Weather_of_signs := f4, d_Weather_of_signs := (PySem.W.fnOf "of_signs" "Weather.of_signs" (defArgs s_Weather_of_signs) (defBody s_Weather_of_signs) (defScope s_Weather_of_signs) .none kV4 dc4 pm4 an4 cd4 ct4), f_demand_boards := f5, d_demand_boards := (PySem.W.fnOf "demand_boards" "demand_boards" (defArgs s_demand_boards) (defBody s_demand_boards) (defScope s_demand_boards) .none kV5 dc5 pm5 an5 cd5 ct5), f__hour_costs := f6, d__hour_costs := (PySem.W.fnOf "_hour_costs" "_hour_costs" (defArgs s__hour_costs) (defBody s__hour_costs) (defScope s__hour_costs) .none kV6 dc6 pm6 an6 cd6 ct6), f_crew_heating := f7, d_crew_heating := (PySem.W.fnOf "crew_heating" "crew_heating" (defArgs s_crew_heating) (defBody s_crew_heating) (defScope s_crew_heating) .none kV7 dc7 pm7 an7 cd7 ct7), f_crew_heat_labels := f8, d_crew_heat_labels := (PySem.W.fnOf "crew_heat_labels" "crew_heat_labels" (defArgs s_crew_heat_labels) (defBody s_crew_heat_labels) (defScope s_crew_heat_labels) .none kV8 dc8 pm8 an8 cd8 ct8), f__steps_fit := f9, d__steps_fit := (PySem.W.fnOf "_steps_fit" "_steps_fit" (defArgs s__steps_fit) (defBody s__steps_fit) (defScope s__steps_fit) .none kV9 dc9 pm9 an9 cd9 ct9), f_crew_labels_hold := f10, d_crew_labels_hold := (PySem.W.fnOf "crew_labels_hold" "crew_labels_hold" (defArgs s_crew_labels_hold) (defBody s_crew_labels_hold) (defScope s_crew_labels_hold) .none kV10 dc10 pm10 an10 cd10 ct10), f__law_pool := f11, d__law_pool := (PySem.W.fnOf "_law_pool" "_law_pool" (defArgs s__law_pool) (defBody s__law_pool) (defScope s__law_pool) .none kV11 dc11 pm11 an11 cd11 ct11), f__law_take := f12, d__law_take := (PySem.W.fnOf "_law_take" "_law_take" (defArgs s__law_take) (defBody s__law_take) (defScope s__law_take) .none kV12 dc12 pm12 an12 cd12 ct12), f__law_same := f13, d__law_same := (PySem.W.fnOf "_law_same" "_law_same" (defArgs s__law_same) (defBody s__law_same) (defScope s__law_same) .none kV13 dc13 pm13 an13 cd13 ct13), f__law_ab := f14, d__law_ab := (PySem.W.fnOf "_law_ab" "_law_ab" (defArgs s__law_ab) (defBody s__law_ab) (defScope s__law_ab) .none kV14 dc14 pm14 an14 cd14 ct14), f__law_board_ab := f15, d__law_board_ab := (PySem.W.fnOf "_law_board_ab" "_law_board_ab" (defArgs s__law_board_ab) (defBody s__law_board_ab) (defScope s__law_board_ab) .none kV15 dc15 pm15 an15 cd15 ct15), f__law_drawn_plan := f16, d__law_drawn_plan := (PySem.W.fnOf "_law_drawn_plan" "_law_drawn_plan" (defArgs s__law_drawn_plan) (defBody s__law_drawn_plan) (defScope s__law_drawn_plan) .none kV16 dc16 pm16 an16 cd16 ct16), f__law_around := f17, d__law_around := (PySem.W.fnOf "_law_around" "_law_around" (defArgs s__law_around) (defBody s__law_around) (defScope s__law_around) .none kV17 dc17 pm17 an17 cd17 ct17), f__law_board_signs := f18, d__law_board_signs := (PySem.W.fnOf "_law_board_signs" "_law_board_signs" (defArgs s__law_board_signs) (defBody s__law_board_signs) (defScope s__law_board_signs) .none kV18 dc18 pm18 an18 cd18 ct18), f__law_supports := f19, d__law_supports := (PySem.W.fnOf "_law_supports" "_law_supports" (defArgs s__law_supports) (defBody s__law_supports) (defScope s__law_supports) .none kV19 dc19 pm19 an19 cd19 ct19), f__law_prices := f20, d__law_prices := (PySem.W.fnOf "_law_prices" "_law_prices" (defArgs s__law_prices) (defBody s__law_prices) (defScope s__law_prices) .none kV20 dc20 pm20 an20 cd20 ct20), f__law_made := f21, d__law_made := (PySem.W.fnOf "_law_made" "_law_made" (defArgs s__law_made) (defBody s__law_made) (defScope s__law_made) .none kV21 dc21 pm21 an21 cd21 ct21), f__law_bent := f22, d__law_bent := (PySem.W.fnOf "_law_bent" "_law_bent" (defArgs s__law_bent) (defBody s__law_bent) (defScope s__law_bent) .none kV22 dc22 pm22 an22 cd22 ct22), f__law_just := f23, d__law_just := (PySem.W.fnOf "_law_just" "_law_just" (defArgs s__law_just) (defBody s__law_just) (defScope s__law_just) .none kV23 dc23 pm23 an23 cd23 ct23), f__law_due := f24, d__law_due := (PySem.W.fnOf "_law_due" "_law_due" (defArgs s__law_due) (defBody s__law_due) (defScope s__law_due) .none kV24 dc24 pm24 an24 cd24 ct24), f__law_held := f25, d__law_held := (PySem.W.fnOf "_law_held" "_law_held" (defArgs s__law_held) (defBody s__law_held) (defScope s__law_held) .none kV25 dc25 pm25 an25 cd25 ct25), f__law_refused := f26, d__law_refused := (PySem.W.fnOf "_law_refused" "_law_refused" (defArgs s__law_refused) (defBody s__law_refused) (defScope s__law_refused) .none kV26 dc26 pm26 an26 cd26 ct26), f__law_cell := f27, d__law_cell := (PySem.W.fnOf "_law_cell" "_law_cell" (defArgs s__law_cell) (defBody s__law_cell) (defScope s__law_cell) .none kV27 dc27 pm27 an27 cd27 ct27), f_law := f28, d_law := (PySem.W.fnOf "law" "law" (defArgs s_law) (defBody s_law) (defScope s_law) .none kV28 dc28 pm28 an28 cd28 ct28) }
  have F0 := fun_mk (st := s_Lacquer___init__) l0 c0 k0
  have F1 := fun_mk (st := s_Weather___init__) l1 c1 k1
  have F2 := fun_mk (st := s_Weather_hours) l2 c2 k2
  have F3 := fun_mk (st := s_Weather_signs) l3 c3 k3
  have F4 := fun_mk (st := s_Weather_of_signs) l4 c4 k4
  have F5 := fun_mk (st := s_demand_boards) l5 c5 k5
  have F6 := fun_mk (st := s__hour_costs) l6 c6 k6
  have F7 := fun_mk (st := s_crew_heating) l7 c7 k7
  have F8 := fun_mk (st := s_crew_heat_labels) l8 c8 k8
  have F9 := fun_mk (st := s__steps_fit) l9 c9 k9
  have F10 := fun_mk (st := s_crew_labels_hold) l10 c10 k10
  have F11 := fun_mk (st := s__law_pool) l11 c11 k11
  have F12 := fun_mk (st := s__law_take) l12 c12 k12
  have F13 := fun_mk (st := s__law_same) l13 c13 k13
  have F14 := fun_mk (st := s__law_ab) l14 c14 k14
  have F15 := fun_mk (st := s__law_board_ab) l15 c15 k15
  have F16 := fun_mk (st := s__law_drawn_plan) l16 c16 k16
  have F17 := fun_mk (st := s__law_around) l17 c17 k17
  have F18 := fun_mk (st := s__law_board_signs) l18 c18 k18
  have F19 := fun_mk (st := s__law_supports) l19 c19 k19
  have F20 := fun_mk (st := s__law_prices) l20 c20 k20
  have F21 := fun_mk (st := s__law_made) l21 c21 k21
  have F22 := fun_mk (st := s__law_bent) l22 c22 k22
  have F23 := fun_mk (st := s__law_just) l23 c23 k23
  have F24 := fun_mk (st := s__law_due) l24 c24 k24
  have F25 := fun_mk (st := s__law_held) l25 c25 k25
  have F26 := fun_mk (st := s__law_refused) l26 c26 k26
  have F27 := fun_mk (st := s__law_cell) l27 c27 k27
  have F28 := fun_mk (st := s_law) l28 c28 k28
  have T : Txt g mg A := {
    F_Lacquer___init__ := F0,
    kp_Lacquer___init__ := k0,
    b_Lacquer___init__ := F0.binds (ps := ["self", "a", "b"]) fun _ _ _ _ _ _ us hl => (match us, hl with | [_, _, _], _ => rfl),
    F_Weather___init__ := F1,
    kp_Weather___init__ := k1,
    b_Weather___init__ := F1.binds (ps := ["self", "lengths"]) fun _ _ _ _ _ _ us hl => (match us, hl with | [_, _], _ => rfl),
    F_Weather_hours := F2,
    kp_Weather_hours := k2,
    b_Weather_hours := F2.binds (ps := ["self"]) fun _ _ _ _ _ _ us hl => (match us, hl with | [_], _ => rfl),
    F_Weather_signs := F3,
    kp_Weather_signs := k3,
    b_Weather_signs := F3.binds (ps := ["self"]) fun _ _ _ _ _ _ us hl => (match us, hl with | [_], _ => rfl),
    F_Weather_of_signs := F4,
    kp_Weather_of_signs := k4,
    b_Weather_of_signs := F4.binds (ps := ["signs"]) fun _ _ _ _ _ _ us hl => (match us, hl with | [_], _ => rfl),
    F_demand_boards := F5,
    mg_demand_boards := PySem.W.mg_of X G a5,
    kp_demand_boards := k5,
    b_demand_boards := F5.binds (ps := ["boards"]) fun _ _ _ _ _ _ us hl => (match us, hl with | [_], _ => rfl),
    F__hour_costs := F6,
    mg__hour_costs := PySem.W.mg_of X G a6,
    kp__hour_costs := k6,
    b__hour_costs := F6.binds (ps := ["weather", "prices"]) fun _ _ _ _ _ _ us hl => (match us, hl with | [_, _], _ => rfl),
    F_crew_heating := F7,
    mg_crew_heating := PySem.W.mg_of X G a7,
    kp_crew_heating := k7,
    b_crew_heating := F7.binds (ps := ["lacquer", "weather", "prices", "boards"]) fun _ _ _ _ _ _ us hl => (match us, hl with | [_, _, _, _], _ => rfl),
    F_crew_heat_labels := F8,
    mg_crew_heat_labels := PySem.W.mg_of X G a8,
    kp_crew_heat_labels := k8,
    b_crew_heat_labels := F8.binds (ps := ["lacquer", "weather", "prices", "boards"]) fun _ _ _ _ _ _ us hl => (match us, hl with | [_, _, _, _], _ => rfl),
    F__steps_fit := F9,
    mg__steps_fit := PySem.W.mg_of X G a9,
    kp__steps_fit := k9,
    b__steps_fit := F9.binds (ps := ["lacquer", "ahead", "behind"]) fun _ _ _ _ _ _ us hl => (match us, hl with | [_, _, _], _ => rfl),
    F_crew_labels_hold := F10,
    mg_crew_labels_hold := PySem.W.mg_of X G a10,
    kp_crew_labels_hold := k10,
    b_crew_labels_hold := F10.binds (ps := ["lacquer", "weather", "prices", "boards", "cost", "labels"]) fun _ _ _ _ _ _ us hl => (match us, hl with | [_, _, _, _, _, _], _ => rfl),
    F__law_pool := F11,
    mg__law_pool := PySem.W.mg_of X G a11,
    kp__law_pool := k11,
    b__law_pool := F11.binds (ps := ["cell"]) fun _ _ _ _ _ _ us hl => (match us, hl with | [_], _ => rfl),
    F__law_take := F12,
    mg__law_take := PySem.W.mg_of X G a12,
    kp__law_take := k12,
    b__law_take := F12.binds (ps := ["pool", "size"]) fun _ _ _ _ _ _ us hl => (match us, hl with | [_, _], _ => rfl),
    F__law_same := F13,
    mg__law_same := PySem.W.mg_of X G a13,
    kp__law_same := k13,
    b__law_same := F13.binds (ps := ["actual", "due"]) fun _ _ _ _ _ _ us hl => (match us, hl with | [_, _], _ => rfl),
    F__law_ab := F14,
    mg__law_ab := PySem.W.mg_of X G a14,
    kp__law_ab := k14,
    b__law_ab := F14.binds (ps := ["pool", "most"]) fun _ _ _ _ _ _ us hl => (match us, hl with | [_, _], _ => rfl),
    F__law_board_ab := F15,
    mg__law_board_ab := PySem.W.mg_of X G a15,
    kp__law_board_ab := k15,
    b__law_board_ab := F15.binds (ps := ["pool"]) fun _ _ _ _ _ _ us hl => (match us, hl with | [_], _ => rfl),
    F__law_drawn_plan := F16,
    mg__law_drawn_plan := PySem.W.mg_of X G a16,
    kp__law_drawn_plan := k16,
    b__law_drawn_plan := F16.binds (ps := ["pool", "ab", "k", "hours"]) fun _ _ _ _ _ _ us hl => (match us, hl with | [_, _, _, _], _ => rfl),
    F__law_around := F17,
    mg__law_around := PySem.W.mg_of X G a17,
    kp__law_around := k17,
    b__law_around := F17.binds (ps := ["pool", "used", "hours", "thick"]) fun _ _ _ _ _ _ us hl => (match us, hl with | [_, _, _, _], _ => rfl),
    F__law_board_signs := F18,
    mg__law_board_signs := PySem.W.mg_of X G a18,
    kp__law_board_signs := k18,
    b__law_board_signs := F18.binds (ps := ["pool", "ab", "k", "hours"]) fun _ _ _ _ _ _ us hl => (match us, hl with | [_, _, _, _], _ => rfl),
    F__law_supports := F19,
    mg__law_supports := PySem.W.mg_of X G a19,
    kp__law_supports := k19,
    b__law_supports := F19.binds (ps := ["ab", "signs", "prices", "k", "cost", "labels"]) fun _ _ _ _ _ _ us hl => (match us, hl with | [_, _, _, _, _, _], _ => rfl),
    F__law_prices := F20,
    mg__law_prices := PySem.W.mg_of X G a20,
    kp__law_prices := k20,
    b__law_prices := F20.binds (ps := ["pool", "n"]) fun _ _ _ _ _ _ us hl => (match us, hl with | [_, _], _ => rfl),
    F__law_made := F21,
    mg__law_made := PySem.W.mg_of X G a21,
    kp__law_made := k21,
    b__law_made := F21.binds (ps := ["pool", "ab", "n", "most"]) fun _ _ _ _ _ _ us hl => (match us, hl with | [_, _, _, _], _ => rfl),
    F__law_bent := F22,
    mg__law_bent := PySem.W.mg_of X G a22,
    kp__law_bent := k22,
    b__law_bent := F22.binds (ps := ["pool", "labels"]) fun _ _ _ _ _ _ us hl => (match us, hl with | [_, _], _ => rfl),
    F__law_just := F23,
    mg__law_just := PySem.W.mg_of X G a23,
    kp__law_just := k23,
    b__law_just := F23.binds (ps := ["ab", "signs", "prices", "k", "labels"]) fun _ _ _ _ _ _ us hl => (match us, hl with | [_, _, _, _, _], _ => rfl),
    F__law_due := F24,
    mg__law_due := PySem.W.mg_of X G a24,
    kp__law_due := k24,
    b__law_due := F24.binds (ps := ["ab", "signs", "prices", "k", "cost", "labels"]) fun _ _ _ _ _ _ us hl => (match us, hl with | [_, _, _, _, _, _], _ => rfl),
    F__law_held := F25,
    mg__law_held := PySem.W.mg_of X G a25,
    kp__law_held := k25,
    b__law_held := F25.binds (ps := ["lacquer", "weather", "prices", "k", "cost", "labels"]) fun _ _ _ _ _ _ us hl => (match us, hl with | [_, _, _, _, _, _], _ => rfl),
    F__law_refused := F26,
    mg__law_refused := PySem.W.mg_of X G a26,
    kp__law_refused := k26,
    b__law_refused := F26.binds (ps := ["lacquer", "weather", "prices", "which", "k"]) fun _ _ _ _ _ _ us hl => (match us, hl with | [_, _, _, _, _], _ => rfl),
    F__law_cell := F27,
    mg__law_cell := PySem.W.mg_of X G a27,
    kp__law_cell := k27,
    b__law_cell := F27.binds (ps := ["script", "k"]) fun _ _ _ _ _ _ us hl => (match us, hl with | [_, _], _ => rfl),
    F_law := F28,
    mg_law := PySem.W.mg_of X G a28,
    kp_law := k28,
    b_law := F28.binds (ps := ["script"]) fun _ _ _ _ _ _ us hl => (match us, hl with | [_], _ => rfl),
    no_ValueError := PySem.W.mg_none_of X G no_ValueError,
    no_any := PySem.W.mg_none_of X G no_any,
    no_bool := PySem.W.mg_none_of X G no_bool,
    no_enumerate := PySem.W.mg_none_of X G no_enumerate,
    no_int := PySem.W.mg_none_of X G no_int,
    no_isinstance := PySem.W.mg_none_of X G no_isinstance,
    no_len := PySem.W.mg_none_of X G no_len,
    no_list := PySem.W.mg_none_of X G no_list,
    no_max := PySem.W.mg_none_of X G no_max,
    no_min := PySem.W.mg_none_of X G no_min,
    no_range := PySem.W.mg_none_of X G no_range,
    no_str := PySem.W.mg_none_of X G no_str,
    no_sum := PySem.W.mg_none_of X G no_sum,
    no_tuple := PySem.W.mg_none_of X G no_tuple,
    mg_BOTH_SIGNS := ⟨_, PySem.W.mg_of X G v_BOTH_SIGNS, ⟨_, rfl⟩⟩,
    mg_MOST_BOARDS := ⟨_, PySem.W.mg_of X G v_MOST_BOARDS, ⟨_, rfl⟩⟩,
    mg_MOST_HOURS := ⟨_, PySem.W.mg_of X G v_MOST_HOURS, ⟨_, rfl⟩⟩,
    mg_MOST_PRICE := ⟨_, PySem.W.mg_of X G v_MOST_PRICE, ⟨_, rfl⟩⟩,
    mg_BadLacquer := (PySem.W.mg_of X G a_BadLacquer).trans (by rw [e_BadLacquer]),
    x_BadLacquer := by rw [e_BadLacquer]; exact x_BadLacquer,
    kp_BadLacquer := by rw [e_BadLacquer]; exact kp_BadLacquer,
    s_BadLacquer := by rw [e_BadLacquer]; exact s_BadLacquer,
    t_BadLacquer := by rw [e_BadLacquer]; exact t_BadLacquer,
    mg_BadNumber := (PySem.W.mg_of X G a_BadNumber).trans (by rw [e_BadNumber]),
    x_BadNumber := by rw [e_BadNumber]; exact x_BadNumber,
    kp_BadNumber := by rw [e_BadNumber]; exact kp_BadNumber,
    s_BadNumber := by rw [e_BadNumber]; exact s_BadNumber,
    t_BadNumber := by rw [e_BadNumber]; exact t_BadNumber,
    exc_BadNumber := by rw [e_BadNumber]; exact ⟨eg_BadNumber, ek_BadNumber, s_BadNumber, hd_BadNumber, ea_BadNumber, en_, et_, em_BadNumber⟩,
    mg_BadPrice := (PySem.W.mg_of X G a_BadPrice).trans (by rw [e_BadPrice]),
    x_BadPrice := by rw [e_BadPrice]; exact x_BadPrice,
    kp_BadPrice := by rw [e_BadPrice]; exact kp_BadPrice,
    s_BadPrice := by rw [e_BadPrice]; exact s_BadPrice,
    t_BadPrice := by rw [e_BadPrice]; exact t_BadPrice,
    exc_BadPrice := by rw [e_BadPrice]; exact ⟨eg_BadPrice, ek_BadPrice, s_BadPrice, hd_BadPrice, ea_BadPrice, en_, et_, em_BadPrice⟩,
    mg_BadWeather := (PySem.W.mg_of X G a_BadWeather).trans (by rw [e_BadWeather]),
    x_BadWeather := by rw [e_BadWeather]; exact x_BadWeather,
    kp_BadWeather := by rw [e_BadWeather]; exact kp_BadWeather,
    s_BadWeather := by rw [e_BadWeather]; exact s_BadWeather,
    t_BadWeather := by rw [e_BadWeather]; exact t_BadWeather,
    mg_DampError := (PySem.W.mg_of X G a_DampError).trans (by rw [e_DampError]),
    x_DampError := by rw [e_DampError]; exact x_DampError,
    kp_DampError := by rw [e_DampError]; exact kp_DampError,
    s_DampError := by rw [e_DampError]; exact s_DampError,
    t_DampError := by rw [e_DampError]; exact t_DampError,
    mg_Lacquer := (PySem.W.mg_of X G a_Lacquer).trans (by rw [e_Lacquer]),
    c_Lacquer := by rw [e_Lacquer]; exact ⟨pg_Lacquer, hd_Lacquer, po_Lacquer, sa_Lacquer⟩,
    na_Lacquer_f_a := by rw [e_Lacquer]; exact na_Lacquer_f_a,
    na_Lacquer_f_b := by rw [e_Lacquer]; exact na_Lacquer_f_b,
    cv_Lacquer_MOST := by rw [e_Lacquer]; exact ⟨_, _, ⟨rd_Lacquer, ga_Lacquer⟩, ⟨cv_Lacquer_MOST, ⟨_, rfl⟩⟩⟩,
    mg_Weather := (PySem.W.mg_of X G a_Weather).trans (by rw [e_Weather]),
    c_Weather := by rw [e_Weather]; exact ⟨pg_Weather, hd_Weather, po_Weather, sa_Weather⟩,
    na_Weather_f_signs := by rw [e_Weather]; exact na_Weather_f_signs,
    na_Weather_f_lengths := by rw [e_Weather]; exact na_Weather_f_lengths,
    mk_Lacquer := by rw [e_Lacquer]; exact ⟨mk_Lacquer, a0, i0, kc_Lacquer⟩,
    mk_Weather := by rw [e_Weather]; exact ⟨mk_Weather, a1, i1, kc_Weather⟩,
    pr_Weather_hours := by rw [e_Weather]; exact ⟨_, a2, g2, t2, _, r2⟩,
    me_Weather_signs := by rw [e_Weather]; exact ⟨a3, i3, k3⟩,
    sm_Weather_of_signs := by rw [e_Weather]; exact ⟨_, ⟨rd_Weather, ga_Weather⟩, ⟨_, a4, _, r4⟩, k4⟩,
    kit_BadNumber_BadPrice := by rw [e_BadNumber, e_BadPrice]; exact kit_BadNumber_BadPrice,
    kit_BadNumber_DampError := by rw [e_BadNumber, e_DampError]; exact kit_BadNumber_DampError,
    kit_BadNumber_ValueError := by rw [e_BadNumber]; exact kit_BadNumber_ValueError,
    kit_BadPrice_BadNumber := by rw [e_BadPrice, e_BadNumber]; exact kit_BadPrice_BadNumber,
    kit_BadPrice_DampError := by rw [e_BadPrice, e_DampError]; exact kit_BadPrice_DampError,
    kit_BadPrice_ValueError := by rw [e_BadPrice]; exact kit_BadPrice_ValueError,
    exn_BadPrice_BadNumber := by rw [e_BadPrice, e_BadNumber]; exact PySem.W.exm_ref s_BadNumber hd_BadNumber t_BadNumber nsub_BadPrice_BadNumber,
    exm_BadNumber_BadNumber := by rw [e_BadNumber]; exact PySem.W.exm_ref s_BadNumber hd_BadNumber t_BadNumber sub_BadNumber_BadNumber,
    exm_BadPrice_BadPrice := by rw [e_BadPrice]; exact PySem.W.exm_ref s_BadPrice hd_BadPrice t_BadPrice sub_BadPrice_BadPrice }
  exact ⟨(PySem.W.fnOf "law" "law" (defArgs s_law) (defBody s_law) (defScope s_law) .none kV28 dc28 pm28 an28 cd28 ct28), fun s v => .of_eq rfl, fun base _ _ => law_done (ok_law T) law_true⟩

end Gn
open PySem PySem.W PyProof.Rows in
set_option maxRecDepth 100000 in
set_option maxHeartbeats 0 in
theorem PySem.Challenge.cw_damphouse_k81_crew_labels_judged_holds : PySem.Challenge.rw_damphouse_k81_crew_labels_judged.Holds := by
  w_on; o_law; k_head; (case hw => w_witness2)
  k_fill
  refine L2.walk_of (l := PySem.Challenge.rw_damphouse_k81_crew_labels_judged) (n := 63) (k := 11) (x := "script") (CX := fun w => L2.CX (PySem.W.OpenLaw.prog PySem.Challenge.rw_damphouse_k81_crew_labels_judged) w) (sp := fun w => Gn.spLaw _ 63) rfl (by decide) rfl ⟨rfl, by decide, by decide⟩ (fun w h Y => PySem.W.kIn_of Y) ?F (fun _ _ a ns hl _ hS => ⟨a, ns, rfl, hS, hl, fun _ => rfl⟩) (fun _ _ _ _ _ h => Gn.cx_false h)
  case F =>
    intro w mg fa h KX G hmg
    refine' Gn.all_mk KX G hmg ?a_BadLacquer ?x_BadLacquer ?kp_BadLacquer ?s_BadLacquer ?t_BadLacquer ?a_BadNumber ?x_BadNumber ?kp_BadNumber ?s_BadNumber ?t_BadNumber ?hd_BadNumber ?eg_BadNumber ?ek_BadNumber ?ea_BadNumber ?em_BadNumber ?a_BadPrice ?x_BadPrice ?kp_BadPrice ?s_BadPrice ?t_BadPrice ?hd_BadPrice ?eg_BadPrice ?ek_BadPrice ?ea_BadPrice ?em_BadPrice ?a_BadWeather ?x_BadWeather ?kp_BadWeather ?s_BadWeather ?t_BadWeather ?a_DampError ?x_DampError ?kp_DampError ?s_DampError ?t_DampError ?a_Lacquer ?pg_Lacquer ?hd_Lacquer ?po_Lacquer ?sa_Lacquer ?na_Lacquer_f_a ?na_Lacquer_f_b ?rd_Lacquer ?ga_Lacquer ?cv_Lacquer_MOST ?mk_Lacquer ?kc_Lacquer ?a_Weather ?pg_Weather ?hd_Weather ?po_Weather ?sa_Weather ?na_Weather_f_signs ?na_Weather_f_lengths ?rd_Weather ?ga_Weather ?mk_Weather ?kc_Weather ?en_ ?et_ ?kit_BadNumber_BadPrice ?kit_BadNumber_DampError ?kit_BadNumber_ValueError ?kit_BadPrice_BadNumber ?kit_BadPrice_DampError ?kit_BadPrice_ValueError ?nsub_BadPrice_BadNumber ?sub_BadNumber_BadNumber ?sub_BadPrice_BadPrice ?a0 ?i0 ?l0 ?c0 ?k0 ?a1 ?i1 ?l1 ?c1 ?k1 ?a2 ?g2 ?t2 ?r2 ?l2 ?c2 ?k2 ?a3 ?i3 ?l3 ?c3 ?k3 ?a4 ?r4 ?l4 ?c4 ?k4 ?a5 ?l5 ?c5 ?k5 ?a6 ?l6 ?c6 ?k6 ?a7 ?l7 ?c7 ?k7 ?a8 ?l8 ?c8 ?k8 ?a9 ?l9 ?c9 ?k9 ?a10 ?l10 ?c10 ?k10 ?a11 ?l11 ?c11 ?k11 ?a12 ?l12 ?c12 ?k12 ?a13 ?l13 ?c13 ?k13 ?a14 ?l14 ?c14 ?k14 ?a15 ?l15 ?c15 ?k15 ?a16 ?l16 ?c16 ?k16 ?a17 ?l17 ?c17 ?k17 ?a18 ?l18 ?c18 ?k18 ?a19 ?l19 ?c19 ?k19 ?a20 ?l20 ?c20 ?k20 ?a21 ?l21 ?c21 ?k21 ?a22 ?l22 ?c22 ?k22 ?a23 ?l23 ?c23 ?k23 ?a24 ?l24 ?c24 ?k24 ?a25 ?l25 ?c25 ?k25 ?a26 ?l26 ?c26 ?k26 ?a27 ?l27 ?c27 ?k27 ?a28 ?l28 ?c28 ?k28 ?v_BOTH_SIGNS ?v_MOST_BOARDS ?v_MOST_HOURS ?v_MOST_PRICE ?no_ValueError ?no_any ?no_bool ?no_enumerate ?no_int ?no_isinstance ?no_len ?no_list ?no_max ?no_min ?no_range ?no_str ?no_sum ?no_tuple
    (case a_BadLacquer => k_is)
    (case x_BadLacquer => k_exc)
    (case kp_BadLacquer => k_is)
    (case s_BadLacquer => k_is)
    (case t_BadLacquer => k_is)
    (case a_BadNumber => k_is)
    (case x_BadNumber => k_exc)
    (case kp_BadNumber => k_is)
    (case s_BadNumber => k_is)
    (case t_BadNumber => k_is)
    (case hd_BadNumber => k_is)
    (case eg_BadNumber => k_is)
    (case ek_BadNumber => k_is)
    (case ea_BadNumber => k_is)
    (case em_BadNumber => k_is)
    (case a_BadPrice => k_is)
    (case x_BadPrice => k_exc)
    (case kp_BadPrice => k_is)
    (case s_BadPrice => k_is)
    (case t_BadPrice => k_is)
    (case hd_BadPrice => k_is)
    (case eg_BadPrice => k_is)
    (case ek_BadPrice => k_is)
    (case ea_BadPrice => k_is)
    (case em_BadPrice => k_is)
    (case a_BadWeather => k_is)
    (case x_BadWeather => k_exc)
    (case kp_BadWeather => k_is)
    (case s_BadWeather => k_is)
    (case t_BadWeather => k_is)
    (case a_DampError => k_is)
    (case x_DampError => k_exc)
    (case kp_DampError => k_is)
    (case s_DampError => k_is)
    (case t_DampError => k_is)
    (case a_Lacquer => k_is)
    (case pg_Lacquer => k_is)
    (case hd_Lacquer => k_is)
    (case po_Lacquer => k_is)
    (case sa_Lacquer => k_is)
    (case na_Lacquer_f_a => k_is)
    (case na_Lacquer_f_b => k_is)
    (case rd_Lacquer => k_is)
    (case ga_Lacquer => k_is)
    (case cv_Lacquer_MOST => k_is)
    (case mk_Lacquer => k_is)
    (case kc_Lacquer => k_is)
    (case a_Weather => k_is)
    (case pg_Weather => k_is)
    (case hd_Weather => k_is)
    (case po_Weather => k_is)
    (case sa_Weather => k_is)
    (case na_Weather_f_signs => k_is)
    (case na_Weather_f_lengths => k_is)
    (case rd_Weather => k_is)
    (case ga_Weather => k_is)
    (case mk_Weather => k_is)
    (case kc_Weather => k_is)
    (case en_ => k_is)
    (case et_ => k_is)
    (case kit_BadNumber_BadPrice => first | rfl | k_is)
    (case kit_BadNumber_DampError => first | rfl | k_is)
    (case kit_BadNumber_ValueError => first | rfl | k_is)
    (case kit_BadPrice_BadNumber => first | rfl | k_is)
    (case kit_BadPrice_DampError => first | rfl | k_is)
    (case kit_BadPrice_ValueError => first | rfl | k_is)
    (case nsub_BadPrice_BadNumber => first | rfl | k_is)
    (case sub_BadNumber_BadNumber => first | rfl | k_is)
    (case sub_BadPrice_BadPrice => first | rfl | k_is)
    (case a0 => k_is)
    (case i0 => k_is)
    (case l0 => k_is)
    (case c0 => k_is)
    (case k0 => k_is)
    (case a1 => k_is)
    (case i1 => k_is)
    (case l1 => k_is)
    (case c1 => k_is)
    (case k1 => k_is)
    (case a2 => k_is)
    (case g2 => k_is)
    (case t2 => k_is)
    (case r2 => k_is)
    (case l2 => k_is)
    (case c2 => k_is)
    (case k2 => k_is)
    (case a3 => k_is)
    (case i3 => k_is)
    (case l3 => k_is)
    (case c3 => k_is)
    (case k3 => k_is)
    (case a4 => k_is)
    (case r4 => k_is)
    (case l4 => k_is)
    (case c4 => k_is)
    (case k4 => k_is)
    (case a5 => k_is)
    (case l5 => k_is)
    (case c5 => k_is)
    (case k5 => k_is)
    (case a6 => k_is)
    (case l6 => k_is)
    (case c6 => k_is)
    (case k6 => k_is)
    (case a7 => k_is)
    (case l7 => k_is)
    (case c7 => k_is)
    (case k7 => k_is)
    (case a8 => k_is)
    (case l8 => k_is)
    (case c8 => k_is)
    (case k8 => k_is)
    (case a9 => k_is)
    (case l9 => k_is)
    (case c9 => k_is)
    (case k9 => k_is)
    (case a10 => k_is)
    (case l10 => k_is)
    (case c10 => k_is)
    (case k10 => k_is)
    (case a11 => k_is)
    (case l11 => k_is)
    (case c11 => k_is)
    (case k11 => k_is)
    (case a12 => k_is)
    (case l12 => k_is)
    (case c12 => k_is)
    (case k12 => k_is)
    (case a13 => k_is)
    (case l13 => k_is)
    (case c13 => k_is)
    (case k13 => k_is)
    (case a14 => k_is)
    (case l14 => k_is)
    (case c14 => k_is)
    (case k14 => k_is)
    (case a15 => k_is)
    (case l15 => k_is)
    (case c15 => k_is)
    (case k15 => k_is)
    (case a16 => k_is)
    (case l16 => k_is)
    (case c16 => k_is)
    (case k16 => k_is)
    (case a17 => k_is)
    (case l17 => k_is)
    (case c17 => k_is)
    (case k17 => k_is)
    (case a18 => k_is)
    (case l18 => k_is)
    (case c18 => k_is)
    (case k18 => k_is)
    (case a19 => k_is)
    (case l19 => k_is)
    (case c19 => k_is)
    (case k19 => k_is)
    (case a20 => k_is)
    (case l20 => k_is)
    (case c20 => k_is)
    (case k20 => k_is)
    (case a21 => k_is)
    (case l21 => k_is)
    (case c21 => k_is)
    (case k21 => k_is)
    (case a22 => k_is)
    (case l22 => k_is)
    (case c22 => k_is)
    (case k22 => k_is)
    (case a23 => k_is)
    (case l23 => k_is)
    (case c23 => k_is)
    (case k23 => k_is)
    (case a24 => k_is)
    (case l24 => k_is)
    (case c24 => k_is)
    (case k24 => k_is)
    (case a25 => k_is)
    (case l25 => k_is)
    (case c25 => k_is)
    (case k25 => k_is)
    (case a26 => k_is)
    (case l26 => k_is)
    (case c26 => k_is)
    (case k26 => k_is)
    (case a27 => k_is)
    (case l27 => k_is)
    (case c27 => k_is)
    (case k27 => k_is)
    (case a28 => k_is)
    (case l28 => k_is)
    (case c28 => k_is)
    (case k28 => k_is)
    (case v_BOTH_SIGNS => k_is)
    (case v_MOST_BOARDS => k_is)
    (case v_MOST_HOURS => k_is)
    (case v_MOST_PRICE => k_is)
    (case no_ValueError => k_is)
    (case no_any => k_is)
    (case no_bool => k_is)
    (case no_enumerate => k_is)
    (case no_int => k_is)
    (case no_isinstance => k_is)
    (case no_len => k_is)
    (case no_list => k_is)
    (case no_max => k_is)
    (case no_min => k_is)
    (case no_range => k_is)
    (case no_str => k_is)
    (case no_sum => k_is)
    (case no_tuple => k_is)

