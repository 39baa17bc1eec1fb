import PyProof.Rows.All
import Wide.All
import OpenK.AllK
import Wide.FinOn
import HandS.ForMost
import HandS.ForExc
import HandS.Walk
import HandS.Evl
import HandS.Wide
import HandS.Property
import HandS.CallSlots
import HandS.SortInts
import HandS.Codes
import HandS.ExcOwn
import HandS.WordsExc
import HandS.Zip
import HandS.ClsMeth
import HandS.ExcIs
import HandS.IsInst
import PyProof.ListStr
import HandS.TryMany
import KE.KOwnIter
import HandS.OwnIter
import HandS.IterNext
import HandS.Style
import HandS.SortKw
import HandS.TupLe
import KE.DataMinMax
import HandS.ExcInit
import HandS.ExcField
import KE.KExcSuper
import KE.KExcIs
import HandS.MakeKw
import OpenK.KMeth
import PySem.Challenge.RW_damphouse_k38_whole_saver_sees_ahead
set_option Elab.async false
set_option linter.all false
set_option maxRecDepth 100000
set_option maxHeartbeats 4000000
set_option autoImplicit false
/-! Gn: typed states over the hand layer. -/
namespace Gn
open PySem L2

/-! ### data -/
abbrev Tx := List Nat
def Tx.s (t : Tx) : Str := ⟨t.toArray⟩
theorem Tx.s_inj {a b : Tx} (h : Tx.s a = Tx.s b) : a = b := by
  unfold Tx.s at h
  injection h with h
  simpa using h
/-- data of any kind -/
inductive D where
  | non | bl (b : Bool) | int (i : Int) | str (t : Tx) | lst (xs : List D) | tup (xs : List D)
structure Gx where
  K : PySem.W.Frag
  ca : Str → Addr
class Rp (α : Type) where
  rp : Gx → Hp → V → α → Prop
  mono : ∀ {g : Gx} {H H' : Hp} {v : V} {x : α}, Same H H' → rp g H v x → rp g H' v x
open Rp (rp)

instance instRpInt : Rp Int := ⟨fun _ _ v x => v = .int x, fun _ h => h⟩
instance instRpBool : Rp Bool := ⟨fun _ _ v x => v = .bl x, fun _ h => h⟩
instance instRpUnit : Rp Unit := ⟨fun _ _ v _ => v = .non, fun _ h => h⟩
instance instRpTx : Rp Tx := ⟨fun _ _ v x => v = .str (Tx.s x), fun _ h => h⟩
instance instRpOpt {α : Type} [Rp α] : Rp (Option α) := ⟨fun g H v x => match x with | none => v = .non | some y => rp g H v y, fun {g H H' v x} s h => by
  cases x with
  | none => exact h
  | some y => exact Rp.mono s h⟩
def rps {α : Type} [Rp α] (g : Gx) (H : Hp) : List V → List α → Prop
  | [], [] => True
  | v :: vs, x :: xs => rp g H v x ∧ rps g H vs xs
  | _, _ => False
section
variable {α : Type} [Rp α] {g : Gx} {H H' : Hp}
theorem rps_mono (s : Same H H') : ∀ {vs : List V} {xs : List α}, rps g H vs xs → rps g H' vs xs
  | [], [], _ => trivial
  | _ :: _, _ :: _, h => ⟨Rp.mono s h.1, rps_mono s h.2⟩
  | [], _ :: _, h => h.elim
  | _ :: _, [], h => h.elim
theorem rps_len : ∀ {vs : List V} {xs : List α}, rps g H vs xs → vs.length = xs.length
  | [], [], _ => rfl
  | _ :: _, _ :: _, h => congrArg (· + 1) (rps_len h.2)
  | [], _ :: _, h => h.elim
  | _ :: _, [], h => h.elim
theorem rps_get : ∀ {vs : List V} {xs : List α} {i : Nat} {x : α}, rps g H vs xs → xs[i]? = some x → ∃ v, vs[i]? = some v ∧ rp g H v x
  | v :: vs, y :: xs, 0, x, h, e => by
    simp at e; subst e; exact ⟨v, rfl, h.1⟩
  | v :: vs, y :: xs, i + 1, x, h, e => by
    obtain ⟨w, e1, r⟩ := rps_get (i := i) h.2 (by simpa using e)
    exact ⟨w, by simpa using e1, r⟩
  | [], [], _, _, _, e => by simp at e
  | [], _ :: _, _, _, h, _ => h.elim
  | _ :: _, [], _, _, h, _ => h.elim
theorem rps_get2 : ∀ {vs : List V} {xs : List α} {i : Nat} {v : V}, rps g H vs xs → vs[i]? = some v → ∃ x, xs[i]? = some x ∧ rp g H v x
  | v :: vs, y :: xs, 0, x, h, e => by
    simp at e; subst e; exact ⟨y, rfl, h.1⟩
  | v :: vs, y :: xs, i + 1, x, h, e => by
    obtain ⟨w, e1, r⟩ := rps_get2 (i := i) h.2 (by simpa using e)
    exact ⟨w, by simpa using e1, r⟩
  | [], [], _, _, _, e => by simp at e
  | [], _ :: _, _, _, h, _ => h.elim
  | _ :: _, [], _, _, h, _ => h.elim
theorem rps_app : ∀ {vs ws : List V} {xs ys : List α}, rps g H vs xs → rps g H ws ys → rps g H (vs ++ ws) (xs ++ ys)
  | [], _, [], _, _, h => h
  | _ :: _, _, _ :: _, _, h, h2 => ⟨h.1, rps_app h.2 h2⟩
  | [], _, _ :: _, _, h, _ => h.elim
  | _ :: _, _, [], _, h, _ => h.elim
theorem rps_take : ∀ {vs : List V} {xs : List α} (n : Nat), rps g H vs xs → rps g H (vs.take n) (xs.take n)
  | _, _, 0, _ => trivial
  | [], [], _ + 1, _ => trivial
  | _ :: _, _ :: _, n + 1, h => ⟨h.1, rps_take n h.2⟩
  | [], _ :: _, _ + 1, h => h.elim
  | _ :: _, [], _ + 1, h => h.elim
theorem rps_drop : ∀ {vs : List V} {xs : List α} (n : Nat), rps g H vs xs → rps g H (vs.drop n) (xs.drop n)
  | _, _, 0, h => h
  | [], [], _ + 1, _ => trivial
  | _ :: _, _ :: _, n + 1, h => rps_drop n h.2
  | [], _ :: _, _ + 1, h => h.elim
  | _ :: _, [], _ + 1, h => h.elim
theorem rps_set {v : V} {x : α} (r : rp g H v x) : ∀ {vs : List V} {xs : List α} (i : Nat), rps g H vs xs → rps g H (vs.set i v) (xs.set i x)
  | [], [], _, h => h
  | _ :: _, _ :: _, 0, h => ⟨r, h.2⟩
  | _ :: _, _ :: _, i + 1, h => ⟨h.1, rps_set r i h.2⟩
  | [], _ :: _, _, h => h.elim
  | _ :: _, [], _, h => h.elim
theorem rps_rev : ∀ {vs : List V} {xs : List α}, rps g H vs xs → rps g H vs.reverse xs.reverse
  | [], [], _ => trivial
  | v :: vs, x :: xs, h => by
    rw [List.reverse_cons, List.reverse_cons]
    exact rps_app (rps_rev h.2) ⟨h.1, trivial⟩
  | [], _ :: _, h => h.elim
  | _ :: _, [], h => h.elim
theorem rps_rep {vs : List V} {xs : List α} (h : rps g H vs xs) : ∀ n, rps g H (List.replicate n vs).flatten (List.replicate n xs).flatten
  | 0 => trivial
  | n + 1 => by
    rw [List.replicate_succ, List.replicate_succ, List.flatten_cons, List.flatten_cons]
    exact rps_app h (rps_rep h n)
end
theorem rps_int {g : Gx} {H : Hp} : ∀ {vs : List V} {xs : List Int}, rps g H vs xs ↔ vs = xs.map V.int
  | [], [] => by simp [rps]
  | v :: vs, x :: xs => by
    have := rps_int (g := g) (H := H) (vs := vs) (xs := xs)
    show (v = V.int x ∧ rps g H vs xs) ↔ _
    rw [this]; simp
  | [], _ :: _ => by simp [rps]
  | _ :: _, [] => by simp [rps]
theorem rps_bl {g : Gx} {H : Hp} : ∀ {vs : List V} {xs : List Bool}, rps g H vs xs ↔ vs = xs.map V.bl
  | [], [] => by simp [rps]
  | v :: vs, x :: xs => by
    have := rps_bl (g := g) (H := H) (vs := vs) (xs := xs)
    show (v = V.bl x ∧ rps g H vs xs) ↔ _
    rw [this]; simp
  | [], _ :: _ => by simp [rps]
  | _ :: _, [] => by simp [rps]
theorem rps_tx {g : Gx} {H : Hp} : ∀ {vs : List V} {xs : List Tx}, rps g H vs xs ↔ vs = xs.map (fun t => V.str (Tx.s t))
  | [], [] => by simp [rps]
  | v :: vs, x :: xs => by
    have := rps_tx (g := g) (H := H) (vs := vs) (xs := xs)
    show (v = V.str (Tx.s x) ∧ rps g H vs xs) ↔ _
    rw [this]; simp
  | [], _ :: _ => by simp [rps]
  | _ :: _, [] => by simp [rps]
instance instRpList {α : Type} [Rp α] : Rp (List α) := ⟨fun g H v xs => ∃ p vs, v = .ref p ∧ H p = some (.lst vs) ∧ rps g H vs xs, fun s ⟨p, vs, e, h, r⟩ => ⟨p, vs, e, s _ _ h, rps_mono s r⟩⟩
instance instRpProd {α β : Type} [Rp α] [Rp β] : Rp (α × β) := ⟨fun g H v x => ∃ p a b, v = .ref p ∧ H p = some (.tup [a, b]) ∧ rp g H a x.1 ∧ rp g H b x.2, fun s ⟨p, a, b, e, h, r1, r2⟩ => ⟨p, a, b, e, s _ _ h, Rp.mono s r1, Rp.mono s r2⟩⟩
structure T3 (α β γ : Type) where
  a : α
  b : β
  c : γ
structure T4 (α β γ δ : Type) where
  a : α
  b : β
  c : γ
  d : δ
structure T5 (α β γ δ ε : Type) where
  a : α
  b : β
  c : γ
  d : δ
  e : ε
structure T6 (α β γ δ ε ζ : Type) where
  a : α
  b : β
  c : γ
  d : δ
  e : ε
  f : ζ
instance instRpT3 {α β γ : Type} [Rp α] [Rp β] [Rp γ] : Rp (T3 α β γ) := ⟨fun g H v x => ∃ p a b c, v = .ref p ∧ H p = some (.tup [a, b, c]) ∧ rp g H a x.a ∧ rp g H b x.b ∧ rp g H c x.c, fun s ⟨p, a, b, c, e, h, r1, r2, r3⟩ => ⟨p, a, b, c, e, s _ _ h, Rp.mono s r1, Rp.mono s r2, Rp.mono s r3⟩⟩
instance instRpT4 {α β γ δ : Type} [Rp α] [Rp β] [Rp γ] [Rp δ] : Rp (T4 α β γ δ) := ⟨fun g H v x => ∃ p a b c d, v = .ref p ∧ H p = some (.tup [a, b, c, d]) ∧ rp g H a x.a ∧ rp g H b x.b ∧ rp g H c x.c ∧ rp g H d x.d,
  fun s ⟨p, a, b, c, d, e, h, r1, r2, r3, r4⟩ => ⟨p, a, b, c, d, e, s _ _ h, Rp.mono s r1, Rp.mono s r2, Rp.mono s r3, Rp.mono s r4⟩⟩
instance instRpT5 {α β γ δ ε : Type} [Rp α] [Rp β] [Rp γ] [Rp δ] [Rp ε] : Rp (T5 α β γ δ ε) := ⟨fun g H v x => ∃ p a b c d e, v = .ref p ∧ H p = some (.tup [a, b, c, d, e]) ∧ rp g H a x.a ∧ rp g H b x.b ∧ rp g H c x.c ∧ rp g H d x.d ∧ rp g H e x.e,
  fun s ⟨p, a, b, c, d, f, e, h, r1, r2, r3, r4, r5⟩ => ⟨p, a, b, c, d, f, e, s _ _ h, Rp.mono s r1, Rp.mono s r2, Rp.mono s r3, Rp.mono s r4, Rp.mono s r5⟩⟩
instance instRpT6 {α β γ δ ε ζ : Type} [Rp α] [Rp β] [Rp γ] [Rp δ] [Rp ε] [Rp ζ] : Rp (T6 α β γ δ ε ζ) := ⟨fun g H v x => ∃ p a b c d e f, v = .ref p ∧ H p = some (.tup [a, b, c, d, e, f]) ∧ rp g H a x.a ∧ rp g H b x.b ∧ rp g H c x.c ∧ rp g H d x.d ∧ rp g H e x.e ∧ rp g H f x.f,
  fun s ⟨p, a, b, c, d, f, f', e, h, r1, r2, r3, r4, r5, r6⟩ => ⟨p, a, b, c, d, f, f', e, s _ _ h, Rp.mono s r1, Rp.mono s r2, Rp.mono s r3, Rp.mono s r4, Rp.mono s r5, Rp.mono s r6⟩⟩
mutual
def rpD (H : Hp) : V → D → Prop
  | v, .non => v = .non
  | v, .bl b => v = .bl b
  | v, .int i => v = .int i
  | v, .str t => v = .str (Tx.s t)
  | v, .lst xs => ∃ p vs, v = .ref p ∧ H p = some (.lst vs) ∧ rpDs H vs xs
  | v, .tup xs => ∃ p vs, v = .ref p ∧ H p = some (.tup vs) ∧ rpDs H vs xs
def rpDs (H : Hp) : List V → List D → Prop
  | [], [] => True
  | v :: vs, x :: xs => rpD H v x ∧ rpDs H vs xs
  | _, _ => False
end
mutual
theorem rpD_mono {H H' : Hp} (s : Same H H') : ∀ {v : V} {x : D}, rpD H v x → rpD H' v x
  | _, .non, h => by simpa [rpD] using h
  | _, .bl _, h => by simpa [rpD] using h
  | _, .int _, h => by simpa [rpD] using h
  | _, .str _, h => by simpa [rpD] using h
  | _, .lst xs, h => by
    simp only [rpD] at h ⊢
    obtain ⟨p, vs, e, h, r⟩ := h
    exact ⟨p, vs, e, s _ _ h, rpDs_mono s r⟩
  | _, .tup xs, h => by
    simp only [rpD] at h ⊢
    obtain ⟨p, vs, e, h, r⟩ := h
    exact ⟨p, vs, e, s _ _ h, rpDs_mono s r⟩
theorem rpDs_mono {H H' : Hp} (s : Same H H') : ∀ {vs : List V} {xs : List D}, rpDs H vs xs → rpDs H' vs xs
  | [], [], _ => by simp [rpDs]
  | v :: vs, x :: xs, h => by
    simp only [rpDs] at h ⊢
    exact ⟨rpD_mono s h.1, rpDs_mono s h.2⟩
  | [], _ :: _, h => by simp [rpDs] at h
  | _ :: _, [], h => by simp [rpDs] at h
end
instance instRpD : Rp D := ⟨fun _ H v x => rpD H v x, fun s h => rpD_mono s h⟩
/-- into data of any kind -/
class ToD (α : Type) [Rp α] where
  d : α → D
  ok : ∀ {g : Gx} {H : Hp} {v : V} {x : α}, rp g H v x → rpD H v (d x)
theorem rps_d {α : Type} [Rp α] [ToD α] {g : Gx} {H : Hp} : ∀ {vs : List V} {xs : List α}, rps g H vs xs → rpDs H vs (xs.map ToD.d)
  | [], [], _ => by simp [rpDs]
  | v :: vs, x :: xs, h => by
    rw [List.map_cons, rpDs]
    exact ⟨ToD.ok h.1, rps_d h.2⟩
  | [], _ :: _, h => h.elim
  | _ :: _, [], h => h.elim
instance : ToD Int := ⟨.int, fun h => by rw [rpD]; exact h⟩
instance : ToD Bool := ⟨.bl, fun h => by rw [rpD]; exact h⟩
instance : ToD Unit := ⟨fun _ => .non, fun h => by rw [rpD]; exact h⟩
instance : ToD Tx := ⟨.str, fun h => by rw [rpD]; exact h⟩
instance : ToD D := ⟨id, fun h => h⟩
instance {α : Type} [Rp α] [ToD α] : ToD (List α) := ⟨fun xs => .lst (xs.map ToD.d), fun ⟨p, vs, e, h, r⟩ => by rw [rpD]; exact ⟨p, vs, e, h, rps_d r⟩⟩
instance {α : Type} [Rp α] [ToD α] : ToD (Option α) := ⟨fun x => match x with | none => .non | some y => ToD.d y, fun {g H v x} h => by
  cases x with
  | none => show rpD H v .non; rw [rpD]; exact h
  | some y => exact ToD.ok (α := α) (g := g) h⟩
instance {α β : Type} [Rp α] [Rp β] [ToD α] [ToD β] : ToD (α × β) := ⟨fun x => .tup [ToD.d x.1, ToD.d x.2], fun ⟨p, a, b, e, h, r1, r2⟩ => by
  rw [rpD]; exact ⟨p, _, e, h, by rw [rpDs, rpDs, rpDs]; exact ⟨ToD.ok r1, ToD.ok r2, trivial⟩⟩⟩
instance {α β γ : Type} [Rp α] [Rp β] [Rp γ] [ToD α] [ToD β] [ToD γ] : ToD (T3 α β γ) := ⟨fun x => .tup [ToD.d x.a, ToD.d x.b, ToD.d x.c], fun ⟨p, a, b, c, e, h, r1, r2, r3⟩ => by
  rw [rpD]; exact ⟨p, _, e, h, by rw [rpDs, rpDs, rpDs, rpDs]; exact ⟨ToD.ok r1, ToD.ok r2, ToD.ok r3, trivial⟩⟩⟩

/-! ### slots and states -/
/-- data that owns what it is made of, at the places ps -/
class Od (β : Type) where
  od : Gx → Hp → Hp → V → β → List Addr → Prop
  mono : ∀ {g : Gx} {F F' H H' : Hp} {v : V} {x : β} {ps : List Addr}, Same F F' → (∀ p ∈ ps, ∀ o, H p = some o → H' p = some o) → od g F H v x ps → od g F' H' v x ps
  mem : ∀ {g : Gx} {F H : Hp} {v : V} {x : β} {ps : List Addr}, od g F H v x ps → ∀ p ∈ ps, H p ≠ none
inductive Bd : Type 1 where
  | un
  | kp {α : Type} [i : Rp α] (x : α)
  | bo {α : Type} [i : Rp α] (x : α)
  | ow {α : Type} [i : Rp α] (xs : List α)
  | io (p : Addr) {α : Type} [i : Rp α] (xs : List α)
  | ot (ps : List Addr) {β : Type} [i : Od β] (x : β)
structure Bs where
  F0 : Hp
  A0 : Hp
  ps : List Addr
  P : Hp
def Bd.isO : Bd → Prop
  | .un => False
  | @Bd.kp _ _ _ => False
  | @Bd.bo _ _ _ => False
  | @Bd.ow _ _ _ => True
  | @Bd.io _ _ _ _ => True
  | @Bd.ot _ _ _ _ => False
/-- the places of data that owns -/
def Bd.qs : Bd → List Addr
  | @Bd.ot ps _ _ _ => ps
  | _ => []
def SlotOk (g : Gx) (F A H : Hp) (o : Option (Option V)) : Bd → Prop
  | .un => True
  | @Bd.kp _ _ x => ∃ v, o = some (some v) ∧ rp g F v x
  | @Bd.bo _ _ x => ∃ v, o = some (some v) ∧ rp g A v x
  | @Bd.ow _ _ xs => ∃ p vs, o = some (some (.ref p)) ∧ H p = some (.lst vs) ∧ rps g F vs xs ∧ F p = none ∧ A p = none
  | @Bd.io p _ _ xs => ∃ vs, o = some (some (.ref p)) ∧ H p = some (.lst vs) ∧ rps g F vs xs ∧ F p = none ∧ A p = none
  | @Bd.ot ps _ _ x => ∃ v, o = some (some v) ∧ Od.od g F H v x ps ∧ ∀ p ∈ ps, F p = none ∧ A p = none
/-- a slot that holds a list of its own, at p -/
def Own (E : List Bd) (σ : St) (i : Nat) (p : Addr) : Prop := σ[i]? = some (some (.ref p)) ∧ ∃ b, E[i]? = some b ∧ b.isO
/-- it owns nothing -/
def Bd.nO (b : Bd) : Prop := ¬ b.isO ∧ b.qs = []
/-- a place of data that owns, of slot i -/
def Inn (E : List Bd) (i : Nat) (q : Addr) : Prop := ∃ b, E[i]? = some b ∧ q ∈ b.qs
structure Sta (g : Gx) (B : Bs) (F A : Hp) (E : List Bd) (σ : St) (H : Hp) : Prop where
  len : E.length = σ.length
  fa : Same F A
  ah : Same A H
  f0 : Same B.F0 F
  a0 : Same B.A0 A
  fr : ∀ a, B.F0 a = none → (B.A0 a ≠ none ∨ a ∈ B.ps) → F a = none
  inn : ∀ a ∈ B.ps, H a ≠ none ∧ A a = none
  sl : ∀ (i : Nat) (b : Bd), E[i]? = some b → SlotOk g F A H σ[i]? b
  ne : ∀ i j p, Own E σ i p → Own E σ j p → i = j
  pr : ∀ a o, B.P a = some o → H a = some o ∧ A a = none ∧ ∀ i, ¬ Own E σ i a
  nn : ∀ i q, Inn E i q → (∀ j, ¬ Own E σ j q) ∧ (∀ j, Inn E j q → j = i) ∧ q ∉ B.ps ∧ B.P q = none
section
variable {g : Gx} {B : Bs} {F A F' A' H H' : Hp} {E E' : List Bd} {σ : St}
theorem Own.lt {i : Nat} {p : Addr} (h : Own E σ i p) : i < E.length := by
  obtain ⟨_, b, e, _⟩ := h
  exact (List.getElem?_eq_some_iff.mp e).1
/-- an owned slot's list -/
theorem Sta.own (s : Sta g B F A E σ H) {i : Nat} {p : Addr} (h : Own E σ i p) : F p = none ∧ A p = none ∧ ∃ vs, H p = some (.lst vs) := by
  obtain ⟨h1, b, e, h2⟩ := h
  have q := s.sl i b e
  cases b with
  | un => exact h2.elim
  | kp x => exact h2.elim
  | bo x => exact h2.elim
  | ow xs =>
    obtain ⟨p', vs, e1, e2, _, e3, e4⟩ := q
    rw [h1] at e1; cases e1
    exact ⟨e3, e4, vs, e2⟩
  | io p' xs =>
    obtain ⟨vs, e1, e2, _, e3, e4⟩ := q
    rw [h1] at e1; cases e1
    exact ⟨e3, e4, vs, e2⟩
  | ot ps x => exact h2.elim
theorem Sta.inq (s : Sta g B F A E σ H) {i : Nat} {q : Addr} (h : Inn E i q) : F q = none ∧ A q = none ∧ H q ≠ none := by
  obtain ⟨b, e, h2⟩ := h
  have r := s.sl i b e
  cases b with
  | ot ps x =>
    obtain ⟨v, _, r, k⟩ := r
    exact ⟨(k q h2).1, (k q h2).2, Od.mem r q h2⟩
  | un => cases h2
  | kp x => cases h2
  | bo x => cases h2
  | ow x => cases h2
  | io p x => cases h2
theorem SlotOk.mono {o : Option (Option V)} {b : Bd} (hF : Same F F') (hA : Same A A') (hH : ∀ p, o = some (some (.ref p)) → b.isO → (∀ vs, H p = some (.lst vs) → H' p = some (.lst vs)) ∧ F' p = none ∧ A' p = none) (h : SlotOk g F A H o b) (hN : ∀ q ∈ b.qs, (∀ o, H q = some o → H' q = some o) ∧ F' q = none ∧ A' q = none) : SlotOk g F' A' H' o b := by
  cases b with
  | un => trivial
  | kp x => obtain ⟨v, e, r⟩ := h; exact ⟨v, e, Rp.mono hF r⟩
  | bo x => obtain ⟨v, e, r⟩ := h; exact ⟨v, e, Rp.mono hA r⟩
  | ow xs =>
    obtain ⟨p, vs, e, e2, r, e3, e4⟩ := h
    obtain ⟨k, n1, n2⟩ := hH p e trivial
    exact ⟨p, vs, e, k vs e2, rps_mono hF r, n1, n2⟩
  | io p xs =>
    obtain ⟨vs, e, e2, r, e3, e4⟩ := h
    obtain ⟨k, n1, n2⟩ := hH p e trivial
    exact ⟨vs, e, k vs e2, rps_mono hF r, n1, n2⟩
  | ot ps x =>
    obtain ⟨v, e, r, k⟩ := h
    exact ⟨v, e, Od.mono hF (fun p hp => (hN p hp).1) r, fun p hp => (hN p hp).2⟩
/-- the general step: frozen parts grow by objects that are new, what is owned stays -/
theorem Sta.grow (s : Sta g B F A E σ H) (hF : Same F F') (hFA : Same F' A') (hA : Same A A') (hAH : Same A' H') (nF : ∀ a, F a = none → H a ≠ none → F' a = none) (nA : ∀ a, A a = none → H a ≠ none → A' a = none)
    (kH : ∀ a o, A a = none → H a = some o → H' a = some o) : Sta g B F' A' E σ H' where
  len := s.len
  fa := hFA
  ah := hAH
  f0 := s.f0.trans hF
  a0 := s.a0.trans hA
  fr := fun a h1 h2 => by
    refine nF a (s.fr a h1 h2) ?_
    rcases h2 with h2 | h2
    · cases e : B.A0 a with
      | none => exact absurd e h2
      | some o => rw [s.ah _ _ (s.a0 _ _ e)]; exact fun z => nomatch z
    · exact (s.inn a h2).1
  inn := fun a h => by
    obtain ⟨h1, h2⟩ := s.inn a h
    refine ⟨?_, nA a h2 h1⟩
    cases e : H a with
    | none => exact absurd e h1
    | some o => rw [kH a o h2 e]; exact fun z => nomatch z
  sl := fun i b e => SlotOk.mono hF hA (fun p e1 h => by
    have o : Own E σ i p := ⟨e1, _, e, h⟩
    obtain ⟨f1, f2, vs, f3⟩ := s.own o
    refine ⟨fun vs h => kH p _ f2 h, nF p f1 ?_, nA p f2 ?_⟩ <;> (rw [f3]; exact fun z => nomatch z)
    ) (s.sl i b e) fun q hq => by
    obtain ⟨f1, f2, f3⟩ := s.inq ⟨b, e, hq⟩
    exact ⟨fun o h => kH q o f2 h, nF q f1 f3, nA q f2 f3⟩
  ne := s.ne
  nn := s.nn
  pr := fun a o e => by
    obtain ⟨h1, h2, h3⟩ := s.pr a o e
    exact ⟨kH a o h2 h1, nA a h2 (by rw [h1]; exact fun z => nomatch z), h3⟩
/-- a new object -/
structure New (B : Bs) (F A : Hp) (E : List Bd) (σ : St) (H : Hp) (p : Addr) (o : HO) : Prop where
  at_ : H p = some o
  f : F p = none
  a : A p = none
  ne : ∀ i, ¬ Own E σ i p
  ni : ∀ i, ¬ Inn E i p
  ps : p ∉ B.ps
  P : B.P p = none
theorem Same.upd {H : Hp} {p : Addr} {o : HO} (h : H p = none) : Same H (upd H p o) := fun b x e => by
  rw [upd_ne (ne_of_none e h)]
  exact e
theorem Sta.alloc (s : Sta g B F A E σ H) {p : Addr} {o : HO} (h : H p = none) : Sta g B F A E σ (upd H p o) ∧ New B F A E σ (upd H p o) p o := by
  have hA : A p = none := s.ah.free h
  have hF : F p = none := s.fa.free hA
  refine ⟨s.grow (Same.refl _) s.fa (Same.refl _) (s.ah.trans (Same.upd h)) (fun _ e _ => e) (fun _ e _ => e) (fun a u _ e => by rw [upd_ne (ne_of_none e h)]; exact e), upd_same, hF, hA, fun i q => ?_, fun i q => (s.inq q).2.2 h, fun q => (s.inn p q).1 h, ?_⟩
  · obtain ⟨_, _, vs, e⟩ := s.own q
    rw [h] at e; cases e
  · cases e : B.P p with
    | none => rfl
    | some u => have := (s.pr p u e).1; rw [h] at this; cases this
/-- it is frozen -/
theorem Sta.keep (s : Sta g B F A E σ H) {p : Addr} {o : HO} (n : New B F A E σ H p o) : ∃ F' A', Sta g B F' A' E σ H ∧ Same F F' ∧ Same A A' ∧ F' p = some o := by
  refine ⟨upd F p o, upd A p o, ?_, Same.upd n.f, Same.upd n.a, upd_same⟩
  have k1 : ∀ a, a ≠ p → (upd F p o) a = F a := fun a h => upd_ne h
  have k2 : ∀ a, a ≠ p → (upd A p o) a = A a := fun a h => upd_ne h
  refine ⟨s.len, fun a u e => ?_, fun a u e => ?_, s.f0.trans (Same.upd n.f), s.a0.trans (Same.upd n.a), fun a h1 h2 => ?_, fun a h => ⟨(s.inn a h).1, ?_⟩, fun i b e => ?_, s.ne, fun a u e => ?_, s.nn⟩
  · by_cases h : a = p
    · subst h; rw [upd_same] at e ⊢; exact e
    · rw [k1 a h] at e; rw [k2 a h]; exact s.fa _ _ e
  · by_cases h : a = p
    · subst h; rw [upd_same] at e; cases e; exact n.at_
    · rw [k2 a h] at e; exact s.ah _ _ e
  · by_cases h : a = p
    · subst h
      rcases h2 with h2 | h2
      · cases e : B.A0 a with
        | none => exact absurd e h2
        | some u => have := s.a0 _ _ e; rw [n.a] at this; cases this
      · exact absurd h2 n.ps
    · rw [k1 a h]; exact s.fr a h1 h2
  · rw [k2 a (fun z => n.ps (z ▸ h))]; exact (s.inn a h).2
  · refine SlotOk.mono (Same.upd n.f) (Same.upd n.a) (fun q e1 h => ?_) (s.sl i b e) fun q h => ?_
    · have o' : Own E σ i q := ⟨e1, _, e, h⟩
      have hq : q ≠ p := fun z => n.ne i (z ▸ o')
      obtain ⟨f1, f2, _⟩ := s.own o'
      exact ⟨fun _ h => h, by rw [k1 q hq]; exact f1, by rw [k2 q hq]; exact f2⟩
    · have o' : Inn E i q := ⟨_, e, h⟩
      have hq : q ≠ p := fun z => n.ni i (z ▸ o')
      obtain ⟨f1, f2, _⟩ := s.inq o'
      exact ⟨fun _ h => h, by rw [k1 q hq]; exact f1, by rw [k2 q hq]; exact f2⟩
  · obtain ⟨h1, h2, h3⟩ := s.pr a u e
    refine ⟨h1, ?_, h3⟩
    rw [k2 a (fun z => by rw [z, n.P] at e; cases e)]; exact h2
/-- a slot gets a value -/
theorem own_set {i j : Nat} {b : Bd} {v : V} {p : Addr} (h : Own (E.set i b) (σ.set i (some v)) j p) : (j = i ∧ v = .ref p ∧ b.isO) ∨ (j ≠ i ∧ Own E σ j p) := by
  obtain ⟨h1, c, h2, h3⟩ := h
  by_cases hj : j = i
  · subst hj
    left
    have hl : j < σ.length := by
      have := (List.getElem?_eq_some_iff.mp h1).1
      simpa using this
    rw [List.getElem?_set_self hl] at h1
    refine ⟨rfl, by simpa using h1, ?_⟩
    by_cases hE : j < E.length
    · rw [List.getElem?_set_self hE] at h2
      cases h2
      exact h3
    · rw [List.getElem?_eq_none (by simpa using hE)] at h2; cases h2
  · right
    rw [List.getElem?_set_ne (Ne.symm hj)] at h1 h2
    exact ⟨hj, h1, c, h2, h3⟩
theorem inn_set {i j : Nat} {b : Bd} {q : Addr} (h : Inn (E.set i b) j q) : (j = i ∧ q ∈ b.qs) ∨ (j ≠ i ∧ Inn E j q) := by
  obtain ⟨c, h2, h3⟩ := h
  by_cases hj : j = i
  · subst hj
    left
    refine ⟨rfl, ?_⟩
    by_cases hE : j < E.length
    · rw [List.getElem?_set_self hE] at h2
      cases h2
      exact h3
    · rw [List.getElem?_eq_none (by simpa using hE)] at h2; cases h2
  · right
    rw [List.getElem?_set_ne (Ne.symm hj)] at h2
    exact ⟨hj, c, h2, h3⟩
theorem Sta.setG (s : Sta g B F A E σ H) {i : Nat} {b : Bd} {v : V} (hb : SlotOk g F A H (some (some v)) b) (hn : ∀ p, v = .ref p → b.isO → (∀ j, j ≠ i → ¬ Own E σ j p) ∧ B.P p = none ∧ ∀ j, j ≠ i → ¬ Inn E j p) (hq : ∀ q ∈ b.qs, (∀ j, j ≠ i → ¬ Own E σ j q) ∧ (∀ j, j ≠ i → ¬ Inn E j q) ∧ q ∉ B.ps ∧ B.P q = none) (ho : b.isO → b.qs = []) : Sta g B F A (E.set i b) (σ.set i (some v)) H where
  len := by simpa using s.len
  fa := s.fa
  ah := s.ah
  f0 := s.f0
  a0 := s.a0
  fr := s.fr
  inn := s.inn
  sl := fun j c e => by
    by_cases hj : j = i
    · subst hj
      have hl : j < E.length := by
        have := (List.getElem?_eq_some_iff.mp e).1
        simpa using this
      rw [List.getElem?_set_self hl] at e
      rw [List.getElem?_set_self (by rw [← s.len]; exact hl)]
      cases e
      exact hb
    · rw [List.getElem?_set_ne (Ne.symm hj)] at e ⊢
      exact s.sl j c e
  ne := fun j k p h1 h2 => by
    rcases own_set h1 with ⟨e1, e2, e3⟩ | ⟨e1, e2⟩
    · rcases own_set h2 with ⟨f1, f2, f3⟩ | ⟨f1, f2⟩
      · rw [e1, f1]
      · exact absurd f2 ((hn p e2 e3).1 k f1)
    · rcases own_set h2 with ⟨f1, f2, f3⟩ | ⟨f1, f2⟩
      · exact absurd e2 ((hn p f2 f3).1 j e1)
      · exact s.ne j k p e2 f2
  nn := fun j q h => by
    rcases inn_set h with ⟨e1, e2⟩ | ⟨e1, e2⟩
    · obtain ⟨q1, q2, q3, q4⟩ := hq q e2
      refine ⟨fun k z => ?_, fun k z => ?_, q3, q4⟩
      · rcases own_set z with ⟨f1, f2, f3⟩ | ⟨f1, f2⟩
        · rw [ho f3] at e2; cases e2
        · exact q1 k f1 f2
      · rcases inn_set z with ⟨f1, f2⟩ | ⟨f1, f2⟩
        · rw [e1, f1]
        · exact absurd f2 (q2 k f1)
    · obtain ⟨q1, q2, q3, q4⟩ := s.nn j q e2
      refine ⟨fun k z => ?_, fun k z => ?_, q3, q4⟩
      · rcases own_set z with ⟨f1, f2, f3⟩ | ⟨f1, f2⟩
        · exact (hn q f2 f3).2.2 j e1 e2
        · exact q1 k f2
      · rcases inn_set z with ⟨f1, f2⟩ | ⟨f1, f2⟩
        · exact absurd e2 ((hq q f2).2.1 j e1)
        · exact q2 k f2
  pr := fun a o e => by
    obtain ⟨h1, h2, h3⟩ := s.pr a o e
    refine ⟨h1, h2, fun j q => ?_⟩
    rcases own_set q with ⟨e1, e2, e3⟩ | ⟨e1, e2⟩
    · have := (hn a e2 e3).2.1
      rw [e] at this; cases this
    · exact h3 j e2
theorem Sta.set (s : Sta g B F A E σ H) {i : Nat} {b : Bd} {v : V} (hb : SlotOk g F A H (some (some v)) b) (hn : ∀ p, v = .ref p → b.isO → (∀ j, j ≠ i → ¬ Own E σ j p) ∧ B.P p = none ∧ ∀ j, j ≠ i → ¬ Inn E j p) (hq : b.qs = []) : Sta g B F A (E.set i b) (σ.set i (some v)) H :=
  s.setG hb hn (fun q h => by rw [hq] at h; cases h) fun _ => hq
theorem Sta.setk {α : Type} [Rp α] (s : Sta g B F A E σ H) {i : Nat} {x : α} {v : V} (h : rp g F v x) : Sta g B F A (E.set i (.kp x)) (σ.set i (some v)) H := s.set ⟨v, rfl, h⟩ (fun _ _ z => z.elim) rfl
theorem Sta.setb {α : Type} [Rp α] (s : Sta g B F A E σ H) {i : Nat} {x : α} {v : V} (h : rp g A v x) : Sta g B F A (E.set i (.bo x)) (σ.set i (some v)) H := s.set ⟨v, rfl, h⟩ (fun _ _ z => z.elim) rfl
theorem Sta.seto {α : Type} [Rp α] (s : Sta g B F A E σ H) {i : Nat} {xs : List α} {p : Addr} {vs : List V} (n : New B F A E σ H p (.lst vs)) (h : rps g F vs xs) : Sta g B F A (E.set i (.ow xs)) (σ.set i (some (.ref p))) H :=
  s.set ⟨p, vs, rfl, n.at_, h, n.f, n.a⟩ (fun q e _ => by cases e; exact ⟨fun j _ => n.ne j, n.P, fun j _ => n.ni j⟩) rfl
/-- fewer is known -/
inductive Le : Bd → Bd → Prop
  | refl {b} : Le b b
  | un {b} : Le b .un
  | kb {α : Type} [Rp α] {x : α} : Le (.kp x) (.bo x)
  | kk {α β : Type} [Rp α] [Rp β] {x : α} {y : β} (h : ∀ (g : Gx) (F : Hp) (v : V), rp g F v x → rp g F v y) : Le (.kp x) (.kp y)
  | kkb {α β : Type} [Rp α] [Rp β] {x : α} {y : β} (h : ∀ (g : Gx) (F : Hp) (v : V), rp g F v x → rp g F v y) : Le (.kp x) (.bo y)
inductive LeE : List Bd → List Bd → Prop
  | nil : LeE [] []
  | cons {b c : Bd} {E E' : List Bd} : Le b c → LeE E E' → LeE (b :: E) (c :: E')
theorem LeE.refl : ∀ {E : List Bd}, LeE E E
  | [] => .nil
  | _ :: _ => .cons .refl LeE.refl
theorem LeE.length {E E' : List Bd} (h : LeE E E') : E.length = E'.length := by
  induction h with
  | nil => rfl
  | cons _ _ ih => rw [List.length_cons, List.length_cons, ih]
theorem LeE.get {E E' : List Bd} (h : LeE E E') : ∀ {i : Nat} {c : Bd}, E'[i]? = some c → ∃ b, E[i]? = some b ∧ Le b c := by
  induction h with
  | nil => intro i c e; simp at e
  | cons l _ ih =>
    intro i c e
    cases i with
    | zero => simp at e; subst e; exact ⟨_, rfl, l⟩
    | succ i => simpa using ih (by simpa using e)
theorem Sta.weak (s : Sta g B F A E σ H) (l : LeE E E') : Sta g B F A E' σ H := by
  have back : ∀ i p, Own E' σ i p → Own E σ i p := fun i p h => by
    obtain ⟨h1, c, e, h2⟩ := h
    obtain ⟨b, e1, lb⟩ := l.get e
    cases lb with
    | refl => exact ⟨h1, _, e1, h2⟩
    | un => exact h2.elim
    | kb => exact h2.elim
    | kk _ => exact h2.elim
    | kkb _ => exact h2.elim
  have backI : ∀ i p, Inn E' i p → Inn E i p := fun i p h => by
    obtain ⟨c, e, h2⟩ := h
    obtain ⟨b, e1, lb⟩ := l.get e
    cases lb with
    | refl => exact ⟨_, e1, h2⟩
    | un => cases h2
    | kb => cases h2
    | kk _ => cases h2
    | kkb _ => cases h2
  refine ⟨l.length.symm.trans s.len, s.fa, s.ah, s.f0, s.a0, s.fr, s.inn, fun i c e => ?_, fun i j p h1 h2 => s.ne i j p (back i p h1) (back j p h2), fun a o e => ?_, fun i q h => ?_⟩
  · obtain ⟨b, e1, lb⟩ := l.get e
    have q := s.sl i b e1
    cases lb with
    | refl => exact q
    | un => trivial
    | kb => obtain ⟨v, e, r⟩ := q; exact ⟨v, e, Rp.mono s.fa r⟩
    | kk h => obtain ⟨v, e, r⟩ := q; exact ⟨v, e, h _ _ _ r⟩
    | kkb h => obtain ⟨v, e, r⟩ := q; exact ⟨v, e, Rp.mono s.fa (h _ _ _ r)⟩
  · obtain ⟨h1, h2, h3⟩ := s.pr a o e
    exact ⟨h1, h2, fun i q => h3 i (back i a q)⟩
  · obtain ⟨h1, h2, h3, h4⟩ := s.nn i q (backI i q h)
    exact ⟨fun j z => h1 j (back j q z), fun j z => h2 j (backI j q z), h3, h4⟩
/-- an owned list becomes frozen -/
theorem Sta.freeze {α : Type} [Rp α] (s : Sta g B F A E σ H) {i : Nat} {xs : List α} (e : E[i]? = some (.ow xs)) (hps : ∀ p, σ[i]? = some (some (.ref p)) → p ∉ B.ps) : ∃ F' A', Sta g B F' A' (E.set i (.kp xs)) σ H ∧ Same F F' ∧ Same A A' := by
  obtain ⟨p, vs, e1, e2, r, e3, e4⟩ := s.sl i _ e
  have ow : Own E σ i p := ⟨e1, _, e, trivial⟩
  have hs : σ.set i (some (.ref p)) = σ := by
    apply List.ext_getElem?
    intro j
    by_cases h : j = i
    · subst h
      rw [List.getElem?_set_self (List.getElem?_eq_some_iff.mp e1).1, e1]
    · rw [List.getElem?_set_ne (Ne.symm h)]
  have su : Sta g B F A (E.set i .un) σ H := by
    have := s.set (i := i) (b := .un) (v := .ref p) trivial (fun _ _ z => z.elim) rfl
    rwa [hs] at this
  have n : New B F A (E.set i .un) σ H p (.lst vs) := by
    refine ⟨e2, e3, e4, fun j q => ?_, fun j q => ?_, hps p e1, ?_⟩
    rotate_left
    · rcases inn_set q with ⟨_, z⟩ | ⟨h1, h2⟩
      · cases z
      · exact (s.nn j p h2).1 i ow
    rotate_left
    · rw [← hs] at q
      rcases own_set q with ⟨_, _, z⟩ | ⟨h1, h2⟩
      · exact z
      · exact h1 (s.ne j i p h2 ow)
    · cases z : B.P p with
      | none => rfl
      | some u => exact absurd ow ((s.pr p u z).2.2 i)
  obtain ⟨F', A', s', hF, hA, hp⟩ := su.keep n
  refine ⟨F', A', ?_, hF, hA⟩
  have := s'.set (i := i) (b := .kp xs) (v := .ref p) ⟨.ref p, rfl, p, vs, rfl, hp, rps_mono hF r⟩ (fun _ _ z => z.elim) rfl
  rwa [hs, List.set_set] at this
end
end Gn
/-! Gn: outcomes, expressions. -/
namespace Gn
open PySem L2
open Rp (rp)

/-! ### outcomes -/
inductive R (α : Type) where
  | ok (a : α) | ex (c : Str) (d : D) | bad
inductive Stp (S ρ : Type) where
  | go (s : S) | brk (s : S) | ret (r : ρ)
def R.bind {α β : Type} (m : R α) (f : α → R β) : R β := match m with
  | .ok a => f a
  | .ex c d => .ex c d
  | .bad => .bad
/-- a part that may be undefined -/
def ob {α β : Type} (o : Option α) (f : α → R β) : R β := match o with
  | some a => f a
  | none => .bad
def gd {β : Type} (c : Bool) (m : R β) : R β := if c = true then m else .bad
def loopR {α S ρ : Type} : List α → S → (α → S → R (Stp S ρ)) → R (Stp S ρ)
  | [], s, _ => .ok (.go s)
  | x :: xs, s, f => match f x s with
    | .ok (.go s') => loopR xs s' f
    | r => r
def foldR {α S : Type} : List α → S → (α → S → R S) → R S
  | [], s, _ => .ok s
  | x :: xs, s, f => (f x s).bind fun s' => foldR xs s' f
def whileR {S ρ : Type} (c : S → R Bool) (f : S → R (Stp S ρ)) : Nat → S → R (Stp S ρ)
  | 0, _ => .bad
  | n + 1, s => (c s).bind fun b => if b = true then (match f s with
    | .ok (.go s') => whileR c f n s'
    | r => r) else .ok (.go s)
/-- what a comprehension gives: each item is left out or gives one; S is carried -/
def compR {α β S : Type} : List α → S → (α → S → R (Option β × S)) → R (List β × S)
  | [], s, _ => .ok ([], s)
  | x :: xs, s, f => (f x s).bind fun r => (compR xs r.2 f).bind fun q => .ok ((match r.1 with | some y => y :: q.1 | none => q.1), q.2)
def mapR {α β : Type} : List α → (α → R β) → R (List β)
  | [], _ => .ok []
  | x :: xs, f => (f x).bind fun y => (mapR xs f).bind fun ys => .ok (y :: ys)
def filR {α β : Type} : List α → (α → R (Option β)) → R (List β)
  | [], _ => .ok []
  | x :: xs, f => (f x).bind fun y => (filR xs f).bind fun ys => .ok (match y with | some z => z :: ys | none => ys)
theorem bind_cases {α β : Type} {m : R α} {f : α → R β} {r : R β} (h : m.bind f = r) : (∃ a, m = .ok a ∧ f a = r) ∨ (∃ c d, m = .ex c d ∧ r = .ex c d) ∨ r = .bad := by
  cases m with
  | ok a => exact .inl ⟨a, rfl, h⟩
  | ex c d => exact .inr (.inl ⟨c, d, rfl, h.symm⟩)
  | bad => exact .inr (.inr h.symm)
theorem bind_ok {α β : Type} {m : R α} {f : α → R β} {b : β} (h : m.bind f = .ok b) : ∃ a, m = .ok a ∧ f a = .ok b := by
  cases m with
  | ok a => exact ⟨a, rfl, h⟩
  | ex c d => cases h
  | bad => cases h
theorem ob_ne {α β : Type} {o : Option α} {f : α → R β} {r : R β} (h : ob o f = r) (n : r ≠ .bad) : ∃ a, o = some a ∧ f a = r := by
  cases o with
  | some a => exact ⟨a, rfl, h⟩
  | none => exact absurd h.symm n
theorem gd_ne {β : Type} {c : Bool} {m r : R β} (h : gd c m = r) (n : r ≠ .bad) : c = true ∧ m = r := by
  unfold gd at h
  by_cases hc : c = true
  · rw [if_pos hc] at h; exact ⟨hc, h⟩
  · rw [if_neg hc] at h; exact absurd h.symm n
/-- never raises -/
theorem ok_ne {α : Type} {a : α} : (R.ok a) ≠ R.bad := fun h => nomatch h

/-! ### expressions -/
def Px (g : Gx) (B : Bs) (E E' : List Bd) (te : TE) {α : Type} [Rp α] (x : α) : Prop :=
  ∀ F A σ H, Sta g B F A E σ H → ∀ Q : VK, (∀ F' A' H' v, Sta g B F' A' E' σ H' → Same F F' → rp g F' v x → Q v H') → te σ H Q
def PxT (g : Gx) (B : Bs) (E E' : List Bd) (tt : TT) (b : Bool) : Prop :=
  ∀ F A σ H, Sta g B F A E σ H → ∀ Q : Bool → Hp → Prop, (∀ F' A' H', Sta g B F' A' E' σ H' → Same F F' → Q b H') → tt σ H Q
section
variable {g : Gx} {B : Bs} {E E1 E2 E3 E' : List Bd} {ta tb tc te : TE} {tt tu : TT} {α β γ : Type} [Rp α] [Rp β] [Rp γ]

theorem px_v {i : Nat} {x : α} (h : E[i]? = some (.kp x)) : Px g B E E (tVar i) x := fun F A σ H s Q k => by
  obtain ⟨v, e, r⟩ := s.sl i _ h
  exact ⟨v, e, k F A H v s (Same.refl _) r⟩
/-- values that lean on no heap -/
class At (α : Type) [Rp α] : Prop where
  any : ∀ {g : Gx} {H H' : Hp} {v : V} {x : α}, rp g H v x → rp g H' v x
instance : At Int := ⟨fun h => h⟩
instance : At Bool := ⟨fun h => h⟩
instance : At Unit := ⟨fun h => h⟩
instance : At Tx := ⟨fun h => h⟩
instance [At α] : At (Option α) := ⟨fun {g H H' v x} h => by
  cases x with
  | none => exact h
  | some y => exact At.any (α := α) (H := H) h⟩
theorem rps_any [At α] {H H' : Hp} : ∀ {vs : List V} {xs : List α}, rps g H vs xs → rps g H' vs xs
  | [], [], _ => trivial
  | _ :: _, _ :: _, h => ⟨At.any h.1, rps_any h.2⟩
  | [], _ :: _, h => h.elim
  | _ :: _, [], h => h.elim
theorem px_vb [At α] {i : Nat} {x : α} (h : E[i]? = some (.bo x)) : Px g B E E (tVar i) x := fun F A σ H s Q k => by
  obtain ⟨v, e, r⟩ := s.sl i _ h
  exact ⟨v, e, k F A H v s (Same.refl _) (At.any r)⟩
theorem px_int {n : Int} : Px g B E E (tC (.int n)) n := fun F A _ H s _ k => k F A H _ s (Same.refl _) rfl
theorem px_bl {b : Bool} : Px g B E E (tC (.bl b)) b := fun F A _ H s _ k => k F A H _ s (Same.refl _) rfl
theorem px_non : Px g B E E (tC .non) () := fun F A _ H s _ k => k F A H _ s (Same.refl _) rfl
theorem px_str {z : Str} {t : Tx} (e : z = Tx.s t) : Px g B E E (tC (.str z)) t := fun F A _ H s _ k => k F A H _ s (Same.refl _) (congrArg V.str e)
theorem px_some {x : α} (h : Px g B E E' te x) : Px g B E E' te (some x) := fun F A σ H s Q k => h F A σ H s Q fun F' A' H' v s' e r => k F' A' H' v s' e r
theorem px_none (h : Px g B E E' te ()) : Px g B E E' te (none : Option α) := fun F A σ H s Q k => h F A σ H s Q fun F' A' H' v s' e r => k F' A' H' v s' e r
/-- an optional value that is there -/
theorem px_get {x : Option α} {y : α} (h : Px g B E E' te x) (e : x = some y) : Px g B E E' te y := fun F A σ H s Q k => h F A σ H s Q fun F' A' H' v s' f r => k F' A' H' v s' f (by subst e; exact r)
theorem px_eq {x y : α} (h : Px g B E E' te x) (e : x = y) : Px g B E E' te y := e ▸ h
theorem px_d [ToD α] {x : α} (h : Px g B E E' te x) : Px g B E E' te (ToD.d x) := fun F A σ H s Q k => h F A σ H s Q fun F' A' H' v s' e r => k F' A' H' v s' e (ToD.ok r)
theorem px_weak {x : α} (l : LeE E1 E) (h : Px g B E E' te x) : Px g B E1 E' te x := fun F A σ H s Q k => h F A σ H (s.weak l) Q k

/-- a two-place operation on values -/
def R2x (g : Gx) (B : Bs) (E : List Bd) (r : R2) (x : α) (y : β) (z : γ) : Prop :=
  ∀ F A σ H v w, Sta g B F A E σ H → rp g F v x → rp g F w y → ∀ Q : VK, (∀ F' A' H' u, Sta g B F' A' E σ H' → Same F F' → rp g F' u z → Q u H') → r v w H Q
/-- .. that only reads its first operand -/
def R2h (g : Gx) (B : Bs) (E : List Bd) (r : R2) (x : α) (y : β) (z : γ) : Prop :=
  ∀ F A σ H v w, Sta g B F A E σ H → rp g H v x → rp g F w y → ∀ Q : VK, (∀ F' A' H' u, Sta g B F' A' E σ H' → Same F F' → rp g F' u z → Q u H') → r v w H Q
theorem R2h.x {r : R2} {x : α} {y : β} {z : γ} (h : R2h g B E r x y z) : R2x g B E r x y z := fun F A σ H v w s rx ry Q k => h F A σ H v w s (Rp.mono (s.fa.trans s.ah) rx) ry Q k
theorem px_op {r : R2} {x : α} {y : β} {z : γ} (ha : Px g B E E1 ta x) (hb : Px g B E1 E2 tb y) (hr : R2x g B E2 r x y z) : Px g B E E2 (tOp r ta tb) z := fun F A σ H s Q k =>
  ha F A σ H s _ fun F1 A1 H1 v s1 e1 rv => hb F1 A1 σ H1 s1 _ fun F2 A2 H2 w s2 e2 rw => hr F2 A2 σ H2 v w s2 (Rp.mono e2 rv) rw Q fun F3 A3 H3 u s3 e3 ru => k F3 A3 H3 u s3 ((e1.trans e2).trans e3) ru
/-- a slot that can be read -/
inductive Rd1 : {α : Type} → [Rp α] → Bd → α → Prop
  | kp {α : Type} [Rp α] {x : α} : Rd1 (.kp x) x
  | bo {α : Type} [Rp α] {x : α} : Rd1 (.bo x) x
  | ow {α : Type} [Rp α] {xs : List α} : Rd1 (.ow xs) xs
  | io {α : Type} [Rp α] {p : Addr} {xs : List α} : Rd1 (.io p xs) xs
theorem Rd1.at {x : α} {b : Bd} (h : Rd1 b x) {F A H : Hp} {o : Option (Option V)} (fa : Same F A) (ah : Same A H) (q : SlotOk g F A H o b) : ∃ v, o = some (some v) ∧ rp g H v x := by
  cases h with
  | kp => obtain ⟨v, e, r⟩ := q; exact ⟨v, e, Rp.mono (fa.trans ah) r⟩
  | bo => obtain ⟨v, e, r⟩ := q; exact ⟨v, e, Rp.mono ah r⟩
  | ow => obtain ⟨p, vs, e, e2, r, _⟩ := q; exact ⟨.ref p, e, p, vs, rfl, e2, rps_mono (fa.trans ah) r⟩
  | io => obtain ⟨vs, e, e2, r, _⟩ := q; exact ⟨.ref _, e, _, vs, rfl, e2, rps_mono (fa.trans ah) r⟩
/-- the first operand is a slot -/
theorem px_opV {r : R2} {i : Nat} {b : Bd} {x : α} {y : β} {z : γ} (hb : Px g B E E2 tb y) (hi : E[i]? = some b) (hi2 : E2[i]? = some b) (h : Rd1 b x) (hr : R2h g B E2 r x y z) : Px g B E E2 (tOp r (tVar i) tb) z := fun F A σ H s Q k => by
  obtain ⟨v, e, _⟩ := h.at s.fa s.ah (s.sl i b hi)
  refine ⟨v, e, hb F A σ H s _ fun F2 A2 H2 w s2 e2 rw => ?_⟩
  obtain ⟨v', e', rv⟩ := h.at s2.fa s2.ah (s2.sl i b hi2)
  rw [e] at e'; cases e'
  exact hr F2 A2 σ H2 v w s2 rv rw Q fun F3 A3 H3 u s3 e3 ru => k F3 A3 H3 u s3 (e2.trans e3) ru
def R1x (g : Gx) (B : Bs) (E : List Bd) (r : V → Hp → VK → Prop) (x : α) (z : γ) : Prop :=
  ∀ F A σ H v, Sta g B F A E σ H → rp g F v x → ∀ Q : VK, (∀ F' A' H' u, Sta g B F' A' E σ H' → Same F F' → rp g F' u z → Q u H') → r v H Q
def R1h (g : Gx) (B : Bs) (E : List Bd) (r : V → Hp → VK → Prop) (x : α) (z : γ) : Prop :=
  ∀ F A σ H v, Sta g B F A E σ H → rp g H v x → ∀ Q : VK, (∀ F' A' H' u, Sta g B F' A' E σ H' → Same F F' → rp g F' u z → Q u H') → r v H Q
theorem R1h.x {r : V → Hp → VK → Prop} {x : α} {z : γ} (h : R1h g B E r x z) : R1x g B E r x z := fun F A σ H v s rx Q k => h F A σ H v s (Rp.mono (s.fa.trans s.ah) rx) Q k
theorem px_un {r : V → Hp → VK → Prop} {x : α} {z : γ} (ha : Px g B E E1 ta x) (hr : R1x g B E1 r x z) : Px g B E E1 (tUn r ta) z := fun F A σ H s Q k =>
  ha F A σ H s _ fun F1 A1 H1 v s1 e1 rv => hr F1 A1 σ H1 v s1 rv Q fun F3 A3 H3 u s3 e3 ru => k F3 A3 H3 u s3 (e1.trans e3) ru
/-- a built-in of one argument -/
theorem px_cb1 {r : List V → Hp → VK → Prop} {x : α} {z : γ} (ha : Px g B E E1 ta x) (hr : R1x g B E1 (fun v => r [v]) x z) : Px g B E E1 (tCB r (tCons ta tNil)) z := fun F A σ H s Q k =>
  ha F A σ H s _ fun F1 A1 H1 v s1 e1 rv => hr F1 A1 σ H1 v s1 rv Q fun F3 A3 H3 u s3 e3 ru => k F3 A3 H3 u s3 (e1.trans e3) ru
theorem px_cb1V {r : List V → Hp → VK → Prop} {i : Nat} {b : Bd} {x : α} {z : γ} (hi : E[i]? = some b) (h : Rd1 b x) (hr : R1h g B E (fun v => r [v]) x z) : Px g B E E (tCB r (tCons (tVar i) tNil)) z := fun F A σ H s Q k => by
  obtain ⟨v, e, rv⟩ := h.at s.fa s.ah (s.sl i b hi)
  exact ⟨v, e, hr F A σ H v s rv Q fun F3 A3 H3 u s3 e3 ru => k F3 A3 H3 u s3 e3 ru⟩
theorem px_cb2 {r : List V → Hp → VK → Prop} {x : α} {y : β} {z : γ} (ha : Px g B E E1 ta x) (hb : Px g B E1 E2 tb y) (hr : R2x g B E2 (fun v w => r [v, w]) x y z) : Px g B E E2 (tCB r (tCons ta (tCons tb tNil))) z := fun F A σ H s Q k =>
  ha F A σ H s _ fun F1 A1 H1 v s1 e1 rv => hb F1 A1 σ H1 s1 _ fun F2 A2 H2 w s2 e2 rw => hr F2 A2 σ H2 v w s2 (Rp.mono e2 rv) rw Q fun F3 A3 H3 u s3 e3 ru => k F3 A3 H3 u s3 ((e1.trans e2).trans e3) ru

/-! ints -/
theorem r2_I0 {f : Int → Int → γ} {k : Int → Int → V} {i j : Int} (h : ∀ H, rp g H (k i j) (f i j)) : R2x g B E (rI0 k) i j (f i j) := fun F A σ H v w s rv rw Q q => by
  have rv : v = .int i := rv
  have rw : w = .int j := rw
  subst rv; subst rw
  exact ⟨i, j, rfl, rfl, q F A H _ s (Same.refl _) (h F)⟩
theorem r2_I {C : Int → Int → Prop} {f : Int → Int → γ} {k : Int → Int → V} {i j : Int} (hc : C i j) (h : ∀ H, rp g H (k i j) (f i j)) : R2x g B E (rI C k) i j (f i j) := fun F A σ H v w s rv rw Q q => by
  have rv : v = .int i := rv
  have rw : w = .int j := rw
  subst rv; subst rw
  exact ⟨i, j, rfl, rfl, hc, q F A H _ s (Same.refl _) (h F)⟩
theorem r2_add {i j : Int} : R2x g B E (rI0 fun i j => .int (i + j)) i j (i + j) := r2_I0 (f := fun i j => i + j) fun _ => rfl
theorem r2_sub {i j : Int} : R2x g B E (rI0 fun i j => .int (i - j)) i j (i - j) := r2_I0 (f := fun i j => i - j) fun _ => rfl
theorem r2_lt {i j : Int} : R2x g B E (rI0 fun i j => .bl (decide (i < j))) i j (decide (i < j)) := r2_I0 (f := fun i j => decide (i < j)) fun _ => rfl
theorem r2_le {i j : Int} : R2x g B E (rI0 fun i j => .bl (decide (i ≤ j))) i j (decide (i ≤ j)) := r2_I0 (f := fun i j => decide (i ≤ j)) fun _ => rfl
theorem r2_gt {i j : Int} : R2x g B E (rI0 fun i j => .bl (decide (j < i))) i j (decide (j < i)) := r2_I0 (f := fun i j => decide (j < i)) fun _ => rfl
theorem r2_ge {i j : Int} : R2x g B E (rI0 fun i j => .bl (decide (j ≤ i))) i j (decide (j ≤ i)) := r2_I0 (f := fun i j => decide (j ≤ i)) fun _ => rfl
/-- one factor is small -/
def mulOk (i j : Int) : Bool := (decide (-(2 ^ 64) < i) && decide (i < 2 ^ 64)) || (decide (-(2 ^ 64) < j) && decide (j < 2 ^ 64))
theorem r2_mul {i j : Int} (h : mulOk i j = true) : R2x g B E (rI CMul fun i j => .int (i * j)) i j (i * j) := r2_I (f := fun i j => i * j) (by
  unfold mulOk at h
  simp only [Bool.or_eq_true, Bool.and_eq_true, decide_eq_true_eq] at h
  exact h) fun _ => rfl
def divOk (j : Int) : Bool := decide (0 < j) && decide (j < 1073741824)
theorem r2_div {i j : Int} (h : divOk j = true) : R2x g B E (rI CDiv fun i j => .int (i / j)) i j (i / j) := r2_I (f := fun i j => i / j) (by
  unfold divOk at h
  simp only [Bool.and_eq_true, decide_eq_true_eq] at h
  exact h) fun _ => rfl
theorem r2_mod {i j : Int} (h : decide (0 < j) = true) : R2x g B E (rI (fun _ j => 0 < j) fun i j => .int (i % j)) i j (i % j) := r2_I (f := fun i j => i % j) (of_decide_eq_true h) fun _ => rfl
theorem r2_pow {i j : Int} (h : (decide (0 ≤ j) && decide (j ≤ 1000000) && decide (i.natAbs < 2 ^ 64)) = true) : R2x g B E (rI CPow fun i j => .int (i ^ j.toNat)) i j (i ^ j.toNat) := r2_I (f := fun i j => i ^ j.toNat) (by
  simp only [Bool.and_eq_true, decide_eq_true_eq] at h
  exact ⟨h.1.1, h.1.2, h.2⟩) fun _ => rfl
theorem r1_neg {i : Int} : R1x g B E (rU fun i => .int (-i)) i (-i) := fun F A σ H v s rv Q q => by
  have rv : v = .int i := rv
  subst rv
  exact ⟨i, rfl, q F A H _ s (Same.refl _) rfl⟩

/-! equality of flat things -/
class Fl (α : Type) [Rp α] [DecidableEq α] : Prop where
  eq : ∀ {g : Gx} {H H' : Hp} {v w : V} {x y : α}, rp g H v x → rp g H' w y → (v = w ↔ x = y) ∧ scal v w = true
instance : Fl Int := ⟨fun {g H H' v w x y} h h' => by
  have h : v = .int x := h
  have h' : w = .int y := h'
  subst h; subst h'
  exact ⟨⟨fun e => V.int.inj e, fun e => e ▸ rfl⟩, rfl⟩⟩
instance : Fl Bool := ⟨fun {g H H' v w x y} h h' => by
  have h : v = .bl x := h
  have h' : w = .bl y := h'
  subst h; subst h'
  exact ⟨⟨fun e => V.bl.inj e, fun e => e ▸ rfl⟩, rfl⟩⟩
instance : Fl Tx := ⟨fun {g H H' v w x y} h h' => by
  have h : v = .str (Tx.s x) := h
  have h' : w = .str (Tx.s y) := h'
  subst h; subst h'
  exact ⟨⟨fun e => Tx.s_inj (V.str.inj e), fun e => e ▸ rfl⟩, rfl⟩⟩
theorem r2_eq [DecidableEq α] [Fl α] {x y : α} : R2x g B E rEq x y (decide (x = y)) := fun F A σ H v w s rv rw Q q => by
  obtain ⟨e, c⟩ := Fl.eq rv rw
  exact ⟨c, q F A H _ s (Same.refl _) (by show V.bl _ = V.bl _; rw [decide_eq_decide.mpr e])⟩
theorem r2_ne [DecidableEq α] [Fl α] {x y : α} : R2x g B E rNe x y (!decide (x = y)) := fun F A σ H v w s rv rw Q q => by
  obtain ⟨e, c⟩ := Fl.eq rv rw
  exact ⟨c, q F A H _ s (Same.refl _) (by show V.bl _ = V.bl _; rw [decide_eq_decide.mpr e])⟩
theorem px_isN {x : Option α} (hx : ∀ {H : Hp} {v : V} {y : α}, rp g H v y → v ≠ .non) (h : Px g B E E1 ta x) : Px g B E E1 (tIsN ta) x.isNone := fun F A σ H s Q k =>
  h F A σ H s _ fun F' A' H' v s' e r => k F' A' H' _ s' e (by
    cases x with
    | none =>
      have r : v = .non := r
      subst r; rfl
    | some y =>
      show V.bl _ = V.bl false
      rw [decide_eq_false (hx r)])
theorem px_notN {x : Option α} (hx : ∀ {H : Hp} {v : V} {y : α}, rp g H v y → v ≠ .non) (h : Px g B E E1 ta x) : Px g B E E1 (tNotN ta) x.isSome := fun F A σ H s Q k =>
  h F A σ H s _ fun F' A' H' v s' e r => k F' A' H' _ s' e (by
    cases x with
    | none =>
      have r : v = .non := r
      subst r; rfl
    | some y =>
      show V.bl _ = V.bl true
      rw [decide_eq_false (hx r)]; rfl)
theorem nn_int {H : Hp} {v : V} {y : Int} (h : rp g H v y) : v ≠ .non := by
  have h : v = .int y := h
  subst h; exact fun z => nomatch z
theorem nn_bl {H : Hp} {v : V} {y : Bool} (h : rp g H v y) : v ≠ .non := by
  have h : v = .bl y := h
  subst h; exact fun z => nomatch z
theorem nn_tx {H : Hp} {v : V} {y : Tx} (h : rp g H v y) : v ≠ .non := by
  have h : v = .str (Tx.s y) := h
  subst h; exact fun z => nomatch z
theorem nn_lst {H : Hp} {v : V} {y : List α} (h : rp g H v y) : v ≠ .non := by
  obtain ⟨p, _, h, _⟩ := h
  subst h; exact fun z => nomatch z
theorem nn_prod {H : Hp} {v : V} {y : α × β} (h : rp g H v y) : v ≠ .non := by
  obtain ⟨p, _, _, h, _⟩ := h
  subst h; exact fun z => nomatch z

/-! and, or, not, tests -/
theorem px_and {x y : Bool} (ha : Px g B E E1 ta x) (hb : x = true → Px g B E1 E2 tb y) (hn : x = false → E1 = E2) : Px g B E E2 (tAndV ta tb) (x && y) := fun F A σ H s Q k =>
  ha F A σ H s _ fun F1 A1 H1 v s1 e1 rv => by
    have rv : v = .bl x := rv
    subst rv
    refine ⟨x, rfl, ?_⟩
    cases x with
    | true => exact iteT (hb rfl F1 A1 σ H1 s1 Q fun F2 A2 H2 v s2 e2 r => k F2 A2 H2 v s2 (e1.trans e2) r)
    | false => exact iteF (k F1 A1 H1 _ (hn rfl ▸ s1) e1 rfl)
theorem px_or {x y : Bool} (ha : Px g B E E1 ta x) (hb : x = false → Px g B E1 E2 tb y) (hn : x = true → E1 = E2) : Px g B E E2 (tOrV ta tb) (x || y) := fun F A σ H s Q k =>
  ha F A σ H s _ fun F1 A1 H1 v s1 e1 rv => by
    have rv : v = .bl x := rv
    subst rv
    refine ⟨x, rfl, ?_⟩
    cases x with
    | false => exact iteF (hb rfl F1 A1 σ H1 s1 Q fun F2 A2 H2 v s2 e2 r => k F2 A2 H2 v s2 (e1.trans e2) r)
    | true => exact iteT (k F1 A1 H1 _ (hn rfl ▸ s1) e1 rfl)
theorem px_not {x : Bool} (ha : Px g B E E1 ta x) : Px g B E E1 (tNotV ta) (!x) := fun F A σ H s Q k =>
  ha F A σ H s _ fun F1 A1 H1 v s1 e1 rv => by
    have rv : v = .bl x := rv
    subst rv
    exact ⟨x, rfl, k F1 A1 H1 _ s1 e1 rfl⟩
theorem pt_test {x : Bool} (h : Px g B E E1 te x) : PxT g B E E1 (tTest te) x := fun F A σ H s Q k =>
  h F A σ H s _ fun F1 A1 H1 v s1 e1 rv => by
    have rv : v = .bl x := rv
    subst rv
    exact ⟨x, rfl, k F1 A1 H1 s1 e1⟩
theorem pt_B {x : Bool} (h : Px g B E E1 te x) : PxT g B E E1 (tB te) x := fun F A σ H s Q k =>
  h F A σ H s _ fun F1 A1 H1 v s1 e1 rv => by
    have rv : v = .bl x := rv
    subst rv
    exact ⟨x, rfl, k F1 A1 H1 s1 e1⟩
theorem pt_and {x y : Bool} (ha : PxT g B E E1 tt x) (hb : x = true → PxT g B E1 E2 tu y) (hn : x = false → E1 = E2) : PxT g B E E2 (tAnd tt tu) (x && y) := fun F A σ H s Q k =>
  ha F A σ H s _ fun F1 A1 H1 s1 e1 => by
    cases x with
    | true => exact iteT (hb rfl F1 A1 σ H1 s1 Q fun F2 A2 H2 s2 e2 => k F2 A2 H2 s2 (e1.trans e2))
    | false => exact iteF (k F1 A1 H1 (hn rfl ▸ s1) e1)
theorem pt_or {x y : Bool} (ha : PxT g B E E1 tt x) (hb : x = false → PxT g B E1 E2 tu y) (hn : x = true → E1 = E2) : PxT g B E E2 (tOr tt tu) (x || y) := fun F A σ H s Q k =>
  ha F A σ H s _ fun F1 A1 H1 s1 e1 => by
    cases x with
    | false => exact iteF (hb rfl F1 A1 σ H1 s1 Q fun F2 A2 H2 s2 e2 => k F2 A2 H2 s2 (e1.trans e2))
    | true => exact iteT (k F1 A1 H1 (hn rfl ▸ s1) e1)
theorem pt_not {x : Bool} (ha : PxT g B E E1 tt x) : PxT g B E E1 (tNot tt) (!x) := fun F A σ H s Q k =>
  ha F A σ H s _ fun F1 A1 H1 s1 e1 => k F1 A1 H1 s1 e1
theorem pt_eq {x y : Bool} (h : PxT g B E E1 tt x) (e : x = y) : PxT g B E E1 tt y := e ▸ h
theorem px_if {c : Bool} {x : α} (hc : PxT g B E E1 tt c) (ha : c = true → Px g B E1 E2 ta x) (hb : c = false → Px g B E1 E2 tb x) : Px g B E E2 (tIf tt ta tb) x := fun F A σ H s Q k =>
  hc F A σ H s _ fun F1 A1 H1 s1 e1 => by
    cases c with
    | true => exact iteT (ha rfl F1 A1 σ H1 s1 Q fun F2 A2 H2 v s2 e2 r => k F2 A2 H2 v s2 (e1.trans e2) r)
    | false => exact iteF (hb rfl F1 A1 σ H1 s1 Q fun F2 A2 H2 v s2 e2 r => k F2 A2 H2 v s2 (e1.trans e2) r)
/-- a < b <= c -/
theorem px_chain {r r' : R2} {x : α} {y : β} {z : γ} {b b' : Bool} (ha : Px g B E E1 ta x) (hb : Px g B E1 E2 tb y) (hr : R2x g B E2 r x y b) (hc : b = true → Px g B E2 E3 tc z) (hr' : b = true → R2x g B E3 r' y z b') (hn : b = false → E2 = E3) :
    Px g B E E3 (tChain r r' ta tb tc) (b && b') := fun F A σ H s Q k =>
  ha F A σ H s _ fun F1 A1 H1 v s1 e1 rv => hb F1 A1 σ H1 s1 _ fun F2 A2 H2 w s2 e2 rw => hr F2 A2 σ H2 v w s2 (Rp.mono e2 rv) rw _ fun F3 A3 H3 u s3 e3 ru => by
    have ru : u = .bl b := ru
    subst ru
    refine ⟨b, rfl, ?_⟩
    cases b with
    | true =>
      exact iteT (hc rfl F3 A3 σ H3 s3 _ fun F4 A4 H4 u s4 e4 ru => hr' rfl F4 A4 σ H4 w u s4 (Rp.mono (e3.trans e4) rw) ru Q fun F5 A5 H5 u s5 e5 r5 => k F5 A5 H5 u s5 ((((e1.trans e2).trans e3).trans e4).trans e5) r5)
    | false => exact iteF (k F3 A3 H3 _ (hn rfl ▸ s3) ((e1.trans e2).trans e3) rfl)
end
end Gn
/-! Gn: lists, tuples, texts. -/
namespace Gn
open PySem L2
open Rp (rp)

def rl {α : Type} [Rp α] (g : Gx) (F H : Hp) (v : V) (xs : List α) : Prop := ∃ p vs, v = .ref p ∧ H p = some (.lst vs) ∧ rps g F vs xs
/-- a list that is read: what it has is kept; it stands as long as st holds of the slots -/
def PxL (g : Gx) (B : Bs) (E E' : List Bd) (te : TE) {α : Type} [Rp α] (xs : List α) (st : List Bd → Prop) : Prop :=
  ∀ F A σ H, Sta g B F A E σ H → ∀ Q : VK, (∀ F' A' H' v, Sta g B F' A' E' σ H' → Same F F' → (∀ F2 A2 H2 E2, Sta g B F2 A2 E2 σ H2 → Same F' F2 → st E2 → rl g F2 H2 v xs) → Q v H') → te σ H Q
/-- a new list -/
def PxN (g : Gx) (B : Bs) (E E' : List Bd) (te : TE) {α : Type} [Rp α] (xs : List α) : Prop :=
  ∀ F A σ H, Sta g B F A E σ H → ∀ Q : VK, (∀ F' A' H' p vs, Sta g B F' A' E' σ H' → Same F F' → New B F' A' E' σ H' p (.lst vs) → rps g F' vs xs → Q (.ref p) H') → te σ H Q
/-- items of a display -/
def PxS (g : Gx) (B : Bs) (E E' : List Bd) (ta : TA) {α : Type} [Rp α] (xs : List α) : Prop :=
  ∀ F A σ H, Sta g B F A E σ H → ∀ Q : List V → Hp → Prop, (∀ F' A' H' vs, Sta g B F' A' E' σ H' → Same F F' → rps g F' vs xs → Q vs H') → ta σ H Q
/-- a part of a slice -/
def PxO (g : Gx) (B : Bs) (E E' : List Bd) (to : TO) (o : Option Int) : Prop :=
  ∀ F A σ H, Sta g B F A E σ H → ∀ Q : Option Int → Hp → Prop, (∀ F' A' H', Sta g B F' A' E' σ H' → Same F F' → Q o H') → to σ H Q
inductive RdL : {α : Type} → [Rp α] → Bd → List α → Prop
  | kp {α : Type} [Rp α] {xs : List α} : RdL (.kp xs) xs
  | bo {α : Type} [Rp α] [At α] {xs : List α} : RdL (.bo xs) xs
  | ow {α : Type} [Rp α] {xs : List α} : RdL (.ow xs) xs
  | io {α : Type} [Rp α] {p : Addr} {xs : List α} : RdL (.io p xs) xs
section
variable {g : Gx} {B : Bs} {E E1 E2 E3 E' : List Bd} {ta tb tc te : TE} {tt tu : TT} {α β γ : Type} [Rp α] [Rp β] [Rp γ]
theorem RdL.at {xs : List α} {b : Bd} (h : RdL b xs) {F A H : Hp} {o : Option (Option V)} (fa : Same F A) (ah : Same A H) (q : SlotOk g F A H o b) : ∃ v, o = some (some v) ∧ rl g F H v xs := by
  cases h with
  | kp => obtain ⟨v, e, p, vs, r1, r2, r3⟩ := q; exact ⟨v, e, p, vs, r1, ah _ _ (fa _ _ r2), r3⟩
  | bo => obtain ⟨v, e, p, vs, r1, r2, r3⟩ := q; exact ⟨v, e, p, vs, r1, ah _ _ r2, rps_any r3⟩
  | ow => obtain ⟨p, vs, e, e2, r, _⟩ := q; exact ⟨.ref p, e, p, vs, rfl, e2, r⟩
  | io => obtain ⟨vs, e, e2, r, _⟩ := q; exact ⟨.ref _, e, _, vs, rfl, e2, r⟩
theorem pl_k {xs : List α} (h : Px g B E E' te xs) : PxL g B E E' te xs (fun _ => True) := fun F A σ H s Q k => h F A σ H s Q fun F' A' H' v s' e r => k F' A' H' v s' e fun F2 A2 H2 E2 s2 e2 _ => by
  obtain ⟨p, vs, r1, r2, r3⟩ := r
  exact ⟨p, vs, r1, s2.ah _ _ (s2.fa _ _ (e2 _ _ r2)), rps_mono e2 r3⟩
theorem pl_s {i : Nat} {b : Bd} {xs : List α} (hi : E[i]? = some b) (h : RdL b xs) : PxL g B E E (tVar i) xs (fun E2 => E2[i]? = some b) := fun F A σ H s Q k => by
  obtain ⟨v, e, _⟩ := h.at s.fa s.ah (s.sl i b hi)
  refine ⟨v, e, k F A H v s (Same.refl _) fun F2 A2 H2 E2 s2 e2 hb => ?_⟩
  obtain ⟨v', e', rv⟩ := h.at s2.fa s2.ah (s2.sl i b hb)
  rw [e] at e'; cases e'
  exact rv
theorem PxN.px {xs : List α} (h : PxN g B E E' te xs) : Px g B E E' te xs := fun F A σ H s Q k => h F A σ H s Q fun F' A' H' p vs s' e n r => by
  obtain ⟨F2, A2, s2, hF, hA, hp⟩ := s'.keep n
  exact k F2 A2 H' _ s2 (e.trans hF) ⟨p, vs, rfl, hp, rps_mono hF r⟩
theorem PxN.l {xs : List α} (h : PxN g B E E' te xs) : PxL g B E E' te xs (fun _ => True) := pl_k h.px
/-- a new list laid -/
theorem new_of {F F' A' H' : Hp} {σ : St} {vs : List V} {xs : List α} {Q : VK} (s : Sta g B F' A' E σ H') (e : Same F F') (r : rps g F' vs xs) (k : ∀ F' A' H' p vs, Sta g B F' A' E σ H' → Same F F' → New B F' A' E σ H' p (.lst vs) → rps g F' vs xs → Q (.ref p) H') :
    ∀ p, H' p = none → Q (.ref p) (upd H' p (.lst vs)) := fun p hp => by
  obtain ⟨s2, n⟩ := s.alloc (o := .lst vs) hp
  exact k _ _ _ p vs s2 e n r
/-! displays -/
theorem ps_nil : PxS g B E E tNil ([] : List α) := fun F A σ H s Q k => k F A H [] s (Same.refl _) trivial
theorem ps_cons {tr : TA} {x : α} {xs : List α} (h : Px g B E E1 te x) (hr : PxS g B E1 E2 tr xs) : PxS g B E E2 (tCons te tr) (x :: xs) := fun F A σ H s Q k =>
  h F A σ H s _ fun F1 A1 H1 v s1 e1 r1 => hr F1 A1 σ H1 s1 _ fun F2 A2 H2 vs s2 e2 r2 => k F2 A2 H2 (v :: vs) s2 (e1.trans e2) ⟨Rp.mono e2 r1, r2⟩
theorem pn_lst {t : TA} {xs : List α} (h : PxS g B E E1 t xs) (hl : xs.length ≤ 1000) : PxN g B E E1 (tLst t) xs := fun F A σ H s Q k =>
  h F A σ H s _ fun F1 A1 H1 vs s1 e1 r1 => ⟨by rw [rps_len r1]; exact Nat.le_trans hl (by decide), new_of s1 e1 r1 k⟩
theorem px_tup2 {x : α} {y : β} (ha : Px g B E E1 ta x) (hb : Px g B E1 E2 tb y) : Px g B E E2 (tTup (tCons ta (tCons tb tNil))) (x, y) := fun F A σ H s Q k =>
  ha F A σ H s _ fun F1 A1 H1 v s1 e1 rv => hb F1 A1 σ H1 s1 _ fun F2 A2 H2 w s2 e2 rw => ⟨by show 2 ≤ sizeLine; decide, fun p hp => by
    obtain ⟨s3, n⟩ := s2.alloc (o := .tup [v, w]) hp
    obtain ⟨F4, A4, s4, hF, hA, hp4⟩ := s3.keep n
    exact k F4 A4 _ _ s4 ((e1.trans e2).trans hF) ⟨p, v, w, rfl, hp4, Rp.mono (e2.trans hF) rv, Rp.mono hF rw⟩⟩
theorem px_tup3 {δ : Type} [Rp δ] {td : TE} {x : α} {y : β} {z : γ} (ha : Px g B E E1 ta x) (hb : Px g B E1 E2 tb y) (hc : Px g B E2 E3 tc z) : Px g B E E3 (tTup (tCons ta (tCons tb (tCons tc tNil)))) (T3.mk x y z) := fun F A σ H s Q k =>
  ha F A σ H s _ fun F1 A1 H1 v s1 e1 rv => hb F1 A1 σ H1 s1 _ fun F2 A2 H2 w s2 e2 rw => hc F2 A2 σ H2 s2 _ fun F3 A3 H3 u s3 e3 ru => ⟨by show 3 ≤ sizeLine; decide, fun p hp => by
    obtain ⟨s4, n⟩ := s3.alloc (o := .tup [v, w, u]) hp
    obtain ⟨F5, A5, s5, hF, hA, hp5⟩ := s4.keep n
    exact k F5 A5 _ _ s5 (((e1.trans e2).trans e3).trans hF) ⟨p, v, w, u, rfl, hp5, Rp.mono ((e2.trans e3).trans hF) rv, Rp.mono (e3.trans hF) rw, Rp.mono hF ru⟩⟩
theorem px_tup4 {δ : Type} [Rp δ] {E4 : List Bd} {td : TE} {x : α} {y : β} {z : γ} {d : δ} (ha : Px g B E E1 ta x) (hb : Px g B E1 E2 tb y) (hc : Px g B E2 E3 tc z) (hd : Px g B E3 E4 td d) : Px g B E E4 (tTup (tCons ta (tCons tb (tCons tc (tCons td tNil))))) (T4.mk x y z d) := fun F A σ H s Q k =>
  ha F A σ H s _ fun F1 A1 H1 v s1 e1 rv => hb F1 A1 σ H1 s1 _ fun F2 A2 H2 w s2 e2 rw => hc F2 A2 σ H2 s2 _ fun F3 A3 H3 u s3 e3 ru => hd F3 A3 σ H3 s3 _ fun F4 A4 H4 t s4 e4 rt => ⟨by show 4 ≤ sizeLine; decide, fun p hp => by
    obtain ⟨s5, n⟩ := s4.alloc (o := .tup [v, w, u, t]) hp
    obtain ⟨F5, A5, s5, hF, hA, hp5⟩ := s5.keep n
    exact k F5 A5 _ _ s5 ((((e1.trans e2).trans e3).trans e4).trans hF) ⟨p, v, w, u, t, rfl, hp5, Rp.mono (((e2.trans e3).trans e4).trans hF) rv, Rp.mono ((e3.trans e4).trans hF) rw, Rp.mono (e4.trans hF) ru, Rp.mono hF rt⟩⟩
theorem px_tup5 {δ ε : Type} [Rp δ] [Rp ε] {E4 E5 : List Bd} {td tf : TE} {x : α} {y : β} {z : γ} {d : δ} {f : ε} (ha : Px g B E E1 ta x) (hb : Px g B E1 E2 tb y) (hc : Px g B E2 E3 tc z) (hd : Px g B E3 E4 td d) (hf : Px g B E4 E5 tf f) : Px g B E E5 (tTup (tCons ta (tCons tb (tCons tc (tCons td (tCons tf tNil)))))) (T5.mk x y z d f) := fun F A σ H s Q k =>
  ha F A σ H s _ fun F1 A1 H1 v s1 e1 rv => hb F1 A1 σ H1 s1 _ fun F2 A2 H2 w s2 e2 rw => hc F2 A2 σ H2 s2 _ fun F3 A3 H3 u s3 e3 ru => hd F3 A3 σ H3 s3 _ fun F4 A4 H4 t s4 e4 rt => hf F4 A4 σ H4 s4 _ fun F6 A6 H6 t' s6 e6 rt' => ⟨by show 5 ≤ sizeLine; decide, fun p hp => by
    obtain ⟨s5, n⟩ := s6.alloc (o := .tup [v, w, u, t, t']) hp
    obtain ⟨F5, A5, s5, hF, hA, hp5⟩ := s5.keep n
    exact k F5 A5 _ _ s5 (((((e1.trans e2).trans e3).trans e4).trans e6).trans hF) ⟨p, v, w, u, t, t', rfl, hp5, Rp.mono ((((e2.trans e3).trans e4).trans e6).trans hF) rv, Rp.mono (((e3.trans e4).trans e6).trans hF) rw, Rp.mono ((e4.trans e6).trans hF) ru, Rp.mono (e6.trans hF) rt, Rp.mono hF rt'⟩⟩
theorem px_tup6 {δ ε ζ : Type} [Rp δ] [Rp ε] [Rp ζ] {E4 E5 E6 : List Bd} {td tf tg : TE} {x : α} {y : β} {z : γ} {d : δ} {f : ε} {h : ζ} (ha : Px g B E E1 ta x) (hb : Px g B E1 E2 tb y) (hc : Px g B E2 E3 tc z) (hd : Px g B E3 E4 td d) (hf : Px g B E4 E5 tf f) (hh : Px g B E5 E6 tg h) : Px g B E E6 (tTup (tCons ta (tCons tb (tCons tc (tCons td (tCons tf (tCons tg tNil))))))) (T6.mk x y z d f h) := fun F A σ H s Q k =>
  ha F A σ H s _ fun F1 A1 H1 v s1 e1 rv => hb F1 A1 σ H1 s1 _ fun F2 A2 H2 w s2 e2 rw => hc F2 A2 σ H2 s2 _ fun F3 A3 H3 u s3 e3 ru => hd F3 A3 σ H3 s3 _ fun F4 A4 H4 t s4 e4 rt => hf F4 A4 σ H4 s4 _ fun F6 A6 H6 t' s6 e6 rt' => hh F6 A6 σ H6 s6 _ fun F7 A7 H7 t7 s7 e7 rt7 => ⟨by show 6 ≤ sizeLine; decide, fun p hp => by
    obtain ⟨s5, n⟩ := s7.alloc (o := .tup [v, w, u, t, t', t7]) hp
    obtain ⟨F5, A5, s5, hF, hA, hp5⟩ := s5.keep n
    exact k F5 A5 _ _ s5 ((((((e1.trans e2).trans e3).trans e4).trans e6).trans e7).trans hF) ⟨p, v, w, u, t, t', t7, rfl, hp5, Rp.mono (((((e2.trans e3).trans e4).trans e6).trans e7).trans hF) rv, Rp.mono ((((e3.trans e4).trans e6).trans e7).trans hF) rw, Rp.mono (((e4.trans e6).trans e7).trans hF) ru, Rp.mono ((e6.trans e7).trans hF) rt, Rp.mono (e7.trans hF) rt', Rp.mono hF rt7⟩⟩
/-! subscripts -/
theorem map_atI {δ ε : Type} {xs : List δ} {ys : List ε} (hl : xs.length = ys.length) {i : Int} : ixN xs.length i = ixN ys.length i := by rw [hl]
theorem px_idx {st : List Bd → Prop} {xs : List α} {i : Int} {y : α} (ha : PxL g B E E1 ta xs st) (hb : Px g B E1 E2 tb i) (hst : st E2) (e : atI xs i = some y) : Px g B E E2 (tOp (rIxL g.K) ta tb) y := fun F A σ H s Q k =>
  ha F A σ H s _ fun F1 A1 H1 v s1 e1 rv => hb F1 A1 σ H1 s1 _ fun F2 A2 H2 w s2 e2 rw => by
    obtain ⟨p, vs, ev, hp, r⟩ := rv F2 A2 H2 E2 s2 e2 hst
    have rw : w = .int i := rw
    subst rw; subst ev
    unfold atI at e
    cases h : ixN xs.length i with
    | none => rw [h] at e; cases e
    | some j =>
      rw [h] at e
      obtain ⟨u, e3, ru⟩ := rps_get r (show xs[j]? = some y from e)
      refine ⟨p, vs, i, u, rfl, rfl, .of hp, ?_, k F2 A2 H2 u s2 (e1.trans e2) ru⟩
      unfold atI
      rw [rps_len r, h]
      exact e3
theorem px_t0 {x : α × β} (ha : Px g B E E1 ta x) : Px g B E E1 (tOp (rIxT g.K) ta (tC (.int 0))) x.1 := fun F A σ H s Q k =>
  ha F A σ H s _ fun F1 A1 H1 v s1 e1 ⟨p, a, b, ev, hp, r1, r2⟩ => ⟨p, [a, b], 0, a, ev, rfl, .of (s1.ah _ _ (s1.fa _ _ hp)), rfl, k F1 A1 H1 _ s1 e1 r1⟩
theorem px_t1 {x : α × β} (ha : Px g B E E1 ta x) : Px g B E E1 (tOp (rIxT g.K) ta (tC (.int 1))) x.2 := fun F A σ H s Q k =>
  ha F A σ H s _ fun F1 A1 H1 v s1 e1 ⟨p, a, b, ev, hp, r1, r2⟩ => ⟨p, [a, b], 1, b, ev, rfl, .of (s1.ah _ _ (s1.fa _ _ hp)), rfl, k F1 A1 H1 _ s1 e1 r2⟩
theorem px_t30 {x : T3 α β γ} (ha : Px g B E E1 ta x) : Px g B E E1 (tOp (rIxT g.K) ta (tC (.int 0))) x.a := fun F A σ H s Q k =>
  ha F A σ H s _ fun F1 A1 H1 v s1 e1 ⟨p, a, b, c, ev, hp, r1, r2, r3⟩ => ⟨p, [a, b, c], 0, a, ev, rfl, .of (s1.ah _ _ (s1.fa _ _ hp)), rfl, k F1 A1 H1 _ s1 e1 r1⟩
theorem px_t31 {x : T3 α β γ} (ha : Px g B E E1 ta x) : Px g B E E1 (tOp (rIxT g.K) ta (tC (.int 1))) x.b := fun F A σ H s Q k =>
  ha F A σ H s _ fun F1 A1 H1 v s1 e1 ⟨p, a, b, c, ev, hp, r1, r2, r3⟩ => ⟨p, [a, b, c], 1, b, ev, rfl, .of (s1.ah _ _ (s1.fa _ _ hp)), rfl, k F1 A1 H1 _ s1 e1 r2⟩
theorem px_t32 {x : T3 α β γ} (ha : Px g B E E1 ta x) : Px g B E E1 (tOp (rIxT g.K) ta (tC (.int 2))) x.c := fun F A σ H s Q k =>
  ha F A σ H s _ fun F1 A1 H1 v s1 e1 ⟨p, a, b, c, ev, hp, r1, r2, r3⟩ => ⟨p, [a, b, c], 2, c, ev, rfl, .of (s1.ah _ _ (s1.fa _ _ hp)), rfl, k F1 A1 H1 _ s1 e1 r3⟩
theorem tx_size (t : Tx) : (Tx.s t).length = t.length := by show t.toArray.size = t.length; simp
theorem tx_list (t : Tx) : (Tx.s t).cps.toList = t := by show t.toArray.toList = t; simp
def sz (n : Nat) : Bool := decide (n ≤ 16777216)
theorem sz_ok {n : Nat} (h : sz n = true) : n ≤ sizeLine := of_decide_eq_true h
theorem px_idxS {t : Tx} {i : Int} {c : Nat} (ha : Px g B E E1 ta t) (hb : Px g B E1 E2 tb i) (hz : sz t.length = true) (e : atI t i = some c) : Px g B E E2 (tOp rIxS ta tb) ([c] : Tx) := fun F A σ H s Q k =>
  ha F A σ H s _ fun F1 A1 H1 v s1 e1 rv => hb F1 A1 σ H1 s1 _ fun F2 A2 H2 w s2 e2 rw => by
    have rv : v = .str (Tx.s t) := rv
    have rw : w = .int i := rw
    exact ⟨Tx.s t, i, c, rv, rw, by rw [tx_size]; exact sz_ok hz, by rw [tx_list]; exact e, k F2 A2 H2 _ s2 (e1.trans e2) rfl⟩
/-! slices -/
theorem po_no : PxO g B E E tNoPart none := fun F A σ H s Q k => k F A H s (Same.refl _)
theorem po_yes {i : Int} (h : Px g B E E1 te i) : PxO g B E E1 (tPart te) (some i) := fun F A σ H s Q k => h F A σ H s _ fun F1 A1 H1 v s1 e1 rv => ⟨i, rv, k F1 A1 H1 s1 e1⟩
def cutL {δ : Type} (xs : List δ) (lo hi : Option Int) : List δ := (xs.drop (HT.sIx xs.length 0 lo)).take (HT.sIx xs.length xs.length hi - HT.sIx xs.length 0 lo)
theorem rps_cut {F : Hp} {vs : List V} {xs : List α} (h : rps g F vs xs) (lo hi : Option Int) : rps g F (cutV vs lo hi) (cutL xs lo hi) := by
  unfold cutV cutL
  rw [rps_len h]
  exact rps_take _ (rps_drop _ h)
theorem pn_sl {tl th : TO} {st : List Bd → Prop} {xs : List α} {lo hi : Option Int} (ha : PxL g B E E1 te xs st) (hl : PxO g B E1 E2 tl lo) (hh : PxO g B E2 E3 th hi) (hst : st E3) : PxN g B E E3 (tSl (rSlL g.K) te tl th) (cutL xs lo hi) := fun F A σ H s Q k =>
  ha F A σ H s _ fun F1 A1 H1 v s1 e1 rv => hl F1 A1 σ H1 s1 _ fun F2 A2 H2 s2 e2 => hh F2 A2 σ H2 s2 _ fun F3 A3 H3 s3 e3 => by
    obtain ⟨p, vs, ev, hp, r⟩ := rv F3 A3 H3 E3 s3 (e2.trans e3) hst
    exact ⟨p, vs, ev, .of hp, new_of s3 ((e1.trans e2).trans e3) (rps_cut r lo hi) k⟩
theorem px_slS {tl th : TO} {t : Tx} {lo hi : Option Int} (ha : Px g B E E1 te t) (hl : PxO g B E1 E2 tl lo) (hh : PxO g B E2 E3 th hi) (hz : sz t.length = true) : Px g B E E3 (tSl rSlS te tl th) (cutL t lo hi : Tx) := fun F A σ H s Q k =>
  ha F A σ H s _ fun F1 A1 H1 v s1 e1 rv => hl F1 A1 σ H1 s1 _ fun F2 A2 H2 s2 e2 => hh F2 A2 σ H2 s2 _ fun F3 A3 H3 s3 e3 => by
    have rv : v = .str (Tx.s t) := rv
    refine ⟨Tx.s t, rv, by rw [tx_size]; exact sz_ok hz, k F3 A3 H3 _ s3 ((e1.trans e2).trans e3) ?_⟩
    show V.str (cutS (Tx.s t) lo hi) = V.str (Tx.s (cutL t lo hi))
    unfold cutS cutL
    rw [tx_list, tx_size]
    rfl
/-! list operators -/
theorem pn_cat {st st' : List Bd → Prop} {xs ys : List α} (ha : PxL g B E E1 ta xs st) (hb : PxL g B E1 E2 tb ys st') (hst : st E2) (hst' : st' E2) (hz : sz (xs.length + ys.length) = true) : PxN g B E E2 (tOp rCat ta tb) (xs ++ ys) := fun F A σ H s Q k =>
  ha F A σ H s _ fun F1 A1 H1 v s1 e1 rv => hb F1 A1 σ H1 s1 _ fun F2 A2 H2 w s2 e2 rw => by
    obtain ⟨p, vs, ev, hp, r⟩ := rv F2 A2 H2 E2 s2 e2 hst
    obtain ⟨q, ws, ew, hq, r'⟩ := rw F2 A2 H2 E2 s2 (Same.refl _) hst'
    exact ⟨p, q, vs, ws, ev, ew, hp, hq, by rw [rps_len r, rps_len r']; exact sz_ok hz, new_of s2 (e1.trans e2) (rps_app r r') k⟩
def repOk (n : Nat) (k : Int) : Bool := decide (-(2 ^ 63) ≤ k) && decide (k < 2 ^ 63) && sz (n * k.toNat)
def repL {δ : Type} (xs : List δ) (k : Int) : List δ := (List.replicate k.toNat xs).flatten
theorem pn_rep {st : List Bd → Prop} {xs : List α} {n : Int} (ha : PxL g B E E1 ta xs st) (hb : Px g B E1 E2 tb n) (hst : st E2) (hz : repOk xs.length n = true) : PxN g B E E2 (tOp rRep ta tb) (repL xs n) := fun F A σ H s Q k =>
  ha F A σ H s _ fun F1 A1 H1 v s1 e1 rv => hb F1 A1 σ H1 s1 _ fun F2 A2 H2 w s2 e2 rw => by
    obtain ⟨p, vs, ev, hp, r⟩ := rv F2 A2 H2 E2 s2 e2 hst
    have rw : w = .int n := rw
    unfold repOk at hz
    simp only [Bool.and_eq_true, decide_eq_true_eq] at hz
    exact ⟨p, n, vs, ev, rw, hp, hz.1.1, hz.1.2, by rw [rps_len r]; exact sz_ok hz.2, new_of s2 (e1.trans e2) (rps_rep r _) k⟩
theorem px_len {st : List Bd → Prop} {xs : List α} (ha : PxL g B E E1 ta xs st) (hst : st E1) : Px g B E E1 (tCB (fun xs H Q => ∃ p ys, xs = [.ref p] ∧ (SqL g.K H p ys ∨ SqT g.K H p ys) ∧ Q (.int ys.length) H) (tCons ta tNil)) (xs.length : Int) := fun F A σ H s Q k =>
  ha F A σ H s _ fun F1 A1 H1 v s1 e1 rv => by
    obtain ⟨p, vs, ev, hp, r⟩ := rv F1 A1 H1 E1 s1 (Same.refl _) hst
    subst ev
    exact ⟨p, vs, rfl, .inl (.of hp), by rw [rps_len r]; exact k F1 A1 H1 _ s1 e1 rfl⟩
theorem px_lenS {t : Tx} (ha : Px g B E E1 ta t) (hz : sz t.length = true) : Px g B E E1 (tCB (fun xs H Q => ∃ z : Str, xs = [.str z] ∧ z.length ≤ sizeLine ∧ Q (.int z.length) H) (tCons ta tNil)) (t.length : Int) := fun F A σ H s Q k =>
  ha F A σ H s _ fun F1 A1 H1 v s1 e1 rv => by
    have rv : v = .str (Tx.s t) := rv
    subst rv
    exact ⟨Tx.s t, rfl, by rw [tx_size]; exact sz_ok hz, by rw [tx_size]; exact k F1 A1 H1 _ s1 e1 rfl⟩
theorem px_sum {st : List Bd → Prop} {xs : List Int} (ha : PxL g B E E1 ta xs st) (hst : st E1) : Px g B E E1 (tCB (rSum g.K) (tCons ta tNil)) xs.sum := fun F A σ H s Q k =>
  ha F A σ H s _ fun F1 A1 H1 v s1 e1 rv => by
    obtain ⟨p, vs, ev, hp, r⟩ := rv F1 A1 H1 E1 s1 (Same.refl _) hst
    subst ev
    rw [rps_int.mp r] at hp
    exact ⟨p, xs, rfl, .of hp, k F1 A1 H1 _ s1 e1 rfl⟩
theorem px_any {st : List Bd → Prop} {xs : List Bool} (ha : PxL g B E E1 ta xs st) (hst : st E1) : Px g B E E1 (tCB (rAny g.K) (tCons ta tNil)) (xs.any id) := fun F A σ H s Q k =>
  ha F A σ H s _ fun F1 A1 H1 v s1 e1 rv => by
    obtain ⟨p, vs, ev, hp, r⟩ := rv F1 A1 H1 E1 s1 (Same.refl _) hst
    subst ev
    rw [rps_bl.mp r] at hp
    exact ⟨p, xs, rfl, .of hp, k F1 A1 H1 _ s1 e1 rfl⟩
theorem px_all {st : List Bd → Prop} {xs : List Bool} (ha : PxL g B E E1 ta xs st) (hst : st E1) : Px g B E E1 (tCB (rAll g.K) (tCons ta tNil)) (xs.all id) := fun F A σ H s Q k =>
  ha F A σ H s _ fun F1 A1 H1 v s1 e1 rv => by
    obtain ⟨p, vs, ev, hp, r⟩ := rv F1 A1 H1 E1 s1 (Same.refl _) hst
    subst ev
    rw [rps_bl.mp r] at hp
    exact ⟨p, xs, rfl, .of hp, k F1 A1 H1 _ s1 e1 rfl⟩
theorem max_un {xs : List Int} {m n : Int} (hm : xs.max? = some m) (h1 : n ∈ xs) (h2 : ∀ y, y ∈ xs → y ≤ n) : n = m := by
  have h := List.max?_eq_some_iff.mp hm
  have a := h.2 n h1
  have b := h2 m h.1
  omega
theorem min_un {xs : List Int} {m n : Int} (hm : xs.min? = some m) (h1 : n ∈ xs) (h2 : ∀ y, y ∈ xs → n ≤ y) : n = m := by
  have h := List.min?_eq_some_iff.mp hm
  have a := h.2 n h1
  have b := h2 m h.1
  omega
theorem px_max {st : List Bd → Prop} {xs : List Int} {m : Int} (ha : PxL g B E E1 ta xs st) (hst : st E1) (hm : xs.max? = some m) : Px g B E E1 (tCB (rMax g.K) (tCons ta tNil)) m := fun F A σ H s Q k =>
  ha F A σ H s _ fun F1 A1 H1 v s1 e1 rv => by
    obtain ⟨p, vs, ev, hp, r⟩ := rv F1 A1 H1 E1 s1 (Same.refl _) hst
    subst ev
    rw [rps_int.mp r] at hp
    refine ⟨p, xs, rfl, .of hp, ?_, fun n h1 h2 => ?_⟩
    · cases xs with
      | nil => cases hm
      | cons _ _ => exact Nat.succ_pos _
    · rw [max_un hm h1 h2]; exact k F1 A1 H1 _ s1 e1 rfl
theorem px_min {st : List Bd → Prop} {xs : List Int} {m : Int} (ha : PxL g B E E1 ta xs st) (hst : st E1) (hm : xs.min? = some m) : Px g B E E1 (tCB (rMin g.K) (tCons ta tNil)) m := fun F A σ H s Q k =>
  ha F A σ H s _ fun F1 A1 H1 v s1 e1 rv => by
    obtain ⟨p, vs, ev, hp, r⟩ := rv F1 A1 H1 E1 s1 (Same.refl _) hst
    subst ev
    rw [rps_int.mp r] at hp
    refine ⟨p, xs, rfl, .of hp, ?_, fun n h1 h2 => ?_⟩
    · cases xs with
      | nil => cases hm
      | cons _ _ => exact Nat.succ_pos _
    · rw [min_un hm h1 h2]; exact k F1 A1 H1 _ s1 e1 rfl
theorem px_max2 {i j : Int} (ha : Px g B E E1 ta i) (hb : Px g B E1 E2 tb j) : Px g B E E2 (tCB (fun xs H Q => ∃ i j, xs = [V.int i, .int j] ∧ Q (.int (if j > i then j else i)) H) (tCons ta (tCons tb tNil))) (max i j) := fun F A σ H s Q k =>
  ha F A σ H s _ fun F1 A1 H1 v s1 e1 rv => hb F1 A1 σ H1 s1 _ fun F2 A2 H2 w s2 e2 rw => by
    have rv : v = .int i := rv
    have rw : w = .int j := rw
    subst rv; subst rw
    exact ⟨i, j, rfl, k F2 A2 H2 _ s2 (e1.trans e2) (by show V.int _ = V.int _; congr 1; split <;> omega)⟩
theorem px_min2 {i j : Int} (ha : Px g B E E1 ta i) (hb : Px g B E1 E2 tb j) : Px g B E E2 (tCB (fun xs H Q => ∃ i j, xs = [V.int i, .int j] ∧ Q (.int (if j < i then j else i)) H) (tCons ta (tCons tb tNil))) (min i j) := fun F A σ H s Q k =>
  ha F A σ H s _ fun F1 A1 H1 v s1 e1 rv => hb F1 A1 σ H1 s1 _ fun F2 A2 H2 w s2 e2 rw => by
    have rv : v = .int i := rv
    have rw : w = .int j := rw
    subst rv; subst rw
    exact ⟨i, j, rfl, k F2 A2 H2 _ s2 (e1.trans e2) (by show V.int _ = V.int _; congr 1; split <;> omega)⟩
theorem px_abs {i : Int} (ha : Px g B E E1 ta i) : Px g B E E1 (tCB (fun xs H Q => ∃ i, xs = [V.int i] ∧ Q (.int (if i < 0 then -i else i)) H) (tCons ta tNil)) (i.natAbs : Int) := fun F A σ H s Q k =>
  ha F A σ H s _ fun F1 A1 H1 v s1 e1 rv => by
    have rv : v = .int i := rv
    subst rv
    exact ⟨i, rfl, k F1 A1 H1 _ s1 e1 (by show V.int _ = V.int _; congr 1; split <;> omega)⟩
abbrev rInt1 : List V → Hp → VK → Prop := fun xs H Q => (∃ i, xs = [.int i] ∧ Q (.int i) H) ∨ ∃ k, xs = [.bl k] ∧ Q (.int (if k then 1 else 0)) H
theorem px_intI {i : Int} (ha : Px g B E E1 ta i) : Px g B E E1 (tCB rInt1 (tCons ta tNil)) i := fun F A σ H s Q k =>
  ha F A σ H s _ fun F1 A1 H1 v s1 e1 rv => .inl ⟨i, by rw [show v = V.int i from rv], k F1 A1 H1 _ s1 e1 rfl⟩
theorem px_intB {b : Bool} (ha : Px g B E E1 ta b) : Px g B E E1 (tCB rInt1 (tCons ta tNil)) (if b = true then (1 : Int) else 0) := fun F A σ H s Q k =>
  ha F A σ H s _ fun F1 A1 H1 v s1 e1 rv => .inr ⟨b, by rw [show v = V.bl b from rv], k F1 A1 H1 _ s1 e1 rfl⟩
/-! in -/
class FlI (α : Type) [Rp α] [DecidableEq α] : Prop where
  ok : ∀ {g : Gx} {H : Hp} {v : V} {x : α}, rp g H v x → flatV v = true
  eq : ∀ {g : Gx} {H H' : Hp} {v w : V} {x y : α}, rp g H v x → rp g H' w y → eqV w v = decide (y = x)
instance : FlI Int := ⟨fun {g H v x} h => by
  have h : v = .int x := h
  subst h; rfl, fun {g H H' v w x y} h h' => by
  have h : v = .int x := h
  have h' : w = .int y := h'
  subst h; subst h'
  show (y == x) = _
  exact Bool.beq_eq_decide_eq y x⟩
instance : FlI Tx := ⟨fun {g H v x} h => by
  have h : v = .str (Tx.s x) := h
  subst h; rfl, fun {g H H' v w x y} h h' => by
  have h : v = .str (Tx.s x) := h
  have h' : w = .str (Tx.s y) := h'
  subst h; subst h'
  show (Tx.s y == Tx.s x) = _
  by_cases e : y = x
  · subst e; simp
  · rw [decide_eq_false e]
    exact beq_eq_false_iff_ne.mpr fun z => e (Tx.s_inj z)⟩
theorem inV_eq [DecidableEq α] [FlI α] {F F' : Hp} {v : V} {x : α} (h : rp g F v x) : ∀ {vs : List V} {xs : List α}, rps g F' vs xs → inV v vs = decide (x ∈ xs) ∧ vs.all flatV = true
  | [], [], _ => ⟨rfl, rfl⟩
  | w :: vs, y :: xs, r => by
    obtain ⟨a, b⟩ := inV_eq h r.2
    refine ⟨?_, by rw [List.all_cons, FlI.ok r.1, b]; rfl⟩
    show (eqV w v || inV v vs) = _
    rw [a, FlI.eq h r.1]
    by_cases e : y = x
    · subst e; simp
    · rw [decide_eq_false e, Bool.false_or, decide_eq_decide]
      simp only [List.mem_cons]
      exact ⟨.inr, fun z => z.elim (fun q => absurd q.symm e) id⟩
  | [], _ :: _, h => h.elim
  | _ :: _, [], h => h.elim
theorem px_in [DecidableEq α] [FlI α] {st : List Bd → Prop} {x : α} {xs : List α} (ha : Px g B E E1 ta x) (hb : PxL g B E1 E2 tb xs st) (hst : st E2) : Px g B E E2 (tOp (rIn g.K false) ta tb) (decide (x ∈ xs)) := fun F A σ H s Q k =>
  ha F A σ H s _ fun F1 A1 H1 v s1 e1 rv => hb F1 A1 σ H1 s1 _ fun F2 A2 H2 w s2 e2 rw => by
    obtain ⟨p, vs, ev, hp, r⟩ := rw F2 A2 H2 E2 s2 (Same.refl _) hst
    obtain ⟨a, b⟩ := inV_eq rv r
    exact ⟨p, vs, ev, .inl (.of hp), FlI.ok rv, b, k F2 A2 H2 _ s2 (e1.trans e2) (congrArg V.bl a)⟩
theorem px_nin [DecidableEq α] [FlI α] {st : List Bd → Prop} {x : α} {xs : List α} (ha : Px g B E E1 ta x) (hb : PxL g B E1 E2 tb xs st) (hst : st E2) : Px g B E E2 (tOp (rIn g.K true) ta tb) (!decide (x ∈ xs)) := fun F A σ H s Q k =>
  ha F A σ H s _ fun F1 A1 H1 v s1 e1 rv => hb F1 A1 σ H1 s1 _ fun F2 A2 H2 w s2 e2 rw => by
    obtain ⟨p, vs, ev, hp, r⟩ := rw F2 A2 H2 E2 s2 (Same.refl _) hst
    obtain ⟨a, b⟩ := inV_eq rv r
    exact ⟨p, vs, ev, .inl (.of hp), FlI.ok rv, b, k F2 A2 H2 _ s2 (e1.trans e2) (by show V.bl (!inV v vs) = _; rw [a])⟩
/-! list(xs), sorted(xs) -/
theorem pn_list {st : List Bd → Prop} {xs : List α} (ha : PxL g B E E1 ta xs st) (hst : st E1) : PxN g B E E1 (tCB (fun xs H Q => ∃ p ys, xs = [.ref p] ∧ (SqL g.K H p ys ∨ SqT g.K H p ys) ∧ ∀ l, H l = none → Q (.ref l) (upd H l (.lst ys))) (tCons ta tNil)) xs := fun F A σ H s Q k =>
  ha F A σ H s _ fun F1 A1 H1 v s1 e1 rv => by
    obtain ⟨p, vs, ev, hp, r⟩ := rv F1 A1 H1 E1 s1 (Same.refl _) hst
    subst ev
    exact ⟨p, vs, rfl, .inl (.of hp), new_of s1 e1 r k⟩
def srt (xs : List Int) : List Int := xs.mergeSort (fun a b => decide (a ≤ b))
theorem srt_perm (xs : List Int) : (srt xs).Perm xs := List.mergeSort_perm _ _
theorem srt_pw (xs : List Int) : (srt xs).Pairwise (· ≤ ·) := by
  have h := List.pairwise_mergeSort (le := fun a b : Int => decide (a ≤ b)) (fun a b c h1 h2 => by simp only [decide_eq_true_eq] at *; omega) (fun a b => by simp only [Bool.or_eq_true, decide_eq_true_eq]; omega) xs
  exact h.imp fun h => of_decide_eq_true h
theorem srt_un {xs ys : List Int} (p : ys.Perm xs) (s : ys.Pairwise (· ≤ ·)) : ys = srt xs :=
  List.Perm.eq_of_pairwise (le := (· ≤ ·)) (fun a b _ _ h1 h2 => Int.le_antisymm h1 h2) s (srt_pw xs) (p.trans (srt_perm xs).symm)
theorem pn_sorted {st : List Bd → Prop} {xs : List Int} (ha : PxL g B E E1 ta xs st) (hst : st E1) : PxN g B E E1 (tCB (rSortedI g.K) (tCons ta tNil)) (srt xs) := fun F A σ H s Q k =>
  ha F A σ H s _ fun F1 A1 H1 v s1 e1 rv => by
    obtain ⟨p, vs, ev, hp, r⟩ := rv F1 A1 H1 E1 s1 (Same.refl _) hst
    subst ev
    rw [rps_int.mp r] at hp
    refine ⟨p, xs, rfl, .of hp, fun ns' q pe so hq => ?_⟩
    rw [srt_un pe so]
    exact new_of s1 e1 (rps_int.mpr rfl) k q hq
/-! texts -/
theorem px_addS {a b : Tx} (ha : Px g B E E1 ta a) (hb : Px g B E1 E2 tb b) (hz : sz (a.length + b.length) = true) : Px g B E E2 (tOp (fun x y H Q => ∃ i j, x = V.str i ∧ y = .str j ∧ i.length + j.length ≤ sizeLine ∧ Q (.str (i ++ j)) H) ta tb) (a ++ b : Tx) := fun F A σ H s Q k =>
  ha F A σ H s _ fun F1 A1 H1 v s1 e1 rv => hb F1 A1 σ H1 s1 _ fun F2 A2 H2 w s2 e2 rw => by
    have rv : v = .str (Tx.s a) := rv
    have rw : w = .str (Tx.s b) := rw
    subst rv; subst rw
    refine ⟨Tx.s a, Tx.s b, rfl, rfl, by rw [tx_size, tx_size]; exact sz_ok hz, k F2 A2 H2 _ s2 (e1.trans e2) ?_⟩
    show V.str (Tx.s a ++ Tx.s b) = V.str (Tx.s (a ++ b))
    have e : a.toArray ++ b.toArray = (a ++ b).toArray := by simp
    show V.str (Str.mk (a.toArray ++ b.toArray)) = V.str (Str.mk (a ++ b).toArray)
    rw [e]
end
end Gn
/-! Gn: statements, calls, defs. -/
namespace Gn
open PySem L2
open Rp (rp)

/-- the base is narrowed -/
def Nest (g : Gx) (B B' : Bs) : Prop := B'.ps = B.ps ∧ (Same B.F0 B'.F0 ∧ ∀ a, B'.P a = none → B.P a = none) ∧ ∀ F A E σ H, Sta g B' F A E σ H → Sta g B F A E σ H
theorem Nest.refl {g : Gx} {B : Bs} : Nest g B B := ⟨rfl, ⟨Same.refl _, fun _ h => h⟩, fun _ _ _ _ _ h => h⟩
theorem Nest.trans {g : Gx} {B B' B'' : Bs} (a : Nest g B B') (b : Nest g B' B'') : Nest g B B'' := ⟨b.1.trans a.1, ⟨a.2.1.1.trans b.2.1.1, fun x h => a.2.1.2 x (b.2.1.2 x h)⟩, fun F A E σ H h => a.2.2 F A E σ H (b.2.2 F A E σ H h)⟩
/-- the base moved to where one stands -/
def Bs.to (B : Bs) (F A : Hp) : Bs := ⟨F, A, B.ps, B.P⟩
section
variable {g : Gx} {B : Bs} {F A H : Hp} {E : List Bd} {σ : St}
theorem Sta.rebase (s : Sta g B F A E σ H) : Sta g (B.to F A) F A E σ H ∧ Nest g B (B.to F A) := by
  refine ⟨⟨s.len, s.fa, s.ah, Same.refl _, Same.refl _, fun a h _ => h, s.inn, s.sl, s.ne, s.pr, s.nn⟩, rfl, ⟨s.f0, fun _ h => h⟩, fun F' A' E' σ' H' q => ⟨q.len, q.fa, q.ah, s.f0.trans q.f0, s.a0.trans q.a0, fun a h1 h2 => ?_, q.inn, q.sl, q.ne, q.pr, q.nn⟩⟩
  refine q.fr a (s.fr a h1 h2) ?_
  rcases h2 with h2 | h2
  · left
    show A a ≠ none
    cases e : B.A0 a with
    | none => exact absurd e h2
    | some o => rw [s.a0 _ _ e]; exact fun z => nomatch z
  · exact .inr h2
/-- a new object is set aside -/
def Bs.aside (B : Bs) (p : Addr) (o : HO) : Bs := ⟨B.F0, B.A0, B.ps, upd B.P p o⟩
theorem Sta.aside (s : Sta g B F A E σ H) {p : Addr} {o : HO} (n : New B F A E σ H p o) : Sta g (B.aside p o) F A E σ H ∧ Nest g B (B.aside p o) := by
  refine ⟨⟨s.len, s.fa, s.ah, s.f0, s.a0, s.fr, s.inn, s.sl, s.ne, fun a u e => ?_, fun i q h => ?_⟩, rfl, ⟨Same.refl _, fun a e => (by
    have e : (upd B.P p o) a = none := e
    by_cases h : a = p
    · rw [h]; exact n.P
    · rwa [upd_ne h] at e)⟩, fun F' A' E' σ' H' q => ⟨q.len, q.fa, q.ah, q.f0, q.a0, q.fr, q.inn, q.sl, q.ne, fun a u e => q.pr a u ?_, fun i r h => ?_⟩⟩
  · have e : (upd B.P p o) a = some u := e
    by_cases h : a = p
    · subst h; rw [upd_same] at e; cases e; exact ⟨n.at_, n.a, n.ne⟩
    · rw [upd_ne h] at e; exact s.pr a u e
  · obtain ⟨h1, h2, h3, h4⟩ := s.nn i q h
    refine ⟨h1, h2, h3, ?_⟩
    have hne : q ≠ p := fun z => n.ni i (z ▸ h)
    show (upd B.P p o) q = none
    rw [upd_ne hne]; exact h4
  · show (upd B.P p o) a = some u
    rw [upd_ne (fun z => by rw [z, n.P] at e; cases e)]; exact e
  · obtain ⟨h1, h2, h3, h4⟩ := q.nn i r h
    refine ⟨h1, h2, h3, ?_⟩
    have h4 : (upd B.P p o) r = none := h4
    by_cases z : r = p
    · rw [z]; exact n.P
    · rw [upd_ne z] at h4; exact h4
/-- what is set aside is a new object again -/
theorem Sta.back {p : Addr} {o : HO} (s : Sta g (B.aside p o) F A E σ H) (hP : B.P p = none) (hps : p ∉ B.ps) : Sta g B F A E σ H ∧ New B F A E σ H p o := by
  obtain ⟨h1, h2, h3⟩ := s.pr p o (by show (upd B.P p o) p = some o; exact upd_same)
  refine ⟨⟨s.len, s.fa, s.ah, s.f0, s.a0, s.fr, s.inn, s.sl, s.ne, fun a u e => s.pr a u ?_, fun i q h => ?_⟩, h1, s.fa.free h2, h2, h3, fun i h => ?_, hps, hP⟩
  · show (upd B.P p o) a = some u
    rw [upd_ne (fun z => by rw [z, hP] at e; cases e)]; exact e
  · obtain ⟨k1, k2, k3, k4⟩ := s.nn i q h
    refine ⟨k1, k2, k3, ?_⟩
    have k4 : (upd B.P p o) q = none := k4
    by_cases z : q = p
    · rw [z]; exact hP
    · rw [upd_ne z] at k4; exact k4
  · have k4 : (upd B.P p o) p = none := (s.nn i p h).2.2.2
    rw [upd_same] at k4; cases k4
/-- it is changed -/
theorem Sta.aside_set {p : Addr} {o o' : HO} (s : Sta g (B.aside p o) F A E σ H) (hP : B.P p = none) (hps : p ∉ B.ps) : Sta g (B.aside p o') F A E σ (upd H p o') := by
  obtain ⟨s1, n⟩ := s.back hP hps
  have k : ∀ a, a ≠ p → (upd H p o') a = H a := fun a h => upd_ne h
  have s2 : Sta g B F A E σ (upd H p o') := by
    refine ⟨s1.len, s1.fa, fun a u e => ?_, s1.f0, s1.a0, s1.fr, fun a h => ?_, fun i b e => ?_, s1.ne, fun a u e => ?_, s1.nn⟩
    · rw [k a (ne_of_none e n.a)]; exact s1.ah _ _ e
    · rw [k a (fun z => hps (z ▸ h))]; exact s1.inn a h
    · refine SlotOk.mono (Same.refl _) (Same.refl _) (fun q e1 h => ?_) (s1.sl i b e) fun q h => ?_
      · have ow : Own E σ i q := ⟨e1, _, e, h⟩
        obtain ⟨f1, f2, _⟩ := s1.own ow
        exact ⟨fun vs z => by rw [k q (fun w => n.ne i (w ▸ ow))]; exact z, f1, f2⟩
      · have ow : Inn E i q := ⟨_, e, h⟩
        obtain ⟨f1, f2, _⟩ := s1.inq ow
        exact ⟨fun vs z => by rw [k q (fun w => n.ni i (w ▸ ow))]; exact z, f1, f2⟩
    · obtain ⟨h1, h2, h3⟩ := s1.pr a u e
      exact ⟨by rw [k a (fun z => by rw [z, hP] at e; cases e)]; exact h1, h2, h3⟩
  exact (s2.aside (o := o') ⟨upd_same, n.f, n.a, n.ne, n.ni, n.ps, n.P⟩).1
end

/-! ### statements -/
def Sx (g : Gx) (B : Bs) (E : List Bd) (t : TS) (D : Ends) : Prop := ∀ F A σ H, Sta g B F A E σ H → t D σ H
def Sp' (g : Gx) (B : Bs) (E : List Bd) : St → Hp → Prop := fun σ H => ∃ F A, Sta g B F A E σ H
section
variable {g : Gx} {B : Bs} {E E1 E2 E3 E' : List Bd} {ta tb tc te : TE} {tt : TT} {t u : TS} {D : Ends} {α β γ : Type} [Rp α] [Rp β] [Rp γ]
theorem sx_weak (l : LeE E E') (h : Sx g B E' t D) : Sx g B E t D := fun F A σ H s => h F A σ H (s.weak l)
theorem sx_nest {B' : Bs} (n : Nest g B B') (h : Sx g B E t D) : Sx g B' E t D := fun F A σ H s => h F A σ H (n.2.2 F A E σ H s)
theorem sx_next (h : ∀ σ H, Sp' g B E σ H → D.nx σ H) : Sx g B E tNext D := fun F A σ H s => h σ H ⟨F, A, s⟩
theorem sx_brk (h : ∀ σ H, Sp' g B E σ H → D.bk σ H) : Sx g B E tBreak D := fun F A σ H s => h σ H ⟨F, A, s⟩
theorem sx_cont (h : ∀ σ H, Sp' g B E σ H → D.ct σ H) : Sx g B E tCont D := fun F A σ H s => h σ H ⟨F, A, s⟩
/-- a statement's own end -/
abbrev Wr (D : Ends) (u : TS) : Ends := { D with nx := u D }
theorem sx_seq (h : Sx g B E t { D with nx := u D }) : Sx g B E (tSeq t u) D := h
/-- what comes behind is the rest -/
theorem nx_of (h : Sx g B E u D) : ∀ σ H, Sp' g B E σ H → (Wr D u).nx σ H := fun σ H ⟨F, A, s⟩ => h F A σ H s
theorem sx_asg {i : Nat} {x : α} (hx : Px g B E E1 te x) (h : ∀ σ H, Sp' g B (E1.set i (.kp x)) σ H → D.nx σ H) : Sx g B E (tAsg te (gName i)) D := fun F A σ H s =>
  hx F A σ H s _ fun F1 A1 H1 v s1 e1 r => h _ _ ⟨F1, A1, s1.setk r⟩
theorem sx_asgO {i : Nat} {xs : List α} (hx : PxN g B E E1 te xs) (h : ∀ σ H, Sp' g B (E1.set i (.ow xs)) σ H → D.nx σ H) : Sx g B E (tAsg te (gName i)) D := fun F A σ H s =>
  hx F A σ H s _ fun F1 A1 H1 p vs s1 e1 n r => h _ _ ⟨F1, A1, s1.seto n r⟩
theorem sx_drop {x : α} (hx : Px g B E E1 te x) (h : ∀ σ H, Sp' g B E1 σ H → D.nx σ H) : Sx g B E (tDrop te) D := fun F A σ H s =>
  hx F A σ H s _ fun F1 A1 H1 v s1 e1 r => h _ _ ⟨F1, A1, s1⟩
theorem sx_if {c : Bool} (hc : PxT g B E E1 tt c) (h1 : c = true → Sx g B E1 t D) (h2 : c = false → Sx g B E1 u D) : Sx g B E (tIfS tt t u) D := fun F A σ H s =>
  hc F A σ H s _ fun F1 A1 H1 s1 e1 => by
    cases c with
    | true => exact iteT (h1 rfl F1 A1 σ H1 s1)
    | false => exact iteF (h2 rfl F1 A1 σ H1 s1)
theorem sx_cut (h : ∀ M : St → Hp → Prop, (∀ σ H, Sp' g B E' σ H → M σ H) → Sx g B E t { D with nx := M }) (k : Sx g B E' u D) : Sx g B E (Evl.tCut t u) D := fun F A σ H s =>
  ⟨Sp' g B E', h _ (fun _ _ h => h) F A σ H s, fun σ' H' ⟨F', A', s'⟩ => k F' A' σ' H' s'⟩
/-- a list of its own becomes frozen -/
theorem sx_freeze {i : Nat} {xs : List α} (e : E[i]? = some (.ow xs)) (hps : B.ps = [] ∨ ∃ j, i ≠ j ∧ ∃ (β : Type) (_ : Rp β) (p : Addr) (ys : List β), B.ps = [p] ∧ E[j]? = some (.io p ys)) (h : Sx g B (E.set i (.kp xs)) t D) : Sx g B E t D := fun F A σ H s => by
  obtain ⟨F', A', s', _⟩ := s.freeze e (fun p hp hm => by
    rcases hps with hps | ⟨j, hij, β, _, q, ys, hps, ej⟩
    · rw [hps] at hm; cases hm
    · rw [hps] at hm
      have e1 : p = q := by simpa using hm
      subst e1
      obtain ⟨vs, e2, _⟩ := s.sl j _ ej
      exact hij (s.ne i j p ⟨hp, _, e, trivial⟩ ⟨e2, _, ej, trivial⟩))
  exact h F' A' σ H s'
/-! changes of lists of one's own -/
/-- the slot's list after a change -/
def Bd.put {δ : Type} [Rp δ] (b : Bd) (xs : List δ) : Bd := match b with
  | @Bd.io p _ _ _ => .io p xs
  | _ => .ow xs
theorem Sta.write {F A H : Hp} {σ : St} (s : Sta g B F A E σ H) {i : Nat} {p : Addr} {vs ws : List V} {b : Bd} {ys : List β} (hb : E[i]? = some b) (ho : b.isO) (hp : σ[i]? = some (some (.ref p))) (r : rps g F ws ys) : Sta g B F A (E.set i (b.put ys)) σ (upd H p (.lst ws)) := by
  have ow : Own E σ i p := ⟨hp, b, hb, ho⟩
  obtain ⟨f1, f2, vs', f3⟩ := s.own ow
  have k : ∀ a, a ≠ p → (upd H p (.lst ws)) a = H a := fun a h => upd_ne h
  have hi : i < E.length := (List.getElem?_eq_some_iff.mp hb).1
  have own' : ∀ j q, Own (E.set i (b.put ys)) σ j q → Own E σ j q := fun j q ⟨h1, c, h2, h3⟩ => by
    by_cases hj : j = i
    · subst hj
      exact ⟨h1, b, hb, ho⟩
    · rw [List.getElem?_set_ne (Ne.symm hj)] at h2
      exact ⟨h1, c, h2, h3⟩
  have bq : ∀ {δ : Type} [Rp δ] (zs : List δ), b.isO → (b.put zs).qs = [] := fun zs h => by
    cases b with
    | un => exact h.elim
    | kp x => exact h.elim
    | bo x => exact h.elim
    | ow xs => rfl
    | io p' xs => rfl
    | ot ps x => exact h.elim
  have inn' : ∀ j q, Inn (E.set i (b.put ys)) j q → j ≠ i ∧ Inn E j q := fun j q h => by
    rcases inn_set h with ⟨_, z⟩ | z
    · rw [bq ys ho] at z; cases z
    · exact z
  refine ⟨by simpa using s.len, s.fa, fun a u e => ?_, s.f0, s.a0, s.fr, fun a h => ?_, fun j c e => ?_, fun j j' q h1 h2 => s.ne j j' q (own' j q h1) (own' j' q h2), fun a u e => ?_, fun j q h => ?_⟩
  · rw [k a (ne_of_none e f2)]; exact s.ah _ _ e
  · obtain ⟨h1, h2⟩ := s.inn a h
    refine ⟨?_, h2⟩
    by_cases h : a = p
    · subst h; rw [upd_same]; exact fun z => nomatch z
    · rw [k a h]; exact h1
  · by_cases hj : j = i
    · subst hj
      rw [List.getElem?_set_self hi] at e
      cases e
      have q := s.sl j b hb
      cases b with
      | un => exact ho.elim
      | kp x => exact ho.elim
      | bo x => exact ho.elim
      | ow xs => exact ⟨p, ws, hp, upd_same, r, f1, f2⟩
      | io p' xs =>
        obtain ⟨vs2, e1, _⟩ := q
        rw [hp] at e1; cases e1
        exact ⟨ws, hp, upd_same, r, f1, f2⟩
      | ot ps x => exact ho.elim
    · rw [List.getElem?_set_ne (Ne.symm hj)] at e
      refine SlotOk.mono (Same.refl _) (Same.refl _) (fun q e1 h => ?_) (s.sl j c e) fun q h => ?_
      · have ow' : Own E σ j q := ⟨e1, _, e, h⟩
        obtain ⟨g1, g2, _⟩ := s.own ow'
        have hq : q ≠ p := fun z => hj (s.ne j i p (z ▸ ow') ow)
        exact ⟨fun vs z => by rw [k q hq]; exact z, g1, g2⟩
      · have ow' : Inn E j q := ⟨_, e, h⟩
        obtain ⟨g1, g2, _⟩ := s.inq ow'
        have hq : q ≠ p := fun z => (s.nn j q ow').1 i (z ▸ ow)
        exact ⟨fun vs z => by rw [k q hq]; exact z, g1, g2⟩
  · obtain ⟨h1, h2, h3⟩ := s.pr a u e
    exact ⟨by rw [k a (fun z => h3 i (z ▸ ow))]; exact h1, h2, fun j q => h3 j (own' j a q)⟩
  · obtain ⟨e1, e2⟩ := inn' j q h
    obtain ⟨h1, h2, h3, h4⟩ := s.nn j q e2
    exact ⟨fun k z => h1 k (own' k q z), fun k z => h2 k (inn' k q z).2, h3, h4⟩
theorem own_at {F A H : Hp} {σ : St} (s : Sta g B F A E σ H) {i : Nat} {b : Bd} {xs : List α} (hb : E[i]? = some b) (ho : b.isO) (h : RdL b xs) : ∃ p vs, σ[i]? = some (some (.ref p)) ∧ H p = some (.lst vs) ∧ rps g F vs xs := by
  have q := s.sl i b hb
  cases h with
  | kp => exact ho.elim
  | bo => exact ho.elim
  | ow => obtain ⟨p, vs, e, e2, r, _⟩ := q; exact ⟨p, vs, e, e2, r⟩
  | io => obtain ⟨vs, e, e2, r, _⟩ := q; exact ⟨_, vs, e, e2, r⟩
theorem sx_append {i : Nat} {b : Bd} {xs : List α} {x : α} (hi : E[i]? = some b) (hx : Px g B E E1 te x) (hi1 : E1[i]? = some b) (ho : b.isO) (h : RdL b xs) (hz : sz (xs.length + 1) = true) (k : ∀ σ H, Sp' g B (E1.set i (b.put (xs ++ [x]))) σ H → D.nx σ H) :
    Sx g B E (tDrop (tBM g.K "list" rAppend (tVar i) (tCons te tNil))) D := fun F A σ H s => by
  obtain ⟨p, vs, e, hp, r⟩ := own_at s hi ho h
  refine ⟨.ref p, e, .inl ⟨rfl, _, .of hp⟩, hx F A σ H s _ fun F1 A1 H1 v s1 e1 rv => ?_⟩
  obtain ⟨p', vs', e', hp', r'⟩ := own_at s1 hi1 ho h
  rw [e] at e'; cases e'
  exact ⟨p, vs', v, rfl, rfl, hp', by rw [rps_len r']; exact Nat.lt_of_lt_of_le (Nat.lt_succ_self _) (sz_ok hz), k _ _ ⟨F1, A1, s1.write (vs := vs') hi1 ho e (rps_app r' ⟨rv, trivial⟩)⟩⟩
def setI {δ : Type} (xs : List δ) (i : Int) (x : δ) : Option (List δ) := (ixN xs.length i).map fun j => xs.set j x
theorem sx_setitem {i : Nat} {b : Bd} {xs ys : List α} {x : α} {j : Int} (hx : Px g B E E1 te x) (hi1 : E1[i]? = some b) (hj : Px g B E1 E2 tb j) (hi2 : E2[i]? = some b) (ho : b.isO) (h : RdL b xs) (e : setI xs j x = some ys) (k : ∀ σ H, Sp' g B (E2.set i (b.put ys)) σ H → D.nx σ H) :
    Sx g B E (tAsg te (gSub (tVar i) tb rSetL)) D := fun F A σ H s =>
  hx F A σ H s _ fun F1 A1 H1 v s1 e1 rv => by
    obtain ⟨p, vs, ep, hp, r⟩ := own_at s1 hi1 ho h
    refine ⟨.ref p, ep, hj F1 A1 σ H1 s1 _ fun F2 A2 H2 w s2 e2 rw => ?_⟩
    obtain ⟨p', vs', e', hp', r'⟩ := own_at s2 hi2 ho h
    rw [ep] at e'; cases e'
    have rw : w = .int j := rw
    subst rw
    unfold setI at e
    cases hn : ixN xs.length j with
    | none => rw [hn] at e; cases e
    | some n =>
      rw [hn] at e
      cases e
      exact ⟨p, vs', j, n, rfl, rfl, hp', by rw [rps_len r']; exact hn, k _ _ ⟨F2, A2, s2.write (vs := vs') hi2 ho ep (rps_set (Rp.mono e2 rv) n r')⟩⟩
/-- x += e of ints -/
theorem sx_aug {i : Nat} {x y z : Int} {f : Int → Int → Int} (hi : E[i]? = some (.kp x)) (hy : Px g B E E1 te y) (e : f x y = z) (k : ∀ σ H, Sp' g B (E1.set i (.kp z)) σ H → D.nx σ H) : Sx g B E (tAug i te (ipI f)) D := fun F A σ H s => by
  obtain ⟨v, e0, rv⟩ := s.sl i _ hi
  have rv : v = .int x := rv
  subst rv
  refine ⟨_, e0, hy F A σ H s _ fun F1 A1 H1 w s1 e1 rw => ?_⟩
  have rw : w = .int y := rw
  subst rw
  exact ⟨x, y, rfl, rfl, k _ _ ⟨F1, A1, s1.setk (x := z) (by show V.int _ = V.int z; rw [e])⟩⟩
end

/-! ### promises -/
/-- the lists that a def may change: their contents afterwards -/
inductive Cn : Type 1 where
  | mk {α : Type} [i : Rp α] (xs : List α)
/-- what a heap holds besides the lists of an older one -/
def dl (F F0 : Hp) : Hp := fun a => match F0 a with
  | some (.lst _) => none
  | _ => F a
theorem dl_cases (F F0 : Hp) (a : Addr) : (∃ xs, F0 a = some (.lst xs) ∧ dl F F0 a = none) ∨ ((∀ xs, F0 a ≠ some (.lst xs)) ∧ dl F F0 a = F a) := by
  unfold dl
  split
  · rename_i xs e
    exact .inl ⟨xs, e, rfl⟩
  · rename_i e
    exact .inr ⟨fun xs z => e xs z, rfl⟩
theorem dl_le {F F0 : Hp} : Same (dl F F0) F := fun a o h => by
  rcases dl_cases F F0 a with ⟨_, _, e⟩ | ⟨_, e⟩
  · rw [e] at h; cases h
  · rwa [e] at h
theorem dl_mono {F F' F0 : Hp} (s : Same F F') : Same (dl F F0) (dl F' F0) := fun a o h => by
  rcases dl_cases F F0 a with ⟨_, _, e⟩ | ⟨n, e⟩
  · rw [e] at h; cases h
  · rw [e] at h
    rcases dl_cases F' F0 a with ⟨xs, e0, _⟩ | ⟨_, e'⟩
    · exact absurd e0 (n xs)
    · rw [e']; exact s _ _ h
theorem dl_anti {F F0 F1 : Hp} (s : Same F0 F1) : Same (dl F F1) (dl F F0) := fun a o h => by
  rcases dl_cases F F1 a with ⟨_, _, e⟩ | ⟨n, e⟩
  · rw [e] at h; cases h
  · rw [e] at h
    rcases dl_cases F F0 a with ⟨xs, e0, _⟩ | ⟨_, e'⟩
    · exact absurd (s _ _ e0) (n xs)
    · rw [e']; exact h
/-- fr: an answer whose lists are all new -/
inductive Out : Type 1 where
  | ret {α : Type} [i : Rp α] (y : α) (outs : List Cn)
  | exc (c : Str) (d : D)
  | new {α : Type} [i : Rp α] (ys : List α) (outs : List Cn)
  | fr {α : Type} [i : Rp α] (y : α) (outs : List Cn)
/-- an argument: kept; read only; a list that may be changed -/
inductive Ca : Type 1 where
  | k {α : Type} [i : Rp α] (x : α)
  | b {α : Type} [i : Rp α] (x : α)
  | m {α : Type} [i : Rp α] (xs : List α)
def less (H : Hp) (ps : List Addr) : Hp := fun a => if a ∈ ps then none else H a
theorem less_same (H : Hp) (ps : List Addr) : Same (less H ps) H := fun a o e => by
  unfold less at e
  split at e
  · cases e
  · exact e
theorem less_in {H : Hp} {ps : List Addr} {a : Addr} (h : a ∈ ps) : less H ps a = none := by unfold less; rw [if_pos h]
theorem less_out {H : Hp} {ps : List Addr} {a : Addr} (h : a ∉ ps) : less H ps a = H a := by unfold less; rw [if_neg h]
/-- the arguments stand so; qs: the lists that may be changed, of ps -/
def InOk (g : Gx) (F H : Hp) (ps : List Addr) : List V → List Ca → List Addr → Prop
  | [], [], qs => qs = []
  | v :: vs, @Ca.k _ _ x :: cs, qs => rp g F v x ∧ InOk g F H ps vs cs qs
  | v :: vs, @Ca.b _ _ x :: cs, qs => rp g (less H ps) v x ∧ InOk g F H ps vs cs qs
  | v :: vs, @Ca.m _ _ xs :: cs, qs => ∃ p ws qs', v = .ref p ∧ qs = p :: qs' ∧ H p = some (.lst ws) ∧ rps g F ws xs ∧ F p = none ∧ InOk g F H ps vs cs qs'
  | _, _, _ => False
def CnOk (g : Gx) (F H : Hp) : List Addr → List Cn → Prop
  | [], [] => True
  | p :: ps, @Cn.mk _ _ xs :: cs => (∃ ws, H p = some (.lst ws) ∧ rps g F ws xs ∧ F p = none) ∧ CnOk g F H ps cs
  | _, _ => False
/-- how an exception of these words lies -/
def PayOk (H : Hp) (dx : Option Addr) : D → Prop
  | .non => dx = none
  | .tup [.str f, d] => ∃ a v, dx = some a ∧ H a = some (.xd [(Tx.s f, v)]) ∧ rpD H v d
  | _ => False
structure Grow (F H F' H' : Hp) (ps : List Addr) : Prop where
  f : Same F F'
  fh : Same F' H'
  new : ∀ a, F a = none → H a ≠ none → F' a = none
  h : ∀ a o, a ∉ ps → H a = some o → H' a = some o
def FinOk (g : Gx) (F H : Hp) (ps : List Addr) (Q : VK) (X : XK) : Out → Prop
  | @Out.ret _ _ y outs => ∀ F' H' v, Grow F H F' H' ps → CnOk g F' H' ps outs → rp g F' v y → Q v H'
  | .exc c d => ∀ F' H' dx, Grow F H F' H' ps → (∀ p ∈ ps, H' p ≠ none) → PayOk F' dx d → X (.ref (g.ca c)) dx H'
  | @Out.fr _ _ y outs => ∀ F' H' v, Grow F H F' H' ps → CnOk g F' H' ps outs → rp g (dl F' F) v y → Q v H'
  | @Out.new _ _ ys outs => ∀ F' H' p ws, Grow F H F' H' ps → CnOk g F' H' ps outs → H p = none → H' p = some (.lst ws) → rps g F' ws ys → F' p = none → Q (.ref p) H'
def spOf (g : Gx) (rel : List Ca → Out → Prop) : Sp := fun vs H Q X => ∃ F cs ps o, Same F H ∧ ps.Nodup ∧ InOk g F H ps vs cs ps ∧ rel cs o ∧ FinOk g F H ps Q X o

/-! calls -/
inductive Ar : Type 1 where
  | k {α : Type} [i : Rp α] (x : α)
  | s (i : Nat)
def ArOk (g : Gx) (F : Hp) (σ : St) : List V → List Ar → Prop
  | [], [] => True
  | v :: vs, @Ar.k _ _ x :: as => rp g F v x ∧ ArOk g F σ vs as
  | v :: vs, .s i :: as => σ[i]? = some (some v) ∧ ArOk g F σ vs as
  | _, _ => False
theorem ArOk.mono {g : Gx} {F F' : Hp} {σ : St} (s : Same F F') : ∀ {vs : List V} {as : List Ar}, ArOk g F σ vs as → ArOk g F' σ vs as
  | [], [], _ => trivial
  | _ :: _, @Ar.k _ _ _ :: _, h => ⟨Rp.mono s h.1, ArOk.mono s h.2⟩
  | _ :: _, .s _ :: _, h => ⟨h.1, ArOk.mono s h.2⟩
  | [], @Ar.k _ _ _ :: _, h => h.elim
  | [], .s _ :: _, h => h.elim
  | _ :: _, [], h => h.elim
def PxA (g : Gx) (B : Bs) (E E' : List Bd) (ta : TA) (as : List Ar) : Prop :=
  ∀ F A σ H, Sta g B F A E σ H → ∀ Q : List V → Hp → Prop, (∀ F' A' H' vs, Sta g B F' A' E' σ H' → Same F F' → ArOk g F' σ vs as → Q vs H') → ta σ H Q
/-- what the callee gets; ms: the slots whose lists it may change -/
inductive Rs (E : List Bd) : List Ar → List Ca → List Nat → Prop
  | nil : Rs E [] [] []
  | k {α : Type} [Rp α] {x : α} {as cs ms} : Rs E as cs ms → Rs E (.k x :: as) (.k x :: cs) ms
  | kb {α : Type} [Rp α] {x : α} {as cs ms} : Rs E as cs ms → Rs E (.k x :: as) (.b x :: cs) ms
  | sk {α : Type} [Rp α] {x : α} {i : Nat} {as cs ms} : E[i]? = some (.kp x) → Rs E as cs ms → Rs E (.s i :: as) (.k x :: cs) ms
  | sb {α : Type} [Rp α] {x : α} {b : Bd} {i : Nat} {as cs ms} : E[i]? = some b → Rd1 b x → Rs E as cs ms → Rs E (.s i :: as) (.b x :: cs) ms
  | m {α : Type} [Rp α] {xs : List α} {b : Bd} {i : Nat} {as cs ms} : E[i]? = some b → b.isO → RdL b xs → Rs E as cs ms → Rs E (.s i :: as) (.m xs :: cs) (i :: ms)
/-- the slots that are read only are none of those that may be changed -/
inductive Apart (E : List Bd) (ms : List Nat) : List Ar → List Ca → Prop
  | nil : Apart E ms [] []
  | k {α β : Type} [Rp α] [Rp β] {x : α} {y : β} {as cs} : Apart E ms as cs → Apart E ms (.k x :: as) (.k y :: cs)
  | kb {α β : Type} [Rp α] [Rp β] {x : α} {y : β} {as cs} : Apart E ms as cs → Apart E ms (.k x :: as) (.b y :: cs)
  | sk {β : Type} [Rp β] {y : β} {i : Nat} {as cs} : Apart E ms as cs → Apart E ms (.s i :: as) (.k y :: cs)
  | sb {β : Type} [Rp β] {y : β} {i : Nat} {as cs} : i ∉ ms → Apart E ms as cs → Apart E ms (.s i :: as) (.b y :: cs)
  | m {β : Type} [Rp β] {y : List β} {i : Nat} {as cs} : Apart E ms as cs → Apart E ms (.s i :: as) (.m y :: cs)
def puts (E : List Bd) : List Nat → List Cn → List Bd
  | i :: ms, @Cn.mk _ _ xs :: cs => puts (E.set i (((E[i]?).getD .un).put xs)) ms cs
  | _, _ => E
section
variable {g : Gx} {B : Bs} {E E1 E2 E3 E' : List Bd} {ta tb tc te : TE} {α β γ : Type} [Rp α] [Rp β] [Rp γ]
theorem pa_n : PxA g B E E tNil [] := fun F A σ H s Q k => k F A H [] s (Same.refl _) trivial
theorem pa_k {tr : TA} {x : α} {as : List Ar} (h : Px g B E E1 te x) (hr : PxA g B E1 E2 tr as) : PxA g B E E2 (tCons te tr) (.k x :: as) := fun F A σ H s Q k =>
  h F A σ H s _ fun F1 A1 H1 v s1 e1 r1 => hr F1 A1 σ H1 s1 _ fun F2 A2 H2 vs s2 e2 r2 => k F2 A2 H2 (v :: vs) s2 (e1.trans e2) ⟨Rp.mono e2 r1, r2⟩
theorem slot_v {F A H : Hp} {σ : St} (s : Sta g B F A E σ H) {i : Nat} {b : Bd} (hb : E[i]? = some b) (hu : b ≠ .un) : ∃ v, σ[i]? = some (some v) := by
  have q := s.sl i b hb
  cases b with
  | un => exact absurd rfl hu
  | kp x => obtain ⟨v, e, _⟩ := q; exact ⟨v, e⟩
  | bo x => obtain ⟨v, e, _⟩ := q; exact ⟨v, e⟩
  | ow x => obtain ⟨p, vs, e, _⟩ := q; exact ⟨_, e⟩
  | io p x => obtain ⟨vs, e, _⟩ := q; exact ⟨_, e⟩
  | ot ps x => obtain ⟨v, e, _⟩ := q; exact ⟨v, e⟩
theorem pa_s {tr : TA} {i : Nat} {b : Bd} {as : List Ar} (hb : E[i]? = some b) (hu : b ≠ .un) (hr : PxA g B E E2 tr as) : PxA g B E E2 (tCons (tVar i) tr) (.s i :: as) := fun F A σ H s Q k => by
  obtain ⟨v, e⟩ := slot_v s hb hu
  exact ⟨v, e, hr F A σ H s _ fun F2 A2 H2 vs s2 e2 r2 => k F2 A2 H2 (v :: vs) s2 e2 ⟨e, r2⟩⟩
/-- the addresses of the slots -/
def AdOk (σ : St) : List Nat → List Addr → Prop
  | [], [] => True
  | i :: ms, p :: ps => σ[i]? = some (some (.ref p)) ∧ AdOk σ ms ps
  | _, _ => False
theorem AdOk.mem {σ : St} : ∀ {ms : List Nat} {ps : List Addr} {p : Addr}, AdOk σ ms ps → p ∈ ps → ∃ i ∈ ms, σ[i]? = some (some (.ref p))
  | i :: ms, q :: ps, p, h, hm => by
    rcases List.mem_cons.mp hm with e | hm
    · subst e; exact ⟨i, List.mem_cons_self, h.1⟩
    · obtain ⟨j, hj, e⟩ := h.2.mem hm
      exact ⟨j, List.mem_cons_of_mem _ hj, e⟩
  | [], [], _, _, hm => by cases hm
  | [], _ :: _, _, h, _ => h.elim
  | _ :: _, [], _, h, _ => h.elim
theorem rs_ads {F A H : Hp} {σ : St} (s : Sta g B F A E σ H) : ∀ {as : List Ar} {cs : List Ca} {ms : List Nat}, Rs E as cs ms → (∃ ps, AdOk σ ms ps) ∧ ∀ i ∈ ms, ∃ b, E[i]? = some b ∧ b.isO := by
  intro as cs ms h
  induction h with
  | nil => exact ⟨⟨[], trivial⟩, fun i hi => nomatch hi⟩
  | k _ ih => exact ih
  | kb _ ih => exact ih
  | sk _ _ ih => exact ih
  | sb _ _ _ ih => exact ih
  | m e ho hr _ ih =>
    obtain ⟨⟨ps, h⟩, h2⟩ := ih
    obtain ⟨p, vs, e1, _⟩ := own_at s e ho hr
    refine ⟨⟨p :: ps, e1, h⟩, fun i hi => ?_⟩
    rcases List.mem_cons.mp hi with q | q
    · subst q; exact ⟨_, e, ho⟩
    · exact h2 i q
theorem ads_nodup {F A H : Hp} {σ : St} (s : Sta g B F A E σ H) : ∀ {ms : List Nat} {ps : List Addr}, AdOk σ ms ps → ms.Nodup → (∀ i ∈ ms, ∃ b, E[i]? = some b ∧ b.isO) → ps.Nodup
  | [], [], _, _, _ => List.nodup_nil
  | i :: ms, p :: ps, h, nd, ho => by
    refine List.nodup_cons.mpr ⟨fun hm => ?_, ads_nodup s h.2 (List.nodup_cons.mp nd).2 fun j hj => ho j (List.mem_cons_of_mem _ hj)⟩
    obtain ⟨j, hj, e⟩ := h.2.mem hm
    obtain ⟨b, hb, hbo⟩ := ho i List.mem_cons_self
    obtain ⟨c, hc, hco⟩ := ho j (List.mem_cons_of_mem _ hj)
    have : i = j := s.ne i j p ⟨h.1, b, hb, hbo⟩ ⟨e, c, hc, hco⟩
    exact (List.nodup_cons.mp nd).1 (this ▸ hj)
  | [], _ :: _, h, _, _ => h.elim
  | _ :: _, [], h, _, _ => h.elim
theorem rp_less {F A H : Hp} {σ : St} (s : Sta g B F A E σ H) {ps : List Addr} (hps : ∀ p ∈ ps, A p = none) : Same A (less H ps) := fun a o e => by
  rw [less_out (fun h => by rw [hps a h] at e; cases e)]
  exact s.ah _ _ e
theorem in_ok {F A H : Hp} {σ : St} (s : Sta g B F A E σ H) {ps0 : List Addr} {ms0 : List Nat} (had0 : AdOk σ ms0 ps0) (ho0 : ∀ i ∈ ms0, ∃ b, E[i]? = some b ∧ b.isO) :
    ∀ {as : List Ar} {cs : List Ca} {ms : List Nat} {vs : List V} {ps : List Addr}, Rs E as cs ms → Apart E ms0 as cs → ArOk g F σ vs as → AdOk σ ms ps → InOk g F H ps0 vs cs ps := by
  have hA : ∀ p ∈ ps0, A p = none := fun p hp => by
    obtain ⟨i, hi, e⟩ := had0.mem hp
    obtain ⟨b, hb, hbo⟩ := ho0 i hi
    exact (s.own ⟨e, b, hb, hbo⟩).2.1
  have sA := rp_less s hA
  intro as cs ms vs ps h
  induction h generalizing vs ps with
  | nil =>
    intro _ ha hd
    cases vs with
    | cons _ _ => exact ha.elim
    | nil =>
      cases ps with
      | nil => rfl
      | cons _ _ => exact hd.elim
  | k _ ih =>
    intro ap ha hd
    cases ap with
    | k ap => cases vs with
      | nil => exact ha.elim
      | cons v vs => exact ⟨ha.1, ih ap ha.2 hd⟩
  | kb _ ih =>
    intro ap ha hd
    cases ap with
    | kb ap => cases vs with
      | nil => exact ha.elim
      | cons v vs => exact ⟨Rp.mono (s.fa.trans sA) ha.1, ih ap ha.2 hd⟩
  | sk e _ ih =>
    intro ap ha hd
    cases ap with
    | sk ap => cases vs with
      | nil => exact ha.elim
      | cons v vs =>
        obtain ⟨v', e1, r⟩ := s.sl _ _ e
        rw [ha.1] at e1; cases e1
        exact ⟨r, ih ap ha.2 hd⟩
  | sb e hr _ ih =>
    rename_i b i as cs ms _
    intro ap ha hd
    cases ap with
    | sb hn ap => cases vs with
      | nil => exact ha.elim
      | cons v vs =>
        refine ⟨?_, ih ap ha.2 hd⟩
        have q := s.sl _ _ e
        cases hr with
        | kp => obtain ⟨v', e1, r⟩ := q; rw [ha.1] at e1; cases e1; exact Rp.mono (s.fa.trans sA) r
        | bo => obtain ⟨v', e1, r⟩ := q; rw [ha.1] at e1; cases e1; exact Rp.mono sA r
        | ow =>
          obtain ⟨p, ws, e1, e2, r, _⟩ := q
          rw [ha.1] at e1; cases e1
          refine ⟨p, ws, rfl, ?_, rps_mono (s.fa.trans sA) r⟩
          rw [less_out fun hm => ?_]; exact e2
          obtain ⟨j, hj, ej⟩ := had0.mem hm
          obtain ⟨c, hc, hco⟩ := ho0 j hj
          exact hn (s.ne _ _ p ⟨ha.1, _, e, trivial⟩ ⟨ej, c, hc, hco⟩ ▸ hj)
        | io =>
          obtain ⟨ws, e1, e2, r, _⟩ := q
          rw [ha.1] at e1; cases e1
          refine ⟨_, ws, rfl, ?_, rps_mono (s.fa.trans sA) r⟩
          rw [less_out fun hm => ?_]; exact e2
          obtain ⟨j, hj, ej⟩ := had0.mem hm
          obtain ⟨c, hc, hco⟩ := ho0 j hj
          exact hn (s.ne _ _ _ ⟨ha.1, _, e, trivial⟩ ⟨ej, c, hc, hco⟩ ▸ hj)
  | m e ho hr _ ih =>
    intro ap ha hd
    cases ap with
    | m ap => cases vs with
      | nil => exact ha.elim
      | cons v vs => cases ps with
        | nil => exact hd.elim
        | cons p ps =>
          obtain ⟨p', ws, e1, e2, r⟩ := own_at s e ho hr
          rw [hd.1] at e1; cases e1
          have e3 : v = .ref p := by have := ha.1; rw [hd.1] at this; exact (Option.some.inj (Option.some.inj this)).symm
          exact ⟨p, ws, ps, e3, rfl, e2, r, (s.own ⟨hd.1, _, e, ho⟩).1, ih ap ha.2 hd.2⟩
/-- behind a call: the frozen part as the callee left it -/
theorem after_call2 {F A H F' H' : Hp} {σ : St} {E' : List Bd} (s : Sta g B F A E σ H) {ms : List Nat} {ps : List Addr} (had : AdOk σ ms ps) (ho : ∀ i ∈ ms, ∃ b, E[i]? = some b ∧ b.isO) (gr : Grow F H F' H' ps) (hin : ∀ p ∈ ps, H' p ≠ none) (hf : ∀ p ∈ ps, F' p = none)
    (len : E'.length = E.length) (get : ∀ (i : Nat) (b : Bd), E'[i]? = some b → b = .un ∨ (i ∉ ms ∧ E[i]? = some b) ∨ (i ∈ ms ∧ b.qs = [] ∧ ∃ p ∈ ps, σ[i]? = some (some (.ref p)) ∧ ∀ A', A' p = none → SlotOk g F' A' H' σ[i]? b)) :
    ∃ A', (∀ a, F' a = none → A' a = A a) ∧ Sta g B F' A' E' σ H' := by
  have hA : ∀ p ∈ ps, A p = none := fun p hp => by
    obtain ⟨i, hi, e⟩ := had.mem hp
    obtain ⟨b, hb, hbo⟩ := ho i hi
    exact (s.own ⟨e, b, hb, hbo⟩).2.1
  let A' : Hp := fun a => match F' a with | some o => some o | none => A a
  have a1 : ∀ a o, F' a = some o → A' a = some o := fun a o e => by show (match F' a with | some o => some o | none => A a) = _; rw [e]
  have a2 : ∀ a, F' a = none → A' a = A a := fun a e => by show (match F' a with | some o => some o | none => A a) = _; rw [e]
  have hFA : ∀ a o, F' a = some o → A a = none ∨ A a = some o := fun a o e => by
    cases h : F a with
    | some u =>
      have := gr.f _ _ h
      rw [e] at this; cases this
      exact .inr (s.fa _ _ h)
    | none =>
      left
      cases h2 : A a with
      | none => rfl
      | some u =>
        have := gr.new a h (by rw [s.ah _ _ h2]; exact fun z => nomatch z)
        rw [e] at this; cases this
  have ownIn : ∀ i p, Own E' σ i p → Own E σ i p := fun i p ⟨e1, b, hb, hbo⟩ => by
    rcases get i b hb with z | ⟨h1, h2⟩ | ⟨h1, _, q, hq, e2, _⟩
    · subst z; exact hbo.elim
    · exact ⟨e1, b, h2, hbo⟩
    · obtain ⟨c, hc, hco⟩ := ho i h1
      exact ⟨e1, c, hc, hco⟩
  have innIn : ∀ i p, Inn E' i p → Inn E i p := fun i p ⟨b, hb, hbo⟩ => by
    rcases get i b hb with z | ⟨h1, h2⟩ | ⟨h1, z, _⟩
    · subst z; cases hbo
    · exact ⟨b, h2, hbo⟩
    · rw [z] at hbo; cases hbo
  refine ⟨A', a2, len.trans s.len, a1, fun a o e => ?_, s.f0.trans gr.f, fun a o e => ?_, fun a h1 h2 => ?_, fun a h => ?_, fun i b e => ?_, fun i j p h1 h2 => s.ne i j p (ownIn i p h1) (ownIn j p h2), fun a o e => ?_, fun i q h => ?_⟩
  · cases h : F' a with
    | some u => rw [a1 a u h] at e; cases e; exact gr.fh _ _ h
    | none =>
      rw [a2 a h] at e
      refine gr.h a o (fun hm => ?_) (s.ah _ _ e)
      rw [hA a hm] at e; cases e
  · have e1 := s.a0 _ _ e
    cases h : F' a with
    | some u =>
      rcases hFA a u h with z | z
      · rw [z] at e1; cases e1
      · rw [z] at e1; cases e1; exact a1 a _ h
    | none => rw [a2 a h]; exact e1
  · refine gr.new a (s.fr a h1 h2) ?_
    rcases h2 with h2 | h2
    · cases e : B.A0 a with
      | none => exact absurd e h2
      | some o => rw [s.ah _ _ (s.a0 _ _ e)]; exact fun z => nomatch z
    · exact (s.inn a h2).1
  · obtain ⟨h1, h2⟩ := s.inn a h
    have hF : F' a = none := by
      by_cases hm : a ∈ ps
      · exact hf a hm
      · exact gr.new a (s.fa.free h2) h1
    refine ⟨?_, by rw [a2 a hF]; exact h2⟩
    by_cases hm : a ∈ ps
    · exact hin a hm
    · cases e : H a with
      | none => exact absurd e h1
      | some o => rw [gr.h a o hm e]; exact fun z => nomatch z
  · rcases get i b e with z | ⟨h1, h2⟩ | ⟨h1, _, p, hp, e1, sl⟩
    · subst z; trivial
    · refine SlotOk.mono gr.f (fun a o e => ?_) (fun p e1 h => ?_) (s.sl i b h2) fun q h => ?_
      · cases h : F' a with
        | some u =>
          rcases hFA a u h with z | z
          · rw [z] at e; cases e
          · rw [z] at e; cases e; exact a1 a _ h
        | none => rw [a2 a h]; exact e
      · have ow : Own E σ i p := ⟨e1, _, h2, h⟩
        obtain ⟨f1, f2, vs, f3⟩ := s.own ow
        have hp : p ∉ ps := fun hm => by
          obtain ⟨j, hj, ej⟩ := had.mem hm
          obtain ⟨c, hc, hco⟩ := ho j hj
          exact h1 (s.ne i j p ow ⟨ej, c, hc, hco⟩ ▸ hj)
        have hF' : F' p = none := gr.new p f1 (by rw [f3]; exact fun z => nomatch z)
        exact ⟨fun vs z => gr.h p _ hp z, hF', by rw [a2 p hF']; exact f2⟩
      · have ow : Inn E i q := ⟨_, h2, h⟩
        obtain ⟨f1, f2, f3⟩ := s.inq ow
        have hp : q ∉ ps := fun hm => by
          obtain ⟨j, hj, ej⟩ := had.mem hm
          obtain ⟨c, hc, hco⟩ := ho j hj
          exact (s.nn i q ow).1 j ⟨ej, c, hc, hco⟩
        have hF' : F' q = none := gr.new q f1 f3
        exact ⟨fun o z => gr.h q _ hp z, hF', by rw [a2 q hF']; exact f2⟩
    · exact sl A' (by rw [a2 p (hf p hp)]; exact hA p hp)
  · obtain ⟨h1, h2, h3⟩ := s.pr a o e
    have hp : a ∉ ps := fun hm => by
      obtain ⟨j, hj, ej⟩ := had.mem hm
      obtain ⟨c, hc, hco⟩ := ho j hj
      exact h3 j ⟨ej, c, hc, hco⟩
    have hF : F' a = none := gr.new a (s.fa.free h2) (by rw [h1]; exact fun z => nomatch z)
    exact ⟨gr.h a o hp h1, by rw [a2 a hF]; exact h2, fun i q => h3 i (ownIn i a q)⟩
  · obtain ⟨h1, h2, h3, h4⟩ := s.nn i q (innIn i q h)
    exact ⟨fun j z => h1 j (ownIn j q z), fun j z => h2 j (innIn j q z), h3, h4⟩
theorem after_call {F A H F' H' : Hp} {σ : St} {E' : List Bd} (s : Sta g B F A E σ H) {ms : List Nat} {ps : List Addr} (had : AdOk σ ms ps) (ho : ∀ i ∈ ms, ∃ b, E[i]? = some b ∧ b.isO) (gr : Grow F H F' H' ps) (hin : ∀ p ∈ ps, H' p ≠ none) (hf : ∀ p ∈ ps, F' p = none)
    (len : E'.length = E.length) (get : ∀ (i : Nat) (b : Bd), E'[i]? = some b → b = .un ∨ (i ∉ ms ∧ E[i]? = some b) ∨ (i ∈ ms ∧ b.qs = [] ∧ ∃ p ∈ ps, σ[i]? = some (some (.ref p)) ∧ ∀ A', A' p = none → SlotOk g F' A' H' σ[i]? b)) :
    ∃ A', Sta g B F' A' E' σ H' := by
  obtain ⟨A', _, h⟩ := after_call2 s had ho gr hin hf len get
  exact ⟨A', h⟩
theorem puts_len : ∀ {ms : List Nat} {cs : List Cn} {E : List Bd}, (puts E ms cs).length = E.length
  | [], [], _ => rfl
  | [], _ :: _, _ => rfl
  | _ :: _, [], _ => rfl
  | i :: ms, @Cn.mk _ _ xs :: cs, E => by unfold puts; rw [puts_len]; simp
/-- the slot's own address, if it is told -/
def Bd.io1 (b : Bd) (p : Addr) : Prop := match b with
  | @Bd.io q _ _ _ => q = p
  | _ => True
theorem puts_get {F' H' : Hp} {σ : St} : ∀ {ms : List Nat} {ps : List Addr} {cs : List Cn} {E1 : List Bd}, AdOk σ ms ps → CnOk g F' H' ps cs → ms.Nodup → (∀ i ∈ ms, ∃ b, E1[i]? = some b ∧ b.isO ∧ ∀ p, σ[i]? = some (some (.ref p)) → b.io1 p) →
    ∀ (i : Nat) (b : Bd), (puts E1 ms cs)[i]? = some b → (i ∉ ms ∧ E1[i]? = some b) ∨ (i ∈ ms ∧ b.qs = [] ∧ ∃ p ∈ ps, σ[i]? = some (some (.ref p)) ∧ ∀ A' : Hp, A' p = none → SlotOk g F' A' H' σ[i]? b)
  | [], [], [], E1, _, _, _, _, i, b, h => .inl ⟨by simp, h⟩
  | j :: ms, p :: ps, @Cn.mk _ _ xs :: cs, E1, had, hcn, nd, ho, i, b, h => by
    obtain ⟨c, hc, hco, hio⟩ := ho j List.mem_cons_self
    obtain ⟨nj, nd'⟩ := List.nodup_cons.mp nd
    obtain ⟨⟨ws, w1, w2, w3⟩, hcn'⟩ := hcn
    have hjl : j < E1.length := (List.getElem?_eq_some_iff.mp hc).1
    have e0 : puts E1 (j :: ms) (@Cn.mk _ _ xs :: cs) = puts (E1.set j (c.put xs)) ms cs := by
      show puts (E1.set j (((E1[j]?).getD .un).put xs)) ms cs = _
      rw [hc]; rfl
    rw [e0] at h
    rcases puts_get had.2 hcn' nd' (fun k hk => by
      obtain ⟨d, hd, hdo, hdi⟩ := ho k (List.mem_cons_of_mem _ hk)
      have hkj : k ≠ j := fun z => nj (z ▸ hk)
      exact ⟨d, by rw [List.getElem?_set_ne (Ne.symm hkj)]; exact hd, hdo, hdi⟩) i b h with ⟨h1, h2⟩ | ⟨h1, hz, q, hq, h2, h3⟩
    · by_cases hj : i = j
      · subst hj
        rw [List.getElem?_set_self hjl] at h2
        cases h2
        refine .inr ⟨List.mem_cons_self, by cases c <;> first | rfl | exact hco.elim, p, List.mem_cons_self, had.1, fun A' hA' => ?_⟩
        have hp := hio p had.1
        cases c with
        | un => exact hco.elim
        | kp x => exact hco.elim
        | bo x => exact hco.elim
        | ow x => exact ⟨p, ws, had.1, w1, w2, w3, hA'⟩
        | io q x =>
          have hp : q = p := hp
          subst hp
          exact ⟨ws, had.1, w1, w2, w3, hA'⟩
        | ot ps x => exact hco.elim
      · rw [List.getElem?_set_ne (Ne.symm hj)] at h2
        exact .inl ⟨by simp [hj, h1], h2⟩
    · exact .inr ⟨List.mem_cons_of_mem _ h1, hz, q, List.mem_cons_of_mem _ hq, h2, h3⟩
  | [], [], _ :: _, _, _, h, _, _, _, _, _ => h.elim
  | [], _ :: _, _, _, h, _, _, _, _, _, _ => h.elim
  | _ :: _, [], _, _, h, _, _, _, _, _, _ => h.elim
  | _ :: _, _ :: _, [], _, _, h, _, _, _, _, _ => h.elim
theorem cn_at {F' H' : Hp} : ∀ {ps : List Addr} {cs : List Cn}, CnOk g F' H' ps cs → ∀ p ∈ ps, F' p = none ∧ H' p ≠ none
  | q :: ps, @Cn.mk _ _ xs :: cs, h, p, hp => by
    obtain ⟨⟨ws, w1, w2, w3⟩, h'⟩ := h
    rcases List.mem_cons.mp hp with e | hp
    · subst e; exact ⟨w3, by rw [w1]; exact fun z => nomatch z⟩
    · exact cn_at h' p hp
  | [], _, _, p, hp => by cases hp
  | _ :: _, [], h, _, _ => h.elim
theorem sl_io {F A H : Hp} {σ : St} (s : Sta g B F A E σ H) {i : Nat} {b : Bd} (hb : E[i]? = some b) : ∀ p, σ[i]? = some (some (.ref p)) → b.io1 p := fun p e => by
  have q := s.sl i b hb
  cases b with
  | io q' x =>
    obtain ⟨vs, e1, _⟩ := q
    rw [e] at e1; cases e1
    rfl
  | un => trivial
  | kp x => trivial
  | bo x => trivial
  | ow x => trivial
  | ot ps x => trivial
/-- a call of a def that keeps such a promise -/
theorem run_sp {rel : List Ca → Out → Prop} {X : XK} {as : List Ar} {cs : List Ca} {ms : List Nat} {x : α} {outs : List Cn} (hr : Rs E as cs ms) (ap : Apart E ms as cs) (nd : ms.Nodup) (hrel : rel cs (.ret x outs)) {F A H : Hp} {σ : St} {vs : List V} (s : Sta g B F A E σ H) (ha : ArOk g F σ vs as) {Q : VK}
    (k : ∀ F' A' H' v, Sta g B F' A' (puts E ms outs) σ H' → Same F F' → rp g F' v x → Q v H') : spOf g rel vs H Q X := by
  obtain ⟨⟨ps, had⟩, ho⟩ := rs_ads s hr
  refine ⟨F, cs, ps, .ret x outs, s.fa.trans s.ah, ads_nodup s had nd ho, in_ok s had ho hr ap ha had, hrel, fun F' H' v gr cn r => ?_⟩
  have c := cn_at cn
  obtain ⟨A', s'⟩ := after_call s had ho gr (fun p hp => (c p hp).2) (fun p hp => (c p hp).1) puts_len fun i b e => .inr (puts_get had cn nd (fun i hi => by
    obtain ⟨b, hb, hbo⟩ := ho i hi
    exact ⟨b, hb, hbo, sl_io s hb⟩) i b e)
  exact k F' A' H' v s' gr.f r
theorem px_call {rel : List Ca → Out → Prop} {X : XK} {as : List Ar} {cs : List Ca} {ms : List Nat} {x : α} {outs : List Cn} {t : TA} (ha : PxA g B E E1 t as) (hr : Rs E1 as cs ms) (ap : Apart E1 ms as cs) (nd : ms.Nodup) (hrel : rel cs (.ret x outs)) : Px g B E (puts E1 ms outs) (tCall (spOf g rel) [] X t) x := fun F A σ H s Q k =>
  ha F A σ H s _ fun F1 A1 H1 vs s1 e1 r1 => by
    show spOf g rel (vs ++ []) H1 Q X
    rw [List.append_nil]
    exact run_sp hr ap nd hrel s1 r1 fun F' A' H' v s' e r => k F' A' H' v s' (e1.trans e) r
theorem px_callN {rel : List Ca → Out → Prop} {X : XK} {as : List Ar} {cs : List Ca} {ms : List Nat} {xs : List α} {outs : List Cn} {t : TA} (ha : PxA g B E E1 t as) (hr : Rs E1 as cs ms) (ap : Apart E1 ms as cs) (nd : ms.Nodup) (hrel : rel cs (.new xs outs)) : PxN g B E (puts E1 ms outs) (tCall (spOf g rel) [] X t) xs := fun F A σ H s Q k =>
  ha F A σ H s _ fun F1 A1 H1 vs s1 e1 r1 => by
    show spOf g rel (vs ++ []) H1 Q X
    rw [List.append_nil]
    obtain ⟨⟨ps, had⟩, ho⟩ := rs_ads s1 hr
    refine ⟨F1, cs, ps, .new xs outs, s1.fa.trans s1.ah, ads_nodup s1 had nd ho, in_ok s1 had ho hr ap r1 had, hrel, fun F' H' p ws gr cn hp hp' r hf => ?_⟩
    have c := cn_at cn
    have get := puts_get had cn nd (fun i hi => by
      obtain ⟨b, hb, hbo⟩ := ho i hi
      exact ⟨b, hb, hbo, sl_io s1 hb⟩)
    obtain ⟨A', hA', s'⟩ := after_call2 s1 had ho gr (fun p hp => (c p hp).2) (fun p hp => (c p hp).1) puts_len fun i b e => .inr (get i b e)
    have hA : A1 p = none := s1.ah.free hp
    refine k F' A' H' p ws s' (e1.trans gr.f) ⟨hp', hf, by rw [hA' p hf]; exact hA, fun i q => ?_, fun i q => ?_, fun m => (s1.inn p m).1 hp, ?_⟩ r
    rotate_left
    · obtain ⟨b, hb, hbo⟩ := q
      rcases get i b hb with ⟨_, h2⟩ | ⟨_, z, _⟩
      · exact (s1.inq ⟨b, h2, hbo⟩).2.2 hp
      · rw [z] at hbo; cases hbo
    rotate_left
    · obtain ⟨e1', b, hb, hbo⟩ := q
      rcases get i b hb with ⟨_, h2⟩ | ⟨hi, _⟩
      · obtain ⟨_, _, _, z⟩ := s1.own ⟨e1', b, h2, hbo⟩
        rw [hp] at z; cases z
      · obtain ⟨c', hc, hco⟩ := ho i hi
        obtain ⟨_, _, _, z⟩ := s1.own ⟨e1', c', hc, hco⟩
        rw [hp] at z; cases z
    · cases e : B.P p with
      | none => rfl
      | some u => have := (s1.pr p u e).1; rw [hp] at this; cases this
/-- an expression that raises -/
def PxE (g : Gx) (B : Bs) (E : List Bd) (te : TE) : Prop := ∀ F A σ H, Sta g B F A E σ H → ∀ Q : VK, te σ H Q
/-- where an exception goes -/
def XkOk (g : Gx) (B : Bs) (X : XK) (c : Str) (d : D) : Prop := ∀ F A E σ H' dx, Sta g B F A E σ H' → PayOk F dx d → X (.ref (g.ca c)) dx H'
theorem XkOk.nest {B' : Bs} {X : XK} {c : Str} {d : D} (n : Nest g B B') (h : XkOk g B X c d) : XkOk g B' X c d := fun F A E σ H' dx s p => h F A E σ H' dx (n.2.2 _ _ _ _ _ s) p
theorem run_spE {rel : List Ca → Out → Prop} {X : XK} {as : List Ar} {cs : List Ca} {c : Str} {d : D} (hr : Rs E as cs []) (ap : Apart E [] as cs) (hrel : rel cs (.exc c d)) (hX : XkOk g B X c d) {F A H : Hp} {σ : St} {vs : List V} (s : Sta g B F A E σ H) (ha : ArOk g F σ vs as) {Q : VK} : spOf g rel vs H Q X := by
  obtain ⟨⟨ps, had⟩, ho⟩ := rs_ads s hr
  refine ⟨F, cs, ps, .exc c d, s.fa.trans s.ah, ads_nodup s had List.nodup_nil ho, in_ok s had ho hr ap ha had, hrel, fun F' H' dx gr hp pay => ?_⟩
  cases ps with
  | cons _ _ => exact had.elim
  | nil =>
    obtain ⟨A', s'⟩ := after_call (E' := E) s had ho gr (fun p hp => nomatch hp) (fun p hp => nomatch hp) rfl fun i b e => .inr (.inl ⟨by simp, e⟩)
    exact hX _ _ _ _ H' dx s' pay
theorem pe_callX {rel : List Ca → Out → Prop} {X : XK} {as : List Ar} {cs : List Ca} {c : Str} {d : D} {t : TA} (ha : PxA g B E E1 t as) (hr : Rs E1 as cs []) (ap : Apart E1 [] as cs) (hrel : rel cs (.exc c d)) (hX : XkOk g B X c d) : PxE g B E (tCall (spOf g rel) [] X t) := fun F A σ H s Q =>
  ha F A σ H s _ fun F1 A1 H1 vs s1 e1 r1 => by
    show spOf g rel (vs ++ []) H1 Q X
    rw [List.append_nil]
    exact run_spE hr ap hrel hX s1 r1
theorem pe_op1 {r : R2} (h : PxE g B E ta) : PxE g B E (tOp r ta tb) := fun F A σ H s Q => h F A σ H s _
theorem pe_op2 {r : R2} {x : α} (ha : Px g B E E1 ta x) (h : PxE g B E1 tb) : PxE g B E (tOp r ta tb) := fun F A σ H s Q => ha F A σ H s _ fun F1 A1 H1 v s1 e1 rv => h F1 A1 σ H1 s1 _
theorem sx_exprE {D : Ends} {i : TG} (h : PxE g B E te) : Sx g B E (tAsg te i) D := fun F A σ H s => h F A σ H s _
theorem sx_dropE {D : Ends} (h : PxE g B E te) : Sx g B E (tDrop te) D := fun F A σ H s => h F A σ H s _
theorem sx_retE {D : Ends} (h : PxE g B E te) : Sx g B E (tRet te) D := fun F A σ H s => h F A σ H s _
/-- return -/
def DRt (g : Gx) (B : Bs) (rt : VK) : Out → Prop
  | @Out.ret _ _ y outs => ∀ F A E σ H v, Sta g B F A E σ H → CnOk g F H B.ps outs → rp g F v y → rt v H
  | .exc _ _ => True
  | @Out.fr _ _ y outs => ∀ F A E σ H v, Sta g B F A E σ H → CnOk g F H B.ps outs → rp g (dl F B.F0) v y → rt v H
  | @Out.new _ _ ys outs => ∀ F A E σ H p ws, Sta g B F A E σ H → CnOk g F H B.ps outs → H p = some (.lst ws) → rps g F ws ys → F p = none → A p = none → p ∉ B.ps → rt (.ref p) H
theorem DRt.nest {B' : Bs} {rt : VK} {o : Out} (n : Nest g B B') (h : DRt g B rt o) : DRt g B' rt o := by
  cases o with
  | ret y outs => exact fun F A E σ H v s c r => h F A E σ H v (n.2.2 _ _ _ _ _ s) (n.1 ▸ c) r
  | exc _ _ => trivial
  | new ys outs => exact fun F A E σ H p ws s c e r f a m => h F A E σ H p ws (n.2.2 _ _ _ _ _ s) (n.1 ▸ c) e r f a (n.1 ▸ m)
  | fr y outs => exact fun F A E σ H v s c r => h F A E σ H v (n.2.2 _ _ _ _ _ s) (n.1 ▸ c) (Rp.mono (dl_anti n.2.1.1) r)
/-- the io slots' lists in the end -/
inductive Fi (E : List Bd) : List Addr → List Cn → Prop
  | nil : Fi E [] []
  | cons {α : Type} [Rp α] {xs : List α} {i : Nat} {p : Addr} {ps cs} : E[i]? = some (.io p xs) → Fi E ps cs → Fi E (p :: ps) (.mk xs :: cs)
theorem fi_ok {F A H : Hp} {σ : St} (s : Sta g B F A E σ H) : ∀ {ps : List Addr} {cs : List Cn}, Fi E ps cs → CnOk g F H ps cs := by
  intro ps cs h
  induction h with
  | nil => trivial
  | cons e _ ih =>
    obtain ⟨vs, _, e2, r, e3, _⟩ := s.sl _ _ e
    exact ⟨⟨vs, e2, r, e3⟩, ih⟩
theorem sx_ret {D : Ends} {x : α} {outs : List Cn} (hx : Px g B E E1 te x) (hf : Fi E1 B.ps outs) (h : DRt g B D.rt (.ret x outs)) : Sx g B E (tRet te) D := fun F A σ H s =>
  hx F A σ H s _ fun F1 A1 H1 v s1 e1 r => h F1 A1 E1 σ H1 v s1 (fi_ok s1 hf) r
theorem sx_retN {D : Ends} {outs : List Cn} (hf : Fi E B.ps outs) (h : DRt g B D.rt (.ret () outs)) : Sx g B E tRetN D := fun F A σ H s => h F A E σ H .non s (fi_ok s hf) rfl
/-- the body's end without a return -/
theorem sx_fall {D : Ends} {outs : List Cn} (hf : Fi E B.ps outs) (h : ∀ F A σ H, Sta g B F A E σ H → CnOk g F H B.ps outs → D.nx σ H) : ∀ σ H, Sp' g B E σ H → D.nx σ H := fun σ H ⟨F, A, s⟩ => h F A σ H s (fi_ok s hf)
end
end Gn
/-! Gn: loops, comprehensions, defs. -/
namespace Gn
open PySem L2
open Rp (rp)

/-! ### what is walked -/
structure Src (g : Gx) (B1 : Bs) (J : It) {α : Type} [Rp α] (xs : List α) : Prop where
  goes : ∀ i F A E σ H, i < xs.length → Sta g B1 F A E σ H → J.go i H
  stops : ∀ F A E σ H, Sta g B1 F A E σ H → J.stop xs.length H
  yld : ∀ B' i F A E σ H v H' x, Nest g B1 B' → xs[i]? = some x → Sta g B' F A E σ H → J.yld i H v H' → ∃ F' A', Sta g B' F' A' E σ H' ∧ rp g F' v x
def Sr (g : Gx) (B : Bs) (E E1 : List Bd) (wi : TI) {α : Type} [Rp α] (xs : List α) : Prop :=
  ∀ F A σ H, Sta g B F A E σ H → ∀ R : It → Hp → Prop, (∀ F' A' H' J B1, Sta g B1 F' A' E1 σ H' → Nest g B B1 → Same F F' → Src g B1 J xs → R J H') → wi σ H R
/-- a target -/
def Tg (g : Gx) (tg : TG) {α : Type} [Rp α] (f : List Bd → α → List Bd) : Prop :=
  ∀ B F A E σ H v x, Sta g B F A E σ H → rp g F v x → ∀ Q : St → Hp → Prop, (∀ F' A' σ', Sta g B F' A' (f E x) σ' H → Q σ' H) → tg v σ H Q
def rng (lo hi : Int) : List Int := (List.range (hi - lo).toNat).map fun (i : Nat) => lo + (i : Int)
def rgOk (j : Int) : Bool := decide (-(2 ^ 62) ≤ j) && decide (j < 2 ^ 62)
section
variable {g : Gx} {B : Bs} {E E1 E2 E3 E' : List Bd} {ta tb tc te : TE} {α β γ : Type} [Rp α] [Rp β] [Rp γ]
theorem tg_n {i : Nat} : Tg g (gName i) (fun E (x : α) => E.set i (.kp x)) := fun B F A E σ H v x s r Q k => k F A _ (s.setk r)
theorem tg_p {i j : Nat} : Tg g (gTup g.K 2 (gCons (gName i) (gCons (gName j) gNil))) (fun E (x : α × β) => (E.set i (.kp x.1)).set j (.kp x.2)) := fun B F A E σ H v x s ⟨p, a, b, e, hp, r1, r2⟩ Q k =>
  ⟨p, [a, b], e, .of (s.ah _ _ (s.fa _ _ hp)), rfl, a, [b], rfl, b, [], rfl, rfl, k F A _ ((s.setk r1).setk r2)⟩
theorem tg_t {i j l : Nat} : Tg g (gTup g.K 3 (gCons (gName i) (gCons (gName j) (gCons (gName l) gNil)))) (fun E (x : T3 α β γ) => ((E.set i (.kp x.a)).set j (.kp x.b)).set l (.kp x.c)) := fun B F A E σ H v x s ⟨p, a, b, c, e, hp, r1, r2, r3⟩ Q k =>
  ⟨p, [a, b, c], e, .of (s.ah _ _ (s.fa _ _ hp)), rfl, a, [b, c], rfl, b, [c], rfl, c, [], rfl, rfl, k F A _ (((s.setk r1).setk r2).setk r3)⟩
theorem tg_q {δ : Type} [Rp δ] {i j l m : Nat} : Tg g (gTup g.K 4 (gCons (gName i) (gCons (gName j) (gCons (gName l) (gCons (gName m) gNil))))) (fun E (x : T4 α β γ δ) => (((E.set i (.kp x.a)).set j (.kp x.b)).set l (.kp x.c)).set m (.kp x.d)) := fun B F A E σ H v x s ⟨p, a, b, c, d, e, hp, r1, r2, r3, r4⟩ Q k =>
  ⟨p, [a, b, c, d], e, .of (s.ah _ _ (s.fa _ _ hp)), rfl, a, [b, c, d], rfl, b, [c, d], rfl, c, [d], rfl, d, [], rfl, rfl, k F A _ ((((s.setk r1).setk r2).setk r3).setk r4)⟩
theorem tg_5 {δ ε : Type} [Rp δ] [Rp ε] {i j l m n : Nat} : Tg g (gTup g.K 5 (gCons (gName i) (gCons (gName j) (gCons (gName l) (gCons (gName m) (gCons (gName n) gNil)))))) (fun E (x : T5 α β γ δ ε) => ((((E.set i (.kp x.a)).set j (.kp x.b)).set l (.kp x.c)).set m (.kp x.d)).set n (.kp x.e)) := fun B F A E σ H v x s ⟨p, a, b, c, d, f, e, hp, r1, r2, r3, r4, r5⟩ Q k =>
  ⟨p, [a, b, c, d, f], e, .of (s.ah _ _ (s.fa _ _ hp)), rfl, a, [b, c, d, f], rfl, b, [c, d, f], rfl, c, [d, f], rfl, d, [f], rfl, f, [], rfl, rfl, k F A _ (((((s.setk r1).setk r2).setk r3).setk r4).setk r5)⟩
/-- unpacking in an assignment -/
theorem sx_asgT {D : Ends} {tg : TG} {x : α} {f : List Bd → α → List Bd} (hx : Px g B E E1 te x) (ht : Tg g tg f) (h : ∀ σ H, Sp' g B (f E1 x) σ H → D.nx σ H) : Sx g B E (tAsg te tg) D := fun F A σ H s =>
  hx F A σ H s _ fun F1 A1 H1 v s1 e1 r => ht B F1 A1 E1 σ H1 v x s1 r _ fun F' A' σ' s' => h _ _ ⟨F', A', s'⟩
theorem rng_len {lo hi : Int} : (rng lo hi).length = (hi - lo).toNat := by unfold rng; simp
theorem rng_get {lo hi : Int} {i : Nat} {x : Int} (h : (rng lo hi)[i]? = some x) : i < (hi - lo).toNat ∧ x = lo + i := by
  unfold rng at h
  rw [List.getElem?_map] at h
  cases e : (List.range (hi - lo).toNat)[i]? with
  | none => rw [e] at h; cases h
  | some j =>
    rw [e] at h
    obtain ⟨h1, h2⟩ := List.getElem?_eq_some_iff.mp e
    simp at h1 h2
    subst h2
    cases h
    exact ⟨by simpa using h1, rfl⟩
theorem src_rng {B1 : Bs} {lo hi : Int} : Src g B1 (Itr lo (hi - lo).toNat) (rng lo hi) where
  goes := fun i F A E σ H h _ => by rw [rng_len] at h; exact h
  stops := fun F A E σ H _ => by rw [rng_len]; exact Nat.le_refl _
  yld := fun B' i F A E σ H v H' x n hx s y => by
    obtain ⟨e, ev⟩ := y
    subst e
    exact ⟨F, A, s, by rw [(rng_get hx).2]; exact ev⟩
theorem sr_r1 {n : Int} (h : Px g B E E1 ta n) (hn : rgOk n = true) : Sr g B E E1 (iRng1 (tCons ta tNil)) (rng 0 n) := fun F A σ H s R k =>
  h F A σ H s _ fun F1 A1 H1 v s1 e1 rv => by
    have rv : v = .int n := rv
    subst rv
    unfold rgOk at hn
    simp only [Bool.and_eq_true, decide_eq_true_eq] at hn
    refine ⟨n, rfl, hn.1, hn.2, ?_⟩
    have := k F1 A1 H1 (Itr 0 (n - 0).toNat) B s1 Nest.refl e1 src_rng
    rwa [Int.sub_zero] at this
theorem sr_r2 {lo n : Int} (ha : Px g B E E1 ta lo) (hb : Px g B E1 E2 tb n) (hl : rgOk lo = true) (hn : rgOk n = true) : Sr g B E E2 (iRng2 (tCons ta (tCons tb tNil))) (rng lo n) := fun F A σ H s R k =>
  ha F A σ H s _ fun F1 A1 H1 v s1 e1 rv => hb F1 A1 σ H1 s1 _ fun F2 A2 H2 w s2 e2 rw => by
    have rv : v = .int lo := rv
    have rw : w = .int n := rw
    subst rv; subst rw
    unfold rgOk at hn hl
    simp only [Bool.and_eq_true, decide_eq_true_eq] at hn hl
    exact ⟨lo, n, rfl, ⟨hl.1, hl.2, hn.1, hn.2⟩, k F2 A2 H2 _ B s2 Nest.refl (e1.trans e2) src_rng⟩
/-- range(i, j, -1) -/
def rngD (i j : Int) : List Int := (List.range (i - j).toNat).map fun (k : Nat) => i - (k : Int)
theorem rngD_len {lo hi : Int} : (rngD lo hi).length = (lo - hi).toNat := by unfold rngD; simp
theorem sr_rD {lo n : Int} (ha : Px g B E E1 ta lo) (hb : Px g B E1 E2 tb n) (hc : Px g B E2 E3 tc (-1 : Int)) (hl : rgOk lo = true) (hn : rgOk n = true) : Sr g B E E3 (iRng3 (tCons ta (tCons tb (tCons tc tNil)))) (rngD lo n) := fun F A σ H s R k =>
  ha F A σ H s _ fun F1 A1 H1 v s1 e1 rv => hb F1 A1 σ H1 s1 _ fun F2 A2 H2 w s2 e2 rw => hc F2 A2 σ H2 s2 _ fun F3 A3 H3 u s3 e3 ru => by
    have rv : v = .int lo := rv
    have rw : w = .int n := rw
    have ru : u = .int (-1) := ru
    subst rv; subst rw; subst ru
    unfold rgOk at hn hl
    simp only [Bool.and_eq_true, decide_eq_true_eq] at hn hl
    refine ⟨lo, n, -1, (lo - n).toNat, rfl, RgC.neg hl.1 hl.2 hn.1 hn.2, k F3 A3 H3 _ B s3 Nest.refl ((e1.trans e2).trans e3) ⟨fun i F A E σ H h _ => by rw [rngD_len] at h; exact h, fun F A E σ H _ => by rw [rngD_len]; exact Nat.le_refl _, fun B' i F A E σ H v H' x nB hx s y => ?_⟩⟩
    obtain ⟨e, ev⟩ := y
    subst e
    refine ⟨F, A, s, ?_⟩
    unfold rngD at hx
    rw [List.getElem?_map] at hx
    cases e : (List.range (lo - n).toNat)[i]? with
    | none => rw [e] at hx; cases hx
    | some j =>
      rw [e] at hx
      obtain ⟨h1, h2⟩ := List.getElem?_eq_some_iff.mp e
      simp at h1 h2
      subst h2
      cases hx
      show v = V.int _
      rw [ev]
      congr 1
      show lo + (i : Int) * (-1) = lo - (i : Int)
      omega
theorem sr_list {xs : List α} (h : Px g B E E1 te xs) : Sr g B E E1 (iList g.K te) xs := fun F A σ H s R k =>
  h F A σ H s _ fun F1 A1 H1 v s1 e1 ⟨p, vs, ev, hp, r⟩ => by
    obtain ⟨s2, n⟩ := s1.rebase
    refine ⟨p, ev, ⟨vs, .of (s1.ah _ _ (s1.fa _ _ hp))⟩, k F1 A1 H1 (Itl g.K p) _ s2 n e1 ?_⟩
    have at_ : ∀ {F A E σ H}, Sta g (B.to F1 A1) F A E σ H → SqL g.K H p vs := fun s => .of (s.ah _ _ (s.a0 _ _ (s1.fa _ _ hp)))
    refine ⟨fun i F A E σ H hi s => ?_, fun F A E σ H s => ⟨vs, at_ s, by rw [rps_len r]; exact Nat.le_refl _⟩, fun B' i F A E σ H v' H' x nB hx s y => ?_⟩
    · rw [← rps_len r] at hi
      exact ⟨vs, vs[i], at_ s, by simp [hi]⟩
    · obtain ⟨e, y⟩ := y
      subst e
      obtain ⟨u, hu, ru⟩ := rps_get r hx
      have s0 := nB.2.2 _ _ _ _ _ s
      have := y vs (at_ s0)
      rw [hu] at this
      cases this
      exact ⟨F, A, s, Rp.mono s0.f0 ru⟩
/-- over a borrowed list of flat things -/
theorem sr_listb [At α] {xs : List α} {i : Nat} (h : E[i]? = some (.bo xs)) : Sr g B E E (iList g.K (tVar i)) xs := fun F A σ H s R k => by
  obtain ⟨v, e, p, vs, ev, hp, r⟩ := s.sl i _ h
  obtain ⟨s2, n⟩ := s.rebase
  refine ⟨v, e, p, ev, ⟨vs, .of (s.ah _ _ hp)⟩, k F A H (Itl g.K p) _ s2 n (Same.refl _) ?_⟩
  have at_ : ∀ {F' A' E σ H}, Sta g (B.to F A) F' A' E σ H → SqL g.K H p vs := fun s => .of (s.ah _ _ (s.a0 _ _ hp))
  refine ⟨fun i F A E σ H hi s => ?_, fun F A E σ H s => ⟨vs, at_ s, by rw [rps_len r]; exact Nat.le_refl _⟩, fun B' i F A E σ H v' H' x nB hx s y => ?_⟩
  · rw [← rps_len r] at hi
    exact ⟨vs, vs[i], at_ s, by simp [hi]⟩
  · obtain ⟨e, y⟩ := y
    subst e
    obtain ⟨u, hu, ru⟩ := rps_get r hx
    have := y vs (at_ (nB.2.2 _ _ _ _ _ s))
    rw [hu] at this
    cases this
    exact ⟨F, A, s, At.any ru⟩
theorem sr_str {t : Tx} (h : Px g B E E1 te t) : Sr g B E E1 (iStr te) (t.map fun c => ([c] : Tx)) := fun F A σ H s R k =>
  h F A σ H s _ fun F1 A1 H1 v s1 e1 rv => by
    have rv : v = .str (Tx.s t) := rv
    refine ⟨Tx.s t, rv, k F1 A1 H1 (Its (Tx.s t)) B s1 Nest.refl e1 ⟨fun i F A E σ H hi s => ?_, fun F A E σ H s => ?_, fun B' i F A E σ H v' H' x nB hx s y => ?_⟩⟩
    · show i < t.toArray.size
      simpa using hi
    · show t.toArray.size ≤ _
      simp
    · obtain ⟨e, c, hc, ev⟩ := y
      subst e
      refine ⟨F, A, s, ?_⟩
      have hc : t.toArray[i]? = some c := hc
      rw [List.getElem?_map] at hx
      simp at hc
      rw [hc] at hx
      cases hx
      exact ev
/-- enumerate(list) -/
def enumL {δ : Type} (xs : List δ) : List (Int × δ) := (xs.zipIdx 0).map fun x => ((x.2 : Int), x.1)
theorem enumL_get {δ : Type} {xs : List δ} {i : Nat} {x : Int × δ} (h : (enumL xs)[i]? = some x) : x.1 = (i : Int) ∧ xs[i]? = some x.2 := by
  unfold enumL at h
  rw [List.getElem?_map, List.getElem?_zipIdx] at h
  cases e : xs[i]? with
  | none => rw [e] at h; cases h
  | some y => rw [e] at h; cases h; exact ⟨by simp, rfl⟩
theorem enumL_len {δ : Type} {xs : List δ} : (enumL xs).length = xs.length := by unfold enumL; simp
theorem sr_enum {xs : List α} (h : Px g B E E1 te xs) : Sr g B E E1 (iEnum g.K (tCons te tNil)) (enumL xs) := fun F A σ H s R k =>
  h F A σ H s _ fun F1 A1 H1 v s1 e1 ⟨p, vs, ev, hp, r⟩ => by
    subst ev
    obtain ⟨s2, n⟩ := s1.rebase
    refine ⟨p, vs, rfl, .of (s1.ah _ _ (s1.fa _ _ hp)), k F1 A1 H1 (Ite g.K p) _ s2 n e1 ?_⟩
    have at_ : ∀ {F A E σ H}, Sta g (B.to F1 A1) F A E σ H → SqL g.K H p vs := fun s => .of (s.ah _ _ (s.a0 _ _ (s1.fa _ _ hp)))
    have w := walk_enum (K := g.K) (a := p) (xs := vs)
    have hl : (enumL xs).length = vs.length := by rw [enumL_len, rps_len r]
    refine ⟨fun i F A E σ H hi s => w.goes i H (hl ▸ hi) (at_ s), fun F A E σ H s => hl ▸ w.stops H (at_ s), fun B' i F A E σ H v' H' x nB hx s y => ?_⟩
    obtain ⟨hx1, hx2⟩ := enumL_get hx
    have hi : i < vs.length := by rw [rps_len r]; exact (List.getElem?_eq_some_iff.mp hx2).1
    have s0 := nB.2.2 _ _ _ _ _ s
    obtain ⟨T, a, b, e1, nT, e2, e3, e4⟩ := w.yields i H v' H' hi (at_ s0) y
    obtain ⟨u, hu, ru⟩ := rps_get r hx2
    have e4 : vs[i]? = some b := e4
    have e3 : some (V.int ((i : Nat) : Int)) = some a := e3
    have e5 : b = u := Option.some.inj (e4.symm.trans hu)
    have e6 : a = V.int ((i : Nat) : Int) := (Option.some.inj e3).symm
    subst e5; subst e6
    subst e1; subst e2
    obtain ⟨s3, nn⟩ := s.alloc (o := .tup [.int ((i : Nat) : Int), b]) nT
    obtain ⟨F4, A4, s4, hF, hA, hp4⟩ := s3.keep nn
    exact ⟨F4, A4, s4, T, _, _, rfl, hp4, by rw [hx1]; rfl, Rp.mono (s0.f0.trans hF) ru⟩
/-- zip(list, list) -/
theorem sr_zip {xs : List α} {ys : List β} (h : Px g B E E1 ta xs) (h' : Px g B E1 E2 tb ys) : Sr g B E E2 (iZip g.K (tCons ta (tCons tb tNil))) (xs.zip ys) := fun F A σ H s R k =>
  h F A σ H s _ fun F0 A0 H0 v0 s0 e0 ⟨p, vs, ev, hp, r⟩ => h' F0 A0 σ H0 s0 _ fun F1 A1 H1 v s1 e0' ⟨q, ws, ew, hq, r'⟩ => by
    subst ev; subst ew
    obtain ⟨s2, n⟩ := s1.rebase
    have hp1 := e0' _ _ hp
    refine ⟨p, q, vs, ws, rfl, .of (s1.ah _ _ (s1.fa _ _ hp1)), .of (s1.ah _ _ (s1.fa _ _ hq)), k F1 A1 H1 (Itz g.K p q) _ s2 n (e0.trans e0') ?_⟩
    have at_ : ∀ {F A E σ H}, Sta g (B.to F1 A1) F A E σ H → SqL g.K H p vs ∧ SqL g.K H q ws := fun s => ⟨.of (s.ah _ _ (s.a0 _ _ (s1.fa _ _ hp1))), .of (s.ah _ _ (s.a0 _ _ (s1.fa _ _ hq)))⟩
    have w := walk_zip (K := g.K) (a := p) (b := q) (xs := vs) (ys := ws) (n := (xs.zip ys).length) (by rw [List.length_zip, rps_len r, rps_len r'])
    refine ⟨fun i F A E σ H hi s => w.goes i H hi (at_ s), fun F A E σ H s => w.stops H (at_ s), fun B' i F A E σ H v' H' x nB hx s y => ?_⟩
    have hi : i < (xs.zip ys).length := (List.getElem?_eq_some_iff.mp hx).1
    have sB := nB.2.2 _ _ _ _ _ s
    obtain ⟨T, a, b, e1, nT, e2, e3, e4⟩ := w.yields i H v' H' hi (at_ sB) y
    obtain ⟨hx1, hx2⟩ := List.getElem?_zip_eq_some.mp hx
    obtain ⟨u, hu, ru⟩ := rps_get r hx1
    obtain ⟨u', hu', ru'⟩ := rps_get r' hx2
    have e3 : vs[i]? = some a := e3
    have e4 : ws[i]? = some b := e4
    have e5 : a = u := Option.some.inj (e3.symm.trans hu)
    have e6 : b = u' := Option.some.inj (e4.symm.trans hu')
    subst e5; subst e6
    subst e1; subst e2
    obtain ⟨s3, nn⟩ := s.alloc (o := .tup [a, b]) nT
    obtain ⟨F4, A4, s4, hF, hA, hp4⟩ := s3.keep nn
    exact ⟨F4, A4, s4, T, _, _, rfl, hp4, Rp.mono (e0'.trans (sB.f0.trans hF)) ru, Rp.mono (sB.f0.trans hF) ru'⟩
end

/-! ### for -/
theorem loopR_bad {α S ρ : Type} {f : α → S → R (Stp S ρ)} : ∀ {xs : List α} {s : S}, loopR xs s f ≠ .bad → True := fun _ => trivial
section
variable {g : Gx} {B : Bs} {E E1 E2 E3 E' : List Bd} {ta tb' tc te : TE} {α β γ : Type} [Rp α] [Rp β] [Rp γ]
theorem for_core {S ρ : Type} {xs : List α} {Ei : S → List Bd} {body : α → S → R (Stp S ρ)} {out : R (Stp S ρ)} {J : It} {tg : TG} {tb : TS} {f : List Bd → α → List Bd} {D : Ends} {fin : ρ → Out} {X : Str → Gn.D → Prop} {B1 : Bs}
    (src : Src g B1 J xs) (htg : Tg g tg f) (hne : out ≠ .bad)
    (hret : ∀ y, out = .ok (.ret y) → DRt g B1 D.rt (fin y)) (hexc : ∀ c d, out = .ex c d → X c d)
    (hb : ∀ B' x s r' (D' : Ends), Nest g B1 B' → x ∈ xs → body x s = r' → r' ≠ .bad →
      (∀ s', r' = .ok (.go s') → ∀ σ H, Sp' g B' (Ei s') σ H → D'.nx σ H) → (∀ s', r' = .ok (.go s') → ∀ σ H, Sp' g B' (Ei s') σ H → D'.ct σ H) → (∀ s', r' = .ok (.brk s') → ∀ σ H, Sp' g B' (Ei s') σ H → D'.bk σ H) →
      (∀ y, r' = .ok (.ret y) → DRt g B' D'.rt (fin y)) → (∀ c d, r' = .ex c d → X c d) → Sx g B' (f (Ei s) x) tb D')
    (hk : ∀ s', (out = .ok (.go s') ∨ out = .ok (.brk s')) → ∀ σ H, Sp' g B1 (Ei s') σ H → D.nx σ H) :
    ∀ (i : Nat) (s : S) (σ : St) (H : Hp), i ≤ xs.length → loopR (xs.drop i) s body = out → Sp' g B1 (Ei s) σ H → 
    ∃ W : Nat → Nat → St → Hp → Prop, (∃ m, W i m σ H) ∧ ∀ i m σ H, W i m σ H →
      (J.stop i H ∧ D.nx σ H) ∨ (J.go i H ∧ ∃ N : St → Hp → Prop, (∀ σ' H', N σ' H' → ∃ m', m' < m ∧ W (i + 1) m' σ' H') ∧ ∀ x H', J.yld i H x H' → tg x σ H' fun σ2 H2 => tb { D with nx := N, ct := N, bk := D.nx } σ2 H2) := by
  intro i s σ H hi hL hs
  refine ⟨fun i m σ H => m = xs.length - i ∧ i ≤ xs.length ∧ ∃ s, loopR (xs.drop i) s body = out ∧ Sp' g B1 (Ei s) σ H, ⟨xs.length - i, rfl, hi, s, hL, hs⟩, ?_⟩
  rintro i m σ H ⟨rfl, hi, s, hL, F, A, hs⟩
  by_cases hlt : i < xs.length
  · right
    have hd : xs.drop i = xs[i] :: xs.drop (i + 1) := List.drop_eq_getElem_cons hlt
    rw [hd] at hL
    refine ⟨src.goes i F A _ σ H hlt hs, fun σ' H' => ∃ s', body xs[i] s = .ok (.go s') ∧ Sp' g B1 (Ei s') σ' H', fun σ' H' hN => ?_, fun v H' hy => ?_⟩
    · obtain ⟨s', h1, h2⟩ := hN
      unfold loopR at hL
      rw [h1] at hL
      exact ⟨xs.length - (i + 1), by omega, rfl, hlt, s', hL, h2⟩
    · obtain ⟨F', A', s2, rv⟩ := src.yld B1 i F A _ σ H v H' xs[i] Nest.refl (by simp [hlt]) hs hy
      refine htg B1 F' A' _ σ H' v xs[i] s2 rv _ fun F2 A2 σ2 s3 => ?_
      cases hr : body xs[i] s with
      | bad =>
        unfold loopR at hL
        rw [hr] at hL
        exact absurd hL.symm hne
      | ex c d =>
        unfold loopR at hL
        rw [hr] at hL
        exact hb B1 xs[i] s _ _ Nest.refl (List.getElem_mem hlt) hr (fun z => nomatch z) (fun s' z => nomatch z) (fun s' z => nomatch z) (fun s' z => nomatch z) (fun y z => nomatch z) (fun c' d' z => by cases z; exact hexc c d hL.symm) F2 A2 σ2 H' s3
      | ok st =>
        cases st with
        | go s' => exact hb B1 xs[i] s _ { D with nx := fun σ' H' => ∃ s'', (R.ok (Stp.go s') : R (Stp S ρ)) = .ok (.go s'') ∧ Sp' g B1 (Ei s'') σ' H', ct := fun σ' H' => ∃ s'', (R.ok (Stp.go s') : R (Stp S ρ)) = .ok (.go s'') ∧ Sp' g B1 (Ei s'') σ' H', bk := D.nx } Nest.refl (List.getElem_mem hlt) hr (fun z => nomatch z) (fun s'' z σ3 H3 h => ⟨s'', z, h⟩) (fun s'' z σ3 H3 h => ⟨s'', z, h⟩) (fun s' z => nomatch z) (fun y z => nomatch z) (fun c' d' z => nomatch z) F2 A2 σ2 H' s3
        | brk s' =>
          unfold loopR at hL
          rw [hr] at hL
          exact hb B1 xs[i] s _ _ Nest.refl (List.getElem_mem hlt) hr (fun z => nomatch z) (fun s' z => nomatch z) (fun s' z => nomatch z) (fun s'' z σ3 H3 h => by cases z; exact hk s' (.inr hL.symm) σ3 H3 h) (fun y z => nomatch z) (fun c' d' z => nomatch z) F2 A2 σ2 H' s3
        | ret y =>
          unfold loopR at hL
          rw [hr] at hL
          exact hb B1 xs[i] s _ _ Nest.refl (List.getElem_mem hlt) hr (fun z => nomatch z) (fun s' z => nomatch z) (fun s' z => nomatch z) (fun s' z => nomatch z) (fun y' z => by cases z; exact hret y hL.symm) (fun c' d' z => nomatch z) F2 A2 σ2 H' s3
  · left
    have e : i = xs.length := by omega
    subst e
    rw [List.drop_length] at hL
    exact ⟨src.stops F A _ σ H hs, hk s (.inl hL.symm) σ H ⟨F, A, hs⟩⟩
theorem sx_for {S ρ : Type} {xs : List α} {Ei : S → List Bd} {body : α → S → R (Stp S ρ)} {s0 : S} {out : R (Stp S ρ)} {wi : TI} {tg : TG} {tb : TS} {f : List Bd → α → List Bd} {D : Ends} {fin : ρ → Out} {X : Bs → Str → Gn.D → Prop}
    (hX : ∀ B B' c d, Nest g B B' → X B c d → X B' c d)
    (hsrc : Sr g B E E1 wi xs) (htg : Tg g tg f) (h0 : LeE E1 (Ei s0)) (hL : loopR xs s0 body = out) (hne : out ≠ .bad)
    (hret : ∀ y, out = .ok (.ret y) → DRt g B D.rt (fin y)) (hexc : ∀ c d, out = .ex c d → X B c d)
    (hb : ∀ B' x s r' (D' : Ends), Nest g B B' → x ∈ xs → body x s = r' → r' ≠ .bad →
      (∀ s', r' = .ok (.go s') → ∀ σ H, Sp' g B' (Ei s') σ H → D'.nx σ H) → (∀ s', r' = .ok (.go s') → ∀ σ H, Sp' g B' (Ei s') σ H → D'.ct σ H) → (∀ s', r' = .ok (.brk s') → ∀ σ H, Sp' g B' (Ei s') σ H → D'.bk σ H) →
      (∀ y, r' = .ok (.ret y) → DRt g B' D'.rt (fin y)) → (∀ c d, r' = .ex c d → X B' c d) → Sx g B' (f (Ei s) x) tb D')
    (hk : ∀ s', (out = .ok (.go s') ∨ out = .ok (.brk s')) → ∀ σ H, Sp' g B (Ei s') σ H → D.nx σ H) : Sx g B E (tFor wi tg tb) D := fun F A σ H s =>
  hsrc F A σ H s _ fun F1 A1 H1 J B1 s1 n _ src =>
    for_core (X := fun c d => X B1 c d) src htg hne (fun y e => (hret y e).nest n) (fun c d e => hX _ _ c d n (hexc c d e))
      (fun B' x s r' D' n' hm he hne' h1 h2 h3 h4 h5 => hb B' x s r' D' (n.trans n') hm he hne' h1 h2 h3 h4 fun c d e => hX _ _ c d n' (h5 c d e))
      (fun s' h σ H ⟨F, A, q⟩ => hk s' h σ H ⟨F, A, n.2.2 _ _ _ _ _ q⟩) 0 s0 σ H1 (Nat.zero_le _) (by rw [List.drop_zero]; exact hL) ⟨F1, A1, s1.weak h0⟩
/-- a for that always goes through -/
theorem fold_loop {δ S ρ : Type} {f : δ → S → R S} : ∀ {xs : List δ} {s : S}, loopR (ρ := ρ) xs s (fun x s => (f x s).bind fun s' => .ok (.go s')) = (foldR xs s f).bind fun s' => .ok (.go s')
  | [], s => rfl
  | x :: xs, s => by
    unfold loopR foldR
    show (match ((f x s).bind fun s' => (.ok (.go s') : R (Stp S ρ))) with | .ok (.go s') => loopR xs s' (fun x s => (f x s).bind fun s' => .ok (.go s')) | r => r) = _
    cases f x s with
    | ok s' => exact fold_loop
    | ex c d => rfl
    | bad => rfl
theorem sx_fold {S : Type} {xs : List α} {Ei : S → List Bd} {body : α → S → R S} {s0 : S} {out : R S} {wi : TI} {tg : TG} {tb : TS} {f : List Bd → α → List Bd} {D : Ends} {X : Bs → Str → Gn.D → Prop}
    (hX : ∀ B B' c d, Nest g B B' → X B c d → X B' c d)
    (hsrc : Sr g B E E1 wi xs) (htg : Tg g tg f) (h0 : LeE E1 (Ei s0)) (hL : foldR xs s0 body = out) (hne : out ≠ .bad) (hexc : ∀ c d, out = .ex c d → X B c d)
    (hb : ∀ B' x s r' (D' : Ends), Nest g B B' → x ∈ xs → body x s = r' → r' ≠ .bad →
      (∀ s', r' = .ok s' → ∀ σ H, Sp' g B' (Ei s') σ H → D'.nx σ H) → (∀ s', r' = .ok s' → ∀ σ H, Sp' g B' (Ei s') σ H → D'.ct σ H) → (∀ c d, r' = .ex c d → X B' c d) → Sx g B' (f (Ei s) x) tb D')
    (hk : ∀ s', out = .ok s' → ∀ σ H, Sp' g B (Ei s') σ H → D.nx σ H) : Sx g B E (tFor wi tg tb) D := by
  refine sx_for (ρ := Empty) (X := X) (fin := fun y => nomatch y) (body := fun x s => (body x s).bind fun s' => .ok (.go s')) hX hsrc htg h0 (fold_loop (f := body)) ?_ (fun y => nomatch y) (fun c d e => ?_) (fun B' x s r' D' n hm hr hne' h1 h2 h3 h4 h5 => ?_) (fun s' h => ?_)
  · rw [hL]
    cases out with
    | ok s => exact fun z => nomatch z
    | ex c d => exact fun z => nomatch z
    | bad => exact absurd rfl hne
  · rw [hL] at e
    cases out with
    | ok s => cases e
    | ex c' d' => cases e; exact hexc _ _ rfl
    | bad => cases e
  · cases hb2 : body x s with
    | ok s' =>
      rw [hb2] at hr
      have hr : R.ok (Stp.go s') = r' := hr
      subst hr
      exact hb B' x s _ D' n hm hb2 (fun z => nomatch z) (fun s'' e => by cases e; exact h1 s' rfl) (fun s'' e => by cases e; exact h2 s' rfl) (fun c d e => nomatch e)
    | ex c d =>
      rw [hb2] at hr
      have hr : R.ex c d = r' := hr
      subst hr
      exact hb B' x s _ D' n hm hb2 (fun z => nomatch z) (fun s'' e => nomatch e) (fun s'' e => nomatch e) (fun c' d' e => by cases e; exact h5 c d rfl)
    | bad =>
      rw [hb2] at hr
      exact absurd hr.symm hne'
  · rw [hL] at h
    cases out with
    | ok s =>
      have e : s = s' := by
        rcases h with h | h
        · cases h; rfl
        · cases h
      subst e
      exact hk s rfl
    | ex c d => rcases h with h | h <;> cases h
    | bad => rcases h with h | h <;> cases h
/-! ### while -/
theorem while_core {S ρ : Type} {Ei : S → List Bd} {cond : S → R Bool} {body : S → R (Stp S ρ)} {out : R (Stp S ρ)} {tt : TT} {tb : TS} {D : Ends} {fin : ρ → Out} {X : Str → Gn.D → Prop}
    (hne : out ≠ .bad) (hret : ∀ y, out = .ok (.ret y) → DRt g B D.rt (fin y)) (hexc : ∀ c d, out = .ex c d → X c d)
    (hc : ∀ s b, cond s = b → b ≠ .bad → (∃ c, b = .ok c ∧ PxT g B (Ei s) (Ei s) tt c))
    (hb : ∀ s r' (D' : Ends), cond s = .ok true → body s = r' → r' ≠ .bad →
      (∀ s', r' = .ok (.go s') → ∀ σ H, Sp' g B (Ei s') σ H → D'.nx σ H) → (∀ s', r' = .ok (.go s') → ∀ σ H, Sp' g B (Ei s') σ H → D'.ct σ H) → (∀ s', r' = .ok (.brk s') → ∀ σ H, Sp' g B (Ei s') σ H → D'.bk σ H) →
      (∀ y, r' = .ok (.ret y) → DRt g B D'.rt (fin y)) → (∀ c d, r' = .ex c d → X c d) → Sx g B (Ei s) tb D')
    (hk : ∀ s', (out = .ok (.go s') ∨ out = .ok (.brk s')) → ∀ σ H, Sp' g B (Ei s') σ H → D.nx σ H) {n : Nat} {s : S} {σ : St} {H : Hp} (hL : whileR cond body n s = out) (hs : Sp' g B (Ei s) σ H) : tWhile tt tb D σ H := by
  refine ⟨fun m σ H => ∃ s, whileR cond body m s = out ∧ Sp' g B (Ei s) σ H, ⟨n, s, hL, hs⟩, ?_⟩
  rintro m σ H ⟨s, hL, F, A, hs⟩
  cases m with
  | zero => exact absurd hL.symm hne
  | succ m =>
    unfold whileR at hL
    obtain ⟨c, ec, ht⟩ := hc s (cond s) rfl (fun z => by rw [z] at hL; exact hne hL.symm)
    rw [ec] at hL
    refine ht F A σ H hs _ fun F1 A1 H1 s1 e1 => ?_
    cases c with
    | false =>
      rw [if_neg Bool.false_ne_true]
      exact hk s (.inl hL.symm) σ H1 ⟨F1, A1, s1⟩
    | true =>
      rw [if_pos rfl]
      have hL : (match body s with | .ok (.go s') => whileR cond body m s' | r => r) = out := hL
      refine ⟨fun σ' H' => ∃ s', body s = .ok (.go s') ∧ Sp' g B (Ei s') σ' H', fun σ' H' hN => ?_, ?_⟩
      · obtain ⟨s', h1, h2⟩ := hN
        rw [h1] at hL
        exact ⟨m, Nat.lt_succ_self _, s', hL, h2⟩
      · cases hr : body s with
        | bad => rw [hr] at hL; exact absurd hL.symm hne
        | ex c d =>
          rw [hr] at hL
          exact hb s _ _ ec hr (fun z => nomatch z) (fun s' z => nomatch z) (fun s' z => nomatch z) (fun s' z => nomatch z) (fun y z => nomatch z) (fun c' d' z => by cases z; exact hexc c d hL.symm) F1 A1 σ H1 s1
        | ok st =>
          cases st with
          | go s' => exact hb s _ { D with nx := fun σ' H' => ∃ s'', (R.ok (Stp.go s') : R (Stp S ρ)) = .ok (.go s'') ∧ Sp' g B (Ei s'') σ' H', ct := fun σ' H' => ∃ s'', (R.ok (Stp.go s') : R (Stp S ρ)) = .ok (.go s'') ∧ Sp' g B (Ei s'') σ' H', bk := D.nx } ec hr (fun z => nomatch z) (fun s'' z σ3 H3 h => ⟨s'', z, h⟩) (fun s'' z σ3 H3 h => ⟨s'', z, h⟩) (fun s' z => nomatch z) (fun y z => nomatch z) (fun c' d' z => nomatch z) F1 A1 σ H1 s1
          | brk s' =>
            rw [hr] at hL
            exact hb s _ _ ec hr (fun z => nomatch z) (fun s' z => nomatch z) (fun s' z => nomatch z) (fun s'' z σ3 H3 h => by cases z; exact hk s' (.inr hL.symm) σ3 H3 h) (fun y z => nomatch z) (fun c' d' z => nomatch z) F1 A1 σ H1 s1
          | ret y =>
            rw [hr] at hL
            exact hb s _ _ ec hr (fun z => nomatch z) (fun s' z => nomatch z) (fun s' z => nomatch z) (fun s' z => nomatch z) (fun y' z => by cases z; exact hret y hL.symm) (fun c' d' z => nomatch z) F1 A1 σ H1 s1
theorem sx_while {S ρ : Type} {Ei : S → List Bd} {cond : S → R Bool} {body : S → R (Stp S ρ)} {s0 : S} {out : R (Stp S ρ)} {n : Nat} {tt : TT} {tb : TS} {D : Ends} {fin : ρ → Out} {X : Str → Gn.D → Prop}
    (h0 : LeE E (Ei s0)) (hL : whileR cond body n s0 = out) (hne : out ≠ .bad) (hret : ∀ y, out = .ok (.ret y) → DRt g B D.rt (fin y)) (hexc : ∀ c d, out = .ex c d → X c d)
    (hc : ∀ s b, cond s = b → b ≠ .bad → (∃ c, b = .ok c ∧ PxT g B (Ei s) (Ei s) tt c))
    (hb : ∀ s r' (D' : Ends), cond s = .ok true → body s = r' → r' ≠ .bad →
      (∀ s', r' = .ok (.go s') → ∀ σ H, Sp' g B (Ei s') σ H → D'.nx σ H) → (∀ s', r' = .ok (.go s') → ∀ σ H, Sp' g B (Ei s') σ H → D'.ct σ H) → (∀ s', r' = .ok (.brk s') → ∀ σ H, Sp' g B (Ei s') σ H → D'.bk σ H) →
      (∀ y, r' = .ok (.ret y) → DRt g B D'.rt (fin y)) → (∀ c d, r' = .ex c d → X c d) → Sx g B (Ei s) tb D')
    (hk : ∀ s', (out = .ok (.go s') ∨ out = .ok (.brk s')) → ∀ σ H, Sp' g B (Ei s') σ H → D.nx σ H) : Sx g B E (tWhile tt tb) D := fun F A σ H s =>
  while_core hne hret hexc hc hb hk hL ⟨F, A, s.weak h0⟩
/-! ### comprehensions -/
def wipeE (E : List Bd) : List Nat → List Bd
  | [] => E
  | v :: vs => (wipeE E vs).set v .un
theorem wipeE_len : ∀ {vs : List Nat}, (wipeE E vs).length = E.length
  | [] => rfl
  | v :: vs => by unfold wipeE; rw [List.length_set, wipeE_len]
theorem wipeE_get {i : Nat} {b : Bd} : ∀ {vs : List Nat}, (wipeE E vs)[i]? = some b → b = .un ∨ (i ∉ vs ∧ E[i]? = some b)
  | [], h => .inr ⟨by simp, h⟩
  | v :: vs, h => by
    unfold wipeE at h
    by_cases hi : i = v
    · subst hi
      have hl : i < (wipeE E vs).length := by
        have := (List.getElem?_eq_some_iff.mp h).1
        simpa using this
      rw [List.getElem?_set_self hl] at h
      cases h; exact .inl rfl
    · rw [List.getElem?_set_ne (Ne.symm hi)] at h
      rcases wipeE_get h with e | ⟨h1, h2⟩
      · exact .inl e
      · exact .inr ⟨by simp [hi, h1], h2⟩
theorem wipeE_out {i : Nat} : ∀ {vs : List Nat}, i ∉ vs → (wipeE E vs)[i]? = E[i]?
  | [], _ => rfl
  | v :: vs, h => by
    unfold wipeE
    simp only [List.mem_cons, not_or] at h
    rw [List.getElem?_set_ne (Ne.symm h.1)]
    exact wipeE_out h.2
theorem wipe_out {σ : St} {i : Nat} : ∀ {vs : List Nat}, i ∉ vs → (wipe σ vs)[i]? = σ[i]?
  | [], _ => rfl
  | v :: vs, h => by
    unfold wipe
    simp only [List.mem_cons, not_or] at h
    rw [List.getElem?_set_ne (Ne.symm h.1)]
    exact wipe_out h.2
/-- the slots of vs are forgotten -/
theorem Sta.wipe {F A H : Hp} {σ : St} (s : Sta g B F A E σ H) (vs : List Nat) {σ' : St} (hl : σ'.length = σ.length) (hσ : ∀ i, i ∉ vs → σ'[i]? = σ[i]?) : Sta g B F A (wipeE E vs) σ' H := by
  have ow : ∀ i p, Own (wipeE E vs) σ' i p → Own E σ i p := fun i p ⟨e1, b, hb, hbo⟩ => by
    rcases wipeE_get hb with z | ⟨h1, h2⟩
    · subst z; exact hbo.elim
    · exact ⟨by rw [← hσ i h1]; exact e1, b, h2, hbo⟩
  refine ⟨by rw [wipeE_len, hl]; exact s.len, s.fa, s.ah, s.f0, s.a0, s.fr, s.inn, fun i b e => ?_, fun i j p h1 h2 => s.ne i j p (ow i p h1) (ow j p h2), fun a o e => ?_, fun i q h => ?_⟩
  · rcases wipeE_get e with z | ⟨h1, h2⟩
    · subst z; trivial
    · rw [hσ i h1]; exact s.sl i b h2
  · obtain ⟨h1, h2, h3⟩ := s.pr a o e
    exact ⟨h1, h2, fun i q => h3 i (ow i a q)⟩
  · have inn : ∀ i p, Inn (wipeE E vs) i p → Inn E i p := fun i p ⟨b, hb, hbo⟩ => by
      rcases wipeE_get hb with z | ⟨h1, h2⟩
      · subst z; cases hbo
      · exact ⟨b, h2, hbo⟩
    obtain ⟨h1, h2, h3, h4⟩ := s.nn i q (inn i q h)
    exact ⟨fun j z => h1 j (ow j q z), fun j z => h2 j (inn j q z), h3, h4⟩
/-- and are as they were -/
theorem Sta.unwipe {F A H F1 A1 H1 : Hp} {σ σ2 : St} {E0 : List Bd} (s0 : Sta g B F1 A1 E0 σ H1) {vs : List Nat} (s : Sta g (B.to F1 A1) F A (wipeE E vs) σ2 H) (hl : σ2.length = σ.length) (hσ : ∀ i, i ∉ vs → σ2[i]? = σ[i]?) (hle : E.length = E0.length)
    (hv : ∀ i ∈ vs, E[i]? = E0[i]? ∧ ∀ b, E[i]? = some b → b.nO) : Sta g (B.to F1 A1) F A E σ H := by
  have ow : ∀ i p, Own E σ i p → Own (wipeE E vs) σ2 i p := fun i p ⟨e1, b, hb, hbo⟩ => by
    by_cases hi : i ∈ vs
    · exact absurd hbo ((hv i hi).2 b hb).1
    · exact ⟨by rw [hσ i hi]; exact e1, b, by rw [wipeE_out hi]; exact hb, hbo⟩
  have inn : ∀ i p, Inn E i p → Inn (wipeE E vs) i p := fun i p ⟨b, hb, hbo⟩ => by
    by_cases hi : i ∈ vs
    · rw [((hv i hi).2 b hb).2] at hbo; cases hbo
    · exact ⟨b, by rw [wipeE_out hi]; exact hb, hbo⟩
  refine ⟨by rw [hle]; exact s0.len, s.fa, s.ah, s.f0, s.a0, s.fr, s.inn, fun i b e => ?_, fun i j p h1 h2 => s.ne i j p (ow i p h1) (ow j p h2), fun a o e => ?_, fun i q h => ?_⟩
  · by_cases hi : i ∈ vs
    · obtain ⟨h1, h2⟩ := hv i hi
      have q := s0.sl i b (h1 ▸ e)
      exact SlotOk.mono s.f0 s.a0 (fun p _ hb => absurd hb (h2 b e).1) q fun q hq => by rw [(h2 b e).2] at hq; cases hq
    · rw [← hσ i hi]
      exact s.sl i b (by rw [wipeE_out hi]; exact e)
  · obtain ⟨h1, h2, h3⟩ := s.pr a o e
    exact ⟨h1, h2, fun i q => h3 i (ow i a q)⟩
  · obtain ⟨h1, h2, h3, h4⟩ := s.nn i q (inn i q h)
    exact ⟨fun j z => h1 j (ow j q z), fun j z => h2 j (inn j q z), h3, h4⟩
/-- a target of a comprehension: it stores to slots of vs -/
structure TgC (g : Gx) (tg : TG) (vs : List Nat) {α : Type} [Rp α] (f : List Bd → α → List Bd) : Prop where
  go : ∀ B F A E σ H v x, Sta g B F A E σ H → rp g F v x → ∀ Q : St → Hp → Prop, (∀ σ', Sta g B F A (f E x) σ' H → σ'.length = σ.length → (∀ i, i ∉ vs → σ'[i]? = σ[i]?) → Q σ' H) → tg v σ H Q
theorem tc_n {i : Nat} {vs : List Nat} (hi : i ∈ vs) : TgC g (gName i) vs (fun E (x : α) => E.set i (.kp x)) := ⟨fun B F A E σ H v x s r Q k => k _ (s.setk r) (by simp) fun j hj => List.getElem?_set_ne (show i ≠ j from fun z => hj (z ▸ hi))⟩
theorem tc_p {i j : Nat} {vs : List Nat} (hi : i ∈ vs) (hj : j ∈ vs) : TgC g (gTup g.K 2 (gCons (gName i) (gCons (gName j) gNil))) vs (fun E (x : α × β) => (E.set i (.kp x.1)).set j (.kp x.2)) := ⟨fun B F A E σ H v x s ⟨p, a, b, e, hp, r1, r2⟩ Q k =>
  ⟨p, [a, b], e, .of (s.ah _ _ (s.fa _ _ hp)), rfl, a, [b], rfl, b, [], rfl, rfl, k _ ((s.setk r1).setk r2) (by simp) fun l hl => by
    rw [List.getElem?_set_ne (show j ≠ l from fun z => hl (z ▸ hj)), List.getElem?_set_ne (show i ≠ l from fun z => hl (z ▸ hi))]⟩⟩
theorem tc_q {δ : Type} [Rp δ] {i j l m : Nat} {vs : List Nat} (hi : i ∈ vs) (hj : j ∈ vs) (hl : l ∈ vs) (hm : m ∈ vs) : TgC g (gTup g.K 4 (gCons (gName i) (gCons (gName j) (gCons (gName l) (gCons (gName m) gNil))))) vs (fun E (x : T4 α β γ δ) => (((E.set i (.kp x.a)).set j (.kp x.b)).set l (.kp x.c)).set m (.kp x.d)) := ⟨fun B F A E σ H v x s ⟨p, a, b, c, d, e, hp, r1, r2, r3, r4⟩ Q k =>
  ⟨p, [a, b, c, d], e, .of (s.ah _ _ (s.fa _ _ hp)), rfl, a, [b, c, d], rfl, b, [c, d], rfl, c, [d], rfl, d, [], rfl, rfl, k _ ((((s.setk r1).setk r2).setk r3).setk r4) (by simp) fun n hn => by
    rw [List.getElem?_set_ne (show m ≠ n from fun z => hn (z ▸ hm)), List.getElem?_set_ne (show l ≠ n from fun z => hn (z ▸ hl)), List.getElem?_set_ne (show j ≠ n from fun z => hn (z ▸ hj)), List.getElem?_set_ne (show i ≠ n from fun z => hn (z ▸ hi))]⟩⟩
theorem wipe_eq {σ σ' : St} {vs : List Nat} (hl : σ'.length = σ.length) (h : ∀ i, i ∉ vs → σ'[i]? = (L2.wipe σ vs)[i]?) : L2.wipe σ' vs = L2.wipe σ vs := by
  apply List.ext_getElem?
  intro i
  by_cases hi : i ∈ vs
  · have key : ∀ (τ : St) (ws : List Nat), i ∈ ws → (L2.wipe τ ws)[i]? = if i < τ.length then some none else none := fun τ ws => by
      induction ws with
      | nil => intro h; cases h
      | cons w ws ih =>
        intro h
        unfold L2.wipe
        by_cases hw : w = i
        · subst hw
          by_cases hl : w < τ.length
          · rw [List.getElem?_set_self (by rw [wipe_length]; exact hl), if_pos hl]
          · rw [List.getElem?_eq_none (by rw [List.length_set, wipe_length]; omega), if_neg hl]
        · rw [List.getElem?_set_ne hw]
          rcases List.mem_cons.mp h with e | h
          · exact absurd e.symm hw
          · exact ih h
    rw [key σ' vs hi, key σ vs hi, hl]
  · rw [wipe_out hi, h i hi]
theorem pt_yes : PxT g B E E tYes true := fun F A σ H s Q k => k F A H s (Same.refl _)
theorem pn_comp {S : Type} {xs : List α} {ys : List β} {s0 sN : S} {Es : S → List Bd} {fn : α → S → R (Option β × S)} {wi : TI} {tg : TG} {tt : TT} {te : TE} {vs : List Nat} {f : List Bd → α → List Bd}
    (hsrc : Sr g B E (Es s0) wi xs) (htg : TgC g tg vs f) (hC : compR xs s0 fn = .ok (ys, sN)) (hz : sz xs.length = true) (hlen : ∀ s, (Es s).length = (Es s0).length) (hv : ∀ s, ∀ i ∈ vs, (Es s)[i]? = (Es s0)[i]? ∧ ∀ b, (Es s)[i]? = some b → b.nO)
    (hb : ∀ B' x s r, Nest g B B' → x ∈ xs → fn x s = .ok r → ∃ b E2, PxT g B' (f (wipeE (Es s) vs) x) E2 tt b ∧ (b = true → ∃ y E3, r.1 = some y ∧ Px g B' E2 E3 te y ∧ LeE E3 (wipeE (Es r.2) vs)) ∧ (b = false → r.1 = none ∧ LeE E2 (wipeE (Es r.2) vs))) :
    PxN g B E (Es sN) (tLc wi tg tt te vs) ys := fun F A σ H s Q k => by
  -- what has been made of the first i
  have split : ∀ (i : Nat) (s : S) (q : List β × S), i < xs.length → compR (xs.drop i) s fn = .ok q → ∃ x r q', xs[i]? = some x ∧ fn x s = .ok r ∧ compR (xs.drop (i + 1)) r.2 fn = .ok q' ∧ q.2 = q'.2 ∧ q.1 = (match r.1 with | some y => y :: q'.1 | none => q'.1) := fun i s q hi hq => by
    rw [List.drop_eq_getElem_cons hi] at hq
    unfold compR at hq
    obtain ⟨r, h1, h2⟩ := bind_ok hq
    obtain ⟨q', h3, h4⟩ := bind_ok h2
    have h4 := (R.ok.inj h4).symm
    subst h4
    exact ⟨xs[i], r, q', by simp [hi], h1, h3, rfl, rfl⟩
  refine hsrc F A σ H s _ fun F1 A1 H1 J B0 s0' n0 eF src => fun D hD => ?_
  obtain ⟨s1, nr⟩ := s0'.rebase
  generalize hB1 : B0.to F1 A1 = B1 at s1 nr
  have n01 := n0.trans nr
  have hf0 : B1.F0 = F1 := by rw [← hB1]; rfl
  have hPD : B1.P D = none := by
    cases e : B1.P D with
    | none => rfl
    | some o => have := (s1.pr D o e).1; rw [hD] at this; cases this
  have hpsD : D ∉ B1.ps := fun z => (s1.inn D z).1 hD
  have hPB : B.P D = none := by
    cases e : B.P D with
    | none => rfl
    | some o => have := ((n0.2.2 _ _ _ _ _ s0').pr D o e).1; rw [hD] at this; cases this
  obtain ⟨s2, n2⟩ := s1.alloc (o := .lst []) hD
  obtain ⟨s3, _⟩ := s2.aside n2
  let Inv : Nat → Hp → Prop := fun i H => ∃ (F A : Hp) (s : S) (acc : List V) (done rest : List β), Sta g (B1.aside D (.lst acc)) F A (Es s) σ H ∧ rps g F acc done ∧ compR (xs.drop i) s fn = .ok (rest, sN) ∧ ys = done ++ rest ∧ acc.length ≤ i
  refine ⟨fun i m H => m = xs.length - i ∧ i ≤ xs.length ∧ Inv i H, ⟨xs.length, by simp, Nat.zero_le _, F1, A1, s0, [], [], ys, s3, trivial, by rw [List.drop_zero]; exact hC, rfl, Nat.le_refl _⟩, ?_⟩
  rintro i m H' ⟨rfl, hi, F', A', s', acc, done, rest, st, racc, hR, hys, hacc⟩
  have nB : ∀ acc, Nest g B1 (B1.aside D (.lst acc)) := fun acc => ⟨rfl, ⟨Same.refl _, fun a e => (by
    have e : (upd B1.P D (.lst acc)) a = none := e
    by_cases h : a = D
    · rw [h]; exact hPD
    · rwa [upd_ne h] at e)⟩, fun F A E σ H q => (q.back hPD hpsD).1⟩
  by_cases hlt : i < xs.length
  · right
    refine ⟨src.goes i F' A' _ σ H' hlt (nr.2.2 _ _ _ _ _ ((nB acc).2.2 _ _ _ _ _ st)), Inv (i + 1), fun H'' hI => ⟨xs.length - (i + 1), by omega, rfl, hlt, hI⟩, fun v H'' hy => ?_⟩
    obtain ⟨x, r, q', hx, hfn, hq', e2, e1⟩ := split i s' _ hlt hR
    -- the item; the base moves to where one stands
    obtain ⟨st', nst⟩ := st.rebase
    obtain ⟨F2, A2, st2, rv⟩ := src.yld _ i F' A' _ σ H' v H'' x (nr.trans ((nB acc).trans nst)) hx st' hy
    have hF2 : Same F' F2 := st2.f0
    have st2 := nst.2.2 _ _ _ _ _ st2
    obtain ⟨st3, n3⟩ := st2.rebase
    have nAll : Nest g B ((B1.aside D (.lst acc)).to F2 A2) := n01.trans ((nB acc).trans n3)
    have stw := st3.wipe vs (σ' := L2.wipe σ vs) (wipe_length σ vs) fun i hi => wipe_out hi
    refine htg.go _ F2 A2 _ _ H'' v x stw rv _ fun σ2 st4 hl2 hσ2 => ⟨wipe_eq (hl2.trans (wipe_length σ vs)) hσ2, ?_⟩
    have hσσ : ∀ i, i ∉ vs → σ2[i]? = σ[i]? := fun i hi => (hσ2 i hi).trans (wipe_out hi)
    have hlσ : σ2.length = σ.length := hl2.trans (wipe_length σ vs)
    obtain ⟨b, E2', ht, hT, hFl⟩ := hb _ x s' r nAll (List.mem_of_getElem? hx) hfn
    have fin : ∀ {F4 A4 H4 E4}, Sta g ((B1.aside D (.lst acc)).to F2 A2) F4 A4 E4 σ2 H4 → LeE E4 (wipeE (Es r.2) vs) → Sta g (B1.aside D (.lst acc)) F4 A4 (Es r.2) σ H4 := fun {F4 A4 H4 E4} s5 l =>
      n3.2.2 _ _ _ _ _ (st2.unwipe (s5.weak l) hlσ hσσ ((hlen r.2).trans (hlen s').symm) fun i hi => ⟨(hv r.2 i hi).1.trans (hv s' i hi).1.symm, (hv r.2 i hi).2⟩)
    refine ht F2 A2 σ2 H'' st4 _ fun F3 A3 H3 st5 e3 => ?_
    cases b with
    | false =>
      obtain ⟨rn, l⟩ := hFl rfl
      refine iteF ⟨F3, A3, r.2, acc, done, q'.1, fin st5 l, rps_mono (hF2.trans st5.f0) racc, ?_, ?_, Nat.le_succ_of_le hacc⟩
      · rw [hq']
        have : q'.2 = sN := e2.symm
        rw [← this]
      · rw [hys]
        have e1 : rest = (match r.1 with | some y => y :: q'.1 | none => q'.1) := e1
        have : rest = q'.1 := by rw [e1, rn]
        rw [this]
    | true =>
      obtain ⟨y, E3', hy', hpx, l⟩ := hT rfl
      refine iteT (hpx F3 A3 σ2 H3 st5 _ fun F4 A4 H4 w st6 e4 rw => ?_)
      have st7 := fin st6 l
      have hD4 : H4 D = some (.lst acc) := (st7.pr D _ (by show (upd B1.P D _) D = _; exact upd_same)).1
      refine ⟨acc, hD4, Nat.lt_of_le_of_lt hacc (Nat.lt_of_lt_of_le hlt (sz_ok hz)), F4, A4, r.2, acc ++ [w], done ++ [y], q'.1, st7.aside_set hPD hpsD, rps_app (rps_mono (hF2.trans st6.f0) racc) ⟨rw, trivial⟩, ?_, ?_, ?_⟩
      · rw [hq']
        have : q'.2 = sN := e2.symm
        rw [← this]
      · rw [hys]
        have e1 : rest = (match r.1 with | some y => y :: q'.1 | none => q'.1) := e1
        have : rest = y :: q'.1 := by rw [e1, hy']
        rw [this, List.append_assoc]; rfl
      · rw [List.length_append]; exact Nat.succ_le_succ hacc
  · left
    have e : i = xs.length := by omega
    subst e
    rw [List.drop_length] at hR
    have e1 := R.ok.inj hR
    have e2 : rest = [] := (congrArg Prod.fst e1).symm
    have e3 : s' = sN := congrArg Prod.snd e1
    subst e2; subst e3
    rw [List.append_nil] at hys
    subst hys
    obtain ⟨s8, n8⟩ := st.back hPD hpsD
    refine ⟨src.stops F' A' _ σ H' (nr.2.2 _ _ _ _ _ s8), k F' A' H' D acc (n01.2.2 _ _ _ _ _ s8) (eF.trans (by have := s8.f0; rwa [hf0] at this)) ⟨n8.at_, n8.f, n8.a, n8.ne, n8.ni, by rw [← n01.1]; exact n8.ps, hPB⟩ racc⟩
end
end Gn
/-! Gn: simple comprehensions, defs, raise. -/
namespace Gn
open PySem L2
open Rp (rp)

theorem comp_map {α β : Type} {f : α → R β} : ∀ {xs : List α} {ys : List β}, mapR xs f = .ok ys → compR xs () (fun x _ => (f x).bind fun y => .ok (some y, ())) = .ok (ys, ())
  | [], ys, h => by cases h; rfl
  | x :: xs, ys, h => by
    unfold mapR at h
    obtain ⟨y, h1, h2⟩ := bind_ok h
    obtain ⟨zs, h3, h4⟩ := bind_ok h2
    cases h4
    unfold compR
    show ((f x).bind fun y => R.ok (some y, ())).bind _ = _
    rw [h1]
    show (compR xs () fun x _ => (f x).bind fun y => .ok (some y, ())).bind _ = _
    rw [comp_map h3]
    rfl
theorem comp_fil {α β : Type} {f : α → R (Option β)} : ∀ {xs : List α} {ys : List β}, filR xs f = .ok ys → compR xs () (fun x _ => (f x).bind fun y => .ok (y, ())) = .ok (ys, ())
  | [], ys, h => by cases h; rfl
  | x :: xs, ys, h => by
    unfold filR at h
    obtain ⟨y, h1, h2⟩ := bind_ok h
    obtain ⟨zs, h3, h4⟩ := bind_ok h2
    cases h4
    unfold compR
    show ((f x).bind fun y => R.ok (y, ())).bind _ = _
    rw [h1]
    show (compR xs () fun x _ => (f x).bind fun y => .ok (y, ())).bind _ = _
    rw [comp_fil h3]
    rfl
theorem leE_set : ∀ {E : List Bd} {j : Nat} {b : Bd}, E[j]? = some .un → LeE (E.set j b) E
  | [], _, _, h => by simp at h
  | c :: E, 0, b, h => by
    simp at h; subst h
    exact .cons .un LeE.refl
  | c :: E, j + 1, b, h => .cons .refl (leE_set (by simpa using h))
theorem LeE.trans : ∀ {E1 E2 E3 : List Bd}, LeE E1 E2 → LeE E2 E3 → LeE E1 E3 := fun {E1 E2 E3} a => by
  induction a generalizing E3 with
  | nil => intro b; exact b
  | cons l _ ih =>
    intro b
    cases b with
    | cons l' b =>
      refine .cons ?_ (ih b)
      cases l with
      | refl => exact l'
      | un => cases l' with
        | refl => exact .un
        | un => exact .un
      | kb => cases l' with
        | refl => exact .kb
        | un => exact .un
      | kk h => cases l' with
        | refl => exact .kk h
        | un => exact .un
        | kb => exact .kkb h
        | kk h' => exact .kk fun g F v z => h' g F v (h g F v z)
        | kkb h' => exact .kkb fun g F v z => h' g F v (h g F v z)
      | kkb h => cases l' with
        | refl => exact .kkb h
        | un => exact .un
section
variable {g : Gx} {B : Bs} {E E1 E2 E3 E' : List Bd} {ta tb' tc te : TE} {tt : TT} {α β γ : Type} [Rp α] [Rp β] [Rp γ]
theorem pn_map {xs : List α} {ys : List β} {fn : α → R β} {wi : TI} {tg : TG} {te : TE} {vs : List Nat} {f : List Bd → α → List Bd}
    (hsrc : Sr g B E E1 wi xs) (htg : TgC g tg vs f) (hC : mapR xs fn = .ok ys) (hz : sz xs.length = true) (hv : ∀ i ∈ vs, ∀ b, E1[i]? = some b → b.nO) (hl : ∀ x, LeE (f (wipeE E1 vs) x) (wipeE E1 vs))
    (hb : ∀ B' x y, Nest g B B' → x ∈ xs → fn x = .ok y → Px g B' (f (wipeE E1 vs) x) (f (wipeE E1 vs) x) te y) : PxN g B E E1 (tLc wi tg tYes te vs) ys :=
  pn_comp (Es := fun (_ : Unit) => E1) (s0 := ()) (sN := ()) hsrc htg (comp_map hC) hz (fun _ => rfl) (fun _ i hi => ⟨rfl, hv i hi⟩) fun B' x s r n hx hfn => by
    obtain ⟨y, h1, h2⟩ := bind_ok hfn
    cases h2
    exact ⟨true, _, pt_yes, fun _ => ⟨y, _, rfl, hb B' x y n hx h1, hl x⟩, fun h => nomatch h⟩
theorem pn_fil {xs : List α} {ys : List β} {fn : α → R (Option β)} {wi : TI} {tg : TG} {te : TE} {vs : List Nat} {f : List Bd → α → List Bd}
    (hsrc : Sr g B E E1 wi xs) (htg : TgC g tg vs f) (hC : filR xs fn = .ok ys) (hz : sz xs.length = true) (hv : ∀ i ∈ vs, ∀ b, E1[i]? = some b → b.nO) (hl : ∀ x, LeE (f (wipeE E1 vs) x) (wipeE E1 vs))
    (hb : ∀ B' x r, Nest g B B' → x ∈ xs → fn x = .ok r → ∃ b, PxT g B' (f (wipeE E1 vs) x) (f (wipeE E1 vs) x) tt b ∧ (b = true → ∃ y, r = some y ∧ Px g B' (f (wipeE E1 vs) x) (f (wipeE E1 vs) x) te y) ∧ (b = false → r = none)) : PxN g B E E1 (tLc wi tg tt te vs) ys :=
  pn_comp (Es := fun (_ : Unit) => E1) (s0 := ()) (sN := ()) hsrc htg (comp_fil hC) hz (fun _ => rfl) (fun _ i hi => ⟨rfl, hv i hi⟩) fun B' x s r n hx hfn => by
    obtain ⟨y, h1, h2⟩ := bind_ok hfn
    cases h2
    obtain ⟨b, p1, p2, p3⟩ := hb B' x y n hx h1
    exact ⟨b, _, p1, fun h => by obtain ⟨z, e, p⟩ := p2 h; exact ⟨z, _, e, p, hl x⟩, fun h => ⟨p3 h, hl x⟩⟩
/-- raise -/
theorem sx_raise {t : St → Hp → XK → Prop} {X : XK} {D : Ends} {c : Str} {d : Gn.D} (ht : ∀ F A σ H, Sta g B F A E σ H → ∀ Q : XK, (∀ F' A' H' dx, Sta g B F' A' E σ H' → PayOk F' dx d → Q (.ref (g.ca c)) dx H') → t σ H Q) (hX : XkOk g B X c d) :
    Sx g B E (fun _ σ H => t σ H fun cls d H' => X cls d H') D := fun F A σ H s => ht F A σ H s _ fun F' A' H' dx s' p => hX F' A' E σ H' dx s' p
theorem sx_raise0 {X : XK} {D : Ends} {c : Str} (hX : XkOk g B X c .non) : Sx g B E (fun _ σ H => (fun (_ : St) (H : Hp) (Q : XK) => Q (.ref (g.ca c)) none H) σ H fun cls d H' => X cls d H') D := fun F A σ H s => hX F A E σ H none s rfl
end

/-! ### defs -/
inductive Ini : List Ca → List Addr → List Bd → Prop
  | nil : Ini [] [] []
  | k {α : Type} [Rp α] {x : α} {cs ps E} : Ini cs ps E → Ini (.k x :: cs) ps (.kp x :: E)
  | b {α : Type} [Rp α] {x : α} {cs ps E} : Ini cs ps E → Ini (.b x :: cs) ps (.bo x :: E)
  | m {α : Type} [Rp α] {xs : List α} {p cs ps E} : Ini cs ps E → Ini (.m xs :: cs) (p :: ps) (.io p xs :: E)
theorem ini_k {α : Type} [Rp α] {x : α} {cs : List Ca} {ps : List Addr} {E : List Bd} (h : Ini (.k x :: cs) ps E) : ∃ E', E = .kp x :: E' ∧ Ini cs ps E' := by
  cases h with
  | k h => exact ⟨_, rfl, h⟩
theorem ini_b {α : Type} [Rp α] {x : α} {cs : List Ca} {ps : List Addr} {E : List Bd} (h : Ini (.b x :: cs) ps E) : ∃ E', E = .bo x :: E' ∧ Ini cs ps E' := by
  cases h with
  | b h => exact ⟨_, rfl, h⟩
theorem ini_m {α : Type} [Rp α] {x : List α} {cs : List Ca} {ps : List Addr} {E : List Bd} (h : Ini (.m x :: cs) ps E) : ∃ p ps' E', ps = p :: ps' ∧ E = .io p x :: E' ∧ Ini cs ps' E' := by
  cases h with
  | m h => exact ⟨_, _, _, rfl, rfl, h⟩
theorem ini_nil {ps : List Addr} {E : List Bd} (h : Ini [] ps E) : ps = [] ∧ E = [] := by
  cases h
  exact ⟨rfl, rfl⟩
theorem in_len {g : Gx} {F H : Hp} {ps0 : List Addr} : ∀ {vs : List V} {cs : List Ca} {qs : List Addr}, InOk g F H ps0 vs cs qs → vs.length = cs.length
  | [], [], _, _ => rfl
  | _ :: _, @Ca.k _ _ _ :: _, _, h => congrArg (· + 1) (in_len h.2)
  | _ :: _, @Ca.b _ _ _ :: _, _, h => congrArg (· + 1) (in_len h.2)
  | _ :: _, @Ca.m _ _ _ :: _, _, h => by
    obtain ⟨_, _, _, _, _, _, _, _, h⟩ := h
    exact congrArg (· + 1) (in_len h)
  | [], @Ca.k _ _ _ :: _, _, h => h.elim
  | [], @Ca.b _ _ _ :: _, _, h => h.elim
  | [], @Ca.m _ _ _ :: _, _, h => h.elim
  | _ :: _, [], _, h => h.elim
theorem ini_of {g : Gx} {F H : Hp} {ps0 : List Addr} : ∀ {vs : List V} {cs : List Ca} {qs : List Addr}, InOk g F H ps0 vs cs qs → (∀ q ∈ qs, q ∈ ps0) → qs.Nodup → (∀ q ∈ qs, F q = none) → ∃ E, Ini cs qs E ∧ E.length = vs.length ∧
      (∀ (i : Nat) (b : Bd), E[i]? = some b → SlotOk g F (less H ps0) H (vs.map some)[i]? b) ∧ (∀ i p, Own E (vs.map some) i p → p ∈ qs) ∧ (∀ i j p, Own E (vs.map some) i p → Own E (vs.map some) j p → i = j)
  | [], [], qs, h, _, _, _ => by
    have h : qs = [] := h
    subst h
    exact ⟨[], .nil, rfl, fun i b e => by simp at e, fun i p ⟨_, b, e, _⟩ => by simp at e, fun i j p ⟨_, b, e, _⟩ => by simp at e⟩
  | v :: vs, @Ca.k _ _ x :: cs, qs, h, h0, nd, hf => by
    obtain ⟨E, i1, i2, i3, i4, i5⟩ := ini_of h.2 h0 nd hf
    have ow : ∀ i p, Own (.kp x :: E) ((v :: vs).map some) i p → ∃ j, i = j + 1 ∧ Own E (vs.map some) j p := fun i p ⟨e1, b, e2, e3⟩ => by
      cases i with
      | zero => simp at e2; subst e2; exact e3.elim
      | succ j => exact ⟨j, rfl, by simpa using e1, b, by simpa using e2, e3⟩
    refine ⟨.kp x :: E, .k i1, by simp [i2], fun i b e => ?_, fun i p o => ?_, fun i j p o o' => ?_⟩
    · cases i with
      | zero => simp at e; subst e; exact ⟨v, rfl, h.1⟩
      | succ i => simpa using i3 i b (by simpa using e)
    · obtain ⟨j, rfl, o⟩ := ow i p o; exact i4 j p o
    · obtain ⟨i, rfl, o⟩ := ow i p o
      obtain ⟨j, rfl, o'⟩ := ow j p o'
      rw [i5 i j p o o']
  | v :: vs, @Ca.b _ _ x :: cs, qs, h, h0, nd, hf => by
    obtain ⟨E, i1, i2, i3, i4, i5⟩ := ini_of h.2 h0 nd hf
    have ow : ∀ i p, Own (.bo x :: E) ((v :: vs).map some) i p → ∃ j, i = j + 1 ∧ Own E (vs.map some) j p := fun i p ⟨e1, b, e2, e3⟩ => by
      cases i with
      | zero => simp at e2; subst e2; exact e3.elim
      | succ j => exact ⟨j, rfl, by simpa using e1, b, by simpa using e2, e3⟩
    refine ⟨.bo x :: E, .b i1, by simp [i2], fun i b e => ?_, fun i p o => ?_, fun i j p o o' => ?_⟩
    · cases i with
      | zero => simp at e; subst e; exact ⟨v, rfl, h.1⟩
      | succ i => simpa using i3 i b (by simpa using e)
    · obtain ⟨j, rfl, o⟩ := ow i p o; exact i4 j p o
    · obtain ⟨i, rfl, o⟩ := ow i p o
      obtain ⟨j, rfl, o'⟩ := ow j p o'
      rw [i5 i j p o o']
  | v :: vs, @Ca.m _ _ xs :: cs, qs, h, h0, nd, hf => by
    obtain ⟨p0, ws, qs', rfl, rfl, e2, r, e3, h⟩ := h
    obtain ⟨nd1, nd2⟩ := List.nodup_cons.mp nd
    obtain ⟨E, i1, i2, i3, i4, i5⟩ := ini_of h (fun q hq => h0 q (List.mem_cons_of_mem _ hq)) nd2 (fun q hq => hf q (List.mem_cons_of_mem _ hq))
    have ow : ∀ i p, Own (.io p0 xs :: E) ((.ref p0 :: vs).map some) i p → (i = 0 ∧ p = p0) ∨ ∃ j, i = j + 1 ∧ Own E (vs.map some) j p := fun i p ⟨e1, b, e2, e3⟩ => by
      cases i with
      | zero => simp at e1; exact .inl ⟨rfl, e1.symm⟩
      | succ j => exact .inr ⟨j, rfl, by simpa using e1, b, by simpa using e2, e3⟩
    refine ⟨.io p0 xs :: E, .m i1, by simp [i2], fun i b e => ?_, fun i p o => ?_, fun i j p o o' => ?_⟩
    · cases i with
      | zero => simp at e; subst e; exact ⟨ws, rfl, e2, r, e3, less_in (h0 p0 List.mem_cons_self)⟩
      | succ i => simpa using i3 i b (by simpa using e)
    · rcases ow i p o with ⟨_, rfl⟩ | ⟨j, rfl, o⟩
      · exact List.mem_cons_self
      · exact List.mem_cons_of_mem _ (i4 j p o)
    · rcases ow i p o with ⟨rfl, rfl⟩ | ⟨i, rfl, o⟩
      · rcases ow j p o' with ⟨rfl, _⟩ | ⟨j, rfl, o'⟩
        · rfl
        · exact absurd (i4 j p o') nd1
      · rcases ow j p o' with ⟨rfl, rfl⟩ | ⟨j, rfl, o'⟩
        · exact absurd (i4 i p o) nd1
        · rw [i5 i j p o o']
  | [], @Ca.k _ _ _ :: _, _, h, _, _, _ => h.elim
  | [], @Ca.b _ _ _ :: _, _, h, _, _, _ => h.elim
  | [], @Ca.m _ _ _ :: _, _, h, _, _, _ => h.elim
  | _ :: _, [], _, h, _, _, _ => h.elim
theorem ini_qs : ∀ {cs : List Ca} {ps : List Addr} {E : List Bd}, Ini cs ps E → ∀ (i : Nat) (b : Bd), E[i]? = some b → b.qs = [] := by
  intro cs ps E h
  induction h with
  | nil => intro i b e; simp at e
  | k _ ih =>
    intro i b e
    cases i with
    | zero => simp at e; subst e; rfl
    | succ i => exact ih i b (by simpa using e)
  | b _ ih =>
    intro i b e
    cases i with
    | zero => simp at e; subst e; rfl
    | succ i => exact ih i b (by simpa using e)
  | m _ ih =>
    intro i b e
    cases i with
    | zero => simp at e; subst e; rfl
    | succ i => exact ih i b (by simpa using e)
/-- at a def's entry -/
theorem sp_start {g : Gx} {rel : List Ca → Out → Prop} {N : List Str} {vs : List V} {H : Hp} {Q : VK} {X : XK} (h : spOf g rel vs H Q X) (hN : vs.length ≤ N.length) :
    ∃ B cs o E, rel cs o ∧ Ini cs B.ps E ∧ Sp' g B (E ++ List.replicate (N.length - cs.length) .un) (start N vs) H ∧ DRt g B Q o ∧ (∀ c d, o = .exc c d → XkOk g B X c d) ∧ (∀ outs, o = .ret () outs → ∀ F A E σ H, Sta g B F A E σ H → CnOk g F H B.ps outs → Q .non H) := by
  obtain ⟨F, cs, ps, o, hs, nd, hin, hrel, hfin⟩ := h
  have hlen := in_len hin
  have hF : ∀ q ∈ ps, F q = none ∧ H q ≠ none := by
    have : ∀ {vs : List V} {cs : List Ca} {qs : List Addr}, InOk g F H ps vs cs qs → ∀ q ∈ qs, F q = none ∧ H q ≠ none := by
      intro vs cs
      induction cs generalizing vs with
      | nil =>
        intro qs h q hq
        cases vs with
        | nil => have h : qs = [] := h; subst h; cases hq
        | cons _ _ => exact h.elim
      | cons c cs ih =>
        intro qs h q hq
        cases vs with
        | nil => cases c <;> exact h.elim
        | cons v vs =>
          cases c with
          | k x => exact ih h.2 q hq
          | b x => exact ih h.2 q hq
          | m xs =>
            obtain ⟨p, ws, qs', _, rfl, e2, _, e3, h⟩ := h
            rcases List.mem_cons.mp hq with rfl | hq
            · exact ⟨e3, by rw [e2]; exact fun z => nomatch z⟩
            · exact ih h q hq
    exact this hin
  obtain ⟨E, i1, i2, i3, i4, i5⟩ := ini_of hin (fun q h => h) nd (fun q h => (hF q h).1)
  let B : Bs := ⟨F, less H ps, ps, fun _ => none⟩
  have grow : ∀ {F' A' E' σ' H'}, Sta g B F' A' E' σ' H' → Grow F H F' H' ps := fun {F' A' E' σ' H'} s => by
    refine ⟨s.f0, s.fa.trans s.ah, fun a h1 h2 => s.fr a h1 ?_, fun a o hm e => s.ah _ _ (s.a0 _ _ (by show less H ps a = some o; rw [less_out hm]; exact e))⟩
    by_cases hm : a ∈ ps
    · exact .inr hm
    · left
      show less H ps a ≠ none
      rw [less_out hm]; exact h2
  have st : start N vs = vs.map some ++ List.replicate (N.length - vs.length) none := rfl
  have low : ∀ i, i < E.length → (start N vs)[i]? = (vs.map some)[i]? := fun i hi => by
    rw [st, List.getElem?_append_left (by simpa [i2] using hi)]
  have own : ∀ i p, Own (E ++ List.replicate (N.length - cs.length) .un) (start N vs) i p → Own E (vs.map some) i p := fun i p ⟨e1, b, e2, e3⟩ => by
    by_cases hi : i < E.length
    · rw [List.getElem?_append_left hi] at e2
      rw [low i hi] at e1
      exact ⟨e1, b, e2, e3⟩
    · rw [List.getElem?_append_right (by omega), List.getElem?_replicate] at e2
      split at e2
      · cases e2; exact e3.elim
      · cases e2
  refine ⟨B, cs, o, E, hrel, i1, ⟨F, less H ps, ?_⟩, ?_, fun c d e => ?_, fun outs e F' A' E' σ' H' s cn => ?_⟩
  · refine ⟨?_, fun a o e => ?_, less_same H ps, Same.refl _, Same.refl _, fun a h _ => h, fun a h => ⟨(hF a h).2, less_in h⟩, fun i b e => ?_, fun i j p o o' => i5 i j p (own i p o) (own j p o'), fun a o e => (nomatch e), fun i q ⟨b, e2, e3⟩ => by
      exfalso
      by_cases hi : i < E.length
      · rw [List.getElem?_append_left hi] at e2
        rw [ini_qs i1 i b e2] at e3; cases e3
      · rw [List.getElem?_append_right (by omega), List.getElem?_replicate] at e2
        split at e2
        · cases e2; cases e3
        · cases e2⟩
    · rw [List.length_append, List.length_replicate, i2, st, List.length_append, List.length_map, List.length_replicate, hlen]
    · rw [less_out (fun hm => by rw [(hF a hm).1] at e; cases e)]; exact hs _ _ e
    · by_cases hi : i < E.length
      · rw [List.getElem?_append_left hi] at e
        rw [low i hi]
        exact i3 i b e
      · rw [List.getElem?_append_right (by omega), List.getElem?_replicate] at e
        split at e
        · cases e; trivial
        · cases e
  · cases o with
    | ret y outs => exact fun F' A' E' σ' H' v s cn r => hfin F' H' v (grow s) cn r
    | fr y outs => exact fun F' A' E' σ' H' v s cn r => hfin F' H' v (grow s) cn r
    | exc _ _ => trivial
    | new ys outs => exact fun F' A' E' σ' H' p ws s cn e r f a m => hfin F' H' p ws (grow s) cn (by
        have z : less H ps p = none := s.a0.free a
        rwa [less_out m] at z) e r f
  · subst e
    exact fun F' A' E' σ' H' dx s pay => hfin F' H' dx (grow s) (fun p hp => (s.inn p hp).1) pay
  · subst e
    exact hfin F' H' .non (grow s) cn rfl
/-- A DEF -/
theorem fn_go {g : Gx} {P : Program} {w : World} {mg : Str → Option Value} {base : Heap} {x qual : Str} {st : Stmt} {f : Addr} {fd : FuncData} {N ps : List Str} {k : Nat} {rel : List Ca → Out → Prop} (F : Fun g.K x qual st f fd) (S : FnScope N ps (defScope st)) (hlen : ∀ cs o, rel cs o → cs.length = ps.length) (hN : ps.length ≤ N.length)
    (hb : ∀ (cdv : Value) (A : Around) (outer : List Env) (s : Shared) (H : Hp) (X : XK), Room k (A.deeper (PyProof.Rows.envOfC qual (defScope st) s.heap.objs.size f cdv)) →
      ∃ t, PSs (cxOf (L2.CX P w) P w g.K mg base N qual (defScope st) f cdv A outer s H X) (defBody st) t ∧
        ∀ (B : Bs) (qs : List Addr) (cs : List Ca) (o : Out) (E : List Bd) (D : Ends), B.ps = qs → rel cs o → Ini cs qs E → DRt g B D.rt o → (∀ c d, o = .exc c d → XkOk g B X c d) → (∀ outs, o = .ret () outs → ∀ F A E σ H, Sta g B F A E σ H → CnOk g F H B.ps outs → D.nx σ H) → Sx g B (E ++ List.replicate (N.length - cs.length) .un) t D) :
    FnOk P w g.K mg base (L2.CX P w) (k + 1) f fd ps (spOf g rel) := by
  have hl : ∀ vs H Q X, spOf g rel vs H Q X → vs.length = ps.length := fun vs H Q X h => by
    obtain ⟨F, cs, qs, o, _, _, hin, hrel, _⟩ := h
    rw [in_len hin, hlen cs o hrel]
  refine F.okX S hl fun cdv A outer s H vs Q X hr h => ?_
  obtain ⟨t, ht, hgo⟩ := hb cdv A outer s H X hr
  refine ⟨t, ht, ?_⟩
  have hv := hl _ _ _ _ h
  obtain ⟨B, cs, o, E, hrel, hini, ⟨F', A', hsta⟩, hrt, hex, hfall⟩ := sp_start h (by omega : vs.length ≤ N.length)
  exact hgo B B.ps cs o E { nx := fun _ H' => Q .non H', rt := Q } rfl hrel hini hrt hex (fun outs e F A E σ H s cn => hfall outs e F A E σ H s cn) F' A' _ H hsta
/-- how a mirror's result is told: no list changed; one; two -/
def res0 {τ : Type} [Rp τ] (r : R τ) (o : Out) : Prop := match r with
  | .ok y => o = .ret y []
  | .ex c d => o = .exc c d
  | .bad => False
def res1 {τ σ : Type} [Rp τ] [Rp σ] (r : R (τ × List σ)) (o : Out) : Prop := match r with
  | .ok y => o = .ret y.1 [.mk y.2]
  | .ex c d => o = .exc c d
  | .bad => False
theorem res0_ne {τ : Type} [Rp τ] {r : R τ} {o : Out} (h : res0 r o) : r ≠ .bad ∧ (∀ y, r = .ok y → o = .ret y []) ∧ (∀ c d, r = .ex c d → o = .exc c d) := by
  cases r with
  | ok y => exact ⟨(fun z => nomatch z), (fun z e => by cases e; exact h), (fun c d e => nomatch e)⟩
  | ex c d => exact ⟨(fun z => nomatch z), (fun z e => nomatch e), (fun c d e => by cases e; exact h)⟩
  | bad => exact h.elim
theorem res1_ne {τ σ : Type} [Rp τ] [Rp σ] {r : R (τ × List σ)} {o : Out} (h : res1 r o) : r ≠ .bad ∧ (∀ y, r = .ok y → o = .ret y.1 [.mk y.2]) ∧ (∀ c d, r = .ex c d → o = .exc c d) := by
  cases r with
  | ok y => exact ⟨(fun z => nomatch z), (fun z e => by cases e; exact h), (fun c d e => nomatch e)⟩
  | ex c d => exact ⟨(fun z => nomatch z), (fun z e => nomatch e), (fun c d e => by cases e; exact h)⟩
  | bad => exact h.elim
/-- .. that tells a new list -/
def resN {τ : Type} [Rp τ] (r : R (List τ)) (o : Out) : Prop := match r with
  | .ok y => o = .new y []
  | .ex c d => o = .exc c d
  | .bad => False
def resN1 {τ σ : Type} [Rp τ] [Rp σ] (r : R (List τ × List σ)) (o : Out) : Prop := match r with
  | .ok y => o = .new y.1 [.mk y.2]
  | .ex c d => o = .exc c d
  | .bad => False
theorem resN_ne {τ : Type} [Rp τ] {r : R (List τ)} {o : Out} (h : resN r o) : r ≠ .bad ∧ (∀ y, r = .ok y → o = .new y []) ∧ (∀ c d, r = .ex c d → o = .exc c d) := by
  cases r with
  | ok y => exact ⟨(fun z => nomatch z), (fun z e => by cases e; exact h), (fun c d e => nomatch e)⟩
  | ex c d => exact ⟨(fun z => nomatch z), (fun z e => nomatch e), (fun c d e => by cases e; exact h)⟩
  | bad => exact h.elim
theorem resN1_ne {τ σ : Type} [Rp τ] [Rp σ] {r : R (List τ × List σ)} {o : Out} (h : resN1 r o) : r ≠ .bad ∧ (∀ y, r = .ok y → o = .new y.1 [.mk y.2]) ∧ (∀ c d, r = .ex c d → o = .exc c d) := by
  cases r with
  | ok y => exact ⟨(fun z => nomatch z), (fun z e => by cases e; exact h), (fun c d e => nomatch e)⟩
  | ex c d => exact ⟨(fun z => nomatch z), (fun z e => nomatch e), (fun c d e => by cases e; exact h)⟩
  | bad => exact h.elim
theorem sx_retW {g : Gx} {B : Bs} {E E1 : List Bd} {te : TE} {α : Type} [Rp α] {D : Ends} {xs : List α} {outs : List Cn} {qs : List Addr} (hx : PxN g B E E1 te xs) (hps : B.ps = qs) (hf : Fi E1 qs outs) (h : DRt g B D.rt (.new xs outs)) : Sx g B E (tRet te) D := fun F A σ H s =>
  hx F A σ H s _ fun F1 A1 H1 p vs s1 e1 n r => h F1 A1 E1 σ H1 p vs s1 (hps ▸ fi_ok s1 hf) n.at_ r n.f n.a n.ps
/-- a list of its own, given away -/
theorem pn_own {g : Gx} {B : Bs} {E : List Bd} {α : Type} [Rp α] {i : Nat} {xs : List α} (e : E[i]? = some (.ow xs)) (hps : B.ps = [] ∨ ∃ j, i ≠ j ∧ ∃ (β : Type) (_ : Rp β) (p : Addr) (ys : List β), B.ps = [p] ∧ E[j]? = some (.io p ys)) : PxN g B E (E.set i .un) (tVar i) xs := fun F A σ H s Q k => by
  obtain ⟨p, vs, e1, e2, r, e3, e4⟩ := s.sl i _ e
  have ow : Own E σ i p := ⟨e1, _, e, trivial⟩
  have hs : σ.set i (some (.ref p)) = σ := by
    apply List.ext_getElem?
    intro j
    by_cases h : j = i
    · subst h
      rw [List.getElem?_set_self (List.getElem?_eq_some_iff.mp e1).1, e1]
    · rw [List.getElem?_set_ne (Ne.symm h)]
  have su : Sta g B F A (E.set i .un) σ H := by
    have := s.set (i := i) (b := .un) (v := .ref p) trivial (fun _ _ z => z.elim) rfl
    rwa [hs] at this
  have hm : p ∉ B.ps := fun hm => by
    rcases hps with hps | ⟨j, hij, β, _, q, ys, hps, ej⟩
    · rw [hps] at hm; cases hm
    · rw [hps] at hm
      have e1' : p = q := by simpa using hm
      subst e1'
      obtain ⟨vs, e2, _⟩ := s.sl j _ ej
      exact hij (s.ne i j p ow ⟨e2, _, ej, trivial⟩)
  refine ⟨.ref p, e1, k F A H p vs su (Same.refl _) ⟨e2, e3, e4, fun j q => ?_, fun j q => ?_, hm, ?_⟩ r⟩
  rotate_left
  · rcases inn_set q with ⟨_, z⟩ | ⟨h1, h2⟩
    · cases z
    · exact (s.nn j p h2).1 i ow
  rotate_left
  · rw [← hs] at q
    rcases own_set q with ⟨_, _, z⟩ | ⟨h1, h2⟩
    · exact z
    · exact h1 (s.ne j i p h2 ow)
  · cases z : B.P p with
    | none => rfl
    | some u => exact absurd ow ((s.pr p u z).2.2 i)
theorem sx_ret' {g : Gx} {B : Bs} {E E1 : List Bd} {te : TE} {α : Type} [Rp α] {D : Ends} {x : α} {outs : List Cn} {qs : List Addr} (hx : Px g B E E1 te x) (hps : B.ps = qs) (hf : Fi E1 qs outs) (h : DRt g B D.rt (.ret x outs)) : Sx g B E (tRet te) D := sx_ret hx (hps ▸ hf) h
theorem sx_retN' {g : Gx} {B : Bs} {E : List Bd} {D : Ends} {outs : List Cn} {qs : List Addr} (hps : B.ps = qs) (hf : Fi E qs outs) (h : DRt g B D.rt (.ret () outs)) : Sx g B E tRetN D := sx_retN (hps ▸ hf) h
theorem sx_fall' {g : Gx} {B : Bs} {E : List Bd} {D : Ends} {outs : List Cn} {qs : List Addr} (hps : B.ps = qs) (hf : Fi E qs outs) (h : ∀ F A E σ H, Sta g B F A E σ H → CnOk g F H B.ps outs → D.nx σ H) : ∀ σ H, Sp' g B E σ H → D.nx σ H := sx_fall (hps ▸ hf) fun F A σ H s c => h F A E σ H s c
theorem nx_le {g : Gx} {B : Bs} {E E' : List Bd} {Pr : L2.St → Hp → Prop} (l : LeE E E') (h : ∀ σ H, Sp' g B E' σ H → Pr σ H) : ∀ σ H, Sp' g B E σ H → Pr σ H := fun σ H ⟨F, A, s⟩ => h σ H ⟨F, A, s.weak l⟩
def R.opt {α : Type} (r : R α) : Option α := match r with
  | .ok a => some a
  | _ => none
theorem opt_ok {α : Type} {r : R α} {a : α} (h : r.opt = some a) : r = .ok a := by
  cases r with
  | ok b => exact congrArg R.ok (Option.some.inj h)
  | ex c d => cases h
  | bad => cases h
/-- a value that is given a name -/
def elet {α β : Type} (v : α) (f : α → R β) : R β := f v
theorem elet_eq {α β : Type} {v : α} {f : α → R β} {r : R β} (h : elet v f = r) : ∃ x, v = x ∧ f x = r := ⟨v, rfl, h⟩
theorem pn_eq {g : Gx} {B : Bs} {E E' : List Bd} {te : TE} {α : Type} [Rp α] {xs ys : List α} (h : PxN g B E E' te xs) (e : xs = ys) : PxN g B E E' te ys := e ▸ h
def Stp.fin {S ρ β : Type} (o : Stp S ρ) (fr : ρ → R β) (fs : S → R β) : R β := match o with
  | .go s => fs s
  | .brk s => fs s
  | .ret y => fr y
theorem loop_ret {S ρ β : Type} {out : R (Stp S ρ)} {fr : ρ → R β} {fs : S → R β} {r : R β} {y : ρ} (h : out = .ok (.ret y)) (hm : out.bind (fun o => o.fin fr fs) = r) : fr y = r := by subst h; exact hm
theorem loop_go {S ρ β : Type} {out : R (Stp S ρ)} {fr : ρ → R β} {fs : S → R β} {r : R β} {s : S} (h : out = .ok (.go s) ∨ out = .ok (.brk s)) (hm : out.bind (fun o => o.fin fr fs) = r) : fs s = r := by
  rcases h with h | h <;> (subst h; exact hm)
def fuelN : Nat := 1000000
theorem px_andR {g : Gx} {B : Bs} {E E1 E2 : List Bd} {ta tb : TE} {x c : Bool} (ha : Px g B E E1 ta x) (h1 : x = true → Px g B E1 E2 tb c) (h0 : x = false → E1 = E2 ∧ c = false) : Px g B E E2 (tAndV ta tb) c := by
  have h := px_and (y := c) ha h1 (fun h => (h0 h).1)
  cases x with
  | true => exact h
  | false => rw [(h0 rfl).2]; exact h
theorem px_orR {g : Gx} {B : Bs} {E E1 E2 : List Bd} {ta tb : TE} {x c : Bool} (ha : Px g B E E1 ta x) (h1 : x = false → Px g B E1 E2 tb c) (h0 : x = true → E1 = E2 ∧ c = true) : Px g B E E2 (tOrV ta tb) c := by
  have h := px_or (y := c) ha h1 (fun h => (h0 h).1)
  cases x with
  | false => exact h
  | true => rw [(h0 rfl).2]; exact h
theorem pt_andR {g : Gx} {B : Bs} {E E1 E2 : List Bd} {ta tb : TT} {x c : Bool} (ha : PxT g B E E1 ta x) (h1 : x = true → PxT g B E1 E2 tb c) (h0 : x = false → E1 = E2 ∧ c = false) : PxT g B E E2 (tAnd ta tb) c := by
  have h := pt_and (y := c) ha h1 (fun h => (h0 h).1)
  cases x with
  | true => exact h
  | false => rw [(h0 rfl).2]; exact h
theorem pt_orR {g : Gx} {B : Bs} {E E1 E2 : List Bd} {ta tb : TT} {x c : Bool} (ha : PxT g B E E1 ta x) (h1 : x = false → PxT g B E1 E2 tb c) (h0 : x = true → E1 = E2 ∧ c = true) : PxT g B E E2 (tOr ta tb) c := by
  have h := pt_or (y := c) ha h1 (fun h => (h0 h).1)
  cases x with
  | false => exact h
  | true => rw [(h0 rfl).2]; exact h
theorem mulOk_r {i j : Int} (h : (decide (-(2 ^ 64) < j) && decide (j < 2 ^ 64)) = true) : mulOk i j = true := by unfold mulOk; rw [h, Bool.or_true]
theorem mulOk_l {i j : Int} (h : (decide (-(2 ^ 64) < i) && decide (i < 2 ^ 64)) = true) : mulOk i j = true := by unfold mulOk; rw [h, Bool.true_or]
theorem bind_split {α β : Type} {m : R α} {f : α → R β} {r : R β} (h : m.bind f = r) (n : r ≠ .bad) : ∃ q, m = q ∧ q ≠ .bad ∧ q.bind f = r := ⟨m, rfl, fun e => by subst e; exact n h.symm, h⟩
end Gn
/-! Gn: rules with the written part named. -/
namespace Gn
open PySem L2
section
variable {X : Cx} {K : PySem.W.Frag}
theorem ix_listK (h : X.K = K) : IxR X (rIxL K) := h ▸ ix_list
theorem ix_tupK (h : X.K = K) : IxR X (rIxT K) := h ▸ ix_tup
theorem sl_listK (h : X.K = K) : SlR X (rSlL K) := h ▸ sl_list
theorem call_len_seqK (h : X.K = K) : CallR X (.builtin "len") (fun xs H Q => ∃ p ys, xs = [.ref p] ∧ (SqL K H p ys ∨ SqT K H p ys) ∧ Q (.int ys.length) H) := h ▸ call_len_seq
theorem call_list_ofK (h : X.K = K) : CallR X (.type "list") (fun xs H Q => ∃ p ys, xs = [.ref p] ∧ (SqL K H p ys ∨ SqT K H p ys) ∧ ∀ l, H l = none → Q (.ref l) (upd H l (.lst ys))) := h ▸ call_list_of
theorem cr_sumK (h : X.K = K) (hc : X.calm = true) : CallR X (.builtin "sum") (rSum K) := h ▸ cr_sum hc
theorem cr_anyK (h : X.K = K) (hc : X.calm = true) : CallR X (.builtin "any") (rAny K) := h ▸ cr_any hc
theorem cr_allK (h : X.K = K) (hc : X.calm = true) : CallR X (.builtin "all") (rAll K) := h ▸ cr_all hc
theorem cr_maxK (h : X.K = K) (hc : X.calm = true) : CallR X (.builtin "max") (rMax K) := h ▸ cr_max hc
theorem cr_minK (h : X.K = K) (hc : X.calm = true) : CallR X (.builtin "min") (rMin K) := h ▸ cr_min hc
theorem cr_sortedIK (h : X.K = K) : CallR X (.builtin "sorted") (rSortedI K) := h ▸ cr_sortedI
theorem op_in_seqK (h : X.K = K) : OpR X (compareOp .In) (rIn K false) := h ▸ op_in_seq
theorem op_notIn_seqK (h : X.K = K) : OpR X (compareOp .NotIn) (rIn K true) := h ▸ op_notIn_seq
theorem pi_listK {tg l : Expr} {tl : TE} (h : X.K = K) (hl : PE X l tl) : PI X tg l (iList K tl) := h ▸ pi_list hl
theorem pg_tupK {es : List Expr} {k : Nat} {pos : Pos} {t : TGs} {n : Nat} (h : X.K = K) (hc : X.calm = true) (ht : PGs X es t) (hn : (assignEach es X.env).length = n := by rfl) (hst : (assignEach es X.env).findIdx? (·.1) = none := by rfl) : PG X (.Tuple es k pos) (gTup K n t) := h ▸ pg_tup hc ht hn hst
theorem pe_fldK {e : Expr} {ta : TE} {f : Str} {pos : Pos} (h : X.K = K) (he : PE X e ta) (hb : attributeBase e f X.env (eval e X.env) = eval e X.env) : PE X (.Attribute e f pos) (tFld K ta f) := h ▸ pe_fld he hb
end
/-- a name of the module, by its value -/
theorem pe_gc {X : Cx} {x : Str} {pos : Pos} {v : V} (hg : Gl X x) (h : ∃ u, X.mg x = some u ∧ RelV v u) (hd : (x == ("__debug__" : Str)) = false := by decide) : PE X (.Name x pos) (tC v) := by
  obtain ⟨u, hm, r⟩ := h
  exact pe_glob hg hm r hd
theorem nown {E : List Bd} {j : Nat} {b0 : Bd} (h : E[j]? = some b0) (hb : ¬ b0.isO) (hq : b0.qs = [] := by rfl) : ∀ b, E[j]? = some b → b.nO := fun b e => by
  rw [h] at e; cases e; exact ⟨hb, hq⟩
theorem nowns1 {E : List Bd} {j : Nat} (h : ∀ b, E[j]? = some b → b.nO) : ∀ i ∈ [j], ∀ b, E[i]? = some b → b.nO := fun i hi => by
  simp only [List.mem_cons, List.not_mem_nil, or_false] at hi; subst hi; exact h
theorem nowns2 {E : List Bd} {j l : Nat} (h : ∀ b, E[j]? = some b → b.nO) (h' : ∀ b, E[l]? = some b → b.nO) : ∀ i ∈ [j, l], ∀ b, E[i]? = some b → b.nO := fun i hi => by
  simp only [List.mem_cons, List.not_mem_nil, or_false] at hi
  rcases hi with hi | hi <;> subst hi <;> assumption
theorem nowns4 {E : List Bd} {j l m n : Nat} (h : ∀ b, E[j]? = some b → b.nO) (h' : ∀ b, E[l]? = some b → b.nO) (h2 : ∀ b, E[m]? = some b → b.nO) (h3 : ∀ b, E[n]? = some b → b.nO) : ∀ i ∈ [j, l, m, n], ∀ b, E[i]? = some b → b.nO := fun i hi => by
  simp only [List.mem_cons, List.not_mem_nil, or_false] at hi
  rcases hi with hi | hi | hi | hi <;> subst hi <;> assumption
theorem same1 {E E' : List Bd} {j : Nat} (h : E[j]? = E'[j]? ∧ ∀ b, E[j]? = some b → b.nO) : ∀ i ∈ [j], E[i]? = E'[i]? ∧ ∀ b, E[i]? = some b → b.nO := fun i hi => by
  simp only [List.mem_cons, List.not_mem_nil, or_false] at hi; subst hi; exact h
end Gn
/-! Gn: objects of own classes. -/
namespace Gn
open PySem L2
open Rp (rp)

/-! ### static methods, constants of a class -/
structure SMet (K : PySem.W.Frag) (C : Addr) (mc : Value) (m : Str) (f : Addr) : Prop where
  rd : ClX.CRead K C mc
  at_ : ∃ p, PySem.W.findCls K (.ref C) mc m = some (.get (.builtin "staticmethod.__get__") (.ref p) .none (.ref C)) ∧ ∃ rest, PySem.W.recIn K p "staticmethod" = some (.ref f :: rest)
  kp : PySem.W.keepIn K (.ref f) = true
theorem getsm_ok {X : Cx} {pins : List (Addr × Obj)} {σ : L2.St} {H : Hp} {s : Shared} {C f : Addr} {mc : Value} {m : Str} {A : Around} {E : Value → Shared → Prop} {pl : Sem Bool} {Q : Value × List Value → Shared → Prop} (I : Inv X pins σ H s) (k : SMet X.K C mc m f)
    (h : ∀ s', Inv X pins σ H s' → Q (.ref f, []) s') : wpAny (model X.prog X.w) A (getMethod (.ref C) m pl) Q E s := by
  obtain ⟨p, h1, rest, h2⟩ := k.at_
  refine PySem.W.method_cls I.kIn k.rd.ga (PySem.W.cls_bind I.kIn k.rd.rd h1 (wpAny_call (PySem.W.sm_get (s := { s with toks := s.toks + 1 }) I.kIn h2 (PySem.W.handed_on rfl ?_))))
  exact h _ (I.tok _)
/-- C.m(..), m a static method -/
def tSMeth (C : Addr) (sp : Sp) (E : XK) (ta : TE) (t : TA) : TE := fun σ H Q => ta σ H fun x H1 => x = .ref C ∧ t σ H1 fun vs H2 => sp (vs ++ []) H2 Q E
theorem pe_smeth {X : Cx} {CX : CXT} {k : Nat} {C f : Addr} {mc : Value} {fd : FuncData} {ps : List Str} {sp : Sp} {E : XK} {o e : Expr} {es : List Expr} {m : Str} {pos apos : Pos} {ta : TE} {t : TA} {pl : Sem Bool}
    (he : PE X o ta) (c : SMet X.K C mc m f) (F : FnOk X.prog X.w X.K X.mg X.base CX k f fd ps sp) (hr : Room k X.A) (hb : Binds X.K fd ps []) (hx : Passes CX X E) (ha : PA X (e :: es) t)
    (hst : starEach (e :: es) X.env = (false, eval e X.env) :: starEach es X.env := by rfl) (hpl : (backTo pos (starEach es X.env)).any (·.1) = false := by rfl)
    (ht : eval (.Call (.Attribute o m apos) (e :: es) [] pos) X.env = (do
      let ov ← eval o X.env
      standAt apos.atName
      let (f, first) ← holding [ov] (getMethod ov m pl)
      callWith pos f first (backTo pos (starEach (e :: es) X.env)) (backToKw pos (keywordEach [] X.env))) := by rfl) :
    PE X (.Call (.Attribute o m apos) (e :: es) [] pos) (tSMeth C sp E ta t) := by
  refine ⟨fun pins s σ H Q I h => ?_⟩
  refine PySem.W.methodCall_KW (pl := pl) (thn (he.run pins s σ H _ I h) fun u s1 ⟨x, H1, I1, rx, ex, q⟩ => ?_) ht
  subst ex
  obtain rfl : u = Value.ref C := rx
  refine getsm_ok I1 c fun s2 I2 => ?_
  refine PySem.W.callWith_K (h₀ := X.base) I.ok.mod.kin c.kp (thn (ha.run pos pins s2 σ H1 _ I2 q) fun us s3 ⟨vs, H2, I3, r, q2⟩ => ⟨I3.kIn, ?_⟩) hst hpl
  exact run_fn F hr hb .nil hx I3 r q2
theorem ps_fldK {X : Cx} {K : PySem.W.Frag} {o value : Expr} {f : Str} {pos pos' : Pos} {ta tv : TE} (h : X.K = K) (ha : PE X o ta) (hv : PE X value tv) (hs : swapsWith value (some (.Attribute o f pos')) pos.line X.env = pure false) : PS X (.Assign [.Attribute o f pos'] value pos) (sFld K ta tv f) := h ▸ ps_fld ha hv hs
section
variable {g : Gx} {B : Bs} {E E1 E2 : List Bd} {ta tb te : TE} {α β γ : Type} [Rp α] [Rp β] [Rp γ]
theorem px_smeth {rel : List Ca → Out → Prop} {X : XK} {C : Addr} {as : List Ar} {cs : List Ca} {ms : List Nat} {x : α} {outs : List Cn} {t : TA} (ha : PxA g B E E1 t as) (hr : Rs E1 as cs ms) (ap : Apart E1 ms as cs) (nd : ms.Nodup) (hrel : rel cs (.ret x outs)) :
    Px g B E (puts E1 ms outs) (tSMeth C (spOf g rel) X (tC (.ref C)) t) x := fun F A σ H s Q k => ⟨rfl, px_call (X := X) ha hr ap nd hrel F A σ H s Q k⟩
theorem pe_smethX {rel : List Ca → Out → Prop} {X : XK} {C : Addr} {as : List Ar} {cs : List Ca} {c : Str} {d : D} {t : TA} (ha : PxA g B E E1 t as) (hr : Rs E1 as cs []) (ap : Apart E1 [] as cs) (hrel : rel cs (.exc c d)) (hX : XkOk g B X c d) :
    PxE g B E (tSMeth C (spOf g rel) X (tC (.ref C)) t) := fun F A σ H s Q => ⟨rfl, pe_callX (X := X) ha hr ap hrel hX F A σ H s Q⟩
/-- a constant of a class -/
theorem px_cval {C : Addr} {f : Str} {n : Int} (h : ∃ mc u, ClX.CRead g.K C mc ∧ ClX.CVal g.K C mc f (.int n) u) : Px g B E E (ClX.tCVal g.K (tC (.ref C)) f) n := fun F A σ H s Q k => by
  obtain ⟨mc, u, h1, h2⟩ := h
  exact ⟨C, mc, _, u, rfl, h1, h2, k F A H _ s (Same.refl _) rfl⟩
theorem pe_cvalK {X : Cx} {K : PySem.W.Frag} {e : Expr} {f : Str} {pos : Pos} (h : X.K = K) (he : PE X e ta) (hb : attributeBase e f X.env (eval e X.env) = eval e X.env := by rfl) : PE X (.Attribute e f pos) (ClX.tCVal K ta f) := h ▸ ClX.pe_cval he hb

/-! ### objects that are data -/
class Ob (α : Type) where
  cn : Str
  fd : Gx → Hp → List (Str × V) → α → Prop
  mono : ∀ {g : Gx} {H H' : Hp} {fs : List (Str × V)} {x : α}, Same H H' → fd g H fs x → fd g H' fs x
abbrev Ob.rp {α : Type} [Ob α] : Rp α := ⟨fun g H v x => ∃ a dx fs, v = .ref a ∧ H a = some (.ins (g.ca (Ob.cn α)) dx fs) ∧ Ob.fd g H fs x, fun s ⟨a, dx, fs, e, h, r⟩ => ⟨a, dx, fs, e, s _ _ h, Ob.mono s r⟩⟩
/-- the name is no attribute of it -/
def Frees (α : Type) [Rp α] (g : Gx) (C : Addr) (m : Str) : Prop := ∀ H v (x : α), rp g H v x → ∃ a dx fs, v = .ref a ∧ H a = some (.ins C dx fs) ∧ fs.lookup m = none
def tConsM (C : Addr) (m : Str) (ta : TE) (t : TA) : TA := fun σ H Q => ta σ H fun x H1 => ∃ a dx fs, x = .ref a ∧ H1 a = some (.ins C dx fs) ∧ fs.lookup m = none ∧ t σ H1 fun xs H2 => Q (x :: xs) H2
theorem pa_m {tr : TA} {C : Addr} {m : Str} {x : α} {as : List Ar} (ho : Frees α g C m) (h : Px g B E E1 te x) (hr : PxA g B E1 E2 tr as) : PxA g B E E2 (tConsM C m te tr) (.k x :: as) := fun F A σ H s Q k =>
  h F A σ H s _ fun F1 A1 H1 v s1 e1 r1 => by
    obtain ⟨a, dx, fs, e, ha, l⟩ := ho _ _ _ (Rp.mono (s1.fa.trans s1.ah) r1)
    exact ⟨a, dx, fs, e, ha, l, hr F1 A1 σ H1 s1 _ fun F2 A2 H2 vs s2 e2 r2 => k F2 A2 H2 (v :: vs) s2 (e1.trans e2) ⟨Rp.mono e2 r1, r2⟩⟩
theorem px_meth {rel : List Ca → Out → Prop} {X : XK} {C : Addr} {m : Str} {as : List Ar} {cs : List Ca} {ms : List Nat} {x : α} {outs : List Cn} {t : TA} (ha : PxA g B E E1 (tConsM C m ta t) as) (hr : Rs E1 as cs ms) (ap : Apart E1 ms as cs) (nd : ms.Nodup) (hrel : rel cs (.ret x outs)) :
    Px g B E (puts E1 ms outs) (tMeth C m (spOf g rel) [] X ta t) x := px_call (X := X) ha hr ap nd hrel
theorem pe_methX {rel : List Ca → Out → Prop} {X : XK} {C : Addr} {m : Str} {as : List Ar} {cs : List Ca} {c : Str} {d : D} {t : TA} (ha : PxA g B E E1 (tConsM C m ta t) as) (hr : Rs E1 as cs []) (ap : Apart E1 [] as cs) (hrel : rel cs (.exc c d)) (hX : XkOk g B X c d) :
    PxE g B E (tMeth C m (spOf g rel) [] X ta t) := pe_callX (X := X) ha hr ap hrel hX
theorem px_prop {rel : List Ca → Out → Prop} {X : XK} {C : Addr} {m : Str} {x : α} {y : β} (ho : Frees α g C m) (h : Px g B E E1 te x) (hrel : rel [.k x] (.ret y [])) : Px g B E E1 (tProp C (spOf g rel) [] X te) y := fun F A σ H s Q k =>
  h F A σ H s _ fun F1 A1 H1 v s1 e1 r1 => by
    obtain ⟨a, dx, fs, e, ha, l⟩ := ho _ _ _ (Rp.mono (s1.fa.trans s1.ah) r1)
    subst e
    exact ⟨a, dx, fs, rfl, ha, run_sp (as := [.k x]) (X := X) (vs := [.ref a]) (.k .nil) (.k .nil) List.nodup_nil hrel s1 ⟨r1, trivial⟩ fun F' A' H' v s' e r => k F' A' H' v s' (e1.trans e) r⟩
/-- an attribute -/
def Has (α β : Type) [Rp α] [Rp β] (g : Gx) (f : Str) (pr : α → β) : Prop := ∀ H v (x : α), rp g H v x → ∃ a C dx fs w, v = .ref a ∧ H a = some (.ins C dx fs) ∧ Cls g.K C ∧ NoAttr g.K C f ∧ fs.lookup f = some w ∧ rp g H w (pr x)
theorem px_fld {f : Str} {pr : α → β} {x : α} (hh : Has α β g f pr) (h : Px g B E E1 te x) : Px g B E E1 (tFld g.K te f) (pr x) := fun F A σ H s Q k =>
  h F A σ H s _ fun F1 A1 H1 v s1 e1 r1 => by
    obtain ⟨a, C, dx, fs, w, e, ha, c, n, l, r⟩ := hh _ _ _ r1
    exact ⟨a, C, dx, fs, w, e, s1.ah _ _ (s1.fa _ _ ha), c, n, l, k F1 A1 H1 w s1 e1 r⟩
end

/-! ### making one -/
/-- an address -/
structure Adr where
  a : Addr
instance : Rp Adr := ⟨fun _ _ v x => v = .ref x.a, fun _ h => h⟩
def Bs.no (B : Bs) : Bs := ⟨B.F0, B.A0, B.ps, fun _ => none⟩
def Bs.fl (B : Bs) (F A : Hp) (x : Addr) (o : HO) : Bs := ⟨F, A, B.ps, upd B.P x o⟩
section
variable {g : Gx} {B : Bs} {E E1 E2 : List Bd} {tv : TE} {α β γ : Type} [Rp α] [Rp β] [Rp γ]
theorem Sta.un {F A H F1 A1 H1 : Hp} {σ σ1 : St} {P' : Hp} (s1 : Sta g B F1 A1 E1 σ1 H1) (s : Sta g ⟨F1, A1, B.ps, P'⟩ F A E σ H) : Sta g B.no F A E σ H where
  len := s.len
  fa := s.fa
  ah := s.ah
  f0 := s1.f0.trans s.f0
  a0 := s1.a0.trans s.a0
  fr := fun a h1 h2 => s.fr a (s1.fr a h1 h2) (h2.imp (fun z => by
    show A1 a ≠ none
    cases e : B.A0 a with
    | none => exact absurd e z
    | some o => rw [s1.a0 _ _ e]; exact fun z => nomatch z) id)
  inn := s.inn
  sl := s.sl
  ne := s.ne
  nn := fun i q h => by
    obtain ⟨h1, h2, h3, _⟩ := s.nn i q h
    exact ⟨h1, h2, h3, rfl⟩
  pr := fun a o e => nomatch e
theorem Sta.no {F A H : Hp} {σ : St} (s : Sta g B F A E σ H) : Sta g B.no F A E σ H := ⟨s.len, s.fa, s.ah, s.f0, s.a0, s.fr, s.inn, s.sl, s.ne, (fun a o e => nomatch e), fun i q h => by
    obtain ⟨h1, h2, h3, _⟩ := s.nn i q h
    exact ⟨h1, h2, h3, rfl⟩⟩
theorem sx_fld {D : Ends} {x C dx : Addr} {fs : List (Str × V)} {f : Str} {y : α} (h0 : E1[0]? = some (.kp (Adr.mk x))) (hP : B.P x = some (.ins C dx fs)) (hv : Px g B E E1 tv y) (c : Cls g.K C) (n : NoAttr g.K C f) (hl : fs.length < 1000)
    (k : ∀ w F' B', rp g F' w y → B'.P x = some (.ins C dx (putF f w fs)) → (∀ P' F A E σ H, Sta g ⟨B'.F0, B'.A0, B'.ps, P'⟩ F A E σ H → Sta g B.no F A E σ H ∧ Same F' F) → ∀ σ H, Sp' g B' E1 σ H → D.nx σ H) : Sx g B E (sFld g.K (tVar 0) tv f) D := fun F A σ H s =>
  hv F A σ H s _ fun F' A' H' w s' e r => by
    obtain ⟨v, e0, r0⟩ := s'.sl 0 _ h0
    obtain ⟨p1, p2, p3⟩ := s'.pr x _ hP
    have p4 : F' x = none := s'.fa.free p2
    refine ⟨v, e0, x, C, dx, fs, r0, p1, c, n, hl, k w F' (B.fl F' A' x (.ins C dx (putF f w fs))) r (by show upd B.P x (.ins C dx (putF f w fs)) x = _; exact upd_same) (fun P' F A E σ H q => ⟨s'.un q, q.f0⟩) _ _ ⟨F', A', ?_⟩⟩
    refine ⟨s'.len, s'.fa, fun a o q => ?_, Same.refl _, Same.refl _, fun a h _ => h, fun a h => ⟨?_, (s'.inn a h).2⟩, fun i b q => ?_, s'.ne, fun a o q => ?_, fun i r q => ?_⟩
    · have : a ≠ x := fun z => by rw [z, p2] at q; cases q
      rw [upd_ne this]; exact s'.ah _ _ q
    · by_cases z : a = x
      · rw [z, upd_same]; exact fun z => nomatch z
      · rw [upd_ne z]; exact (s'.inn a h).1
    · refine SlotOk.mono (Same.refl _) (Same.refl _) (fun p e1 hb => ?_) (s'.sl i b q) fun p hb => ?_
      · have ow : Own E1 σ i p := ⟨e1, _, q, hb⟩
        obtain ⟨f1, f2, _⟩ := s'.own ow
        have : p ≠ x := fun z => p3 i (z ▸ ow)
        exact ⟨fun vs z => by rw [upd_ne this]; exact z, f1, f2⟩
      · have ow : Inn E1 i p := ⟨_, q, hb⟩
        obtain ⟨f1, f2, _⟩ := s'.inq ow
        have : p ≠ x := fun z => by
          have := (s'.nn i p ow).2.2.2
          rw [z, hP] at this; cases this
        exact ⟨fun vs z => by rw [upd_ne this]; exact z, f1, f2⟩
    · have q : upd B.P x (.ins C dx (putF f w fs)) a = some o := q
      by_cases z : a = x
      · subst z
        rw [upd_same] at q; cases q
        exact ⟨upd_same, p2, p3⟩
      · rw [upd_ne z] at q
        obtain ⟨q1, q2, q3⟩ := s'.pr a o q
        exact ⟨by rw [upd_ne z]; exact q1, q2, q3⟩
    · obtain ⟨h1, h2, h3, h4⟩ := s'.nn i r q
      refine ⟨h1, h2, h3, ?_⟩
      have hne : r ≠ x := fun z => by rw [z, hP] at h4; cases h4
      show upd B.P x _ r = none
      rw [upd_ne hne]; exact h4
end
/-- what __init__ promises -/
def spIni (g : Gx) (α : Type) [Ob α] (rel : List Ca → R α → Prop) : Sp := fun vs H Q X => ∃ x dx ws F cs r, vs = .ref x :: ws ∧ H x = some (.ins (g.ca (Ob.cn α)) dx []) ∧ Same F H ∧ F x = none ∧ InOk g F H [x] ws cs [] ∧ rel cs r ∧ r ≠ .bad ∧
  (∀ y, r = .ok y → ∀ F' H' fs, Grow F H F' H' [x] → F' x = none → H' x = some (.ins (g.ca (Ob.cn α)) dx fs) → Ob.fd g F' fs y → Q .non H') ∧ (∀ c d, r = .ex c d → ∀ F' H' dy, Grow F H F' H' [x] → F' x = none → H' x ≠ none → PayOk F' dy d → X (.ref (g.ca c)) dy H')
theorem in_x {g : Gx} {F H : Hp} {x : Addr} {o : HO} : ∀ {vs : List V} {cs : List Ca}, InOk g F H [] vs cs [] → H x = none → InOk g F (upd H x o) [x] vs cs []
  | [], [], h, _ => h
  | _ :: _, @Ca.k _ _ _ :: _, h, hx => ⟨h.1, in_x h.2 hx⟩
  | _ :: _, @Ca.b _ _ _ :: _, h, hx => ⟨Rp.mono (fun a u e => by
      have e : H a = some u := by rwa [less_out (by simp)] at e
      have : a ≠ x := ne_of_none e hx
      rw [less_out (by simpa using this), upd_ne this]; exact e) h.1, in_x h.2 hx⟩
  | _ :: _, @Ca.m _ _ _ :: _, h, _ => by
    obtain ⟨p, ws, qs, _, e, _⟩ := h
    cases e
  | [], @Ca.k _ _ _ :: _, h, _ => h.elim
  | [], @Ca.b _ _ _ :: _, h, _ => h.elim
  | [], @Ca.m _ _ _ :: _, h, _ => h.elim
  | _ :: _, [], h, _ => h.elim
theorem in_same {g : Gx} {F H H' : Hp} (s : Same H H') : ∀ {vs : List V} {cs : List Ca}, InOk g F H [] vs cs [] → InOk g F H' [] vs cs []
  | [], [], h => h
  | _ :: _, @Ca.k _ _ _ :: _, h => ⟨h.1, in_same s h.2⟩
  | _ :: _, @Ca.b _ _ _ :: _, h => ⟨Rp.mono (fun a u e => by
      rw [less_out (by simp)] at e ⊢; exact s _ _ e) h.1, in_same s h.2⟩
  | _ :: _, @Ca.m _ _ _ :: _, h => by
    obtain ⟨p, ws, qs, _, e, _⟩ := h
    cases e
  | [], @Ca.k _ _ _ :: _, h => h.elim
  | [], @Ca.b _ _ _ :: _, h => h.elim
  | [], @Ca.m _ _ _ :: _, h => h.elim
  | _ :: _, [], h => h.elim
section
variable {g : Gx} {B : Bs} {E E1 E2 : List Bd} {α : Type} [Ob α]
/-- the allocation and what __init__ needs -/
theorem run_ini {rel : List Ca → R α → Prop} {X : XK} {as : List Ar} {cs : List Ca} {r : R α} (hr : Rs E as cs []) (ap : Apart E [] as cs) (hrel : rel cs r) (hne : r ≠ .bad) {F A H : Hp} {σ : St} {vs : List V} (s : Sta g B F A E σ H) (ha : ArOk g F σ vs as) {Q : VK}
    {x dx : Addr} (hx : H x = none) (hdx : H dx = none) (hn : dx ≠ x)
    (k : ∀ y, r = .ok y → ∀ F' A' H' v, Sta g B F' A' E σ H' → Same F F' → (@Ob.rp α _).rp g F' v y → v = .ref x → Q v H') (kx : ∀ c d, r = .ex c d → XkOk g B X c d) :
    spIni g α rel (.ref x :: vs) (upd (upd H dx (.own x)) x (.ins (g.ca (Ob.cn α)) dx [])) (fun v H2 => v = .non ∧ Q (.ref x) H2) X := by
  obtain ⟨⟨ps, had⟩, ho⟩ := rs_ads s hr
  cases ps with
  | cons _ _ => exact had.elim
  | nil =>
  have hin := in_ok s had ho hr ap ha had
  have hx1 : (upd H dx (.own x)) x = none := by rw [upd_ne (Ne.symm hn)]; exact hx
  have hA : A x = none := s.ah.free hx
  have hF : F x = none := s.fa.free hA
  have sm : Same H (upd H dx (.own x)) := Same.upd hdx
  refine ⟨x, dx, vs, F, cs, r, rfl, upd_same, (s.fa.trans s.ah).trans (sm.trans (Same.upd hx1)), hF, in_x (in_same sm hin) hx1, hrel, hne, fun y e F' H' fs gr fx hf fd => ⟨rfl, ?_⟩, fun c d e F' H' dy gr fx hf pay => ?_⟩
  · have gr2 : Grow F H (upd F' x (.ins (g.ca (Ob.cn α)) dx fs)) H' [] := by
      refine ⟨gr.f.trans (Same.upd fx), fun a o q => ?_, fun a h1 h2 => ?_, fun a o _ q => ?_⟩
      · by_cases z : a = x
        · subst z; rw [upd_same] at q; cases q; exact hf
        · rw [upd_ne z] at q; exact gr.fh _ _ q
      · have z : a ≠ x := fun z => h2 (z ▸ hx)
        rw [upd_ne z]
        refine gr.new a h1 ?_
        cases e : H a with
        | none => exact absurd e h2
        | some o => rw [upd_ne z, sm _ _ e]; exact fun z => nomatch z
      · have z : a ≠ x := ne_of_none q hx
        exact gr.h a o (by simpa using z) (by rw [upd_ne z]; exact sm _ _ q)
    obtain ⟨A', s'⟩ := after_call (E' := E) s had ho gr2 (fun p hp => nomatch hp) (fun p hp => nomatch hp) rfl fun i b e => .inr (.inl ⟨by simp, e⟩)
    exact k y e _ A' H' _ s' (gr.f.trans (Same.upd fx)) ⟨x, dx, fs, rfl, upd_same, Ob.mono (Same.upd fx) fd⟩ rfl
  · have gr2 : Grow F H F' H' [] := by
      refine ⟨gr.f, gr.fh, fun a h1 h2 => ?_, fun a o _ q => ?_⟩
      · have z : a ≠ x := fun z => h2 (z ▸ hx)
        refine gr.new a h1 ?_
        cases e : H a with
        | none => exact absurd e h2
        | some o => rw [upd_ne z, sm _ _ e]; exact fun z => nomatch z
      · have z : a ≠ x := ne_of_none q hx
        exact gr.h a o (by simpa using z) (by rw [upd_ne z]; exact sm _ _ q)
    obtain ⟨A', s'⟩ := after_call (E' := E) s had ho gr2 (fun p hp => nomatch hp) (fun p hp => nomatch hp) rfl fun i b e => .inr (.inl ⟨by simp, e⟩)
    exact kx c d e _ _ _ _ H' dy s' pay
end
section
variable {g : Gx} {B : Bs} {E E1 E2 : List Bd} {α : Type} [Ob α]
theorem px_make {rel : List Ca → R α → Prop} {X : XK} {C : Addr} {as : List Ar} {cs : List Ca} {x : α} {t : TA} (hC : C = g.ca (Ob.cn α)) (ha : PxA g B E E1 t as) (hr : Rs E1 as cs []) (ap : Apart E1 [] as cs) (hrel : rel cs (.ok x)) : @Px g B E E1 (tMake C (spIni g α rel) [] X t) α Ob.rp x := fun F A σ H s Q k =>
  ha F A σ H s _ fun F1 A1 H1 vs s1 e1 r1 => fun a dx hx hdx hn => by
    subst hC
    show spIni g α rel (.ref a :: (vs ++ [])) _ _ X
    rw [List.append_nil]
    exact run_ini hr ap hrel (fun z => nomatch z) s1 r1 hx hdx hn (fun y e F' A' H' v s' e2 r ev => by cases e; exact k F' A' H' v s' (e1.trans e2) r) (fun c d z => nomatch z)
theorem pe_makeX {rel : List Ca → R α → Prop} {X : XK} {C : Addr} {as : List Ar} {cs : List Ca} {c : Str} {d : D} {t : TA} (hC : C = g.ca (Ob.cn α)) (ha : PxA g B E E1 t as) (hr : Rs E1 as cs []) (ap : Apart E1 [] as cs) (hrel : rel cs (.ex c d)) (hX : XkOk g B X c d) : PxE g B E (tMake C (spIni g α rel) [] X t) := fun F A σ H s Q =>
  ha F A σ H s _ fun F1 A1 H1 vs s1 e1 r1 => fun a dx hx hdx hn => by
    subst hC
    show spIni g α rel (.ref a :: (vs ++ [])) _ _ X
    rw [List.append_nil]
    exact run_ini hr ap hrel (fun z => nomatch z) s1 r1 hx hdx hn (fun y e => nomatch e) (fun c d z => by cases z; exact hX)
/-- AN __init__ -/
theorem fn_ini {P : Program} {w : World} {mg : Str → Option Value} {base : Heap} {x qual : Str} {st : Stmt} {f : Addr} {fd : FuncData} {N ps : List Str} {k : Nat} {rel : List Ca → R α → Prop} (F : Fun g.K x qual st f fd) (S : FnScope N ps (defScope st)) (hlen : ∀ cs o, rel cs o → cs.length + 1 = ps.length) (hN : ps.length ≤ N.length)
    (hb : ∀ (cdv : Value) (A : Around) (outer : List Env) (s : Shared) (H : Hp) (X : XK), Room k (A.deeper (PyProof.Rows.envOfC qual (defScope st) s.heap.objs.size f cdv)) →
      ∃ t, PSs (cxOf (L2.CX P w) P w g.K mg base N qual (defScope st) f cdv A outer s H X) (defBody st) t ∧
        ∀ (B : Bs) (x dx : Addr) (cs : List Ca) (r : R α) (E : List Bd) (D : Ends), B.P x = some (.ins (g.ca (Ob.cn α)) dx []) → rel cs r → r ≠ .bad → Ini cs [] E → (∀ c d, r = .ex c d → XkOk g B X c d) →
          (∀ y, r = .ok y → ∀ F A E σ H fs, Sta g B.no F A E σ H → H x = some (.ins (g.ca (Ob.cn α)) dx fs) → F x = none → Ob.fd g F fs y → D.nx σ H) → Sx g B (.kp (Adr.mk x) :: (E ++ List.replicate (N.length - ps.length) .un)) t D) :
    FnOk P w g.K mg base (L2.CX P w) (k + 1) f fd ps (spIni g α rel) := by
  have hl : ∀ vs H Q X, spIni g α rel vs H Q X → vs.length = ps.length := fun vs H Q X h => by
    obtain ⟨y, dx, ws, F, cs, r, rfl, _, _, _, hin, hrel, _⟩ := h
    rw [List.length_cons, in_len hin, hlen cs r hrel]
  refine F.okX S hl fun cdv A outer s H vs Q X hr h => ?_
  obtain ⟨t, ht, hgo⟩ := hb cdv A outer s H X hr
  refine ⟨t, ht, ?_⟩
  have hv := hl _ _ _ _ h
  obtain ⟨y, dx, ws, F, cs, r, rfl, hy, hFH, hFy, hin, hrel, hne, hok, hex⟩ := h
  let B : Bs := ⟨F, less H [y], [y], upd (fun _ => none) y (.ins (g.ca (Ob.cn α)) dx [])⟩
  obtain ⟨E, i1, i2, i3, i4, i5⟩ := ini_of hin (fun q h => nomatch h) List.nodup_nil (fun q h => nomatch h)
  have hlc := in_len hin
  have grow : ∀ {F' A' E' σ' H'}, Sta g B.no F' A' E' σ' H' → Grow F H F' H' [y] ∧ F' y = none ∧ H' y ≠ none := fun {F' A' E' σ' H'} s => by
    refine ⟨⟨s.f0, s.fa.trans s.ah, fun a h1 h2 => s.fr a h1 ?_, fun a o hm e => s.ah _ _ (s.a0 _ _ (by show less H [y] a = some o; rw [less_out hm]; exact e))⟩, s.fr y hFy (.inr (by simp [Bs.no, B])), (s.inn y (by simp [Bs.no, B])).1⟩
    by_cases hm : a ∈ [y]
    · exact .inr hm
    · left
      show less H [y] a ≠ none
      rw [less_out hm]; exact h2
  have st : start N (.ref y :: ws) = (V.ref y :: ws).map some ++ List.replicate (N.length - (ws.length + 1)) none := rfl
  have low : ∀ i, i < E.length → (start N (.ref y :: ws))[i + 1]? = (ws.map some)[i]? := fun i hi => by
    rw [st, List.getElem?_append_left (by simp; omega)]
    simp
  have own : ∀ i p, Own (.kp (Adr.mk y) :: (E ++ List.replicate (N.length - ps.length) .un)) (start N (.ref y :: ws)) i p → False := fun i p ⟨e1, b, e2, e3⟩ => by
    cases i with
    | zero => simp at e2; subst e2; exact e3.elim
    | succ i =>
      have e2 : (E ++ List.replicate (N.length - ps.length) Bd.un)[i]? = some b := by simpa using e2
      by_cases hi : i < E.length
      · rw [List.getElem?_append_left hi] at e2
        rw [low i hi] at e1
        have := i4 i p ⟨e1, b, e2, e3⟩
        cases this
      · rw [List.getElem?_append_right (by omega), List.getElem?_replicate] at e2
        split at e2
        · cases e2; exact e3.elim
        · cases e2
  have hle : ws.length + 1 = ps.length := by simpa using hv
  refine hgo B y dx cs r E { nx := fun _ H' => Q .non H', rt := Q } (by show upd (fun _ => none) y (.ins (g.ca (Ob.cn α)) dx []) y = _; exact upd_same) hrel hne i1 (fun c d e => fun F' A' E' σ' H' dy s pay => ?_) (fun y' e F' A' E' σ' H' fs s hf hF' fd => ?_) F (less H [y]) _ H ?_
  · obtain ⟨g1, g2, g3⟩ := grow s.no
    exact hex c d e F' H' dy g1 g2 g3 pay
  · obtain ⟨g1, g2, _⟩ := grow s
    exact hok y' e F' H' fs g1 g2 hf fd
  · refine ⟨?_, fun a o e => ?_, less_same H [y], Same.refl _, Same.refl _, fun a h _ => h, fun a h => ⟨?_, less_in h⟩, fun i b e => ?_, fun i j p o _ => (own i p o).elim, fun a o e => ?_, fun i q ⟨b, e2, e3⟩ => by
      exfalso
      cases i with
      | zero => simp at e2; subst e2; cases e3
      | succ i =>
        have e2 : (E ++ List.replicate (N.length - ps.length) Bd.un)[i]? = some b := by simpa using e2
        by_cases hi : i < E.length
        · rw [List.getElem?_append_left hi] at e2
          rw [ini_qs i1 i b e2] at e3; cases e3
        · rw [List.getElem?_append_right (by omega), List.getElem?_replicate] at e2
          split at e2
          · cases e2; cases e3
          · cases e2⟩
    · rw [List.length_cons, List.length_append, List.length_replicate, i2, st, List.length_append, List.length_map, List.length_replicate, List.length_cons]; omega
    · rw [less_out (fun hm => by rw [List.mem_singleton.mp hm, hFy] at e; cases e)]; exact hFH _ _ e
    · rw [List.mem_singleton.mp h, hy]; exact fun z => nomatch z
    · cases i with
      | zero =>
        simp at e; subst e
        exact ⟨.ref y, by rw [st]; rfl, rfl⟩
      | succ i =>
        have e : (E ++ List.replicate (N.length - ps.length) Bd.un)[i]? = some b := by simpa using e
        by_cases hi : i < E.length
        · rw [List.getElem?_append_left hi] at e
          rw [low i hi]
          exact i3 i b e
        · rw [List.getElem?_append_right (by omega), List.getElem?_replicate] at e
          split at e
          · cases e; trivial
          · cases e
    · have e : upd (fun _ => none) y (.ins (g.ca (Ob.cn α)) dx []) a = some o := e
      by_cases z : a = y
      · subst z
        rw [upd_same] at e; cases e
        exact ⟨hy, less_in (by simp), fun i q => own i _ q⟩
      · rw [upd_ne z] at e; cases e
end
end Gn
/-! Gn: enumerate over a text, a text times a number, join, tuple, tests. -/
namespace L2
open PySem PySem.Spec PyProof.Rows
/-! ### enumerate(text) -/
def IteS (x : Str) : It := ⟨fun i _ => i < x.cps.size, fun i H v H' => ∃ T c, v = .ref T ∧ H T = none ∧ H' = upd H T (.tup [.int (i : Nat), .str ⟨#[c]⟩]) ∧ x.cps[i]? = some c, fun i _ => i = x.cps.size⟩
theorem turn_enumS {P : Program} {w : World} {K : PySem.W.Frag} {elts : List Expr} {kk : Nat} {tpos : Pos} (e it : Addr) (x : Str) (t : Tok) (ty : String) (hty : ty = "str_ascii_iterator" ∨ ty = "str_iterator") :
    Turn P w K (.Tuple elts kk tpos) (IteS x) [e, it] e (fun i h => (∃ old, IsEnum h e it ((i : Nat) : Int) old) ∧ h.IsStrIter it ty x t i ∧ e ≠ it) where
  mem := by simp
  obj := fun i h st b hb => by
    obtain ⟨⟨old, he⟩, ⟨o, ho, hc, hd⟩, _⟩ := st
    have e' : b = e ∨ b = it := by simpa using hb
    rcases e' with z | z
    · rw [z]; exact ⟨_, he, fun v q => nomatch q⟩
    · rw [z]; exact ⟨o, ho, fun v q => by rw [hd] at q; cases q⟩
  keep := fun i h h' st k => let ⟨⟨old, he⟩, ⟨o, ho, r⟩, hne⟩ := st; ⟨⟨old, k e (by simp) _ he⟩, ⟨o, k it (by simp) o ho, r⟩, hne⟩
  item := by
    intro X hP hw hK hc i pins s σ H E I hf st hg
    subst hP hw hK
    obtain ⟨⟨old, he⟩, hit, hne⟩ := st
    have hel : e < s.heap.objs.size := Heap.lt_size he
    have hil : it < s.heap.objs.size := by obtain ⟨_, q, _⟩ := hit; exact Heap.lt_size q
    have D : Draws X.prog X.w X.A.in1 it [it] x.cps.size (fun i v => ∃ c u, x.cps[i]? = some c ∧ v = .str ⟨#[c]⟩ u) (fun i h => h.IsStrIter it ty x t i) := by
      rcases hty with z | z
      · rw [z]; exact Draws.strAscii (A := X.A.in1) (I.ok.hd hc) it x t
      · rw [z]; exact Draws.strWide (A := X.A.in1) (I.ok.hd hc) it x t
    refine wpAny_pyNext_enum_itemD D he hit hg hne (by simpa using hne) fun u h' tk hP ho hit' hT hsz hk => ?_
    obtain ⟨c, tu, hcx, rfl⟩ := hP
    refine ⟨_, rfl, wpAny_letOwnedTupleGo_enum (s := { s with heap := h', toks := tk + 1 }) ho fun h'' he' sb => ?_⟩
    have hT2 : h''.get? s.heap.objs.size = some { cls := .type "tuple", data := .seq #[.int i tk, .str ⟨#[c]⟩ tu] } := (sb.2 _ (Nat.ne_of_gt hel)).trans hT
    have new : ObjOk X.prog X.w (upd H s.heap.objs.size (.tup [.int (i : Nat), .str ⟨#[c]⟩])) h'' s.heap.objs.size (.tup [.int (i : Nat), .str ⟨#[c]⟩]) :=
      ⟨by show 2 ≤ sizeLine; decide, [.int i tk, .str ⟨#[c]⟩ tu], .cons ⟨_, rfl⟩ (.cons ⟨_, rfl⟩ .nil), ⟨_, hT2, rfl, _, rfl⟩⟩
    have I1 : Inv X pins σ (upd H s.heap.objs.size (.tup [.int (i : Nat), .str ⟨#[c]⟩])) { s with heap := h'', toks := tk + 1 } :=
      I.turnedNew (ch := [e, it]) (fun b ob hb q => (sb.2 b (fun z => hb (by simp [z]))).trans (hk b ob (fun z => hb (by simp [z])) (fun z => hb (by simp [z])) q)) hf (Nat.le_refl _) new
    refine ⟨.ref s.heap.objs.size, _, I1, rfl, ⟨_, c, rfl, I.hok.fresh (Nat.le_refl _), rfl, hcx⟩, ⟨⟨.str ⟨#[c]⟩ tu, ?_⟩, ?_, hne⟩, fun b hb => ?_⟩
    · have e1 : ((i + 1 : Nat) : Int) = (i : Int) + 1 := by omega
      rw [e1]; exact he'
    · obtain ⟨o, ho, r⟩ := hit'
      exact ⟨o, (sb.2 it (Ne.symm hne)).trans ho, r⟩
    · have hb' : b < s.heap.objs.size := by
        have e' : b = e ∨ b = it := by simpa using hb
        rcases e' with z | z
        · rw [z]; exact hel
        · rw [z]; exact hil
      rw [upd_ne (Nat.ne_of_lt hb')]
      exact (hf b hb).1
  done := by
    intro X hP hw hK hc i pins s σ H E I hf st hg
    subst hP hw hK
    obtain ⟨⟨old, he⟩, hit, hne⟩ := st
    have hg : i = x.cps.size := hg
    subst hg
    have D : Draws X.prog X.w X.A.in1 it [it] x.cps.size (fun i v => ∃ c u, x.cps[i]? = some c ∧ v = .str ⟨#[c]⟩ u) (fun i h => h.IsStrIter it ty x t i) := by
      rcases hty with z | z
      · rw [z]; exact Draws.strAscii (A := X.A.in1) (I.ok.hd hc) it x t
      · rw [z]; exact Draws.strWide (A := X.A.in1) (I.ok.hd hc) it x t
    obtain ⟨f0, f1, f2, f3, f4, f5⟩ := hf it (by simp)
    exact wpAny_pyNext_enum_endD D he hit fun h' eb => ⟨rfl, I.turned (t' := s.toks) (fun b o hb q => eb b o hb q) f0 f1 f3 f4 f5⟩
  self := fun A i s Q E st h => let ⟨⟨_, he⟩, _⟩ := st; wpAny_pyIter_enum he h
def iEnumS (ta : TA) : TI := fun σ H R => ta σ H fun vs H1 => ∃ x, vs = [.str x] ∧ R (IteS x) H1
theorem pi_enumS {X : Cx} {e : Expr} {ta : TA} {p pos tpos : Pos} {elts : List Expr} {kk : Nat} (hg : Gl X "enumerate") (hm : X.mg "enumerate" = none) (ha : PA X [e] ta) (hs : starEach [e] X.env = [(false, eval e X.env)] := by rfl) :
    PI X (.Tuple elts kk tpos) (.Call (.Name "enumerate" p) [e] [] pos) (iEnumS ta) := by
  refine ⟨fun pins s σ H R I h => ?_⟩
  refine Call_ (ld_blt I hg hm boot_enumerate (PyProof.Rows.callWith_type1 (thn (ha.run pos pins s σ H _ I h) fun us s1 ⟨vs, H1, I1, r1, q1⟩ => ?_) hs rfl))
  obtain ⟨x, ex, q⟩ := q1
  subst ex
  cases r1 with
  | cons r rr =>
    cases rr
    obtain ⟨t, rfl⟩ := r
    refine call_enumerate_str fun h' he hit hsz hk => wpAny_pyIter_enum he ?_
    have I2 : Inv X pins σ H1 { s1 with heap := h' } := I1.kept (t' := s1.toks) hk
    have hty : strIterType x = "str_ascii_iterator" ∨ strIterType x = "str_iterator" := by
      unfold strIterType
      split
      · exact .inl rfl
      · exact .inr rfl
    refine ⟨s1.heap.objs.size + 1, [s1.heap.objs.size + 1, s1.heap.objs.size], _, _, H1, rfl, I2, turn_enumS (s1.heap.objs.size + 1) s1.heap.objs.size x t (strIterType x) hty, ⟨⟨.none, he⟩, hit, Nat.succ_ne_self _⟩, fun b hb => ?_, q⟩
    have e' : b = s1.heap.objs.size + 1 ∨ b = s1.heap.objs.size := by simpa using hb
    have hle : s1.heap.objs.size ≤ b := by
      rcases e' with z | z
      · rw [z]; exact Nat.le_add_right _ _
      · rw [z]; exact Nat.le_refl _
    exact I1.fpOk hle (I1.hok.fresh hle)
/-! ### a <= b < c <= d, tested -/
def tChain3 (r1 r2 r3 : R2) (ta tb tc td : TE) : TT := fun σ H Q => ta σ H fun x H1 => tb σ H1 fun y H2 => r1 x y H2 fun z H3 => ∃ k, z = .bl k ∧
  (if k = true then tc σ H3 fun w H4 => r2 y w H4 fun z' H5 => ∃ k', z' = .bl k' ∧ (if k' = true then td σ H5 fun u H6 => r3 w u H6 fun z2 H7 => ∃ k2, z2 = .bl k2 ∧ Q k2 H7 else Q false H5) else Q false H3)
theorem pt_chain3 {X : Cx} {a b c d : Expr} {ta tb tc td : TE} {pos : Pos} {o1 o2 o3 : CmpOp} {r1 r2 r3 : R2} (h1 : OpR X (compareOp o1) r1) (h2 : OpR X (compareOp o2) r2) (h3 : OpR X (compareOp o3) r3) (ha : PE X a ta) (hb : PE X b tb) (hc : PE X c tc) (hd : PE X d td)
    (hm : lastMarks [o1, o2, o3] [b, c, d] = false := by with_unfolding_all rfl) : PT X (.Compare a [o1, o2, o3] [b, c, d] pos) (tChain3 r1 r2 r3 ta tb tc td) := by
  refine ⟨fun pins s σ H Q I h => ?_⟩
  refine isTrue_chain (thn (ha.run pins s σ H _ I h) fun v s1 ⟨x, H1, I1, rx, q1⟩ => test_link (thn (hb.run pins s1 σ H1 _ I1 q1) fun u s2 ⟨y, H2, I2, ry, q2⟩ =>
    thn (h1 pins s2 σ H2 x y v u _ I2 rx ry q2) fun d s3 ⟨z, H3, I3, rz, k, e, q3⟩ => ?_)) hm
  subst e
  cases rz
  refine wpAny_truthy_bool ?_
  cases k with
  | false => exact ite_ff ⟨H3, I3, q3⟩
  | true =>
    refine ite_tt (test_link (thn (hc.run pins s3 σ H3 _ I3 q3) fun w' s4 ⟨w4, H4, I4, r4, q4⟩ => thn (h2 pins s4 σ H4 y w4 u w' _ I4 ry r4 q4) fun d' s5 ⟨z2, H5, I5, r5, k2, e2, q5⟩ => ?_))
    subst e2
    cases r5
    refine wpAny_truthy_bool ?_
    cases k2 with
    | false => exact ite_ff ⟨H5, I5, q5⟩
    | true =>
      refine ite_tt (test_last (thn (hd.run pins s5 σ H5 _ I5 q5) fun u6 s6 ⟨w6, H6, I6, r6, q6⟩ => thn (h3 pins s6 σ H6 w4 w6 w' u6 _ I6 r4 r6 q6) fun d7 s7 ⟨z7, H7, I7, r7, k7, e7, q7⟩ => ?_))
      subst e7
      cases r7
      exact wpAny_truthy_bool ⟨H7, I7, q7⟩
/-! ### text * int -/
def rRepS : R2 := fun x y H Q => ∃ i k, x = .str i ∧ y = .int k ∧ -(2 ^ 63) ≤ k ∧ k < 2 ^ 63 ∧ i.length * k.toNat ≤ sizeLine ∧ Q (.str ⟨(List.replicate k.toNat i.cps.toList).flatten.toArray⟩) H
theorem fold_rep (xs : List Nat) : ∀ (n : Nat) (acc : List Nat), List.foldl (fun x1 x2 => x1 ++ x2) acc.toArray (List.replicate n xs.toArray) = (acc ++ (List.replicate n xs).flatten).toArray
  | 0, acc => by simp
  | n + 1, acc => by
    rw [List.replicate_succ, List.foldl_cons, List.replicate_succ, List.flatten_cons]
    have e : acc.toArray ++ xs.toArray = (acc ++ xs).toArray := by simp
    rw [e, fold_rep xs n (acc ++ xs)]
    simp
theorem op_repS {X : Cx} : OpR X (binaryOp .Mult) rRepS := by
  intro pins s σ H x y v u Q I rx ry h
  obtain ⟨i, k, rfl, rfl, h1, h2, hz, q⟩ := h
  obtain ⟨t, rfl⟩ := rx
  obtain ⟨t', rfl⟩ := ry
  have hz' : i.length * k.toNat ≤ 16777216 := by rw [sizeLine_eq] at hz; exact hz
  refine PySem.P.mul_str ?_ (fun a b => ?_) (fun a b => ?_) ?_
  · have a1 : ¬ k < -(2 ^ 63 : Int) := Int.not_lt.mpr h1
    have a2 : ¬ k ≥ (2 ^ 63 : Int) := Int.not_le.mpr h2
    show (decide (k < -(2 ^ 63 : Int)) || decide (k ≥ 2 ^ 63)) = false
    rw [decide_eq_false a1, decide_eq_false a2]; rfl
  · intro c
    have hk : (0 : Int) < k := by omega
    have e : ((i.length : Int)) * k ≤ 16777216 := by
      have : ((i.length * k.toNat : Nat) : Int) ≤ 16777216 := Int.ofNat_le.mpr hz'
      rw [Int.natCast_mul, Int.toNat_of_nonneg (by omega)] at this
      exact this
    have h0 : (16777216 : Int) ≤ 2 ^ 63 - 1 := by decide
    have : (i.length : Int) ≤ (2 ^ 63 - 1) / k := (Int.le_ediv_iff_mul_le hk).mpr (Int.le_trans e h0)
    exact absurd c (Int.not_lt.mpr this)
  · show decide (i.length * k.toNat > sizeLine) = false
    exact decide_eq_false (by omega)
  · have e0 : i.cps.toList.toArray = i.cps := by simp
    split
    · have : k.toNat = 0 := by omega
      rw [this] at q
      exact ⟨by rw [sizeLine_eq]; decide, ⟨.str Str.empty, H, I.tok _, ⟨_, rfl⟩, q⟩⟩
    · split
      · rename_i n1 n2
        refine ⟨.str i, H, I, ⟨_, rfl⟩, ?_⟩
        rcases Bool.or_eq_true_iff.mp n2 with z | z
        · have : k = 1 := by simpa using z
          subst this
          have e : (⟨(List.replicate (1 : Int).toNat i.cps.toList).flatten.toArray⟩ : Str) = i := by
            show Str.mk _ = _
            simp
          rw [e] at q; exact q
        · have z : i.length = 0 := by simpa using z
          have e : i.cps = #[] := Array.eq_empty_of_size_eq_zero z
          have e2 : (⟨(List.replicate k.toNat i.cps.toList).flatten.toArray⟩ : Str) = i := by
            obtain ⟨c⟩ := i
            have e : c = #[] := e
            subst e
            simp
          rw [e2] at q; exact q
      · have e := fold_rep i.cps.toList k.toNat []
        rw [e0, List.nil_append] at e
        have e3 : (⟨List.foldl (fun x1 x2 => x1 ++ x2) #[] (List.replicate k.toNat i.cps)⟩ : Str) = ⟨(List.replicate k.toNat i.cps.toList).flatten.toArray⟩ := congrArg Str.mk e
        rw [← e3] at q
        refine ⟨?_, ⟨.str _, H, I.tok _, ⟨_, rfl⟩, q⟩⟩
        rw [e3]
        show (List.replicate k.toNat i.cps.toList).flatten.toArray.size ≤ sizeLine
        have : (List.replicate k.toNat i.cps.toList).flatten.length = k.toNat * i.cps.size := by simp
        rw [List.size_toArray, this, Nat.mul_comm]; exact hz
end L2
namespace Gn
open PySem L2
open Rp (rp)
section
variable {g : Gx} {B : Bs} {E E1 E2 : List Bd} {ta tb te : TE} {α β : Type} [Rp α] [Rp β]
theorem sr_enumS {t : Tx} (h : Px g B E E1 te t) : Sr g B E E1 (iEnumS (tCons te tNil)) (enumL (t.map fun c => ([c] : Tx))) := fun F A σ H s R k =>
  h F A σ H s _ fun F1 A1 H1 v s1 e1 rv => by
    have rv : v = .str (Tx.s t) := rv
    subst rv
    have hl : (enumL (t.map fun c => ([c] : Tx))).length = t.length := by rw [enumL_len, List.length_map]
    refine ⟨Tx.s t, rfl, k F1 A1 H1 (IteS (Tx.s t)) B s1 Nest.refl e1 ⟨fun i F A E σ H hi s => ?_, fun F A E σ H s => ?_, fun B' i F A E σ H v' H' x nB hx s y => ?_⟩⟩
    · show i < t.toArray.size
      rw [hl] at hi; simpa using hi
    · show _ = t.toArray.size
      rw [hl]; simp
    · obtain ⟨T, c, e1, nT, e2, hc⟩ := y
      have hc : t.toArray[i]? = some c := hc
      simp at hc
      obtain ⟨hx1, hx2⟩ := enumL_get hx
      rw [List.getElem?_map, hc] at hx2
      have hx2 : [c] = x.2 := Option.some.inj hx2
      subst e1; subst e2
      obtain ⟨s3, nn⟩ := s.alloc (o := .tup [.int ((i : Nat) : Int), .str ⟨#[c]⟩]) nT
      obtain ⟨F4, A4, s4, hF, hA, hp4⟩ := s3.keep nn
      exact ⟨F4, A4, s4, T, _, _, rfl, hp4, by rw [hx1]; rfl, by rw [← hx2]; rfl⟩
theorem pt_chain3' {r1 r2 r3 : R2} {δ γ : Type} [Rp γ] [Rp δ] {tc td : TE} {x : α} {y : β} {z : γ} {u : δ} {b b' b2 : Bool} (ha : Px g B E E ta x) (hb : Px g B E E tb y) (h1 : R2x g B E r1 x y b) (hc : Px g B E E tc z) (h2 : R2x g B E r2 y z b') (hd : Px g B E E td u) (h3 : R2x g B E r3 z u b2) :
    PxT g B E E (tChain3 r1 r2 r3 ta tb tc td) (b && (b' && b2)) := fun F A σ H s Q k =>
  ha F A σ H s _ fun F1 A1 H1 v s1 e1 rv => hb F1 A1 σ H1 s1 _ fun F2 A2 H2 w s2 e2 rw => h1 F2 A2 σ H2 v w s2 (Rp.mono e2 rv) rw _ fun F3 A3 H3 q s3 e3 rq => by
    have rq : q = .bl b := rq
    subst rq
    refine ⟨b, rfl, ?_⟩
    cases b with
    | false => exact iteF (k F3 A3 H3 s3 ((e1.trans e2).trans e3))
    | true =>
      refine iteT (hc F3 A3 σ H3 s3 _ fun F4 A4 H4 p s4 e4 rp' => h2 F4 A4 σ H4 w p s4 (Rp.mono (e3.trans e4) rw) rp' _ fun F5 A5 H5 q s5 e5 rq => ?_)
      have rq : q = .bl b' := rq
      subst rq
      refine ⟨b', rfl, ?_⟩
      cases b' with
      | false => exact iteF (k F5 A5 H5 s5 ((((e1.trans e2).trans e3).trans e4).trans e5))
      | true =>
        refine iteT (hd F5 A5 σ H5 s5 _ fun F6 A6 H6 o s6 e6 ro => h3 F6 A6 σ H6 p o s6 (Rp.mono (e5.trans e6) rp') ro _ fun F7 A7 H7 q s7 e7 rq => ?_)
        have rq : q = .bl b2 := rq
        subst rq
        exact ⟨b2, rfl, k F7 A7 H7 s7 ((((((e1.trans e2).trans e3).trans e4).trans e5).trans e6).trans e7)⟩
theorem px_chainR {r r' : R2} {γ : Type} [Rp γ] {tc : TE} {E3 : List Bd} {x : α} {y : β} {b c : Bool} (ha : Px g B E E1 ta x) (hb : Px g B E1 E2 tb y) (hr : R2x g B E2 r x y b) (h1 : b = true → ∃ z : γ, Px g B E2 E3 tc z ∧ R2x g B E3 r' y z c) (h0 : b = false → E2 = E3 ∧ c = false) :
    Px g B E E3 (tChain r r' ta tb tc) c := by
  cases b with
  | true =>
    obtain ⟨z, p, q⟩ := h1 rfl
    exact px_chain ha hb hr (fun _ => p) (fun _ => q) (fun h => nomatch h)
  | false =>
    obtain ⟨h2, h3⟩ := h0 rfl
    subst h2; subst h3
    exact px_chain (z := y) (b' := false) ha hb hr (fun h => nomatch h) (fun h => nomatch h) (fun _ => rfl)
theorem tx_rep {t : Tx} {k : Int} : Tx.s (repL t k) = ⟨(List.replicate k.toNat (Tx.s t).cps.toList).flatten.toArray⟩ := by
  unfold repL Tx.s; rfl
theorem px_repS {t : Tx} {n : Int} (ha : Px g B E E1 ta t) (hb : Px g B E1 E2 tb n) (hz : repOk t.length n = true) : Px g B E E2 (tOp rRepS ta tb) (repL t n) := fun F A σ H s Q k =>
  ha F A σ H s _ fun F1 A1 H1 v s1 e1 rv => hb F1 A1 σ H1 s1 _ fun F2 A2 H2 w s2 e2 rw => by
    have rv : v = .str (Tx.s t) := rv
    have rw : w = .int n := rw
    subst rv; subst rw
    unfold repOk at hz
    simp only [Bool.and_eq_true, decide_eq_true_eq] at hz
    refine ⟨Tx.s t, n, rfl, rfl, hz.1.1, hz.1.2, ?_, k F2 A2 H2 _ s2 (e1.trans e2) (congrArg V.str tx_rep.symm)⟩
    have : (Tx.s t).length = t.length := by show t.toArray.size = _; simp
    rw [this]; exact sz_ok hz.2
/-- a tuple of any length -/
structure Tu (α : Type) where
  xs : List α
instance instRpTu {α : Type} [Rp α] : Rp (Tu α) := ⟨fun g H v x => ∃ p vs, v = .ref p ∧ H p = some (.tup vs) ∧ rps g H vs x.xs, fun s ⟨p, vs, e, h, r⟩ => ⟨p, vs, e, s _ _ h, rps_mono s r⟩⟩
theorem call_tuple_ofK {X : Cx} {K : PySem.W.Frag} (h : X.K = K) : CallR X (.type "tuple") (fun xs H Q => ∃ p ys, xs = [.ref p] ∧ ((SqL K H p ys ∧ ∀ l, H l = none → Q (.ref l) (upd H l (.tup ys))) ∨ (SqT K H p ys ∧ Q (.ref p) H))) := h ▸ call_tuple_of
theorem px_tuple {xs : List α} {st : List Bd → Prop} (ha : PxL g B E E1 te xs st) (hst : st E1) :
    Px g B E E1 (tCB (fun xs H Q => ∃ p ys, xs = [.ref p] ∧ ((SqL g.K H p ys ∧ ∀ l, H l = none → Q (.ref l) (upd H l (.tup ys))) ∨ (SqT g.K H p ys ∧ Q (.ref p) H))) (tCons te tNil)) (Tu.mk xs) := fun F A σ H s Q k =>
  ha F A σ H s _ fun F1 A1 H1 v s1 e1 rv => by
    obtain ⟨p, vs, ev, hp, r⟩ := rv F1 A1 H1 E1 s1 (Same.refl _) hst
    subst ev
    refine ⟨p, vs, rfl, .inl ⟨.of hp, fun l hl => ?_⟩⟩
    obtain ⟨s3, nn⟩ := s1.alloc (o := .tup vs) hl
    obtain ⟨F4, A4, s4, hF, hA, hp4⟩ := s3.keep nn
    exact k F4 A4 _ _ s4 (e1.trans hF) ⟨l, vs, rfl, hp4, rps_mono hF r⟩
/-- sep.join(texts) -/
def joinT (a : Tx) (ys : List Tx) : Tx := (Txt.join (Tx.s a) (ys.map Tx.s)).cps.toList
def joinOk (a : Tx) (ys : List Tx) : Bool := decide ((ys.map (·.length)).sum + ys.length * a.length ≤ 16777216)
theorem px_join {a : Tx} {ys : List Tx} {st : List Bd → Prop} (ha : Px g B E E1 ta a) (hb : PxL g B E1 E2 tb ys st) (hst : st E2) (hz : joinOk a ys = true) :
    Px g B E E2 (tBM g.K "str" (fun x xs H Q => ∃ a p, ∃ ys : List Str, x = .str a ∧ xs = [.ref p] ∧ (SqL g.K H p (ys.map V.str) ∨ SqT g.K H p (ys.map V.str)) ∧
    (ys.map (·.length)).sum + ys.length * a.length ≤ 16777216 ∧ Q (.str (Txt.join a ys)) H) ta (tCons tb tNil)) (joinT a ys) := fun F A σ H s Q k =>
  ha F A σ H s _ fun F1 A1 H1 v s1 e1 rv => by
    have rv : v = .str (Tx.s a) := rv
    subst rv
    refine ⟨rfl, hb F1 A1 σ H1 s1 _ fun F2 A2 H2 w s2 e2 rw => ?_⟩
    obtain ⟨p, vs, ev, hp, r⟩ := rw F2 A2 H2 E2 s2 (Same.refl _) hst
    subst ev
    have r := rps_tx.mp r
    subst r
    refine ⟨Tx.s a, p, ys.map Tx.s, rfl, rfl, .inl (.of (by rw [List.map_map]; exact hp)), ?_, k F2 A2 H2 _ s2 (e1.trans e2) ?_⟩
    · have h1 : (Tx.s a).length = a.length := by show a.toArray.size = _; simp
      have h2 : ((ys.map Tx.s).map (·.length)) = ys.map (·.length) := by
        rw [List.map_map]
        refine List.map_congr_left fun y _ => ?_
        show y.toArray.size = _; simp
      rw [h1, h2, List.length_map]
      exact of_decide_eq_true hz
    · show V.str _ = V.str (Tx.s (joinT a ys))
      unfold joinT Tx.s; simp
theorem mt_joinK {X : Cx} {K : PySem.W.Frag} (h : X.K = K) : MtR X "str.join" (fun x xs H Q => ∃ a p, ∃ ys : List Str, x = .str a ∧ xs = [.ref p] ∧ (SqL K H p (ys.map V.str) ∨ SqT K H p (ys.map V.str)) ∧
    (ys.map (·.length)).sum + ys.length * a.length ≤ 16777216 ∧ Q (.str (Txt.join a ys)) H) := h ▸ mt_join
theorem pe_bmK {X : Cx} {K : PySem.W.Frag} {to : TE} {T : String} {r : V → List V → Hp → VK → Prop} {e : Expr} {t : TA} (h : X.K = K) (p : PE X e (tBM X.K T r to t)) : PE X e (tBM K T r to t) := h ▸ p
/-- if a list: -/
theorem pt_truthK {X : Cx} {K : PySem.W.Frag} {a : Expr} {ta : TE} (h : X.K = K) (ha : PE X a ta) (he : ∀ whole, isTrue a X.env whole = (do let v ← whole; standAt a.pos; holding [v] (truthy v))) :
    PT X a (fun σ H Q => ta σ H fun x H' => ∃ k, TruV K x H' k ∧ Q k H') := h ▸ pt_truth ha he
theorem pt_tru {xs : List α} {st : List Bd → Prop} (ha : PxL g B E E1 te xs st) (hst : st E1) : PxT g B E E1 (fun σ H Q => te σ H fun x H' => ∃ k, TruV g.K x H' k ∧ Q k H') (!xs.isEmpty) := fun F A σ H s Q k =>
  ha F A σ H s _ fun F1 A1 H1 v s1 e1 rv => by
    obtain ⟨p, vs, ev, hp, r⟩ := rv F1 A1 H1 E1 s1 (Same.refl _) hst
    subst ev
    refine ⟨!xs.isEmpty, .inl ⟨vs, .of hp, ?_⟩, k F1 A1 H1 s1 e1⟩
    have := rps_len r
    cases vs <;> cases xs <;> first | rfl | (simp at this)
/-- a sign in a text -/
def one (c : Tx) : Bool := decide (c.length = 1)
def inS (c z : Tx) : Bool := decide (c.headD 0 ∈ z)
theorem one_eq {c : Tx} (h : one c = true) : c = [c.headD 0] := by
  have h : c.length = 1 := of_decide_eq_true h
  match c, h with
  | [x], _ => rfl
theorem r2_inS {c z : Tx} (h : one c = true) : R2x g B E (fun x y H Q => ∃ (c : Nat) (z : Str), x = .str ⟨#[c]⟩ ∧ y = .str z ∧ Q (.bl (decide (c ∈ z.cps.toList))) H) c z (inS c z) := fun F A σ H v w s rv rw Q q => by
  have rv : v = .str (Tx.s c) := rv
  have rw : w = .str (Tx.s z) := rw
  refine ⟨c.headD 0, Tx.s z, rv.trans (by rw [one_eq h]; rfl), rw, ?_⟩
  have e : decide (c.headD 0 ∈ (Tx.s z).cps.toList) = inS c z := by unfold inS Tx.s; rfl
  rw [e]
  exact q F A H _ s (Same.refl _) rfl
theorem r2_ninS {c z : Tx} (h : one c = true) : R2x g B E (fun x y H Q => ∃ (c : Nat) (z : Str), x = .str ⟨#[c]⟩ ∧ y = .str z ∧ Q (.bl (!decide (c ∈ z.cps.toList))) H) c z (!inS c z) := fun F A σ H v w s rv rw Q q => by
  have rv : v = .str (Tx.s c) := rv
  have rw : w = .str (Tx.s z) := rw
  refine ⟨c.headD 0, Tx.s z, rv.trans (by rw [one_eq h]; rfl), rw, ?_⟩
  have e : decide (c.headD 0 ∈ (Tx.s z).cps.toList) = inS c z := by unfold inS Tx.s; rfl
  rw [e]
  exact q F A H _ s (Same.refl _) rfl
end
end Gn
/-! Gn: try. -/
namespace Gn
open PySem L2
open Rp (rp)
section
variable {g : Gx} {B : Bs} {E E1 E2 : List Bd} {ta tb te : TE} {α β : Type} [Rp α] [Rp β]
theorem px_callS {rel : List Ca → Out → Prop} {X : L2.St → XK} {as : List Ar} {cs : List Ca} {ms : List Nat} {x : α} {outs : List Cn} {t : TA} (ha : PxA g B E E1 t as) (hr : Rs E1 as cs ms) (ap : Apart E1 ms as cs) (nd : ms.Nodup) (hrel : rel cs (.ret x outs)) : Px g B E (puts E1 ms outs) (tCallS (spOf g rel) X t) x := fun F A σ H s Q k =>
  ha F A σ H s _ fun F1 A1 H1 vs s1 e1 r1 => run_sp (X := X σ) hr ap nd hrel s1 r1 fun F' A' H' v s' e r => k F' A' H' v s' (e1.trans e) r
theorem pe_callXS {rel : List Ca → Out → Prop} {X : L2.St → XK} {as : List Ar} {cs : List Ca} {c : Str} {d : D} {t : TA} (ha : PxA g B E E1 t as) (hr : Rs E1 as cs []) (ap : Apart E1 [] as cs) (hrel : rel cs (.exc c d))
    (hX : ∀ F A σ H dx, Sta g B F A E1 σ H → PayOk F dx d → X σ (.ref (g.ca c)) dx H) : PxE g B E (tCallS (spOf g rel) X t) := fun F A σ H s Q =>
  ha F A σ H s _ fun F1 A1 H1 vs s1 e1 r1 => by
    obtain ⟨⟨ps, had⟩, ho⟩ := rs_ads s1 hr
    refine ⟨F1, cs, ps, .exc c d, s1.fa.trans s1.ah, ads_nodup s1 had List.nodup_nil ho, in_ok s1 had ho hr ap r1 had, hrel, fun F' H' dx gr hp pay => ?_⟩
    cases ps with
    | cons _ _ => exact had.elim
    | nil =>
      obtain ⟨A', s'⟩ := after_call (E' := E1) s1 had ho gr (fun p hp => nomatch hp) (fun p hp => nomatch hp) rfl fun i b e => .inr (.inl ⟨by simp, e⟩)
      exact hX _ _ σ H' dx s' pay
theorem sx_try {D : Ends} {K : PySem.W.Frag} {c : Value} {i : Nat} {ts : Addr → Value → Option Addr → TS} {Wout : WX} {tb : WX → TS} (h : Sx g B E (tb (wAs K c i ts Wout D)) D) : Sx g B E (fun D σ H => tb (wAs K c i ts Wout D) D σ H) D := h
def unAs (D : Ends) (i : Nat) : Ends := { nx := fun σ' H' => D.nx (σ'.set i none) H', rt := D.rt, bk := fun σ' H' => D.bk (σ'.set i none) H', ct := fun σ' H' => D.ct (σ'.set i none) H' }
theorem as_wish {D : Ends} {c : Value} {i : Nat} {ts : Addr → Value → Option Addr → TS} {Wout : WX} {cn : Str} (hm : PySem.W.exmOne g.K (.ref (g.ca cn)) c = some true) (hs : ∀ a, Sx g B (E1.set i (.kp (Adr.mk a))) (ts a (.ref (g.ca cn)) none) (unAs D i)) :
    ∀ F A σ H dx, Sta g B F A E1 σ H → PayOk F dx .non → WE (wAs g.K c i ts Wout D) σ (.ref (g.ca cn)) dx H := fun F A σ H dx s p => by
  have p : dx = none := p
  subst p
  exact ⟨true, hm, fun _ a ha => hs a F A _ H (s.setk (x := Adr.mk a) rfl), fun z => nomatch z⟩
theorem Sta.unset {F A H : Hp} {σ : St} (s : Sta g B F A E σ H) {i : Nat} (hi : ∀ b, E[i]? = some b → b.nO) : Sta g B F A (E.set i .un) (σ.set i none) H := by
  have back : ∀ j p, Own (E.set i .un) (σ.set i none) j p → Own E σ j p := fun j p ⟨h1, b, h2, h3⟩ => by
    by_cases hj : j = i
    · subst hj
      by_cases hl : j < E.length
      · rw [List.getElem?_set_self hl] at h2; cases h2; exact h3.elim
      · rw [List.getElem?_eq_none (by simpa using hl)] at h2; cases h2
    · rw [List.getElem?_set_ne (Ne.symm hj)] at h1 h2
      exact ⟨h1, b, h2, h3⟩
  refine ⟨by simpa using s.len, s.fa, s.ah, s.f0, s.a0, s.fr, s.inn, fun j b e => ?_, fun j k p h1 h2 => s.ne j k p (back j p h1) (back k p h2), fun a o e => ?_, fun j q h => ?_⟩
  · by_cases hj : j = i
    · subst hj
      by_cases hl : j < E.length
      · rw [List.getElem?_set_self hl] at e; cases e; trivial
      · rw [List.getElem?_eq_none (by simpa using hl)] at e; cases e
    · rw [List.getElem?_set_ne (Ne.symm hj)] at e ⊢
      exact s.sl j b e
  · obtain ⟨h1, h2, h3⟩ := s.pr a o e
    exact ⟨h1, h2, fun j q => h3 j (back j a q)⟩
  · have inn : ∀ j q, Inn (E.set i .un) j q → Inn E j q := fun j q h => by
      rcases inn_set h with ⟨_, z⟩ | ⟨_, z⟩
      · cases z
      · exact z
    obtain ⟨h1, h2, h3, h4⟩ := s.nn j q (inn j q h)
    exact ⟨fun k z => h1 k (back k q z), fun k z => h2 k (inn k q z), h3, h4⟩
theorem nx_un {i : Nat} {P : L2.St → Hp → Prop} (hi : ∀ b, E[i]? = some b → b.nO) (h : ∀ σ H, Sp' g B (E.set i .un) σ H → P σ H) : ∀ σ H, Sp' g B E σ H → P (σ.set i none) H := fun σ H ⟨F, A, s⟩ => h _ _ ⟨F, A, s.unset hi⟩
/-- a slot that is known to hold no None -/
theorem sx_some {t : TS} {D : Ends} {i : Nat} {x : Option α} {y : α} (hi : E[i]? = some (.kp x)) (e : x = some y) (h : Sx g B (E.set i (.kp y)) t D) : Sx g B E t D := fun F A σ H s => by
  subst e
  obtain ⟨v, e1, r⟩ := s.sl i _ hi
  have hs : σ.set i (some v) = σ := by
    apply List.ext_getElem?
    intro j
    by_cases h : j = i
    · subst h
      rw [List.getElem?_set_self (List.getElem?_eq_some_iff.mp e1).1, e1]
    · rw [List.getElem?_set_ne (Ne.symm h)]
  have := s.setk (i := i) (x := y) (v := v) r
  rw [hs] at this
  exact h F A σ H this
/-- isinstance(e, C) of the exception of the suite -/
def tIsE (K : PySem.W.Frag) (a : Addr) (cls : Value) (d : Option Addr) (t : TA) : TE := fun σ H Q => ∃ D, cls = .ref D ∧ d = none ∧ ExcC K D ∧ tCB (rIsE K D a) t σ H Q
theorem px_isE {a : Addr} {i : Nat} {cn : Str} {v : V} {cv : Value} {b : Bool} (hi : E[i]? = some (.kp (Adr.mk a))) (C : ExcC g.K (g.ca cn)) (hv : ∀ u, RelV v u → u = cv) (hk : PySem.W.kitOne g.K (.ref (g.ca cn)) cv = some b) :
    Px g B E E (tIsE g.K a (.ref (g.ca cn)) none (tCons (tVar i) (tCons (tC v) tNil))) b := fun F A σ H s Q k => by
  obtain ⟨w, e, r⟩ := s.sl i _ hi
  have r : w = .ref a := r
  subst r
  exact ⟨_, rfl, rfl, C, .ref a, e, v, cv, b, rfl, hv, hk, k F A H _ s (Same.refl _) rfl⟩
end
theorem pe_isE {X : Cx} {K : PySem.W.Frag} {a : Addr} {oe : Obj} {cls : Value} {d : Option Addr} {pn : List (Addr × Obj)} {e : Expr} {es : List Expr} {t : TA} {p pos : Pos} (h : X.K = K) (hz : Zc cls d oe) (hf : ∃ vs, oe.data = .fields vs)
    (hg : Gl (X.suite a ((a, oe) :: pn)) "isinstance") (hm : X.mg "isinstance" = none) (ha : PA (X.suite a ((a, oe) :: pn)) (e :: es) t) 
    (he : starEach (e :: es) (X.suite a ((a, oe) :: pn)).env = (false, eval e (X.suite a ((a, oe) :: pn)).env) :: starEach es (X.suite a ((a, oe) :: pn)).env := by rfl) (hpl : (backTo pos (starEach es (X.suite a ((a, oe) :: pn)).env)).any (·.1) = false := by rfl) :
    PE (X.suite a ((a, oe) :: pn)) (.Call (.Name "isinstance" p) (e :: es) [] pos) (tIsE K a cls d t) := by
  subst h
  refine ⟨fun pins s σ H Q I h => ?_⟩
  obtain ⟨D, rfl, rfl, C, q⟩ := h
  exact (pe_callB (call_isE C hz hf) hg hm (by decide +kernel) ha (he := he) (hpl := hpl)).run pins s σ H Q I q
end Gn
/-! Gn: data of any kind, asked. -/
namespace Gn
open PySem L2
open Rp (rp)
/-- a try whose exceptions, without a payload, are caught -/
def tryR {α : Type} (m : R α) (f : Str → R α) : R α := match m with
  | .ok a => .ok a
  | .ex c .non => f c
  | _ => .bad
theorem try_ok {α : Type} {m : R α} {f : Str → R α} {a s : α} (h : R.ok a = m) (hT : tryR m f = .ok s) : R.ok a = R.ok s := by subst h; exact hT
theorem try_ne {α : Type} {m : R α} {f : Str → R α} {s : α} (hT : tryR m f = .ok s) : m ≠ .bad := fun e => by subst e; cases hT
theorem try_ex {α : Type} {m : R α} {f : Str → R α} {c : Str} {d : D} {s : α} (hT : tryR m f = .ok s) (h : m = .ex c d) : d = .non ∧ f c = .ok s := by
  subst h
  cases d with
  | non => exact ⟨rfl, hT⟩
  | bl _ => cases hT
  | int _ => cases hT
  | str _ => cases hT
  | lst _ => cases hT
  | tup _ => cases hT
theorem if_ok {α : Type} {c : Bool} {m : R α} {s : α} (h : (if c = true then m else R.bad) = .ok s) : c = true ∧ m = .ok s := by
  cases c with
  | true => exact ⟨rfl, h⟩
  | false => cases h
def tTryAs (K : PySem.W.Frag) (c : Value) (i : Nat) (tb : WX → TS) (ts : Addr → Value → Option Addr → TS) (Wout : WX) : TS := fun D σ H => tb (wAs K c i ts Wout D) D σ H
theorem ps_try_asG {X : Cx} {K : PySem.W.Frag} {x n : Str} {c : Value} {i : Nat} {body suite : List Stmt} {b₀ : Stmt} {np pos pos' : Pos} {tb : WX → TS} {ts : Addr → Value → Option Addr → TS} {Wout : WX} (hK : X.K = K) (hs : X.stack = X.env :: X.outer) (hf : X.env.frame = some X.env.locals) (hN : X.N.Nodup) (hi : X.N[i]? = some n) (hln : X.env.kindOf n = some .local) (hc : Names X x c) (tk : L2.Takes X Wout)
    (hb : ∀ (W : WX) (pn : List (Addr × Obj)) (xe : Value → Shared → Prop), L2.Takes (X.tr pn xe) W → PySem.PassesOwn (model X.prog X.w) X.A X.env xe → PSs (X.tr pn xe) body (tb W))
    (hsu : ∀ (a : Addr) (oe : Obj) (cls : Value) (d : Option Addr) (pn : List (Addr × Obj)), Zc cls d oe → (∃ vs, oe.data = .fields vs) → PSs (X.suite a ((a, oe) :: pn)) (b₀ :: suite) (ts a cls d)) :
    PS X (.Try body [.ExceptHandler (some (.Name x np)) (some n) (b₀ :: suite) pos'] [] [] pos) (tTryAs K c i tb ts Wout) := hK ▸ ps_try_as hs hf hN hi hln hc tk hb hsu
theorem sx_tryK {g : Gx} {B : Bs} {E Es : List Bd} {D : Ends} {cls : Value} {i : Nat} {ts : Addr → Value → Option Addr → TS} {Wout : WX} {tb : WX → TS} {α : Type} {r : R α}
    (h1 : ∀ c d, r = .ex c d → ∀ E1, LeE E1 Es → ∀ F A σ H dx, Sta g B F A E1 σ H → PayOk F dx d → WE (wAs g.K cls i ts Wout D) σ (.ref (g.ca c)) dx H)
    (h2 : (∀ c d, r = .ex c d → ∀ E1, LeE E1 Es → ∀ F A σ H dx, Sta g B F A E1 σ H → PayOk F dx d → WE (wAs g.K cls i ts Wout D) σ (.ref (g.ca c)) dx H) → Sx g B E (tb (wAs g.K cls i ts Wout D)) D) :
    Sx g B E (tTryAs g.K cls i tb ts Wout) D := h2 h1
def D.ty : D → String
  | .non => "NoneType"
  | .bl _ => "bool"
  | .int _ => "int"
  | .str _ => "str"
  | .lst _ => "list"
  | .tup _ => "tuple"
theorem ty_x {K : PySem.W.Frag} {H : Hp} : ∀ {v : V} {x : D}, rpD H v x → TyX K H v (.type x.ty)
  | v, .non, h => by
    have h : v = .non := by simpa [rpD] using h
    subst h; exact .base .non
  | v, .bl b, h => by
    have h : v = .bl b := by simpa [rpD] using h
    subst h; exact .base (.bl b)
  | v, .int i, h => by
    have h : v = .int i := by simpa [rpD] using h
    subst h; exact .base (.int i)
  | v, .str t, h => by
    have h : v = .str (Tx.s t) := by simpa [rpD] using h
    subst h; exact .base (.str _)
  | v, .lst xs, h => by
    simp only [rpD] at h
    obtain ⟨p, vs, e, h, _⟩ := h
    subst e; exact .base (.lst h)
  | v, .tup xs, h => by
    simp only [rpD] at h
    obtain ⟨p, vs, e, h, _⟩ := h
    subst e; exact .base (.tup h)
def isT (x : D) (T : String) : Bool := match x with
  | .non => false
  | .bl _ => T == "bool" || T == "int"
  | .int _ => T == "int"
  | .str _ => T == "str"
  | .lst _ => T == "list"
  | .tup _ => T == "tuple"
theorem kit_bool (x : D) : kitB x.ty "bool" = some (isT x "bool") := match x with
  | .non => (by decide +kernel : kitB "NoneType" "bool" = some false)
  | .bl _ => (by decide +kernel : kitB "bool" "bool" = some true)
  | .int _ => (by decide +kernel : kitB "int" "bool" = some false)
  | .str _ => (by decide +kernel : kitB "str" "bool" = some false)
  | .lst _ => (by decide +kernel : kitB "list" "bool" = some false)
  | .tup _ => (by decide +kernel : kitB "tuple" "bool" = some false)
theorem kit_int (x : D) : kitB x.ty "int" = some (isT x "int") := match x with
  | .non => (by decide +kernel : kitB "NoneType" "int" = some false)
  | .bl _ => (by decide +kernel : kitB "bool" "int" = some true)
  | .int _ => (by decide +kernel : kitB "int" "int" = some true)
  | .str _ => (by decide +kernel : kitB "str" "int" = some false)
  | .lst _ => (by decide +kernel : kitB "list" "int" = some false)
  | .tup _ => (by decide +kernel : kitB "tuple" "int" = some false)
theorem kit_str (x : D) : kitB x.ty "str" = some (isT x "str") := match x with
  | .non => (by decide +kernel : kitB "NoneType" "str" = some false)
  | .bl _ => (by decide +kernel : kitB "bool" "str" = some false)
  | .int _ => (by decide +kernel : kitB "int" "str" = some false)
  | .str _ => (by decide +kernel : kitB "str" "str" = some true)
  | .lst _ => (by decide +kernel : kitB "list" "str" = some false)
  | .tup _ => (by decide +kernel : kitB "tuple" "str" = some false)
theorem kit_list (x : D) : kitB x.ty "list" = some (isT x "list") := match x with
  | .non => (by decide +kernel : kitB "NoneType" "list" = some false)
  | .bl _ => (by decide +kernel : kitB "bool" "list" = some false)
  | .int _ => (by decide +kernel : kitB "int" "list" = some false)
  | .str _ => (by decide +kernel : kitB "str" "list" = some false)
  | .lst _ => (by decide +kernel : kitB "list" "list" = some true)
  | .tup _ => (by decide +kernel : kitB "tuple" "list" = some false)
theorem kit_tuple (x : D) : kitB x.ty "tuple" = some (isT x "tuple") := match x with
  | .non => (by decide +kernel : kitB "NoneType" "tuple" = some false)
  | .bl _ => (by decide +kernel : kitB "bool" "tuple" = some false)
  | .int _ => (by decide +kernel : kitB "int" "tuple" = some false)
  | .str _ => (by decide +kernel : kitB "str" "tuple" = some false)
  | .lst _ => (by decide +kernel : kitB "list" "tuple" = some false)
  | .tup _ => (by decide +kernel : kitB "tuple" "tuple" = some true)
theorem call_isiK {X : Cx} {K : PySem.W.Frag} (h : X.K = K) : CallR X (.builtin "isinstance") (rIsi K) := h ▸ call_isi
def D.isN : D → Bool
  | .non => true
  | _ => false
def D.len : D → Option Int
  | .lst xs => some xs.length
  | .tup xs => some xs.length
  | .str t => if sz t.length = true then some t.length else none
  | _ => none
def D.at (x : D) (i : Int) : Option D := match x with
  | .lst xs => atI xs i
  | .tup xs => atI xs i
  | _ => none
/-- both of the same plain kind -/
def eqK : D → D → Bool
  | .bl _, .bl _ => true
  | .int _, .int _ => true
  | .str _, .str _ => true
  | _, _ => false
def eqD : D → D → Bool
  | .bl a, .bl b => decide (a = b)
  | .int a, .int b => decide (a = b)
  | .str a, .str b => decide (a = b)
  | _, _ => false
theorem rpDs_len {H : Hp} : ∀ {vs : List V} {xs : List D}, rpDs H vs xs → vs.length = xs.length
  | [], [], _ => rfl
  | _ :: _, _ :: _, h => by simp only [rpDs] at h; exact congrArg (· + 1) (rpDs_len h.2)
  | [], _ :: _, h => by simp [rpDs] at h
  | _ :: _, [], h => by simp [rpDs] at h
theorem rpDs_get {H : Hp} : ∀ {vs : List V} {xs : List D} {i : Nat} {x : D}, rpDs H vs xs → xs[i]? = some x → ∃ v, vs[i]? = some v ∧ rpD H v x
  | v :: vs, y :: xs, 0, x, h, e => by
    simp only [rpDs] at h
    simp at e; subst e; exact ⟨v, rfl, h.1⟩
  | v :: vs, y :: xs, i + 1, x, h, e => by
    simp only [rpDs] at h
    obtain ⟨w, e1, r⟩ := rpDs_get (i := i) h.2 (by simpa using e)
    exact ⟨w, by simpa using e1, r⟩
  | [], [], _, _, _, e => by simp at e
  | [], _ :: _, _, _, h, _ => by simp [rpDs] at h
  | _ :: _, [], _, _, h, _ => by simp [rpDs] at h
def rIxLT (K : PySem.W.Frag) : R2 := fun x y H Q => rIxL K x y H Q ∨ rIxT K x y H Q
theorem ix_LTK {X : Cx} {K : PySem.W.Frag} (h : X.K = K) : IxR X (rIxLT K) := by
  subst h
  intro value slice pins s σ H x y v u Q I rx ry h hs
  rcases h with h | h
  · exact ix_list value slice pins s σ H x y v u Q I rx ry h hs
  · exact ix_tup value slice pins s σ H x y v u Q I rx ry h hs
def rLenD (K : PySem.W.Frag) : List V → Hp → VK → Prop := fun xs H Q => (∃ p ys, xs = [.ref p] ∧ (SqL K H p ys ∨ SqT K H p ys) ∧ Q (.int ys.length) H) ∨ (∃ z : Str, xs = [.str z] ∧ z.length ≤ sizeLine ∧ Q (.int z.length) H)
theorem call_lenD {X : Cx} {K : PySem.W.Frag} (h : X.K = K) : CallR X (.builtin "len") (rLenD K) := by
  subst h
  intro pins s σ H xs us Q I r h
  rcases h with h | h
  · exact call_len_seq pins s σ H xs us Q I r h
  · exact call_len_str pins s σ H xs us Q I r h
section
variable {g : Gx} {B : Bs} {E E1 E2 : List Bd} {ta tb te : TE}
theorem px_isND {x : D} (h : Px g B E E1 ta x) : Px g B E E1 (tIsN ta) x.isN := fun F A σ H s Q k =>
  h F A σ H s _ fun F' A' H' v s' e r => k F' A' H' _ s' e (by
    have r : rpD F' v x := r
    show V.bl _ = V.bl x.isN
    congr 1
    cases x with
    | non =>
      have r : v = .non := by simpa [rpD] using r
      subst r; rfl
    | bl b => have r : v = .bl b := by simpa [rpD] using r
              subst r; rfl
    | int b => have r : v = .int b := by simpa [rpD] using r
               subst r; rfl
    | str b => have r : v = .str (Tx.s b) := by simpa [rpD] using r
               subst r; rfl
    | lst xs =>
      simp only [rpD] at r
      obtain ⟨p, vs, e, _⟩ := r
      subst e; rfl
    | tup xs =>
      simp only [rpD] at r
      obtain ⟨p, vs, e, _⟩ := r
      subst e; rfl)
theorem px_isi {x : D} {T : String} {b : Bool} (h : Px g B E E1 ta x) (hk : kitB x.ty T = some b) : Px g B E E1 (tCB (rIsi g.K) (tCons ta (tCons (tC (.ty T)) tNil))) b := fun F A σ H s Q k =>
  h F A σ H s _ fun F' A' H' v s' e r => ⟨v, .ty T, .type x.ty, .type T, b, rfl, .ty T, ty_x (rpD_mono (s'.fa.trans s'.ah) r), kit_ty hk, k F' A' H' _ s' e rfl⟩
theorem px_lenD {x : D} {n : Int} (h : Px g B E E1 ta x) (e : x.len = some n) : Px g B E E1 (tCB (rLenD g.K) (tCons ta tNil)) n := fun F A σ H s Q k =>
  h F A σ H s _ fun F1 A1 H1 v s1 e1 r0 => by
    have r : rpD F1 v x := r0
    clear r0
    cases x with
    | lst xs =>
      simp only [rpD] at r
      obtain ⟨p, vs, ev, hp, r⟩ := r
      cases e; subst ev
      exact .inl ⟨p, vs, rfl, .inl (.of (s1.ah _ _ (s1.fa _ _ hp))), by rw [rpDs_len r]; exact k F1 A1 H1 _ s1 e1 rfl⟩
    | tup xs =>
      simp only [rpD] at r
      obtain ⟨p, vs, ev, hp, r⟩ := r
      cases e; subst ev
      exact .inl ⟨p, vs, rfl, .inr (.inl (Rd.of (s1.ah _ _ (s1.fa _ _ hp)))), by rw [rpDs_len r]; exact k F1 A1 H1 _ s1 e1 rfl⟩
    | str t =>
      have r : v = .str (Tx.s t) := by simpa [rpD] using r
      subst r
      unfold D.len at e
      have e : (if sz t.length = true then some (t.length : Int) else none) = some n := e
      by_cases hz : sz t.length = true
      · rw [if_pos hz] at e; cases e
        exact .inr ⟨Tx.s t, rfl, by rw [tx_size]; exact sz_ok hz, by rw [tx_size]; exact k F1 A1 H1 _ s1 e1 rfl⟩
      · rw [if_neg hz] at e; cases e
    | non => cases e
    | bl _ => cases e
    | int _ => cases e
theorem px_atD {x y : D} {i : Int} (h : Px g B E E1 ta x) (hi : Px g B E1 E2 tb i) (e : x.at i = some y) : Px g B E E2 (tOp (rIxLT g.K) ta tb) y := fun F A σ H s Q k =>
  h F A σ H s _ fun F1 A1 H1 v s1 e1 r0 => hi F1 A1 σ H1 s1 _ fun F2 A2 H2 w s2 e2 rw => by
    have r : rpD F2 v x := rpD_mono e2 r0
    clear r0
    have rw : w = .int i := rw
    subst rw
    have go : ∀ {xs : List D} {vs : List V}, rpDs F2 vs xs → atI xs i = some y → ∃ u, atI vs i = some u ∧ rpD F2 u y := fun {xs vs} r e => by
      unfold atI at e ⊢
      rw [rpDs_len r]
      cases h : ixN xs.length i with
      | none => rw [h] at e; cases e
      | some j =>
        rw [h] at e
        exact rpDs_get r (show xs[j]? = some y from e)
    cases x with
    | lst xs =>
      simp only [rpD] at r
      obtain ⟨p, vs, ev, hp, r⟩ := r
      subst ev
      obtain ⟨u, e3, ru⟩ := go r e
      exact .inl ⟨p, vs, i, u, rfl, rfl, .of (s2.ah _ _ (s2.fa _ _ hp)), e3, k F2 A2 H2 u s2 (e1.trans e2) ru⟩
    | tup xs =>
      simp only [rpD] at r
      obtain ⟨p, vs, ev, hp, r⟩ := r
      subst ev
      obtain ⟨u, e3, ru⟩ := go r e
      exact .inr ⟨p, vs, i, u, rfl, rfl, .inl (Rd.of (s2.ah _ _ (s2.fa _ _ hp))), e3, k F2 A2 H2 u s2 (e1.trans e2) ru⟩
    | str t => cases e
    | non => cases e
    | bl _ => cases e
    | int _ => cases e
theorem r2_eqD {x y : D} (h : eqK x y = true) : R2x g B E rEq x y (eqD x y) := fun F A σ H v w s rv rw Q q => by
  match x, y, h, rv, rw, q with
  | .bl a, .bl b, _, rv, rw, q =>
    have rv : v = .bl a := by have rv : rpD F v (.bl a) := rv; simpa [rpD] using rv
    have rw : w = .bl b := by have rw : rpD F w (.bl b) := rw; simpa [rpD] using rw
    exact r2_eq F A σ H v w s (show rp g F v a from rv) (show rp g F w b from rw) Q q
  | .int a, .int b, _, rv, rw, q =>
    have rv : v = .int a := by have rv : rpD F v (.int a) := rv; simpa [rpD] using rv
    have rw : w = .int b := by have rw : rpD F w (.int b) := rw; simpa [rpD] using rw
    exact r2_eq F A σ H v w s (show rp g F v a from rv) (show rp g F w b from rw) Q q
  | .str a, .str b, _, rv, rw, q =>
    have rv : v = .str (Tx.s a) := by have rv : rpD F v (.str a) := rv; simpa [rpD] using rv
    have rw : w = .str (Tx.s b) := by have rw : rpD F w (.str b) := rw; simpa [rpD] using rw
    exact r2_eq F A σ H v w s (show rp g F v a from rv) (show rp g F w b from rw) Q q
end
/-- the law's script -/
structure Sc where
  xs : List Int
theorem sqL_mono {K : PySem.W.Frag} {H H' : Hp} {a : Addr} {xs : List V} (s : Same H H') (h : SqL K H a xs) : SqL K H' a xs := by
  rcases h with (h | ⟨o, h⟩) | h
  · exact .inl (.inl (s _ _ h))
  · exact .inl (.inr ⟨o, s _ _ h⟩)
  · exact .inr h
instance instRpSc : Rp Sc := ⟨fun g H v x => ∃ a, v = .ref a ∧ SqL g.K H a (x.xs.map V.int), fun s ⟨a, e, h⟩ => ⟨a, e, sqL_mono s h⟩⟩
section
variable {g : Gx} {B : Bs} {E E1 E2 : List Bd} {ta tb te : TE}
theorem px_lenSc {x : Sc} (h : Px g B E E1 ta x) : Px g B E E1 (tCB (fun xs H Q => ∃ p ys, xs = [.ref p] ∧ (SqL g.K H p ys ∨ SqT g.K H p ys) ∧ Q (.int ys.length) H) (tCons ta tNil)) (x.xs.length : Int) := fun F A σ H s Q k =>
  h F A σ H s _ fun F1 A1 H1 v s1 e1 ⟨a, ev, hs⟩ => by
    subst ev
    exact ⟨a, _, rfl, .inl (sqL_mono (s1.fa.trans s1.ah) hs), by rw [List.length_map]; exact k F1 A1 H1 _ s1 e1 rfl⟩
theorem px_idxSc {x : Sc} {i y : Int} (h : Px g B E E1 ta x) (hi : Px g B E1 E2 tb i) (e : atI x.xs i = some y) : Px g B E E2 (tOp (rIxL g.K) ta tb) y := fun F A σ H s Q k =>
  h F A σ H s _ fun F1 A1 H1 v s1 e1 ⟨a, ev, hs⟩ => hi F1 A1 σ H1 s1 _ fun F2 A2 H2 w s2 e2 rw => by
    have rw : w = .int i := rw
    subst rw; subst ev
    refine ⟨a, _, i, .int y, rfl, rfl, sqL_mono (s2.fa.trans s2.ah) (sqL_mono e2 hs), ?_, k F2 A2 H2 _ s2 (e1.trans e2) rfl⟩
    unfold atI at e ⊢
    rw [List.length_map]
    cases h : ixN x.xs.length i with
    | none => rw [h] at e; cases e
    | some j =>
      rw [h] at e
      show (x.xs.map V.int)[j]? = some (V.int y)
      rw [List.getElem?_map, show x.xs[j]? = some y from e]; rfl
end
def spLaw (K : PySem.W.Frag) (n : Nat) : Sp := fun vs H Q _ => ∃ (a : Addr) (ns : List Int), vs = [.ref a] ∧ SqL K H a (ns.map V.int) ∧ ns.length ≤ n ∧ ∀ H', Q (.bl true) H'
/-- THE LAW: the walk and the plain law together -/
theorem law_done {g : Gx} {P : Program} {w : World} {mg : Str → Option Value} {base : Heap} {k n : Nat} {f : Addr} {fd : FuncData} {rel : List Ca → Out → Prop} (F : FnOk P w g.K mg base (L2.CX P w) k f fd ["script"] (spOf g rel)) (h : ∀ ns : List Int, ns.length ≤ n → rel [.k (Sc.mk ns)] (.ret true [])) :
    FnOk P w g.K mg base (L2.CX P w) k f fd ["script"] (spLaw g.K n) :=
  F.imp fun vs H Q E ⟨a, ns, e, hS, hl, hQ⟩ => by
    subst e
    exact ⟨H, [.k (Sc.mk ns)], [], .ret true [], Same.refl _, List.nodup_nil, ⟨⟨a, rfl, hS⟩, rfl⟩, h ns hl, fun F' H' v gr cn r => by
      have r : v = .bl true := r
      subst r; exact hQ H'⟩
theorem cx_false {P : Program} {w : World} {H : Hp} {s : Shared} {e : Value} {s' : Shared} (h : L2.CX P w [] H s (fun _ _ _ => False) e s') : False := by
  obtain ⟨_, _, _, _, _, _, _, _, _, _, _, _, z⟩ := h
  exact z
/-- a def of which nothing is promised -/
theorem fn_void {P : Program} {w : World} {K : PySem.W.Frag} {mg : Str → Option Value} {base : Heap} {CX : CXT} {k : Nat} {f : Addr} {fd : FuncData} {ps : List Str} {sp : Sp} (h : ∀ vs H Q X, ¬ sp vs H Q X) :
    FnOk P w K mg base CX k f fd ps sp := ⟨fun vs H Q X z => (h vs H Q X z).elim, fun A outer s H args us vs Q E hr he hb hv hs => (h _ _ _ _ hs).elim⟩
end Gn
/-! Gn: list(text), isinstance of an own class. -/
namespace L2
open PySem PySem.Spec PyProof.Rows
def rListS : List V → Hp → VK → Prop := fun xs H Q => ∃ x : Str, xs = [.str x] ∧ x.cps.size ≤ sizeLine ∧ ∀ l, H l = none → Q (.ref l) (upd H l (.lst (x.cps.toList.map fun c => V.str ⟨#[c]⟩)))
theorem call_listS {X : Cx} (hc : X.calm = true) : CallR X (.type "list") rListS := by
  intro pins s σ H xs us Q I r h
  obtain ⟨x, rfl, hz, q⟩ := h
  obtain ⟨u, rfl, t, rfl⟩ := vals1 r
  refine call_list_str (hn := hz) (I.ok.hd hc) x t fun h' tk acc c' hk hS ha => ?_
  have rv : Vals (x.cps.toList.map fun c => V.str ⟨#[c]⟩) acc.toList := vals_of_idx _ _ (by rw [List.length_map]; simpa using ha.1) fun j u hj => by
    obtain ⟨c, tu, hcx, e⟩ := ha.2 j u (by simpa using hj)
    refine ⟨.str ⟨#[c]⟩, ?_, tu, e⟩
    rw [List.getElem?_map]
    have : x.cps.toList[j]? = some c := by simpa using hcx
    rw [this]; rfl
  exact ⟨.ref s.heap.objs.size, _, I.laid (t' := tk) hk (Nat.le_refl _) (show ObjOk X.prog X.w _ h' _ (.lst _) from ⟨by rw [List.length_map]; simpa using hz, acc.toList, c', rv, by simpa using hS⟩), rfl, q _ (I.hok.fresh (Nat.le_refl _))⟩
end L2
namespace Gn
open PySem L2
open Rp (rp)
structure OwnC (K : PySem.W.Frag) (C : Addr) : Prop where
  cl : Cls K C
  ha : PySem.W.findIn K (.ref C) "__class__" = some (some (.builtin "object.__class__"))
  hn : PySem.W.specialIn K (.builtin "object.__class__") "__get__" = some (some (.builtin "getset_descriptor.__get__"))
  ht : PySem.W.takesIn K (.builtin "object.__class__") = some true
  hm : PySem.W.mroIn K C (.type "object") = some true
section
variable {g : Gx} {B : Bs} {E E1 E2 : List Bd} {te : TE}
theorem pn_listS {t : Tx} (ha : Px g B E E1 te t) (hz : sz t.length = true) : PxN g B E E1 (tCB rListS (tCons te tNil)) (t.map fun c => ([c] : Tx)) := fun F A σ H s Q k =>
  ha F A σ H s _ fun F1 A1 H1 v s1 e1 rv => by
    have rv : v = .str (Tx.s t) := rv
    subst rv
    refine ⟨Tx.s t, rfl, ?_, new_of s1 e1 (vs := (Tx.s t).cps.toList.map fun c => V.str ⟨#[c]⟩) ?_ k⟩
    · show t.toArray.size ≤ _
      simpa using sz_ok hz
    · rw [rps_tx, List.map_map]
      rfl
theorem px_isiO {α : Type} [Ob α] {x : α} (h : @Px g B E E1 te α Ob.rp x) (c : OwnC g.K (g.ca (Ob.cn α))) : Px g B E E1 (tCB (rIsi g.K) (tCons te (tCons (tC (.ref (g.ca (Ob.cn α)))) tNil))) true := fun F A σ H s Q k =>
  h F A σ H s _ fun F' A' H' v s' e r => by
    obtain ⟨a, dx, fs, ev, ea, _⟩ := r
    subst ev
    exact ⟨.ref a, .ref (g.ca (Ob.cn α)), .ref (g.ca (Ob.cn α)), .ref (g.ca (Ob.cn α)), true, rfl, .own _, .base (.ins (s'.ah _ _ (s'.fa _ _ ea)) c.cl c.ha c.hn c.ht c.hm), if_pos (beq_self_eq_true _), k F' A' H' _ s' e rfl⟩
end
section
variable {g : Gx} {B : Bs} {E E1 : List Bd} {ta : TE} {α β γ δ ε ζ : Type} [Rp α] [Rp β] [Rp γ] [Rp δ] [Rp ε] [Rp ζ]
theorem px_t40 {x : T4 α β γ δ} (ha : Px g B E E1 ta x) : Px g B E E1 (tOp (rIxT g.K) ta (tC (.int 0))) x.a := fun F A σ H s Q k =>
  ha F A σ H s _ fun F1 A1 H1 v s1 e1 ⟨p, a, b, c, d, ev, hp, r1, r2, r3, r4⟩ => ⟨p, [a, b, c, d], 0, a, ev, rfl, .of (s1.ah _ _ (s1.fa _ _ hp)), rfl, k F1 A1 H1 _ s1 e1 r1⟩
theorem px_t41 {x : T4 α β γ δ} (ha : Px g B E E1 ta x) : Px g B E E1 (tOp (rIxT g.K) ta (tC (.int 1))) x.b := fun F A σ H s Q k =>
  ha F A σ H s _ fun F1 A1 H1 v s1 e1 ⟨p, a, b, c, d, ev, hp, r1, r2, r3, r4⟩ => ⟨p, [a, b, c, d], 1, b, ev, rfl, .of (s1.ah _ _ (s1.fa _ _ hp)), rfl, k F1 A1 H1 _ s1 e1 r2⟩
theorem px_t42 {x : T4 α β γ δ} (ha : Px g B E E1 ta x) : Px g B E E1 (tOp (rIxT g.K) ta (tC (.int 2))) x.c := fun F A σ H s Q k =>
  ha F A σ H s _ fun F1 A1 H1 v s1 e1 ⟨p, a, b, c, d, ev, hp, r1, r2, r3, r4⟩ => ⟨p, [a, b, c, d], 2, c, ev, rfl, .of (s1.ah _ _ (s1.fa _ _ hp)), rfl, k F1 A1 H1 _ s1 e1 r3⟩
theorem px_t43 {x : T4 α β γ δ} (ha : Px g B E E1 ta x) : Px g B E E1 (tOp (rIxT g.K) ta (tC (.int 3))) x.d := fun F A σ H s Q k =>
  ha F A σ H s _ fun F1 A1 H1 v s1 e1 ⟨p, a, b, c, d, ev, hp, r1, r2, r3, r4⟩ => ⟨p, [a, b, c, d], 3, d, ev, rfl, .of (s1.ah _ _ (s1.fa _ _ hp)), rfl, k F1 A1 H1 _ s1 e1 r4⟩
theorem px_t50 {x : T5 α β γ δ ε} (ha : Px g B E E1 ta x) : Px g B E E1 (tOp (rIxT g.K) ta (tC (.int 0))) x.a := fun F A σ H s Q k =>
  ha F A σ H s _ fun F1 A1 H1 v s1 e1 ⟨p, a, b, c, d, f, ev, hp, r1, r2, r3, r4, r5⟩ => ⟨p, [a, b, c, d, f], 0, a, ev, rfl, .of (s1.ah _ _ (s1.fa _ _ hp)), rfl, k F1 A1 H1 _ s1 e1 r1⟩
theorem px_t51 {x : T5 α β γ δ ε} (ha : Px g B E E1 ta x) : Px g B E E1 (tOp (rIxT g.K) ta (tC (.int 1))) x.b := fun F A σ H s Q k =>
  ha F A σ H s _ fun F1 A1 H1 v s1 e1 ⟨p, a, b, c, d, f, ev, hp, r1, r2, r3, r4, r5⟩ => ⟨p, [a, b, c, d, f], 1, b, ev, rfl, .of (s1.ah _ _ (s1.fa _ _ hp)), rfl, k F1 A1 H1 _ s1 e1 r2⟩
theorem px_t52 {x : T5 α β γ δ ε} (ha : Px g B E E1 ta x) : Px g B E E1 (tOp (rIxT g.K) ta (tC (.int 2))) x.c := fun F A σ H s Q k =>
  ha F A σ H s _ fun F1 A1 H1 v s1 e1 ⟨p, a, b, c, d, f, ev, hp, r1, r2, r3, r4, r5⟩ => ⟨p, [a, b, c, d, f], 2, c, ev, rfl, .of (s1.ah _ _ (s1.fa _ _ hp)), rfl, k F1 A1 H1 _ s1 e1 r3⟩
theorem px_t53 {x : T5 α β γ δ ε} (ha : Px g B E E1 ta x) : Px g B E E1 (tOp (rIxT g.K) ta (tC (.int 3))) x.d := fun F A σ H s Q k =>
  ha F A σ H s _ fun F1 A1 H1 v s1 e1 ⟨p, a, b, c, d, f, ev, hp, r1, r2, r3, r4, r5⟩ => ⟨p, [a, b, c, d, f], 3, d, ev, rfl, .of (s1.ah _ _ (s1.fa _ _ hp)), rfl, k F1 A1 H1 _ s1 e1 r4⟩
theorem px_t54 {x : T5 α β γ δ ε} (ha : Px g B E E1 ta x) : Px g B E E1 (tOp (rIxT g.K) ta (tC (.int 4))) x.e := fun F A σ H s Q k =>
  ha F A σ H s _ fun F1 A1 H1 v s1 e1 ⟨p, a, b, c, d, f, ev, hp, r1, r2, r3, r4, r5⟩ => ⟨p, [a, b, c, d, f], 4, f, ev, rfl, .of (s1.ah _ _ (s1.fa _ _ hp)), rfl, k F1 A1 H1 _ s1 e1 r5⟩
theorem px_t60 {x : T6 α β γ δ ε ζ} (ha : Px g B E E1 ta x) : Px g B E E1 (tOp (rIxT g.K) ta (tC (.int 0))) x.a := fun F A σ H s Q k =>
  ha F A σ H s _ fun F1 A1 H1 v s1 e1 ⟨p, a, b, c, d, f, f2, ev, hp, r1, r2, r3, r4, r5, r6⟩ => ⟨p, [a, b, c, d, f, f2], 0, a, ev, rfl, .of (s1.ah _ _ (s1.fa _ _ hp)), rfl, k F1 A1 H1 _ s1 e1 r1⟩
theorem px_t61 {x : T6 α β γ δ ε ζ} (ha : Px g B E E1 ta x) : Px g B E E1 (tOp (rIxT g.K) ta (tC (.int 1))) x.b := fun F A σ H s Q k =>
  ha F A σ H s _ fun F1 A1 H1 v s1 e1 ⟨p, a, b, c, d, f, f2, ev, hp, r1, r2, r3, r4, r5, r6⟩ => ⟨p, [a, b, c, d, f, f2], 1, b, ev, rfl, .of (s1.ah _ _ (s1.fa _ _ hp)), rfl, k F1 A1 H1 _ s1 e1 r2⟩
theorem px_t62 {x : T6 α β γ δ ε ζ} (ha : Px g B E E1 ta x) : Px g B E E1 (tOp (rIxT g.K) ta (tC (.int 2))) x.c := fun F A σ H s Q k =>
  ha F A σ H s _ fun F1 A1 H1 v s1 e1 ⟨p, a, b, c, d, f, f2, ev, hp, r1, r2, r3, r4, r5, r6⟩ => ⟨p, [a, b, c, d, f, f2], 2, c, ev, rfl, .of (s1.ah _ _ (s1.fa _ _ hp)), rfl, k F1 A1 H1 _ s1 e1 r3⟩
theorem px_t63 {x : T6 α β γ δ ε ζ} (ha : Px g B E E1 ta x) : Px g B E E1 (tOp (rIxT g.K) ta (tC (.int 3))) x.d := fun F A σ H s Q k =>
  ha F A σ H s _ fun F1 A1 H1 v s1 e1 ⟨p, a, b, c, d, f, f2, ev, hp, r1, r2, r3, r4, r5, r6⟩ => ⟨p, [a, b, c, d, f, f2], 3, d, ev, rfl, .of (s1.ah _ _ (s1.fa _ _ hp)), rfl, k F1 A1 H1 _ s1 e1 r4⟩
theorem px_t64 {x : T6 α β γ δ ε ζ} (ha : Px g B E E1 ta x) : Px g B E E1 (tOp (rIxT g.K) ta (tC (.int 4))) x.e := fun F A σ H s Q k =>
  ha F A σ H s _ fun F1 A1 H1 v s1 e1 ⟨p, a, b, c, d, f, f2, ev, hp, r1, r2, r3, r4, r5, r6⟩ => ⟨p, [a, b, c, d, f, f2], 4, f, ev, rfl, .of (s1.ah _ _ (s1.fa _ _ hp)), rfl, k F1 A1 H1 _ s1 e1 r5⟩
theorem px_t65 {x : T6 α β γ δ ε ζ} (ha : Px g B E E1 ta x) : Px g B E E1 (tOp (rIxT g.K) ta (tC (.int 5))) x.f := fun F A σ H s Q k =>
  ha F A σ H s _ fun F1 A1 H1 v s1 e1 ⟨p, a, b, c, d, f, f2, ev, hp, r1, r2, r3, r4, r5, r6⟩ => ⟨p, [a, b, c, d, f, f2], 5, f2, ev, rfl, .of (s1.ah _ _ (s1.fa _ _ hp)), rfl, k F1 A1 H1 _ s1 e1 r6⟩
end
end Gn
/-! Gn: try with several named clauses; statements that are never reached. -/
namespace L2
open PySem PySem.Spec PyProof.Rows
/-- several clauses, each with a name: slot i is the name's -/
def wAsM (K : PySem.W.Frag) (Wo : WX) (D : Ends) : List (Value × Nat × (Addr → Value → Option Addr → TS)) → WX
  | [] => Wo
  | (c, i, ts) :: r => fun cls d σ H => ∃ b, PySem.W.exmOne K cls c = some b ∧ (b = true → ∀ a, H a = none → ts a cls d { nx := fun s h => D.nx (s.set i none) h, rt := D.rt, bk := fun s h => D.bk (s.set i none) h, ct := fun s h => D.ct (s.set i none) h } (σ.set i (some (.ref a))) H) ∧ (b = false → wAsM K Wo D r cls d σ H)
inductive HdsAs (X : Cx) : List ExceptHandler → List (Value × Nat × (Addr → Value → Option Addr → TS)) → Prop
  | nil : HdsAs X [] []
  | cons {x n : Str} {c : Value} {i : Nat} {ts : Addr → Value → Option Addr → TS} {b0 : Stmt} {su : List Stmt} {np p2 : Pos} {hds : List ExceptHandler} {l : List (Value × Nat × (Addr → Value → Option Addr → TS))} (hc : Names X x c) (hi : X.N[i]? = some n) (hk : X.env.kindOf n = some .local)
      (hsu : ∀ (a : Addr) (oe : Obj) (cls : Value) (d : Option Addr) (pn : List (Addr × Obj)), Zc cls d oe → (∃ vs, oe.data = .fields vs) → PSs (X.suite a ((a, oe) :: pn)) (b0 :: su) (ts a cls d)) (r : HdsAs X hds l) :
      HdsAs X (.ExceptHandler (some (.Name x np)) (some n) (b0 :: su) p2 :: hds) ((c, i, ts) :: l)
section
variable {X : Cx} {body : List Stmt} {h1 : ExceptHandler} {hds : List ExceptHandler} {l : List (Value × Nat × (Addr → Value → Option Addr → TS))} {pos : Pos} {tb : WX → TS} {Wo : WX}
theorem ps_try_asM (hst : X.stack = X.env :: X.outer) (hfr : X.env.frame = some X.env.locals) (hN : X.N.Nodup) (tk : L2.Takes X Wo)
    (hb : ∀ (W : WX) (pn : List (Addr × Obj)) (xe : Value → Shared → Prop), L2.Takes (X.tr pn xe) W → PassesOwn (model X.prog X.w) X.A X.env xe → PSs (X.tr pn xe) body (tb W))
    (hh : HdsAs X (h1 :: hds) l) : PS X (.Try body (h1 :: hds) [] [] pos) (fun D σ H => tb (wAsM X.K Wo D l) D σ H) := by
  refine ⟨fun pins s σ H D I hyp => wpAny_Try_except ?_⟩
  have kk := I.ok
  have fr0 : X.A.frames = some (X.env :: X.outer) := kk.frames.trans (congrArg some hst)
  refine wpAny_mono ((hb (wAsM X.K Wo D l) (X.pn ++ pins) (fun e t1 => wpAny (model X.prog X.w) X.A (noteFrame e X.env) (fun _ t2 => wpAny (model X.prog X.w) X.A (setFlight e none) (fun _ t3 =>
    wpAny (model X.prog X.w) X.A (handleBy e X.env (h1 :: hds)) (SP X pins D) X.xe t3) X.xe t2) X.xe t1) (fun u s' xx => ?_) PassesOwn.looking).run [] s σ H D (I.toTry _) hyp) (fun f s1 q => ?_) (fun _ _ z => z)
  · obtain ⟨a, B, sI, pins', σ', H', cls, d, rfl, J', nb, up, sky, na, os, ag, w⟩ := xx
    have J : Inv X pins σ' H' sI := J'.ofTry kk
    show wpAny (model X.prog X.w) X.A (noteFrame (.ref a) X.env) _ _ _
    refine Sky.land Zc.steady fr0 hfr (hst ▸ sky) fun g3 fl3 up3 => ?_
    have J3 : Inv X pins σ' H' { s' with heap := g3 } := J.landed nb fl3.1 (up.trans up3) os ag
    obtain ⟨o3, v3, e3, z3, d3⟩ := fl3.there
    have out : a ∉ frs (X.env :: X.outer) := fun hm => by
      obtain ⟨_, o', e', no⟩ := fl3.2.2.1.mem hm
      rw [e3] at e'; cases e'
      exact no _ d3
    have nL : a ≠ X.env.locals := fun z => out (List.mem_filterMap.mpr ⟨X.env, List.mem_cons_self, by rw [hfr, z]⟩)
    have nF : a ∉ X.fs := fun hm => by
      obtain ⟨e, he, q⟩ := List.mem_filterMap.mp hm
      exact out (List.mem_filterMap.mpr ⟨e, List.mem_cons_of_mem _ he, q⟩)
    have S3 := J3.suite e3 d3 na nL nF
    have go : ∀ {hs2 : List ExceptHandler} {l2 : List (Value × Nat × (Addr → Value → Option Addr → TS))}, HdsAs X hs2 l2 → wAsM X.K Wo D l2 cls d σ' H' → wpAny (model X.prog X.w) X.A (handleBy (.ref a) X.env hs2) (SP X pins D) X.xe { s' with heap := g3 } := by
      intro hs2 l2 hk
      induction hk with
      | nil =>
        intro w
        refine wpAny_handleBy_nil ?_
        obtain ⟨k1, k2, k3, oe, vs, T, oT, ts', he, hz, hd, f1, hr⟩ := id fl3
        unfold PySem.passOn
        refine wpAny_bind (wpAny_field he hd f1 ?_)
        rw [if_neg (show ¬ ((Value.ref T == Value.none) = true) from by simp)]
        have fin : wpAny (model X.prog X.w) X.A (setFlight (.ref a) X.env.frame) (fun _ s4 => wpAny (model X.prog X.w) X.A (throw (.ref a) : Sem Flow) (SP X pins D) X.xe s4) X.xe { s' with heap := g3 } := by
          rw [hfr]
          exact HandSPX.setFlight_upZ fl3 fun g4 hh4 up4 => wpAny_throw (tk _ _ ⟨a, B, sI, pins, σ', H', cls, d, rfl, J, nb, (up.trans up3).trans up4, .inr (.inr (by rw [hst]; exact hh4)), na, os, ag, w⟩)
        first
          | exact wpAny_bind (wpAny_pure (wpAny_bind fin))
          | exact wpAny_bind fin
      | @cons x n c i ts b0 su np p2 hd2 l3 hc hi hkd hsu r ih =>
        rintro ⟨b, hb1, yes, no⟩
        refine wpAny_handleBy_cons (codeAny_handlers_test ?_) (by intro q; cases q)
        have LT : PySem.W.Looks (model X.prog X.w) g3 (typeOf (.ref a)) cls := fun A Q E s k q => wpAny_typeOf_ref (k _ _ e3) (by rw [z3.1]; exact q)
        have LM := PySem.W.exm_one (M := model X.prog X.w) (J3.kIn) LT hb1
        have test : ∀ {Q : Value → Shared → Prop} {E : Value → Shared → Prop}, Q c { s' with heap := g3 } → wpAny (model X.prog X.w) (X.A.mark (some (.ref a))) (eval (.Name x np) X.env) Q E { s' with heap := g3 } := fun {Q E} q => by
          obtain ⟨hg, hdbg, hm | ⟨hm, hv, hnn⟩⟩ := hc
          · exact ld_glob (X := X.suite a ((a, o3) :: (X.pn ++ pins))) S3 hg hm q hdbg
          · exact ld_blt (X := X.suite a ((a, o3) :: (X.pn ++ pins))) S3 hg hm hv q hnn hdbg
        refine test (LM.here ?_)
        cases b with
        | true =>
          refine codeAny_handlers_suite_as (HandSPX.lands_againZ fl3 fun g4 fl4 up4 => ?_)
          have J4 : Inv X pins σ' H' { s' with heap := g4 } := J.landed nb fl4.1 ((up.trans up3).trans up4) os ag
          obtain ⟨o4, v4, e4, z4, d4⟩ := fl4.there
          have S4 := J4.suite e4 d4 na nL nF
          refine store_ok (X := X.suite a ((a, o4) :: (X.pn ++ pins))) (v := .ref a) S4 hN hi (.inl hkd) rfl (fun s5 S5 => ?_) (.inr hkd)
          refine wpAny_mono ((hsu a o4 cls d (X.pn ++ pins) z4 ⟨_, d4⟩).run [] s5 _ H' _ S5 (yes rfl a na)) (fun f s6 q6 => ?_) (fun _ _ z => False.elim z)
          have fin : ∀ {σ6 : St} {H6 : Hp} {Q : Shared → Prop}, Inv (X.suite a ((a, o4) :: (X.pn ++ pins))) [] σ6 H6 s6 → (∀ s7, Inv X pins (σ6.set i none) H6 s7 → Q s7) →
              wpAny (model X.prog X.w) X.A (do bindName X.env n .none; unbindBehindTheSuite X.env n p2) (fun _ s7 => Q s7) X.xe s6 := fun {σ6 H6 Q} S6 hq => gone_ok (S6.unsuite kk) hN hi hkd hq
          cases f with
          | next => obtain ⟨σ6, H6, S6, y⟩ := q6; exact fin S6 fun s7 J7 => ⟨_, _, J7, y⟩
          | brk => obtain ⟨σ6, H6, S6, y⟩ := q6; exact fin S6 fun s7 J7 => ⟨_, _, J7, y⟩
          | cont => obtain ⟨σ6, H6, S6, y⟩ := q6; exact fin S6 fun s7 J7 => ⟨_, _, J7, y⟩
          | ret u => obtain ⟨v6, σ6, H6, S6, r6, y⟩ := q6; exact fin S6 fun s7 J7 => ⟨_, _, _, J7, r6, y⟩
        | false => exact ih (no rfl)
    exact go hh w
  · cases f with
    | next => obtain ⟨σ', H', J', y⟩ := q; exact wpAny_execs_nil ⟨σ', H', J'.ofTry kk, y⟩
    | brk => obtain ⟨σ', H', J', y⟩ := q; exact ⟨σ', H', J'.ofTry kk, y⟩
    | cont => obtain ⟨σ', H', J', y⟩ := q; exact ⟨σ', H', J'.ofTry kk, y⟩
    | ret u => obtain ⟨v, σ', H', J', r, y⟩ := q; exact ⟨v, σ', H', J'.ofTry kk, r, y⟩
end
end L2
namespace Gn
open PySem L2
open Rp (rp)
theorem if_two {α : Type} {c : Bool} {m m2 r : R α} (h : (if c = true then m else m2) = r) : (c = true ∧ m = r) ∨ (c = false ∧ m2 = r) := by
  cases c with
  | true => exact .inl ⟨rfl, h⟩
  | false => exact .inr ⟨rfl, h⟩
def tVoid : TS := fun _ _ _ => False
theorem pss_void {X : Cx} {l : List Stmt} : PSs X l tVoid := ⟨fun pins s σ H D I h => h.elim⟩
def tTryM (K : PySem.W.Frag) (tb : WX → TS) (l : List (Value × Nat × (Addr → Value → Option Addr → TS))) (Wo : WX) : TS := fun D σ H => tb (wAsM K Wo D l) D σ H
theorem ps_try_asMG {X : Cx} {K : PySem.W.Frag} {body : List Stmt} {h1 : ExceptHandler} {hds : List ExceptHandler} {l : List (Value × Nat × (Addr → Value → Option Addr → TS))} {pos : Pos} {tb : WX → TS} {Wo : WX} (hK : X.K = K) (hst : X.stack = X.env :: X.outer) (hfr : X.env.frame = some X.env.locals) (hN : X.N.Nodup) (tk : L2.Takes X Wo)
    (hb : ∀ (W : WX) (pn : List (Addr × Obj)) (xe : Value → Shared → Prop), L2.Takes (X.tr pn xe) W → PySem.PassesOwn (model X.prog X.w) X.A X.env xe → PSs (X.tr pn xe) body (tb W))
    (hh : HdsAs X (h1 :: hds) l) : PS X (.Try body (h1 :: hds) [] [] pos) (tTryM K tb l Wo) := hK ▸ ps_try_asM hst hfr hN tk hb hh
section
variable {g : Gx} {B : Bs} {E Es E1 : List Bd}
theorem sx_tryM {D : Ends} {l : List (Value × Nat × (Addr → Value → Option Addr → TS))} {Wo : WX} {tb : WX → TS} {α : Type} {r : R α}
    (h1 : ∀ c d, r = .ex c d → ∀ E1, LeE E1 Es → ∀ F A σ H dx, Sta g B F A E1 σ H → PayOk F dx d → WE (wAsM g.K Wo D l) σ (.ref (g.ca c)) dx H)
    (h2 : (∀ c d, r = .ex c d → ∀ E1, LeE E1 Es → ∀ F A σ H dx, Sta g B F A E1 σ H → PayOk F dx d → WE (wAsM g.K Wo D l) σ (.ref (g.ca c)) dx H) → Sx g B E (tb (wAsM g.K Wo D l)) D) :
    Sx g B E (tTryM g.K tb l Wo) D := h2 h1
theorem asM_yes {D : Ends} {c : Value} {i : Nat} {ts : Addr → Value → Option Addr → TS} {Wo : WX} {l : List (Value × Nat × (Addr → Value → Option Addr → TS))} {cn : Str} (hm : PySem.W.exmOne g.K (.ref (g.ca cn)) c = some true) (hs : ∀ a, Sx g B (E1.set i (.kp (Adr.mk a))) (ts a (.ref (g.ca cn)) none) (unAs D i)) :
    ∀ F A σ H dx, Sta g B F A E1 σ H → PayOk F dx .non → WE (wAsM g.K Wo D ((c, i, ts) :: l)) σ (.ref (g.ca cn)) dx H := fun F A σ H dx s p => by
  have p : dx = none := p
  subst p
  show ∃ b, _ ∧ _ ∧ _
  refine ⟨true, hm, ?_, ?_⟩
  · intro _ a ha
    exact hs a F A _ H (s.setk (x := Adr.mk a) rfl)
  · intro z; exact Bool.noConfusion z
theorem asM_no {D : Ends} {c : Value} {i : Nat} {ts : Addr → Value → Option Addr → TS} {Wo : WX} {l : List (Value × Nat × (Addr → Value → Option Addr → TS))} {cn : Str} {d : Gn.D} (hm : PySem.W.exmOne g.K (.ref (g.ca cn)) c = some false) (h : ∀ F A σ H dx, Sta g B F A E1 σ H → PayOk F dx d → WE (wAsM g.K Wo D l) σ (.ref (g.ca cn)) dx H) :
    ∀ F A σ H dx, Sta g B F A E1 σ H → PayOk F dx d → WE (wAsM g.K Wo D ((c, i, ts) :: l)) σ (.ref (g.ca cn)) dx H := fun F A σ H dx s p => by
  show ∃ b, _ ∧ _ ∧ _
  refine ⟨false, hm, ?_, ?_⟩
  · intro z; exact Bool.noConfusion z
  · intro _; exact h F A σ H dx s p
theorem rbind_ok {α β : Type} {a : α} {f : α → R β} {r : R β} (h : (R.ok a).bind f = r) : f a = r := h
theorem px_tp3 {E2 E3 : List Bd} {ta tb tc : TE} {α β γ : Type} [Rp α] [Rp β] [Rp γ] {x : α} {y : β} {z : γ} (ha : Px g B E E1 ta x) (hb : Px g B E1 E2 tb y) (hc : Px g B E2 E3 tc z) : Px g B E E3 (tTup (tCons ta (tCons tb (tCons tc tNil)))) (T3.mk x y z) := px_tup3 (δ := Unit) (td := ta) ha hb hc
theorem PxN.pxA (α : Type) [Rp α] {E' : List Bd} {te : TE} {xs : List α} (h : PxN g B E E' te xs) : Px g B E E' te xs := h.px
end
end Gn
/-! Gn: lists of lists of one's own; x[i] += e. -/
namespace L2
open PySem PySem.Spec PyProof.Rows
theorem op_eqDK {X : Cx} {K : PySem.W.Frag} (h : X.K = K) (hu : X.A.units + 64 < cLine) : OpR X (compareOp .Eq) (rEqD K) := h ▸ op_eqD hu
theorem op_neDK {X : Cx} {K : PySem.W.Frag} (h : X.K = K) (hu : X.A.units + 64 < cLine) : OpR X (compareOp .NotEq) (rNeD K) := h ▸ op_neD hu
theorem get_listK {X : Cx} {K : PySem.W.Frag} (h : X.K = K) : PGet X (rIxL K) := by
  subst h
  intro pins s σ H x y v u Q I rx ry h
  obtain ⟨p, xs, i, z, rfl, rfl, hq, he, q⟩ := h
  cases rx
  obtain ⟨t, rfl⟩ := ry
  obtain ⟨its, r, pl, hz⟩ := I.list hq
  obtain ⟨j, h1, h2, h3, h4, h5⟩ := atI_get he
  obtain ⟨w, ew, rw'⟩ := r.get h2
  have hl := r.length
  have hn := line63
  have fin : EP X pins σ Q w s := ⟨z, H, I, rw', q⟩
  by_cases h0 : 0 ≤ i
  · have hj : i.toNat = j := by
      rw [seqIndex_of h0 h5] at h1
      exact Option.some.inj h1
    exact wpAny_getItem_list pl.isList h0 (by omega) (by rw [hj]; simpa using ew) fin
  · have hj : (i + (its.toArray.size : Int)).toNat = j := by
      rw [seqIndex_neg (by omega) h4] at h1
      rw [List.size_toArray, ← hl]
      exact Option.some.inj h1
    exact wpAny_getItem_list_neg pl.isList (by omega) (by rw [List.size_toArray] <;> omega) (by omega) (by rw [hj]; simpa using ew) fin
end L2
namespace Gn
open PySem L2
open Rp (rp)
structure NL (α : Type) where
  xss : List (List α)
def nlOk {α : Type} [Rp α] (g : Gx) (F H : Hp) : List Addr → List (List α) → Prop
  | [], [] => True
  | q :: qs, xs :: xss => (∃ ws, H q = some (.lst ws) ∧ rps g F ws xs) ∧ nlOk g F H qs xss
  | _, _ => False
section
variable {α : Type} [Rp α] {g : Gx} {F F' H H' : Hp}
theorem nl_mono (s : Same F F') : ∀ {qs : List Addr} {xss : List (List α)}, (∀ p ∈ qs, ∀ o, H p = some o → H' p = some o) → nlOk g F H qs xss → nlOk g F' H' qs xss
  | [], [], _, h => h
  | q :: qs, xs :: xss, k, h => by
    obtain ⟨⟨ws, e, r⟩, h⟩ := h
    exact ⟨⟨ws, k q List.mem_cons_self _ e, rps_mono s r⟩, nl_mono s (fun p hp => k p (List.mem_cons_of_mem _ hp)) h⟩
  | [], _ :: _, _, h => h.elim
  | _ :: _, [], _, h => h.elim
theorem nl_mem : ∀ {qs : List Addr} {xss : List (List α)}, nlOk g F H qs xss → ∀ p ∈ qs, H p ≠ none
  | q :: qs, xs :: xss, h, p, hp => by
    obtain ⟨⟨ws, e, r⟩, h⟩ := h
    rcases List.mem_cons.mp hp with hp | hp
    · rw [hp, e]; exact fun z => nomatch z
    · exact nl_mem h p hp
  | [], [], _, _, hp => by cases hp
  | [], _ :: _, h, _, _ => h.elim
  | _ :: _, [], h, _, _ => h.elim
theorem nl_len : ∀ {qs : List Addr} {xss : List (List α)}, nlOk g F H qs xss → qs.length = xss.length
  | [], [], _ => rfl
  | q :: qs, xs :: xss, h => by rw [List.length_cons, List.length_cons, nl_len h.2]
  | [], _ :: _, h => h.elim
  | _ :: _, [], h => h.elim
theorem nl_at : ∀ {qs : List Addr} {xss : List (List α)} {i : Nat} {xs : List α}, nlOk g F H qs xss → xss[i]? = some xs → ∃ q ws, qs[i]? = some q ∧ H q = some (.lst ws) ∧ rps g F ws xs
  | q :: qs, ys :: xss, 0, xs, h, e => by
    simp at e; subst e
    obtain ⟨⟨ws, e, r⟩, h⟩ := h
    exact ⟨q, ws, rfl, e, r⟩
  | q :: qs, ys :: xss, i + 1, xs, h, e => by
    obtain ⟨q, ws, h1, h2⟩ := nl_at (i := i) h.2 (by simpa using e)
    exact ⟨q, ws, by simpa using h1, h2⟩
  | [], [], _, _, _, e => by simp at e
  | [], _ :: _, _, _, h, _ => h.elim
  | _ :: _, [], _, _, h, _ => h.elim
theorem nl_set {ws : List V} {ys : List α} (r : rps g F ws ys) : ∀ {qs : List Addr} {xss : List (List α)} {i : Nat} {q : Addr}, qs.Nodup → nlOk g F H qs xss → qs[i]? = some q → nlOk g F (upd H q (.lst ws)) qs (xss.set i ys)
  | q' :: qs, xs :: xss, 0, q, nd, h, e => by
    simp at e; subst e
    exact ⟨⟨ws, upd_same, r⟩, nl_mono (Same.refl _) (fun p hp o h => by
      have hne : p ≠ q' := fun z => (List.nodup_cons.mp nd).1 (z ▸ hp)
      rw [upd_ne hne]; exact h) h.2⟩
  | q' :: qs, xs :: xss, i + 1, q, nd, h, e => by
    have e : qs[i]? = some q := by simpa using e
    obtain ⟨⟨vs, e1, r1⟩, h2⟩ := h
    have hne : q' ≠ q := fun z => (List.nodup_cons.mp nd).1 (z ▸ List.mem_of_getElem? e)
    exact ⟨⟨vs, by rw [upd_ne hne]; exact e1, r1⟩, nl_set r (List.nodup_cons.mp nd).2 h2 e⟩
  | [], [], _, _, _, _, e => by simp at e
  | [], _ :: _, _, _, _, h, _ => h.elim
  | _ :: _, [], _, _, _, h, _ => h.elim
end
instance instOdNL {α : Type} [Rp α] : Od (NL α) := ⟨fun g F H v x ps => ∃ p qs, v = .ref p ∧ ps = p :: qs ∧ ps.Nodup ∧ H p = some (.lst (qs.map V.ref)) ∧ nlOk g F H qs x.xss,
  fun {g F F' H H' v x ps} s k ⟨p, qs, e, e2, nd, h, r⟩ => ⟨p, qs, e, e2, nd, k p (by rw [e2]; exact List.mem_cons_self) _ h, nl_mono s (fun q hq => k q (by rw [e2]; exact List.mem_cons_of_mem _ hq)) r⟩,
  fun {g F H v x ps} ⟨p, qs, e, e2, nd, h, r⟩ q hq => by
    rw [e2] at hq
    rcases List.mem_cons.mp hq with hq | hq
    · rw [hq, h]; exact fun z => nomatch z
    · exact nl_mem r q hq⟩
section
variable {g : Gx} {B : Bs} {E E1 E2 E3 : List Bd} {ta tb tc te : TE} {α : Type} [Rp α]
theorem nl_slot {F A H : Hp} {σ : St} (s : Sta g B F A E σ H) {i : Nat} {ps : List Addr} {xss : List (List α)} (hi : E[i]? = some (.ot ps (NL.mk xss))) : ∃ p qs, ps = p :: qs ∧ σ[i]? = some (some (.ref p)) ∧ ps.Nodup ∧ H p = some (.lst (qs.map V.ref)) ∧ nlOk g F H qs xss := by
  obtain ⟨v, e, ⟨p, qs, rfl, e2, nd, h, r⟩, _⟩ := s.sl i _ hi
  exact ⟨p, qs, e2, e, nd, h, r⟩
/-- x[w] of a list of lists of one's own, as a place -/
theorem nl_ix {F A H : Hp} {σ : St} (s : Sta g B F A E σ H) {i : Nat} {ps : List Addr} {xss : List (List α)} {xs : List α} {w : Int} (hb : Px g B E E1 tb w) (hi : E[i]? = some (.ot ps (NL.mk xss))) (hi1 : E1[i]? = some (.ot ps (NL.mk xss))) (e1 : atI xss w = some xs) {Q : VK}
    (k : ∀ F' A' H' q, Sta g B F' A' E1 σ H' → Same F F' → (∀ F2 A2 H2 E2, Sta g B F2 A2 E2 σ H2 → E2[i]? = some (.ot ps (NL.mk xss)) → ∃ p qs j ws, ps = p :: qs ∧ ixN xss.length w = some j ∧ qs[j]? = some q ∧ H2 q = some (.lst ws) ∧ rps g F2 ws xs) → Q (.ref q) H') : (tOp (rIxL g.K) (tVar i) tb) σ H Q := by
  obtain ⟨p, qs, ep, es, nd, hp, r⟩ := nl_slot s hi
  refine ⟨.ref p, es, hb F A σ H s _ fun F1 A1 H1 u s1 f1 ru => ?_⟩
  obtain ⟨p', qs', ep', es', nd', hp', r'⟩ := nl_slot s1 hi1
  have hq : p' = p ∧ qs' = qs := by rw [ep] at ep'; cases ep'; exact ⟨rfl, rfl⟩
  obtain ⟨rfl, rfl⟩ := hq
  have ru : u = .int w := ru
  subst ru
  unfold atI at e1
  cases hx : ixN xss.length w with
  | none => rw [hx] at e1; cases e1
  | some j =>
    rw [hx] at e1
    obtain ⟨q, ws, hq, hw, rw_⟩ := nl_at r' (show xss[j]? = some xs from e1)
    refine ⟨p', qs'.map V.ref, w, .ref q, rfl, rfl, .of hp', ?_, k F1 A1 H1 q s1 f1 fun F2 A2 H2 E2 s2 hi2 => ?_⟩
    · unfold atI
      rw [List.length_map, nl_len r', hx]
      show (qs'.map V.ref)[j]? = _
      rw [List.getElem?_map, hq]; rfl
    · obtain ⟨p2, qs2, ep2, es2, nd2, hp2, r2⟩ := nl_slot s2 hi2
      have hq2 : p2 = p' ∧ qs2 = qs' := by rw [ep] at ep2; cases ep2; exact ⟨rfl, rfl⟩
      obtain ⟨rfl, rfl⟩ := hq2
      obtain ⟨q', ws', hq', hw', rw'⟩ := nl_at r2 (show xss[j]? = some xs from e1)
      rw [hq] at hq'; cases hq'
      exact ⟨p2, qs2, j, ws', ep2, hx, hq, hw', rw'⟩
theorem px_idxNL {i : Nat} {ps : List Addr} {xss : List (List α)} {xs : List α} {y : α} {w h : Int} (hb : Px g B E E1 tb w) (hc : Px g B E1 E2 tc h) (hi : E[i]? = some (.ot ps (NL.mk xss))) (hi1 : E1[i]? = some (.ot ps (NL.mk xss))) (hi2 : E2[i]? = some (.ot ps (NL.mk xss)))
    (e1 : atI xss w = some xs) (e2 : atI xs h = some y) : Px g B E E2 (tOp (rIxL g.K) (tOp (rIxL g.K) (tVar i) tb) tc) y := fun F A σ H s Q k =>
  nl_ix s hb hi hi1 e1 fun F1 A1 H1 q s1 f1 hq => hc F1 A1 σ H1 s1 _ fun F2 A2 H2 u s2 f2 ru => by
    obtain ⟨p, qs, j, ws, _, _, _, hw, r⟩ := hq F2 A2 H2 E2 s2 hi2
    have ru : u = .int h := ru
    subst ru
    unfold atI at e2
    cases hx : ixN xs.length h with
    | none => rw [hx] at e2; cases e2
    | some l =>
      rw [hx] at e2
      obtain ⟨z, e3, rz⟩ := rps_get r (show xs[l]? = some y from e2)
      refine ⟨q, ws, h, z, rfl, rfl, .of hw, ?_, k F2 A2 H2 z s2 (f1.trans f2) rz⟩
      unfold atI
      rw [rps_len r, hx]
      exact e3
/-- one of the lists is changed -/
theorem Sta.writeNL {F A H : Hp} {σ : St} (s : Sta g B F A E σ H) {i j : Nat} {p q : Addr} {qs : List Addr} {xss : List (List α)} {ws : List V} {ys : List α} (hi : E[i]? = some (.ot (p :: qs) (NL.mk xss))) (hq : qs[j]? = some q) (r : rps g F ws ys) : Sta g B F A (E.set i (.ot (p :: qs) (NL.mk (xss.set j ys)))) σ (upd H q (.lst ws)) := by
  have hiq : Inn E i q := ⟨_, hi, List.mem_cons_of_mem _ (List.mem_of_getElem? hq)⟩
  obtain ⟨f1, f2, f3⟩ := s.inq hiq
  obtain ⟨n1, n2, n3, n4⟩ := s.nn i q hiq
  have k : ∀ a, a ≠ q → (upd H q (.lst ws)) a = H a := fun a h => upd_ne h
  have hil : i < E.length := (List.getElem?_eq_some_iff.mp hi).1
  have own' : ∀ l a, Own (E.set i (.ot (p :: qs) (NL.mk (xss.set j ys)))) σ l a → Own E σ l a := fun l a ⟨h1, c, h2, h3⟩ => by
    by_cases hl : l = i
    · subst hl
      rw [List.getElem?_set_self hil] at h2; cases h2; exact h3.elim
    · rw [List.getElem?_set_ne (Ne.symm hl)] at h2
      exact ⟨h1, c, h2, h3⟩
  have inn' : ∀ l a, Inn (E.set i (.ot (p :: qs) (NL.mk (xss.set j ys)))) l a → Inn E l a := fun l a h => by
    rcases inn_set h with ⟨e, z⟩ | ⟨_, z⟩
    · subst e; exact ⟨_, hi, z⟩
    · exact z
  refine ⟨by simpa using s.len, s.fa, fun a u e => ?_, s.f0, s.a0, s.fr, fun a h => ?_, fun l c e => ?_, fun l l' a h1 h2 => s.ne l l' a (own' l a h1) (own' l' a h2), fun a u e => ?_, fun l a h => ?_⟩
  · rw [k a (ne_of_none e f2)]; exact s.ah _ _ e
  · have hne : a ≠ q := fun z => n3 (z ▸ h)
    rw [k a hne]; exact s.inn a h
  · by_cases hl : l = i
    · subst hl
      rw [List.getElem?_set_self hil] at e
      cases e
      obtain ⟨v, e1, ⟨p', qs', rfl, e2, nd, h, r2⟩, kk⟩ := s.sl l _ hi
      cases e2
      refine ⟨.ref p, e1, ⟨p, qs, rfl, rfl, nd, ?_, nl_set r (List.nodup_cons.mp nd).2 r2 hq⟩, kk⟩
      have hne : p ≠ q := fun z => (List.nodup_cons.mp nd).1 (z ▸ List.mem_of_getElem? hq)
      rw [k p hne]; exact h
    · rw [List.getElem?_set_ne (Ne.symm hl)] at e
      refine SlotOk.mono (Same.refl _) (Same.refl _) (fun a e1 h => ?_) (s.sl l c e) fun a h => ?_
      · have ow' : Own E σ l a := ⟨e1, _, e, h⟩
        obtain ⟨g1, g2, _⟩ := s.own ow'
        have hne : a ≠ q := fun z => n1 l (z ▸ ow')
        exact ⟨fun vs z => by rw [k a hne]; exact z, g1, g2⟩
      · have ow' : Inn E l a := ⟨_, e, h⟩
        obtain ⟨g1, g2, _⟩ := s.inq ow'
        have hne : a ≠ q := fun z => hl (n2 l (z ▸ ow'))
        exact ⟨fun vs z => by rw [k a hne]; exact z, g1, g2⟩
  · obtain ⟨h1, h2, h3⟩ := s.pr a u e
    exact ⟨by rw [k a (fun z => by rw [z, n4] at e; cases e)]; exact h1, h2, fun l z => h3 l (own' l a z)⟩
  · obtain ⟨h1, h2, h3, h4⟩ := s.nn l a (inn' l a h)
    exact ⟨fun m z => h1 m (own' m a z), fun m z => h2 m (inn' m a z), h3, h4⟩
/-- x[w][h] = e -/
theorem sx_setNL {D : Ends} {i : Nat} {ps : List Addr} {xss zss : List (List α)} {xs ys : List α} {y : α} {w h : Int} (hx : Px g B E E1 te y) (hb : Px g B E1 E2 tb w) (hc : Px g B E2 E3 tc h) (hi1 : E1[i]? = some (.ot ps (NL.mk xss))) (hi2 : E2[i]? = some (.ot ps (NL.mk xss))) (hi3 : E3[i]? = some (.ot ps (NL.mk xss)))
    (e1 : atI xss w = some xs) (e2 : setI xs h y = some ys) (e3 : setI xss w ys = some zss) (k : ∀ σ H, Sp' g B (E3.set i (.ot ps (NL.mk zss))) σ H → D.nx σ H) : Sx g B E (tAsg te (gSub (tOp (rIxL g.K) (tVar i) tb) tc rSetL)) D := fun F A σ H s =>
  hx F A σ H s _ fun F1 A1 H1 v s1 f1 rv => nl_ix s1 hb hi1 hi2 e1 fun F2 A2 H2 q s2 f2 hq => hc F2 A2 σ H2 s2 _ fun F3 A3 H3 u s3 f3 ru => by
    obtain ⟨p, qs, j, ws, ep, hj, hqj, hw, r⟩ := hq F3 A3 H3 E3 s3 hi3
    have ru : u = .int h := ru
    subst ru
    unfold setI at e2
    cases hn : ixN xs.length h with
    | none => rw [hn] at e2; cases e2
    | some n =>
      rw [hn] at e2
      cases e2
      unfold setI at e3
      rw [hj] at e3
      cases e3
      subst ep
      exact ⟨q, ws, h, n, rfl, rfl, hw, by rw [rps_len r]; exact hn, k _ _ ⟨F3, A3, s3.writeNL hi3 hqj (rps_set (Rp.mono (f2.trans f3) rv) n r)⟩⟩
/-- x[w].append(e) -/
theorem sx_appNL {D : Ends} {i : Nat} {ps : List Addr} {xss zss : List (List α)} {xs : List α} {y : α} {w : Int} (hb : Px g B E E1 tb w) (hx : Px g B E1 E2 te y) (hi : E[i]? = some (.ot ps (NL.mk xss))) (hi1 : E1[i]? = some (.ot ps (NL.mk xss))) (hi2 : E2[i]? = some (.ot ps (NL.mk xss)))
    (e1 : atI xss w = some xs) (hz : sz (xs.length + 1) = true) (e3 : setI xss w (xs ++ [y]) = some zss) (k : ∀ σ H, Sp' g B (E2.set i (.ot ps (NL.mk zss))) σ H → D.nx σ H) : Sx g B E (tDrop (tBM g.K "list" rAppend (tOp (rIxL g.K) (tVar i) tb) (tCons te tNil))) D := fun F A σ H s =>
  nl_ix s hb hi hi1 e1 fun F1 A1 H1 q s1 f1 hq => by
    obtain ⟨p, qs, j, ws, ep, hj, hqj, hw, r⟩ := hq F1 A1 H1 E1 s1 hi1
    refine ⟨.inl ⟨rfl, _, .of hw⟩, hx F1 A1 σ H1 s1 _ fun F2 A2 H2 v s2 f2 rv => ?_⟩
    obtain ⟨p', qs', j', ws', ep', hj', hqj', hw', r'⟩ := hq F2 A2 H2 E2 s2 hi2
    unfold setI at e3
    rw [hj'] at e3
    cases e3
    subst ep'
    exact ⟨q, ws', v, rfl, rfl, hw', by rw [rps_len r']; exact Nat.lt_of_lt_of_le (Nat.lt_succ_self _) (sz_ok hz), k _ _ ⟨F2, A2, s2.writeNL hi2 hqj' (rps_app r' ⟨rv, trivial⟩)⟩⟩
/-- x = [e, f] of new lists, both kept apart -/
theorem sx_asgNL2 {D : Ends} {i : Nat} {xs ys : List α} (ha : PxN g B E E1 ta xs) (hb : ∀ B', Nest g B B' → PxN g B' E1 E2 tb ys) (k : ∀ ps, ∀ σ H, Sp' g B (E2.set i (.ot ps (NL.mk [xs, ys]))) σ H → D.nx σ H) : Sx g B E (tAsg (tLst (tCons ta (tCons tb tNil))) (gName i)) D := fun F A σ H s =>
  ha F A σ H s _ fun F1 A1 H1 p1 vs1 s1 f1 n1 r1 => by
    obtain ⟨s1', nest⟩ := s1.aside n1
    refine hb _ nest F1 A1 σ H1 s1' _ fun F2 A2 H2 p2 vs2 s2' f2 n2 r2 => ⟨by show 2 ≤ sizeLine; decide, fun p3 h3 => ?_⟩
    obtain ⟨s2, n1'⟩ := s2'.back n1.P n1.ps
    have h12 : p2 ≠ p1 := fun z => by
      have := n2.P
      rw [z] at this
      have this : upd B.P p1 (.lst vs1) p1 = none := this
      rw [upd_same] at this; cases this
    have P2 : B.P p2 = none := by
      have := n2.P
      have this : upd B.P p1 (.lst vs1) p2 = none := this
      rw [upd_ne h12] at this; exact this
    obtain ⟨s3, n3⟩ := s2.alloc (o := .lst [.ref p1, .ref p2]) h3
    have h31 : p1 ≠ p3 := fun z => by have := n1'.at_; rw [z, h3] at this; cases this
    have h32 : p2 ≠ p3 := fun z => by have := n2.at_; rw [z, h3] at this; cases this
    have keep : ∀ q, q = p3 ∨ q = p1 ∨ q = p2 → F2 q = none ∧ A2 q = none ∧ (∀ j, ¬ Own E2 σ j q) ∧ (∀ j, ¬ Inn E2 j q) ∧ q ∉ B.ps ∧ B.P q = none := fun q h => by
      rcases h with rfl | rfl | rfl
      · exact ⟨n3.f, n3.a, n3.ne, n3.ni, n3.ps, n3.P⟩
      · exact ⟨n1'.f, n1'.a, n1'.ne, n1'.ni, n1'.ps, n1'.P⟩
      · exact ⟨n2.f, n2.a, n2.ne, n2.ni, n2.ps, P2⟩
    have mem : ∀ q, q ∈ [p3, p1, p2] → q = p3 ∨ q = p1 ∨ q = p2 := fun q h => by simpa using h
    refine k [p3, p1, p2] _ _ ⟨F2, A2, s3.setG (b := .ot [p3, p1, p2] (NL.mk [xs, ys])) ⟨.ref p3, rfl, ⟨p3, [p1, p2], rfl, rfl, ?_, upd_same, ⟨vs1, ?_, rps_mono f2 r1⟩, ⟨vs2, ?_, r2⟩, trivial⟩, fun q hq => ?_⟩ (fun _ _ z => z.elim) (fun q hq => ?_) (fun z => z.elim)⟩
    · simp only [List.nodup_cons, List.mem_cons, List.not_mem_nil, or_false, not_or, List.nodup_nil, and_true, not_false_eq_true]
      exact ⟨⟨Ne.symm h31, Ne.symm h32⟩, Ne.symm h12⟩
    · rw [upd_ne h31]; exact n1'.at_
    · rw [upd_ne h32]; exact n2.at_
    · obtain ⟨k1, k2, _⟩ := keep q (mem q hq)
      exact ⟨k1, k2⟩
    · obtain ⟨_, _, k3, k4, k5, k6⟩ := keep q (mem q hq)
      exact ⟨fun j _ => k3 j, fun j _ => k4 j, k5, k6⟩
/-- x[j] += e of ints -/
theorem sx_augI {D : Ends} {i : Nat} {b : Bd} {xs ys : List Int} {j y v z : Int} {f : Int → Int → Int} (hi : E[i]? = some b) (hj : Px g B E E1 tb j) (hi1 : E1[i]? = some b) (hx : Px g B E1 E2 te v) (hi2 : E2[i]? = some b) (ho : b.isO) (h : RdL b xs) (ea : atI xs j = some y) (ez : f y v = z) (e : setI xs j z = some ys)
    (k : ∀ σ H, Sp' g B (E2.set i (b.put ys)) σ H → D.nx σ H) : Sx g B E (tAugS (tVar i) tb te (rIxL g.K) (ipI f) rSetL) D := fun F A σ H s => by
  obtain ⟨p0, vs0, e0, _⟩ := own_at s hi ho h
  refine ⟨.ref p0, e0, hj F A σ H s _ fun F1 A1 H1 w s1 f1 rw => ?_⟩
  obtain ⟨p, vs, ep, hp, r⟩ := own_at s1 hi1 ho h
  rw [e0] at ep; cases ep
  have rw : w = .int j := rw
  subst rw
  unfold atI at ea
  unfold setI at e
  cases hn : ixN xs.length j with
  | none => rw [hn] at ea; cases ea
  | some n =>
    rw [hn] at ea e
    cases e
    obtain ⟨u, e3, ru⟩ := rps_get r (show xs[n]? = some y from ea)
    have ru : u = .int y := ru
    subst ru
    refine ⟨p0, vs, j, .int y, rfl, rfl, .of hp, ?_, hx F1 A1 σ H1 s1 _ fun F2 A2 H2 u s2 f2 ru => ?_⟩
    · unfold atI
      rw [rps_len r, hn]
      exact e3
    · have ru : u = .int v := ru
      subst ru
      obtain ⟨p', vs', ep', hp', r'⟩ := own_at s2 hi2 ho h
      rw [e0] at ep'; cases ep'
      refine ⟨y, v, rfl, rfl, p0, vs', j, n, rfl, rfl, hp', by rw [rps_len r']; exact hn, ?_⟩
      rw [ez]
      exact k _ _ ⟨F2, A2, s2.write (vs := vs') hi2 ho e0 (rps_set (x := z) (v := .int z) rfl n r')⟩
end
/-! equality of data within data -/
class Dq (α : Type) [Rp α] [DecidableEq α] where
  p : α → PyData
  n : Nat
  rd : ∀ {g : Gx} {H : Hp} {v : V} {x : α}, rp g H v x → Dp g.K H v (p x)
  eq : ∀ x y : α, PyData.eqv (p x) (p y) = decide (x = y)
  lay : ∀ x : α, (p x).canLay0 = true
  dep : ∀ x : α, (p x).depth ≤ n
instance : Dq Int := ⟨.int, 0, fun {g H v x} h => by
    have h : v = .int x := h
    subst h; exact .int x, fun x y => by rw [PyData.eqv]; rfl, fun x => by rw [PyData.canLay0], fun x => by rw [PyData.depth]; exact Nat.le_refl _⟩
instance : Dq Bool := ⟨.bool, 0, fun {g H v x} h => by
    have h : v = .bl x := h
    subst h; exact .bl x, fun x y => by rw [PyData.eqv]; cases x <;> cases y <;> rfl, fun x => by rw [PyData.canLay0], fun x => by rw [PyData.depth]; exact Nat.le_refl _⟩
section
variable {α β : Type} [Rp α] [DecidableEq α] [Dq α] [Rp β] [DecidableEq β] [Dq β]
theorem dq_all {g : Gx} {H : Hp} : ∀ {vs : List V} {xs : List α}, rps g H vs xs → DpAll g.K H vs (xs.map Dq.p)
  | [], [], _ => .nil
  | v :: vs, x :: xs, h => .cons (Dq.rd h.1) (dq_all h.2)
  | [], _ :: _, h => h.elim
  | _ :: _, [], h => h.elim
theorem dq_eq : ∀ xs ys : List α, PyData.eqvAll (xs.map Dq.p) (ys.map Dq.p) = decide (xs = ys)
  | [], [] => by simp [PyData.eqvAll]
  | x :: xs, y :: ys => by rw [List.map_cons, List.map_cons, PyData.eqvAll, Dq.eq, dq_eq xs ys]; simp
  | [], _ :: _ => by simp [PyData.eqvAll]
  | _ :: _, [] => by simp [PyData.eqvAll]
theorem dq_lay : ∀ xs : List α, PyData.canLayAll0 (xs.map Dq.p) = true
  | [] => by simp [PyData.canLayAll0]
  | x :: xs => by rw [List.map_cons, PyData.canLayAll0, Dq.lay, dq_lay xs]; rfl
theorem dq_dep : ∀ xs : List α, PyData.depthAll (xs.map Dq.p) ≤ Dq.n α
  | [] => by simp [PyData.depthAll]
  | x :: xs => by rw [List.map_cons, PyData.depthAll]; exact Nat.max_le.mpr ⟨Dq.dep x, dq_dep xs⟩
instance : Dq (List α) := ⟨fun xs => .list (xs.map Dq.p), Dq.n α + 1, fun {g H v x} h => by
    obtain ⟨p, vs, e, hp, r⟩ := h
    subst e
    exact .lst (.of hp) (dq_all r), fun x y => by rw [PyData.eqv, dq_eq], fun x => by rw [PyData.canLay0, dq_lay], fun x => by rw [PyData.depth]; exact Nat.succ_le_succ (dq_dep x)⟩
instance : Dq (α × β) := ⟨fun x => .tuple [Dq.p x.1, Dq.p x.2], max (Dq.n α) (Dq.n β) + 1, fun {g H v x} h => by
    obtain ⟨p, a, b, e, hp, r1, r2⟩ := h
    subst e
    exact .tup (.of hp) (.cons (Dq.rd r1) (.cons (Dq.rd r2) .nil)), fun x y => by
    rw [PyData.eqv, PyData.eqvAll, PyData.eqvAll, PyData.eqvAll, Dq.eq, Dq.eq]
    obtain ⟨a, b⟩ := x; obtain ⟨c, d⟩ := y
    simp, fun x => by rw [PyData.canLay0, PyData.canLayAll0, PyData.canLayAll0, PyData.canLayAll0, Dq.lay, Dq.lay]; rfl, fun x => by
    rw [PyData.depth, PyData.depthAll, PyData.depthAll, PyData.depthAll]
    have h1 := Dq.dep x.1
    have h2 := Dq.dep x.2
    omega⟩
theorem dq_shaped (h : Dq.n α ≤ 64) (x : α) : SeqAt.shaped (Dq.p x) = true := by
  unfold SeqAt.shaped
  rw [Dq.lay, decide_eq_true (Nat.le_trans (Dq.dep x) h)]; rfl
end
section
variable {g : Gx} {B : Bs} {E E1 E2 E3 : List Bd} {ta tb tc te : TE} {α : Type} [Rp α] [DecidableEq α] [Dq α]
theorem px_eqL {st st' : List Bd → Prop} {xs ys : List α} (ha : PxL g B E E1 ta xs st) (hb : PxL g B E1 E2 tb ys st') (hst : st E2) (hst' : st' E2) (hn : Dq.n α + 1 ≤ 64) : Px g B E E2 (tOp (rEqD g.K) ta tb) (decide (xs = ys)) := fun F A σ H s Q k =>
  ha F A σ H s _ fun F1 A1 H1 v s1 e1 rv => hb F1 A1 σ H1 s1 _ fun F2 A2 H2 w s2 e2 rw => by
    obtain ⟨p, vs, rfl, hp, r⟩ := rv F2 A2 H2 E2 s2 e2 hst
    obtain ⟨q, ws, rfl, hq, r'⟩ := rw F2 A2 H2 E2 s2 (Same.refl _) hst'
    have m := s2.fa.trans s2.ah
    have d1 : rp g H2 (V.ref p) xs := ⟨p, vs, rfl, hp, rps_mono m r⟩
    have d2 : rp g H2 (V.ref q) ys := ⟨q, ws, rfl, hq, rps_mono m r'⟩
    refine ⟨Dq.p xs, Dq.p ys, Dq.rd d1, Dq.rd d2, dq_shaped hn xs, dq_shaped hn ys, ?_⟩
    rw [Dq.eq]
    exact k F2 A2 H2 _ s2 (e1.trans e2) rfl
theorem px_neL {st st' : List Bd → Prop} {xs ys : List α} (ha : PxL g B E E1 ta xs st) (hb : PxL g B E1 E2 tb ys st') (hst : st E2) (hst' : st' E2) (hn : Dq.n α + 1 ≤ 64) : Px g B E E2 (tOp (rNeD g.K) ta tb) (!decide (xs = ys)) := fun F A σ H s Q k =>
  ha F A σ H s _ fun F1 A1 H1 v s1 e1 rv => hb F1 A1 σ H1 s1 _ fun F2 A2 H2 w s2 e2 rw => by
    obtain ⟨p, vs, rfl, hp, r⟩ := rv F2 A2 H2 E2 s2 e2 hst
    obtain ⟨q, ws, rfl, hq, r'⟩ := rw F2 A2 H2 E2 s2 (Same.refl _) hst'
    have m := s2.fa.trans s2.ah
    have d1 : rp g H2 (V.ref p) xs := ⟨p, vs, rfl, hp, rps_mono m r⟩
    have d2 : rp g H2 (V.ref q) ys := ⟨q, ws, rfl, hq, rps_mono m r'⟩
    refine ⟨Dq.p xs, Dq.p ys, Dq.rd d1, Dq.rd d2, dq_shaped hn xs, dq_shaped hn ys, ?_⟩
    rw [Dq.eq]
    exact k F2 A2 H2 _ s2 (e1.trans e2) rfl
theorem r2_eqT {x y : α} (hn : Dq.n α ≤ 64) : R2x g B E (rEqD g.K) x y (decide (x = y)) := fun F A σ H v w s rv rw Q q => by
  have m := s.fa.trans s.ah
  refine ⟨Dq.p x, Dq.p y, Dq.rd (Rp.mono m rv), Dq.rd (Rp.mono m rw), dq_shaped hn x, dq_shaped hn y, ?_⟩
  rw [Dq.eq]
  exact q F A H _ s (Same.refl _) rfl
theorem r2_neT {x y : α} (hn : Dq.n α ≤ 64) : R2x g B E (rNeD g.K) x y (!decide (x = y)) := fun F A σ H v w s rv rw Q q => by
  have m := s.fa.trans s.ah
  refine ⟨Dq.p x, Dq.p y, Dq.rd (Rp.mono m rv), Dq.rd (Rp.mono m rw), dq_shaped hn x, dq_shaped hn y, ?_⟩
  rw [Dq.eq]
  exact q F A H _ s (Same.refl _) rfl
end
end Gn
/-! Gn: for x in o, o of a class whose __iter__ tells iter(of a tuple). -/
namespace L2
open PySem PySem.Spec PyProof.Rows
/-- at it an iterator over the tuple at t -/
def TItO (t it : Addr) (i : Nat) : HO := .ext fun h => h.IsTupleIter it t i
theorem titO_ok {P : Program} {w : World} {H : Hp} {h : Heap} {t it : Addr} {i : Nat} (e : h.IsTupleIter it t i) : ObjOk P w H h it (TItO t it i) :=
  ⟨e, by obtain ⟨o, a, _⟩ := e; exact ⟨o, a⟩, fun h1 h2 q k => by obtain ⟨o, a, b⟩ := q; exact ⟨o, k o a, b⟩⟩
section
variable {prog : Program} {w : World} {A : Around} {E : Value → Shared → Prop} {s : Shared}
theorem call_iter_tup {t : Addr} {items : Array Value} {Q : Value → Shared → Prop} (ht : s.heap.IsTuple t items) (h : Q (.ref s.heap.objs.size) { s with heap := s.heap.push { cls := .type "tuple_iterator", data := .fields #[.ref t, .int 0 0] } }) :
    wpAny (model prog w) A (call (.builtin "iter") [.ref t]) Q E s := by
  refine Calls.call_function_entry (by decide +kernel) (by decide +kernel) PySem.W.kdk_entry_iter (PySem.W.kdk_args_iter _) ?_
  unfold Builtin.«iter»
  refine wpAny_bind (m := someArgs "iter" 1 2 _) (wpAny_of_eq (a := [Value.ref t]) (by first | rfl | kernel_rfl!) ?_)
  show wpAny _ _ (pyIter (.ref t) >>= _) _ _ _
  refine wpAny_bind (wpAny_pyIter_tuple ht ?_)
  exact wpAny_pure ⟨_, rfl, h⟩
end
/-- iter(t), t a tuple: an iterator that is new, from n on -/
def rIterT (K : PySem.W.Frag) (n : Nat) : List V → Hp → VK → Prop := fun xs H Q => ∃ (t : Addr) (zs : List V), xs = [.ref t] ∧ SqT K H t zs ∧ ∀ it, H it = Option.none → n ≤ it → Q (.ref it) (upd H it (TItO t it 0))
theorem call_iterT {X : Cx} {K : PySem.W.Frag} (hK : X.K = K) : CallR X (.builtin "iter") (rIterT K X.s_0.heap.objs.size) := by
  subst hK
  intro pins s σ H xs us Q I r h
  obtain ⟨t, zs, rfl, hq, q⟩ := h
  obtain rfl := Vals.ref1 r
  obtain ⟨its, rv, pl, hz⟩ := I.tuple hq
  refine call_iter_tup (show s.heap.IsTuple t its.toArray from pl) ?_
  exact ⟨.ref s.heap.objs.size, _, I.laid (t' := s.toks) (fun b u e => Heap.get?_push_of_some _ e) (Nat.le_refl _) (titO_ok ⟨_, Heap.get?_push_size _ rfl, rfl, rfl⟩), rfl, q _ (I.hok.fresh (Nat.le_refl _)) I.sz⟩
/-- fn_of at one entry -/
theorem fn_at {CX : CXT} {P : Program} {w : World} {K : PySem.W.Frag} {mg : Str → Option Value} {base : Heap} {k : Nat} {f : Addr} {name qual : Str} {params : Arguments} {body : List Stmt} {scope : Scope} {dV kV doc pm cdv ct oc : Value} {an od : Option Addr}
    {osl : Array (Option Value)} {N ps : List Str} (lk : K.lookup f = some ⟨oc, od, .func (PySem.W.fnOf name qual params body scope dV kV doc pm an cdv ct), osl⟩) (hcd : PySem.W.codeIn K cdv qual = true) (S : FnScope N ps scope)
    {A : Around} {outer : List Env} {s : Shared} {H : Hp} {args : Args} {us : List Value} {vs : List V} {Q : VK} {E : XK} (hl : vs.length = ps.length) (hr : Room (k + 1) A) (e0 : Env0 P w K mg base A outer s H)
    (hb : BindsTo s (PySem.W.fnOf name qual params body scope dV kV doc pm an cdv ct) args (ps.zip us)) (r : Vals vs us)
    (hbody : ∃ t, PSs (cxOf CX P w K mg base N qual scope f cdv A outer s H E) body t ∧ t { nx := fun _ H' => Q .non H', rt := Q } (start N vs) H) :
    codeAny (model P w) A (.call (.ref f) args) (CR CX outer P w H s Q E) s := by
  have KX : K.In s.heap := e0.mod.kin.keeps fun b o e => (e0.bs b o e).1
  have lim : s.heap.NoLimit := e0.mod.nolimit.keeps fun b o e => (e0.bs b o e).1
  have hkind : ∀ y ∈ ps.zip us, scope.names.lookup y.1 = some .local ∨ (scope.names.lookup y.1 = some .cell ∧ ((cellsFrom (s.heap.objs.size + 1) scope.names []).lookup y.1).isSome = true) := fun ⟨n, v⟩ hy => by
    rcases S.par n (List.of_mem_zip hy).1 with q | q
    · exact .inl q
    · exact .inr ⟨q, PySem.W.cellsFrom_some _ _ _ (.inl q)⟩
  refine codeAny_call_function hr.depth (KX _ _ lk) rfl S.co S.gen rfl (PySem.W.codeRec_of KX hcd) (hb _ _ _ _ ?_)
  refine wpAny_newFunctionEnv_cells S.kind hkind fun env he s1 x => ?_
  subst he
  refine ⟨lim.keeps x.toInCall.keep, codeAny_func ?_⟩
  obtain ⟨t, ht, hq⟩ := hbody
  have I : Inv (cxOf CX P w K mg base N qual scope f cdv A outer s H E) [] (start N vs) H s1 := inv_start S hr.hd e0 hl r x
  refine wpAny_mono (ht.run [] s1 (start N vs) H _ I hq) (fun fl s' hs => ?_) fun e s' hs => hs
  have fin : ∀ {σ' : St} {H' : Hp} {v : V} {u : Value}, Inv (cxOf CX P w K mg base N qual scope f cdv A outer s H E) [] σ' H' s' → RelV v u → Q v H' → CE outer P w H s Q u s' :=
    fun {σ' H' v u} J rv q => ⟨v, H', J.os, J.bare, J.base, J.hok, rv, q⟩
  cases fl with
  | ret u =>
    obtain ⟨v, σ', H', J, rv, q⟩ := hs
    exact fin J rv q
  | next =>
    obtain ⟨σ', H', J, q⟩ := hs
    exact fin (v := V.non) (u := Value.none) J rfl q
  | brk =>
    obtain ⟨_, _, _, q⟩ := hs
    exact False.elim q
  | cont =>
    obtain ⟨_, _, _, q⟩ := hs
    exact False.elim q
/-- an __iter__ that tells iter(self.fl) -/
structure IterFn (P : Program) (w : World) (K : PySem.W.Frag) (mg : Str → Option Value) (base : Heap) (C f : Addr) (fl : Str) : Prop where
  it : PySem.W.findIn K (.ref C) "__iter__" = some (some (.ref f))
  fn : PySem.W.isFn K (.ref f) = true
  go : ∃ (qual : Str) (st : Stmt) (fd : FuncData) (N : List Str), Fun K "__iter__" qual st f fd ∧ FnScope N ["self"] (defScope st) ∧ Binds K fd ["self"] [] ∧ (∀ v, (start N [v])[0]? = some (some v)) ∧
    ∀ (cdv : Value) (A : Around) (outer : List Env) (s : Shared) (H : Hp) (E : XK), PSs (cxOf (L2.CX P w) P w K mg base N qual (defScope st) f cdv A outer s H E) (defBody st) (tRet (tCB (rIterT K s.heap.objs.size) (tCons (tFld K (tVar 0) fl) tNil)))
/-- .. walked -/
def iOwn (K : PySem.W.Frag) (C : Addr) (fl : Str) (te : TE) : TI := fun σ H R => te σ H fun x H1 => ∃ a dx fs t zs, x = .ref a ∧ H1 a = some (.ins C dx fs) ∧ Cls K C ∧ PySem.W.findIn K (.ref C) fl = some none ∧ fs.lookup fl = some (.ref t) ∧ SqT K H1 t zs ∧ R (Itt K t) H1
theorem pi_own {X : Cx} {K : PySem.W.Frag} {tg e : Expr} {te : TE} {C f : Addr} {fl : Str} {k : Nat} (hK : X.K = K) (F : IterFn X.prog X.w K X.mg X.base C f fl) (hr : Room k X.A) (hk : 1 ≤ k) (he : PE X e te) : PI X tg e (iOwn K C fl te) := by
  subst hK
  refine ⟨fun pins s σ H R I h => ?_⟩
  refine thn (he.run pins s σ H _ I h) fun v s1 ⟨x, H1, I1, r1, q1⟩ => ?_
  obtain ⟨a, dx, fs, t, zs, e, ha, hc, hno, hl, hq, q⟩ := q1
  subst e
  obtain rfl : v = Value.ref a := r1
  obtain ⟨mA, J, _⟩ := ins_get I1.hok ha
  obtain ⟨od, J, _⟩ := J.look
  obtain ⟨m0, hF⟩ := I1.fr
  refine PySem.W.owit_iter hF I1.ok.mod.kin J F.it F.fn ?_
  obtain ⟨qual, st, fd, N, Fu, S, hb, hN, hbody⟩ := F.go
  obtain ⟨oc, od', kV, doc, pm, an, cdv, ct, osl, rfl, lk, hcd⟩ := Fu.ex
  obtain ⟨j, rfl⟩ : ∃ j, k = j + 1 := ⟨k - 1, by omega⟩
  let Q : VK := fun v H' => ∃ it, v = .ref it ∧ H1 it = none ∧ s1.heap.objs.size ≤ it ∧ H' = upd H1 it (TItO t it 0)
  have rv : Vals [V.ref a] [Value.ref a] := .cons rfl .nil
  refine wpAny_call (codeAny_mono (fn_at (CX := L2.CX X.prog X.w) (Q := Q) (E := E0) (us := [.ref a]) (vs := [.ref a]) lk hcd S rfl hr I1.env0 (by
    have := hb s1 [.ref a] I1.kIn rfl
    simpa using this) rv ⟨_, hbody cdv X.A X.stack s1 H1 E0, ?_⟩) fun r s' hq' => ?_)
  · refine ⟨V.ref a, hN _, a, C, dx, fs, _, rfl, ha, hc, hno, hl, t, zs, rfl, hq, fun it h1 h2 => ⟨it, rfl, h1, h2, rfl⟩⟩
  · cases r with
    | error e => exact absurd hq' (fun z => by obtain ⟨_, _, _, _, _, _, _, _, _, _, _, _, z⟩ := z; exact z)
    | ok fl' =>
      cases fl' with
      | next => exact False.elim hq'
      | brk => exact False.elim hq'
      | cont => exact False.elim hq'
      | ret u =>
        obtain ⟨v', H', os, bare, un, hok, rv', it, rfl, hn, hs, rfl⟩ := hq'
        obtain rfl : u = Value.ref it := rv'
        have hit : s'.heap.IsTupleIter it t 0 := (hok it _ upd_same).1
        have un' : Un (frs X.stack) [] H1 H1 s1.heap s'.heap := ⟨un.keep, un.slot, fun b o e n _ => n, un.there, fun b xs e => e, fun b o u e => e, fun b ps e => ⟨#[], by simpa using e⟩⟩
        have hok' : HOk X.prog X.w H1 s'.heap := fun b o e => by
          have hb : b ≠ it := ne_of_none e hn
          have := hok b o (by rw [upd_ne hb]; exact e)
          refine this.stay (fun c u _ h => h) (fun c h => ?_) fun c xs h => ?_
          · by_cases z : c = it
            · rw [z, upd_same] at h; cases h
            · rw [upd_ne z] at h; exact h
          · by_cases z : c = it
            · rw [z, upd_same] at h; cases h
            · rw [upd_ne z] at h; exact h
        have I2 : Inv X pins σ H1 s' := by
          obtain ⟨hh, g, d, tk, os'⟩ := s'
          obtain rfl : os' = s1.os := os
          exact I1.call (h' := hh) (g' := g) (d' := d) (t' := tk) (ch := []) un' hok' bare (fun b z => absurd z (by simp))
        unfold PySem.W.OwitIt
        refine wpAny_specialOf hit.typeIs PySem.F.slot_tuple_iterator_next.lookup ?_
        refine ⟨it, [it], _, _, H1, rfl, I2, turn_tuple t it, hit, fun b hb => ?_, q⟩
        have e : b = it := by simpa using hb
        subst e
        exact I1.fpOk hs hn
theorem pi_tupK {X : Cx} {K : PySem.W.Frag} {tg l : Expr} {tl : TE} (hK : X.K = K) (hl : PE X l tl) : PI X tg l (iTup K tl) := hK ▸ pi_tup hl
end L2
namespace Gn
open PySem L2
open Rp (rp)
/-- an attribute of the instances of C -/
def HasC (α β : Type) [Rp α] [Rp β] (g : Gx) (C : Addr) (f : Str) (pr : α → β) : Prop := ∀ H v (x : α), rp g H v x → ∃ a dx fs w, v = .ref a ∧ H a = some (.ins C dx fs) ∧ Cls g.K C ∧ NoAttr g.K C f ∧ fs.lookup f = some w ∧ rp g H w (pr x)
section
variable {g : Gx} {B : Bs} {E E1 E2 E3 : List Bd} {ta tb tc te : TE} {α β : Type} [Rp α] [Rp β]
theorem src_tup {F1 A1 H1 : Hp} {σ : St} {p : Addr} {vs : List V} {xs : List α} (s1 : Sta g B F1 A1 E1 σ H1) (hp : F1 p = some (.tup vs)) (r : rps g F1 vs xs) : Src g (B.to F1 A1) (Itt g.K p) xs := by
  have at_ : ∀ {F A E σ H}, Sta g (B.to F1 A1) F A E σ H → SqT g.K H p vs := fun s => .of (s.ah _ _ (s.a0 _ _ (s1.fa _ _ hp)))
  refine ⟨fun i F A E σ H hi s => ?_, fun F A E σ H s => ⟨vs, at_ s, by rw [rps_len r]; exact Nat.le_refl _⟩, fun B' i F A E σ H v' H' x nB hx s y => ?_⟩
  · rw [← rps_len r] at hi
    exact ⟨vs, vs[i], at_ s, by simp [hi]⟩
  · obtain ⟨e, y⟩ := y
    subst e
    obtain ⟨u, hu, ru⟩ := rps_get r hx
    have s0 := nB.2.2 _ _ _ _ _ s
    have := y vs (at_ s0)
    rw [hu] at this
    cases this
    exact ⟨F, A, s, Rp.mono s0.f0 ru⟩
theorem sr_tup {x : Tu α} (h : Px g B E E1 te x) : Sr g B E E1 (iTup g.K te) x.xs := fun F A σ H s R k =>
  h F A σ H s _ fun F1 A1 H1 v s1 e1 ⟨p, vs, ev, hp, r⟩ => by
    obtain ⟨s2, n⟩ := s1.rebase
    exact ⟨p, ev, ⟨vs, .of (s1.ah _ _ (s1.fa _ _ hp))⟩, k F1 A1 H1 (Itt g.K p) _ s2 n e1 (src_tup s1 hp r)⟩
theorem sr_own {C : Addr} {fl : Str} {x : α} {pr : α → Tu β} (hh : HasC α (Tu β) g C fl pr) (h : Px g B E E1 te x) : Sr g B E E1 (iOwn g.K C fl te) (pr x).xs := fun F A σ H s R k =>
  h F A σ H s _ fun F1 A1 H1 v s1 e1 rv => by
    obtain ⟨a, dx, fs, w, ev, ha, hc, hn, hl, p, vs, ew, hp, r⟩ := hh F1 v x rv
    obtain ⟨s2, n⟩ := s1.rebase
    subst ew
    exact ⟨a, dx, fs, p, vs, ev, s1.ah _ _ (s1.fa _ _ ha), hc, hn, hl, .of (s1.ah _ _ (s1.fa _ _ hp)), k F1 A1 H1 (Itt g.K p) _ s2 n e1 (src_tup s1 hp r)⟩
/-- t[i] of a tuple of any length -/
theorem px_ixTu {x : Tu α} {i : Int} {y : α} (ha : Px g B E E1 ta x) (hb : Px g B E1 E2 tb i) (e : atI x.xs i = some y) : Px g B E E2 (tOp (rIxT g.K) ta tb) y := fun F A σ H s Q k =>
  ha F A σ H s _ fun F1 A1 H1 v s1 e1 ⟨p, vs, ev, hp, r⟩ => hb F1 A1 σ H1 s1 _ fun F2 A2 H2 w s2 e2 rw => by
    have rw : w = .int i := rw
    subst rw; subst ev
    unfold atI at e
    cases h : ixN x.xs.length i with
    | none => rw [h] at e; cases e
    | some j =>
      rw [h] at e
      obtain ⟨u, e3, ru⟩ := rps_get r (show x.xs[j]? = some y from e)
      refine ⟨p, vs, i, u, rfl, rfl, .of (s2.ah _ _ (s2.fa _ _ (e2 _ _ hp))), ?_, k F2 A2 H2 u s2 (e1.trans e2) (Rp.mono e2 ru)⟩
      unfold atI
      rw [rps_len r, h]
      exact e3
/-- if t: of a tuple -/
theorem pt_truT {x : Tu α} (ha : Px g B E E1 te x) : PxT g B E E1 (fun σ H Q => te σ H fun x H' => ∃ k, TruV g.K x H' k ∧ Q k H') (!x.xs.isEmpty) := fun F A σ H s Q k =>
  ha F A σ H s _ fun F1 A1 H1 v s1 e1 ⟨p, vs, ev, hp, r⟩ => by
    subst ev
    refine ⟨!vs.isEmpty, .inr (.inl ⟨vs, .of (s1.ah _ _ (s1.fa _ _ hp)), rfl⟩), ?_⟩
    have e : vs.isEmpty = x.xs.isEmpty := by
      have := rps_len r
      cases vs <;> cases hx : x.xs <;> rw [hx] at this <;> first | rfl | (simp at this)
    rw [e]
    exact k F1 A1 H1 s1 e1
end
/-! ### dicts of one's own -/
class Ky (κ : Type) [Rp κ] [DecidableEq κ] where
  T : Type
  dec : DecidableEq T
  kk : κ → T
  inj : ∀ {x y : κ}, kk x = kk y → x = y
  ho : List (T × V) → HO
  isD : ∀ {H : Hp} {a : Addr} {ks : List (T × V)}, H a = some (ho ks) → IsD H a
  get : ∀ {g : Gx} {H : Hp} {a : Addr} {v : V} {x : κ} {ks : List (T × V)}, rp g H v x → H a = some (ho ks) → DGet H a v (@valV T dec ks (kk x))
  put : ∀ {g : Gx} {H : Hp} {a : Addr} {v w : V} {x : κ} {ks : List (T × V)}, rp g H v x → H a = some (ho ks) → ks.length < sizeLine → DPut H a v w (upd H a (ho (@putK T dec ks (kk x) w)))
instance instKyInt : Ky Int := ⟨Key, inferInstance, Sum.inl, fun h => Sum.inl.inj h, HO.dK, fun h => .inl ⟨_, .inl h⟩, fun {g H a v x ks} r h => by
    have r : v = .int x := r
    subst r
    exact DGet.k (k := Sum.inl x) h, fun {g H a v w x ks} r h hl => by
    have r : v = .int x := r
    subst r
    exact DPut.k (k := Sum.inl x) h hl⟩
instance instKyTx : Ky Tx := ⟨Key, inferInstance, fun t => Sum.inr (Tx.s t), fun h => Tx.s_inj (Sum.inr.inj h), HO.dK, fun h => .inl ⟨_, .inl h⟩, fun {g H a v x ks} r h => by
    have r : v = .str (Tx.s x) := r
    subst r
    exact DGet.k (k := Sum.inr (Tx.s x)) h, fun {g H a v w x ks} r h hl => by
    have r : v = .str (Tx.s x) := r
    subst r
    exact DPut.k (k := Sum.inr (Tx.s x)) h hl⟩
/-- keys within keys that are tuples -/
class Ka (κ : Type) [Rp κ] where
  k : κ → Key
  inj : ∀ {x y : κ}, k x = k y → x = y
  rd : ∀ {g : Gx} {H : Hp} {v : V} {x : κ}, rp g H v x → v = kV (k x)
instance : Ka Int := ⟨Sum.inl, fun h => Sum.inl.inj h, fun h => h⟩
instance : Ka Tx := ⟨fun t => Sum.inr (Tx.s t), fun h => Tx.s_inj (Sum.inr.inj h), fun h => h⟩
instance instKyP {κ κ' : Type} [Rp κ] [Rp κ'] [DecidableEq κ] [DecidableEq κ'] [Ka κ] [Ka κ'] : Ky (κ × κ') := ⟨List Key, inferInstance, fun x => [Ka.k x.1, Ka.k x.2], fun {x y} h => by
    simp only [List.cons.injEq, and_true] at h
    exact Prod.ext (Ka.inj h.1) (Ka.inj h.2), HO.dT, fun h => .inr ⟨_, .inl h⟩, fun {g H a v x ks} r h => by
    obtain ⟨p, u, w, e, hp, r1, r2⟩ := r
    subst e
    rw [Ka.rd r1, Ka.rd r2] at hp
    exact DGet.t (k := [Ka.k x.1, Ka.k x.2]) h hp, fun {g H a v w x ks} r h hl => by
    obtain ⟨p, u, z, e, hp, r1, r2⟩ := r
    subst e
    rw [Ka.rd r1, Ka.rd r2] at hp
    exact DPut.t (k := [Ka.k x.1, Ka.k x.2]) h hp hl⟩
def dget {κ α : Type} [DecidableEq κ] (kvs : List (κ × α)) (k : κ) : Option α := (kvs.find? fun kv => decide (kv.1 = k)).map (·.2)
def dput {κ α : Type} [DecidableEq κ] (kvs : List (κ × α)) (k : κ) (v : α) : List (κ × α) :=
  if (kvs.any fun kv => decide (kv.1 = k)) = true then kvs.map (fun kv => if kv.1 = k then (kv.1, v) else kv) else kvs ++ [(k, v)]
structure DK (κ α : Type) where
  kvs : List (κ × α)
section
variable {κ α : Type} [Rp κ] [DecidableEq κ] [Ky κ] [Rp α]
instance instKyDec : DecidableEq (Ky.T κ) := Ky.dec
def dkOk (g : Gx) (F : Hp) : List (Ky.T κ × V) → List (κ × α) → Prop
  | [], [] => True
  | (k, v) :: ks, (x, y) :: xs => k = Ky.kk x ∧ rp g F v y ∧ dkOk g F ks xs
  | _, _ => False
theorem dk_mono {g : Gx} {F F' : Hp} (s : Same F F') : ∀ {ks : List (Ky.T κ × V)} {xs : List (κ × α)}, dkOk g F ks xs → dkOk g F' ks xs
  | [], [], _ => trivial
  | (k, v) :: ks, (x, y) :: xs, h => ⟨h.1, Rp.mono s h.2.1, dk_mono s h.2.2⟩
  | [], _ :: _, h => h.elim
  | _ :: _, [], h => h.elim
theorem dk_len {g : Gx} {F : Hp} : ∀ {ks : List (Ky.T κ × V)} {xs : List (κ × α)}, dkOk g F ks xs → ks.length = xs.length
  | [], [], _ => rfl
  | (k, v) :: ks, (x, y) :: xs, h => by rw [List.length_cons, List.length_cons, dk_len h.2.2]
  | [], _ :: _, h => h.elim
  | _ :: _, [], h => h.elim
theorem dk_get {g : Gx} {F : Hp} {k : κ} : ∀ {ks : List (Ky.T κ × V)} {xs : List (κ × α)}, dkOk g F ks xs → (dget xs k = none ∧ valV ks (Ky.kk k) = none) ∨ ∃ y w, dget xs k = some y ∧ valV ks (Ky.kk k) = some w ∧ rp g F w y
  | [], [], _ => .inl ⟨rfl, rfl⟩
  | (k', v) :: ks, (x, y) :: xs, h => by
    obtain ⟨rfl, r, h⟩ := h
    by_cases e : x = k
    · subst e
      exact .inr ⟨y, v, by simp [dget, List.find?_cons], valV_pos rfl, r⟩
    · have e' : ¬ (Ky.kk x : Ky.T κ) = Ky.kk k := fun z => e (Ky.inj z)
      rw [valV_neg e']
      have : dget ((x, y) :: xs) k = dget xs k := by simp [dget, List.find?_cons, e]
      rw [this]
      exact dk_get h
  | [], _ :: _, h => h.elim
  | _ :: _, [], h => h.elim
theorem dk_any {g : Gx} {F : Hp} {k : κ} : ∀ {ks : List (Ky.T κ × V)} {xs : List (κ × α)}, dkOk g F ks xs → (ks.any fun kv => decide (kv.1 = Ky.kk k)) = (xs.any fun kv => decide (kv.1 = k))
  | [], [], _ => rfl
  | (k', v) :: ks, (x, y) :: xs, h => by
    obtain ⟨rfl, r, h⟩ := h
    rw [List.any_cons, List.any_cons, dk_any h]
    congr 1
    exact decide_eq_decide.mpr ⟨fun z => Ky.inj z, fun z => by have z : x = k := z; rw [z]⟩
  | [], _ :: _, h => h.elim
  | _ :: _, [], h => h.elim
theorem dk_map {g : Gx} {F : Hp} {k : κ} {w : V} {y : α} (r : rp g F w y) : ∀ {ks : List (Ky.T κ × V)} {xs : List (κ × α)}, dkOk g F ks xs → dkOk g F (ks.map fun kv => if kv.1 = Ky.kk k then (kv.1, w) else kv) (xs.map fun kv => if kv.1 = k then (kv.1, y) else kv)
  | [], [], _ => trivial
  | (k', v) :: ks, (x, z) :: xs, h => by
    obtain ⟨rfl, r', h⟩ := h
    rw [List.map_cons, List.map_cons]
    by_cases e : x = k
    · subst e
      rw [if_pos rfl, if_pos rfl]
      exact ⟨rfl, r, dk_map r h⟩
    · rw [if_neg (fun z => e (Ky.inj z)), if_neg e]
      exact ⟨rfl, r', dk_map r h⟩
  | [], _ :: _, h => h.elim
  | _ :: _, [], h => h.elim
theorem dk_app {g : Gx} {F : Hp} : ∀ {ks ks' : List (Ky.T κ × V)} {xs xs' : List (κ × α)}, dkOk g F ks xs → dkOk g F ks' xs' → dkOk g F (ks ++ ks') (xs ++ xs')
  | [], _, [], _, _, h => h
  | (k', v) :: ks, _, (x, z) :: xs, _, h, h' => ⟨h.1, h.2.1, dk_app h.2.2 h'⟩
  | [], _, _ :: _, _, h, _ => h.elim
  | _ :: _, _, [], _, h, _ => h.elim
theorem dk_put {g : Gx} {F : Hp} {k : κ} {w : V} {y : α} (r : rp g F w y) {ks : List (Ky.T κ × V)} {xs : List (κ × α)} (h : dkOk g F ks xs) : dkOk g F (putK ks (Ky.kk k) w) (dput xs k y) := by
  unfold putK dput
  rw [dk_any h]
  split
  · exact dk_map r h
  · exact dk_app h ⟨rfl, r, trivial⟩
instance instOdDK : Od (DK κ α) := ⟨fun g F H v x ps => ∃ p ks, v = .ref p ∧ ps = [p] ∧ H p = some (Ky.ho ks) ∧ dkOk g F ks x.kvs,
  fun {g F F' H H' v x ps} s k ⟨p, ks, e, e2, h, r⟩ => ⟨p, ks, e, e2, k p (by rw [e2]; exact List.mem_cons_self) _ h, dk_mono s r⟩,
  fun {g F H v x ps} ⟨p, ks, e, e2, h, r⟩ q hq => by
    rw [e2] at hq
    rw [List.mem_singleton.mp hq, h]; exact fun z => nomatch z⟩
variable {g : Gx} {B : Bs} {E E1 E2 E3 : List Bd} {ta tb tc te : TE}
theorem dk_slot {F A H : Hp} {σ : St} (s : Sta g B F A E σ H) {i : Nat} {ps : List Addr} {xs : List (κ × α)} (hi : E[i]? = some (.ot ps (DK.mk xs))) : ∃ p ks, ps = [p] ∧ σ[i]? = some (some (.ref p)) ∧ H p = some (Ky.ho ks) ∧ dkOk g F ks xs := by
  obtain ⟨v, e, ⟨p, ks, rfl, e2, h, r⟩, _⟩ := s.sl i _ hi
  exact ⟨p, ks, e2, e, h, r⟩
theorem dk_same {p p' : Addr} {ps : List Addr} (h : ps = [p]) (h' : ps = [p']) : p' = p := by rw [h] at h'; cases h'; rfl
/-- d[k] -/
theorem px_dix {i : Nat} {ps : List Addr} {xs : List (κ × α)} {k : κ} {y : α} (hk : Px g B E E1 tb k) (hi : E[i]? = some (.ot ps (DK.mk xs))) (hi1 : E1[i]? = some (.ot ps (DK.mk xs))) (e : dget xs k = some y) : Px g B E E1 (tDGet (tVar i) tb) y := fun F A σ H s Q kk => by
  obtain ⟨p, ks, ep, es, hp, r⟩ := dk_slot s hi
  refine ⟨.ref p, es, hk F A σ H s _ fun F1 A1 H1 v s1 e1 rv => ?_⟩
  obtain ⟨p', ks', ep', es', hp', r'⟩ := dk_slot s1 hi1
  have z := dk_same ep ep'
  subst z
  have m := s1.fa.trans s1.ah
  rcases dk_get (k := k) r' with ⟨h1, _⟩ | ⟨y', w, h1, h2, h3⟩
  · rw [e] at h1; cases h1
  · rw [e] at h1; cases h1
    exact ⟨p', w, rfl, h2 ▸ Ky.get (Rp.mono m rv) hp', kk F1 A1 H1 w s1 e1 h3⟩
/-- d.get(k, e) -/
theorem px_dget2 {i : Nat} {ps : List Addr} {xs : List (κ × α)} {k : κ} {y : α} (hk : Px g B E E1 tb k) (hy : Px g B E1 E2 tc y) (hi : E[i]? = some (.ot ps (DK.mk xs))) (hi2 : E2[i]? = some (.ot ps (DK.mk xs))) : Px g B E E2 (tDGet2 (tVar i) tb tc) ((dget xs k).getD y) := fun F A σ H s Q kk => by
  obtain ⟨p, ks, ep, es, hp, r⟩ := dk_slot s hi
  refine ⟨.ref p, es, p, rfl, Ky.isD hp, hk F A σ H s _ fun F1 A1 H1 v s1 e1 rv => hy F1 A1 σ H1 s1 _ fun F2 A2 H2 w s2 e2 rw => ?_⟩
  obtain ⟨p', ks', ep', es', hp', r'⟩ := dk_slot s2 hi2
  have z := dk_same ep ep'
  subst z
  have m := s2.fa.trans s2.ah
  rcases dk_get (k := k) r' with ⟨h1, h2⟩ | ⟨y', u, h1, h2, h3⟩
  · refine ⟨_, Ky.get (Rp.mono m (Rp.mono e2 rv)) hp', ?_⟩
    rw [h2]
    exact kk F2 A2 H2 w s2 (e1.trans e2) (by rw [h1]; exact rw)
  · refine ⟨_, Ky.get (Rp.mono m (Rp.mono e2 rv)) hp', ?_⟩
    rw [h2]
    exact kk F2 A2 H2 u s2 (e1.trans e2) (by rw [h1]; exact h3)
/-- d.get(k) -/
theorem px_dget1 {i : Nat} {ps : List Addr} {xs : List (κ × α)} {k : κ} (hk : Px g B E E1 tb k) (hi : E[i]? = some (.ot ps (DK.mk xs))) (hi1 : E1[i]? = some (.ot ps (DK.mk xs))) : Px g B E E1 (tDGet1 (tVar i) tb) (dget xs k) := fun F A σ H s Q kk => by
  obtain ⟨p, ks, ep, es, hp, r⟩ := dk_slot s hi
  refine ⟨.ref p, es, p, rfl, Ky.isD hp, hk F A σ H s _ fun F1 A1 H1 v s1 e1 rv => ?_⟩
  obtain ⟨p', ks', ep', es', hp', r'⟩ := dk_slot s1 hi1
  have z := dk_same ep ep'
  subst z
  have m := s1.fa.trans s1.ah
  refine ⟨_, Ky.get (Rp.mono m rv) hp', ?_⟩
  rcases dk_get (k := k) r' with ⟨h1, h2⟩ | ⟨y', u, h1, h2, h3⟩
  · rw [h2]
    exact kk F1 A1 H1 _ s1 e1 (by rw [h1]; rfl)
  · rw [h2]
    exact kk F1 A1 H1 u s1 e1 (by rw [h1]; exact h3)
/-- k in d, k not in d -/
theorem px_din {i : Nat} {ps : List Addr} {xs : List (κ × α)} {k : κ} (hk : Px g B E E1 tb k) (hi1 : E1[i]? = some (.ot ps (DK.mk xs))) : Px g B E E1 (tDIn tb (tVar i)) (dget xs k).isSome := fun F A σ H s Q kk =>
  hk F A σ H s _ fun F1 A1 H1 v s1 e1 rv => by
    obtain ⟨p', ks', ep', es', hp', r'⟩ := dk_slot s1 hi1
    have m := s1.fa.trans s1.ah
    refine ⟨.ref p', es', p', _, rfl, Ky.get (Rp.mono m rv) hp', ?_⟩
    rcases dk_get (k := k) r' with ⟨h1, h2⟩ | ⟨y', u, h1, h2, h3⟩
    · rw [h2]; exact kk F1 A1 H1 _ s1 e1 (by rw [h1]; rfl)
    · rw [h2]; exact kk F1 A1 H1 _ s1 e1 (by rw [h1]; rfl)
theorem px_dnin {i : Nat} {ps : List Addr} {xs : List (κ × α)} {k : κ} (hk : Px g B E E1 tb k) (hi1 : E1[i]? = some (.ot ps (DK.mk xs))) : Px g B E E1 (tDNotIn tb (tVar i)) (!(dget xs k).isSome) := fun F A σ H s Q kk =>
  hk F A σ H s _ fun F1 A1 H1 v s1 e1 rv => by
    obtain ⟨p', ks', ep', es', hp', r'⟩ := dk_slot s1 hi1
    have m := s1.fa.trans s1.ah
    refine ⟨.ref p', es', p', _, rfl, Ky.get (Rp.mono m rv) hp', ?_⟩
    rcases dk_get (k := k) r' with ⟨h1, h2⟩ | ⟨y', u, h1, h2, h3⟩
    · rw [h2]; exact kk F1 A1 H1 _ s1 e1 (by rw [h1]; rfl)
    · rw [h2]; exact kk F1 A1 H1 _ s1 e1 (by rw [h1]; rfl)
/-- the one object of a slot's data is changed -/
theorem Sta.writeOt {δ δ' : Type} [Od δ] [Od δ'] {F A H : Hp} {σ : St} (s : Sta g B F A E σ H) {i : Nat} {p : Addr} {x : δ} {y : δ'} {o : HO} (hi : E[i]? = some (.ot [p] x)) (hv : σ[i]? = some (some (.ref p))) (ho : Od.od g F (upd H p o) (.ref p) y [p]) : Sta g B F A (E.set i (.ot [p] y)) σ (upd H p o) := by
  have hiq : Inn E i p := ⟨_, hi, List.mem_cons_self⟩
  obtain ⟨f1, f2, f3⟩ := s.inq hiq
  obtain ⟨n1, n2, n3, n4⟩ := s.nn i p hiq
  have k : ∀ a, a ≠ p → (upd H p o) a = H a := fun a h => upd_ne h
  have hil : i < E.length := (List.getElem?_eq_some_iff.mp hi).1
  have own' : ∀ l a, Own (E.set i (.ot [p] y)) σ l a → Own E σ l a := fun l a ⟨h1, c, h2, h3⟩ => by
    by_cases hl : l = i
    · subst hl
      rw [List.getElem?_set_self hil] at h2; cases h2; exact h3.elim
    · rw [List.getElem?_set_ne (Ne.symm hl)] at h2
      exact ⟨h1, c, h2, h3⟩
  have inn' : ∀ l a, Inn (E.set i (.ot [p] y)) l a → Inn E l a := fun l a h => by
    rcases inn_set h with ⟨e, z⟩ | ⟨_, z⟩
    · subst e; exact ⟨_, hi, z⟩
    · exact z
  refine ⟨by simpa using s.len, s.fa, fun a u e => ?_, s.f0, s.a0, s.fr, fun a h => ?_, fun l c e => ?_, fun l l' a h1 h2 => s.ne l l' a (own' l a h1) (own' l' a h2), fun a u e => ?_, fun l a h => ?_⟩
  · rw [k a (ne_of_none e f2)]; exact s.ah _ _ e
  · have hne : a ≠ p := fun z => n3 (z ▸ h)
    rw [k a hne]; exact s.inn a h
  · by_cases hl : l = i
    · subst hl
      rw [List.getElem?_set_self hil] at e
      cases e
      exact ⟨_, hv, ho, fun q hq => by rw [List.mem_singleton.mp hq]; exact ⟨f1, f2⟩⟩
    · rw [List.getElem?_set_ne (Ne.symm hl)] at e
      refine SlotOk.mono (Same.refl _) (Same.refl _) (fun a e1 h => ?_) (s.sl l c e) fun a h => ?_
      · have ow' : Own E σ l a := ⟨e1, _, e, h⟩
        obtain ⟨g1, g2, _⟩ := s.own ow'
        have hne : a ≠ p := fun z => n1 l (z ▸ ow')
        exact ⟨fun vs z => by rw [k a hne]; exact z, g1, g2⟩
      · have ow' : Inn E l a := ⟨_, e, h⟩
        obtain ⟨g1, g2, _⟩ := s.inq ow'
        have hne : a ≠ p := fun z => hl (n2 l (z ▸ ow'))
        exact ⟨fun vs z => by rw [k a hne]; exact z, g1, g2⟩
  · obtain ⟨h1, h2, h3⟩ := s.pr a u e
    exact ⟨by rw [k a (fun z => by rw [z, n4] at e; cases e)]; exact h1, h2, fun l z => h3 l (own' l a z)⟩
  · obtain ⟨h1, h2, h3, h4⟩ := s.nn l a (inn' l a h)
    exact ⟨fun m z => h1 m (own' m a z), fun m z => h2 m (inn' m a z), h3, h4⟩
/-- d[k] = e -/
theorem sx_dput {D : Ends} {i : Nat} {ps : List Addr} {xs : List (κ × α)} {k : κ} {y : α} (hy : Px g B E E1 te y) (hk : Px g B E1 E2 tb k) (hi1 : E1[i]? = some (.ot ps (DK.mk xs))) (hi2 : E2[i]? = some (.ot ps (DK.mk xs))) (hz : sz (xs.length + 1) = true)
    (kk : ∀ σ H, Sp' g B (E2.set i (.ot ps (DK.mk (dput xs k y)))) σ H → D.nx σ H) : Sx g B E (sDPut (tVar i) tb te) D := fun F A σ H s =>
  hy F A σ H s _ fun F1 A1 H1 w s1 e1 rw => by
    obtain ⟨p, ks, ep, es, hp, r⟩ := dk_slot s1 hi1
    refine ⟨.ref p, es, hk F1 A1 σ H1 s1 _ fun F2 A2 H2 v s2 e2 rv => ?_⟩
    obtain ⟨p', ks', ep', es', hp', r'⟩ := dk_slot s2 hi2
    have z := dk_same ep ep'
    subst z
    subst ep
    have m := s2.fa.trans s2.ah
    refine ⟨p', _, rfl, Ky.put (Rp.mono m rv) hp' ?_, kk _ _ ⟨F2, A2, s2.writeOt hi2 es' ⟨p', _, rfl, rfl, upd_same, dk_put (Rp.mono e2 rw) r'⟩⟩⟩
    rw [dk_len r']
    exact Nat.lt_of_lt_of_le (Nat.lt_succ_self _) (sz_ok hz)
end
section
variable {g : Gx} {B : Bs} {E : List Bd}
theorem asg_ot {δ : Type} [Od δ] {F A H : Hp} {σ : St} (s : Sta g B F A E σ H) {i : Nat} {p : Addr} {o : HO} {x : δ} (hp : H p = none) (ho : Od.od g F (upd H p o) (.ref p) x [p]) : Sta g B F A (E.set i (.ot [p] x)) (σ.set i (some (.ref p))) (upd H p o) := by
  obtain ⟨s3, n⟩ := s.alloc (o := o) hp
  refine s3.setG (b := .ot [p] x) ⟨_, rfl, ho, fun q hq => ?_⟩ (fun _ _ z => z.elim) (fun q hq => ?_) (fun z => z.elim)
  · rw [List.mem_singleton.mp hq]; exact ⟨n.f, n.a⟩
  · rw [List.mem_singleton.mp hq]; exact ⟨fun j _ => n.ne j, fun j _ => n.ni j, n.ps, n.P⟩
/-- d = {} -/
theorem sx_asgDK {κ α : Type} [Rp κ] [DecidableEq κ] [Rp α] {D : Ends} {i : Nat} [Ky κ] (hho : (Ky.ho (κ := κ) [] : HO) = .dK []) (kk : ∀ ps, ∀ σ H, Sp' g B (E.set i (.ot ps (DK.mk ([] : List (κ × α))))) σ H → D.nx σ H) : Sx g B E (tAsg tDNewK (gName i)) D := fun F A σ H s =>
  fun p hp => kk [p] _ _ ⟨F, A, asg_ot s hp ⟨p, [], rfl, rfl, by rw [upd_same, hho], trivial⟩⟩
theorem sx_asgDT {κ α : Type} [Rp κ] [DecidableEq κ] [Rp α] {D : Ends} {i : Nat} [Ky κ] (hho : (Ky.ho (κ := κ) [] : HO) = .dT []) (kk : ∀ ps, ∀ σ H, Sp' g B (E.set i (.ot ps (DK.mk ([] : List (κ × α))))) σ H → D.nx σ H) : Sx g B E (tAsg tDNewT (gName i)) D := fun F A σ H s =>
  fun p hp => kk [p] _ _ ⟨F, A, asg_ot s hp ⟨p, [], rfl, rfl, by rw [upd_same, hho], trivial⟩⟩
end
end Gn
/-! Gn: max(xs, default=d); max of two pairs; xs[::-1]. -/
namespace L2
open PySem PySem.Spec PyProof.Rows
section
variable {prog : Program} {w : World} {A : Around} {E : Value → Shared → Prop} {s : Shared}
theorem call_max_twoH {a b : Value} {Q : Value → Shared → Prop}
    (h : wpAny (model prog w) A.in1 (pyIter (.ref s.heap.objs.size)) (fun it s₂ => ∃ I fp wr G n P St H bt, it = .ref I ∧ WalksS prog w A.in1 I fp wr G n P St ∧ St 0 s₂ ∧ (∀ b ∈ fp, b < s₂.heap.objs.size) ∧ 0 < n ∧
      (∀ b o, H.get? b = some o → b ∉ wr) ∧ (∀ b o, H.get? b = some o → s₂.heap.get? b = some o) ∧ CmpIn prog w A.in1 .Gt H P bt ∧ ∀ v s', P (argBest bt (n - 1)) v → Moved wr G s₂ s' → Q v s') E { s with heap := s.heap.push { cls := .type "tuple", data := .seq #[a, b] } }) :
    wpAny (model prog w) A (call (.builtin "max") [a, b]) Q E s := by
  have hname : (toString "max" ++ toString ".loop" : String) = "max.loop" := by decide
  refine call_function_tree F.kind_max F.plain_max F.entry_max (F.args_max2 _ _) ?_
  show wpAny _ A.in1 (Builtin.Builtins.bindParams "max" ["key", "default"] 0 ⟨[], []⟩ >>= _) _ _ s
  refine wpAny_bind (wpAny_of_eq (show Builtin.Builtins.bindParams "max" ["key", "default"] 0 ⟨[], []⟩ = pure [none, none] from rfl) ?_)
  show wpAny _ A.in1 (newTuple [a, b] >>= _) _ _ s
  refine wpAny_bind (wpAny_newObj_type ?_)
  refine wpAny_bind (wpAny_mono h (fun it s₂ h₂ => ?_) fun _ _ e => e)
  obtain ⟨I, fp, wr, G, n, P, St, H, bt, rfl, W, hst, hfp, hn, hw, hkeep, hcmp, hQ⟩ := h₂
  refine wpAny_bind (wpAny_newObj_type ?_)
  have hSf : s₂.heap.objs.size ∉ fp := fun hm => Nat.lt_irrefl _ (hfp _ hm)
  rw [hname]
  refine wpAny_pure ⟨plainId_quiet F.plain_max_loop _, codeAny_max_loop_firstH W H hw bt hcmp s₂.heap.objs.size hSf (fresh_in hkeep) _ hn (fun b o e => Heap.get?_push_of_some _ (hkeep b o e)) (W.frame 0 s₂ _ s₂.toks hst (Nat.le_refl _) fun b _ o e => Heap.get?_push_of_some _ e) (Heap.get?_push_size _ rfl) fun v s' hP hm => ?_⟩
  exact hQ v s' hP (Moved.drop_new (tk := s₂.toks) hm (Nat.le_refl _))
/-- (i1, i2) > (j1, j2) -/
def gtP (i1 i2 j1 j2 : Int) : Bool := if i1 = j1 then decide (j2 < i2) else decide (j1 < i1)
theorem rc_pair {A : Around} {s : Shared} {a b : Addr} {i1 i2 j1 j2 : Int} {t1 t2 u1 u2 : Tok} (ha : s.heap.IsTuple a #[.int i1 t1, .int i2 t2]) (hb : s.heap.IsTuple b #[.int j1 u1, .int j2 u2]) (hu : A.units < cLine) :
    Ob.RcOp .Gt A s (.ref a) (.ref b) (gtP i1 i2 j1 j2) := by
  have R := Ob.RcOp.tuples_gt (A := A) (s := s) (e := fun j => decide ([i1, i2].getD j 0 = [j1, j2].getD j 0)) (r := fun j => decide ([j1, j2].getD j 0 < [i1, i2].getD j 0)) ha hb hu (fun j h1 h2 => by
    have eqb : ∀ x y : Int, (x == y) = decide (x = y) := fun x y => by
      by_cases q : x = y
      · rw [decide_eq_true q]; exact beq_iff_eq.mpr q
      · rw [decide_eq_false q]; exact beq_eq_false_iff_ne.mpr q
    rw [← eqb]
    match j, h1, h2 with
    | 0, _, _ => exact SeqAt.EqAt.int_int _ _ _ _
    | 1, _, _ => exact SeqAt.EqAt.int_int _ _ _ _) (fun j h1 h2 _ => by
    match j, h1, h2 with
    | 0, _, _ => exact Ob.RcOp.gt_int _ _ _ _
    | 1, _, _ => exact Ob.RcOp.gt_int _ _ _ _)
  have e : Ob.lexAt (fun j => decide ([i1, i2].getD j 0 = [j1, j2].getD j 0)) (fun j => decide ([j1, j2].getD j 0 < [i1, i2].getD j 0)) (decide (2 > 2)) 0 2 = gtP i1 i2 j1 j2 := by
    unfold gtP
    show (if decide (i1 = j1) = true then (if decide (i2 = j2) = true then decide (2 > 2) else decide (j2 < i2)) else decide (j1 < i1)) = _
    by_cases h1 : i1 = j1
    · rw [if_pos (decide_eq_true h1), if_pos h1]
      by_cases h2 : i2 = j2
      · rw [if_pos (decide_eq_true h2)]; subst h2; simp
      · rw [if_neg (by simpa using h2)]
    · rw [if_neg (by simpa using h1), if_neg h1]
  rw [← e]
  exact R
end
section
variable {X : Cx}
/-- max(t, u) of two pairs of ints -/
def rMaxP (K : PySem.W.Frag) : List V → Hp → VK → Prop := fun xs H Q => ∃ (a b : Addr) (i1 i2 j1 j2 : Int), xs = [.ref a, .ref b] ∧ SqT K H a [.int i1, .int i2] ∧ SqT K H b [.int j1, .int j2] ∧ Q (.ref (if gtP j1 j2 i1 i2 = true then b else a)) H
theorem vals_pair {i1 i2 : Int} {its : List Value} (r : Vals [V.int i1, V.int i2] its) : ∃ t1 t2, its = [.int i1 t1, .int i2 t2] := by
  obtain ⟨u, w', rfl, ⟨t, rfl⟩, ⟨t', rfl⟩⟩ := vals2 r
  exact ⟨t, t', rfl⟩
theorem call_maxP (hc : X.calm = true) (hu : X.A.units + 1 < cLine) : CallR X (.builtin "max") (rMaxP X.K) := by
  intro pins s σ H xs us Q I r h
  obtain ⟨a, b, i1, i2, j1, j2, rfl, ha, hb, q⟩ := h
  obtain ⟨u, w', rfl, r1, r2⟩ := vals2 r
  obtain rfl : u = Value.ref a := r1
  obtain rfl : w' = Value.ref b := r2
  obtain ⟨its, rv, p, _⟩ := I.tuple ha
  obtain ⟨its2, rv2, p2, _⟩ := I.tuple hb
  obtain ⟨t1, t2, rfl⟩ := vals_pair rv
  obtain ⟨u1, u2, rfl⟩ := vals_pair rv2
  have p : s.heap.IsTuple a #[.int i1 t1, .int i2 t2] := p
  have p2 : s.heap.IsTuple b #[.int j1 u1, .int j2 u2] := p2
  have hT : (s.heap.push { cls := .type "tuple", data := .seq #[.ref a, .ref b] }).IsTuple s.heap.objs.size #[.ref a, .ref b] := ⟨_, Heap.get?_push_size _ rfl, rfl, 0, rfl⟩
  refine call_max_twoH (PySem.W.iter_tupleW (A := X.A.in1) (s := { s with heap := s.heap.push { cls := .type "tuple", data := .seq #[.ref a, .ref b] } }) (I.ok.hd hc) hT fun s₂ e W st hfp hw hk => ?_)
  have keep : ∀ {h' : Heap} {c : Addr} {its : Array Value}, (∀ d o, (s.heap.push { cls := .type "tuple", data := .seq #[.ref a, .ref b] }).get? d = some o → h'.get? d = some o) → s.heap.IsTuple c its → h'.IsTuple c its := fun k ⟨o, ho, r⟩ => ⟨o, k _ _ (Heap.get?_push_of_some _ ho), r⟩
  refine ⟨_, _, _, _, _, _, _, _, (fun i j => if i = 0 then (if j = 0 then gtP i1 i2 i1 i2 else gtP i1 i2 j1 j2) else (if j = 0 then gtP j1 j2 i1 i2 else gtP j1 j2 j1 j2)), rfl, W, st, hfp, by show 0 < 2; decide, hw, hk, ?_, fun v s' hP m => ?_⟩
  · intro i j vi vj s3 Q3 E3 hk3 hi hj hq
    have q1 := keep hk3 p
    have q2 := keep hk3 p2
    have hi : [Value.ref a, Value.ref b][i]? = some vi := by simpa using hi
    have hj : [Value.ref a, Value.ref b][j]? = some vj := by simpa using hj
    have hu' : X.A.in1.units < cLine := hu
    match i, hi with
    | 0, hi =>
      obtain rfl : Value.ref a = vi := Option.some.inj hi
      match j, hj with
      | 0, hj => obtain rfl : Value.ref a = vj := Option.some.inj hj; exact rc_pair q1 q1 hu' _ _ _ _ hq
      | 1, hj => obtain rfl : Value.ref b = vj := Option.some.inj hj; exact rc_pair q1 q2 hu' _ _ _ _ hq
    | 1, hi =>
      obtain rfl : Value.ref b = vi := Option.some.inj hi
      match j, hj with
      | 0, hj => obtain rfl : Value.ref a = vj := Option.some.inj hj; exact rc_pair q2 q1 hu' _ _ _ _ hq
      | 1, hj => obtain rfl : Value.ref b = vj := Option.some.inj hj; exact rc_pair q2 q2 hu' _ _ _ _ hq
  · obtain ⟨h', tk, rfl, hk'⟩ := PySem.W.moved_old e rfl m
    refine ⟨_, H, I.kept (fun d o ed => hk' d o (Heap.get?_push_of_some _ ed)), ?_, q⟩
    have hP : [Value.ref a, Value.ref b][if gtP j1 j2 i1 i2 = true then 1 else 0]? = some v := by
      have : #[Value.ref a, Value.ref b][argBest (fun i j => if i = 0 then (if j = 0 then gtP i1 i2 i1 i2 else gtP i1 i2 j1 j2) else (if j = 0 then gtP j1 j2 i1 i2 else gtP j1 j2 j1 j2)) 1]? = some v := hP
      simpa [argBest] using this
    by_cases hg : gtP j1 j2 i1 i2 = true
    · rw [if_pos hg] at hP ⊢
      obtain rfl : Value.ref b = v := Option.some.inj hP
      rfl
    · rw [if_neg hg] at hP ⊢
      obtain rfl : Value.ref a = v := Option.some.inj hP
      rfl
theorem call_maxPK {K : PySem.W.Frag} (h : X.K = K) (hc : X.calm = true) (hu : X.A.units + 1 < cLine) : CallR X (.builtin "max") (rMaxP K) := h ▸ call_maxP hc hu
/-- max(xs, default=d) of ints -/
def rMaxDf (K : PySem.W.Frag) : List V → List V → Hp → VK → Prop := fun vs zs H Q => ∃ (a : Addr) (ns : List Int) (d : Int), vs = [.ref a] ∧ zs = [.int d] ∧ SqL K H a (ns.map V.int) ∧ (ns = [] → Q (.int d) H) ∧ ∀ m, m ∈ ns → (∀ y, y ∈ ns → y ≤ m) → Q (.int m) H
theorem call_maxDf (hc : X.calm = true) : CallRK X (.builtin "max") [Str.ofString "default"] (rMaxDf X.K) := by
  intro pins s σ H vs zs us ws Q I r rz h
  obtain ⟨a, ns, d, rfl, rfl, hs, q0, q1⟩ := h
  obtain ⟨its, rv, hl, hz⟩ := I.list hs
  obtain rfl := Vals.ref1 r
  obtain ⟨u, rfl, t, rfl⟩ := vals1 rz
  have hi : IntsAre its ns := rv.ints
  have at1 : ∀ j (h1 : j < its.length), ∃ t, its[j] = .int (ns.getD j 0) t := fun j h1 => PyProof.Rows.IntsAre.int_at hi _ _ (by simp [h1])
  have hlen : its.length = ns.length := hi.length
  show wpAny _ _ (call (.builtin "max") [.ref a] [(Str.ofString "default", .int d t)]) _ _ _
  refine call_max_walkD (PySem.W.iter_listW (A := X.A.in1) (I.ok.hd hc) (show s.heap.IsList a its.toArray from hl.isList) fun s₂ e W st hfp hw hk => ?_)
  have hat : ∀ i v, its.toArray[i]? = some v → ∃ t, v = Value.int (ns.getD i 0) t := fun i v e => by
    rw [List.getElem?_toArray] at e
    obtain ⟨h1, e2⟩ := List.getElem?_eq_some_iff.mp e
    obtain ⟨t, et⟩ := at1 i h1
    exact ⟨t, by rw [← e2, et]⟩
  refine ⟨_, _, _, _, _, _, _, _, (fun i j => decide (ns.getD i 0 > ns.getD j 0)), rfl, W, st, hfp, hw, hk, fun hz s' m => ?_, fun hp => ⟨fun i j vi vj s3 Q3 E3 hk3 hi hj hq => ?_, fun v s' hP m => ?_⟩⟩
  · obtain ⟨h', tk, rfl, hk'⟩ := PySem.W.moved_old e rfl m
    refine ⟨.int d, H, I.kept hk', ⟨t, rfl⟩, q0 (List.eq_nil_of_length_eq_zero ?_)⟩
    rw [← hlen]; simpa using hz
  · exact (CmpOf.ints_gt (P := fun i v => its.toArray[i]? = some v) (fun i => ns.getD i 0) hat) i j vi vj s3 Q3 E3 hi hj hq
  · obtain ⟨h', tk, rfl, hk'⟩ := PySem.W.moved_old e rfl m
    obtain ⟨t', rfl⟩ := hat _ _ hP
    obtain ⟨h1, h2⟩ := argBest_gt (fun i => ns.getD i 0) (its.toArray.size - 1)
    have hsz : its.toArray.size = ns.length := by rw [List.size_toArray]; exact hlen
    refine ⟨.int _, H, I.kept hk', ⟨t', rfl⟩, q1 _ ?_ fun y hy => ?_⟩
    · exact PySem.getD_mem (by omega)
    · obtain ⟨j, hj, rfl⟩ := mem_getD hy
      exact h2 j (by omega)
theorem call_maxDfK {K : PySem.W.Frag} (h : X.K = K) (hc : X.calm = true) : CallRK X (.builtin "max") [Str.ofString "default"] (rMaxDf K) := h ▸ call_maxDf hc
theorem pe_revLK {K : PySem.W.Frag} (h : X.K = K) {e : Expr} {te : TE} {k : Nat} {p1 p2 p3 pos : Pos} (he : PE X e te) : PE X (.Subscript e (.Slice none none (some (.UnaryOp .USub (.Constant (.int 1) k p1) p2)) p3) pos) (tRevL K te) := h ▸ pe_revL he
end
end L2
namespace Gn
open PySem L2
open Rp (rp)
section
variable {g : Gx} {B : Bs} {E E1 E2 E3 : List Bd} {ta tb tc te : TE} {α : Type} [Rp α]
/-- the greater of two pairs, the first one where neither is -/
def maxP (x y : Int × Int) : Int × Int := if gtP y.1 y.2 x.1 x.2 = true then y else x
theorem px_maxP {x y : Int × Int} (ha : Px g B E E1 ta x) (hb : Px g B E1 E2 tb y) : Px g B E E2 (tCB (rMaxP g.K) (tCons ta (tCons tb tNil))) (maxP x y) := fun F A σ H s Q k =>
  ha F A σ H s _ fun F1 A1 H1 v s1 e1 rv => hb F1 A1 σ H1 s1 _ fun F2 A2 H2 w s2 e2 rw => by
    obtain ⟨p, u1, u2, ev, hp, r1, r2⟩ := Rp.mono e2 rv
    obtain ⟨p', w1, w2, ew, hp', r1', r2'⟩ := rw
    have r1 : u1 = .int x.1 := r1
    have r2 : u2 = .int x.2 := r2
    have r1' : w1 = .int y.1 := r1'
    have r2' : w2 = .int y.2 := r2'
    subst ev ew r1 r2 r1' r2'
    have m := s2.fa.trans s2.ah
    refine ⟨p, p', x.1, x.2, y.1, y.2, rfl, .of (m _ _ hp), .of (m _ _ hp'), ?_⟩
    unfold maxP at k
    by_cases hg : gtP y.1 y.2 x.1 x.2 = true
    · rw [if_pos hg] at k ⊢
      exact k F2 A2 H2 _ s2 (e1.trans e2) ⟨p', _, _, rfl, hp', rfl, rfl⟩
    · rw [if_neg hg] at k ⊢
      exact k F2 A2 H2 _ s2 (e1.trans e2) ⟨p, _, _, rfl, hp, rfl, rfl⟩
theorem px_maxDf {st : List Bd → Prop} {xs : List Int} {d : Int} (ha : PxL g B E E1 ta xs st) (hd : Px g B E1 E2 tb d) (hst : st E2) : Px g B E E2 (tCKw (rMaxDf g.K) (tCons ta tNil) (tCons tb tNil)) (xs.max?.getD d) := fun F A σ H s Q k =>
  ha F A σ H s _ fun F1 A1 H1 v s1 e1 rv => hd F1 A1 σ H1 s1 _ fun F2 A2 H2 w s2 e2 rw => by
    obtain ⟨p, vs, ev, hp, r⟩ := rv F2 A2 H2 E2 s2 e2 hst
    have rw : w = .int d := rw
    subst ev rw
    rw [rps_int.mp r] at hp
    refine ⟨p, xs, d, rfl, rfl, .of hp, fun h0 => ?_, fun m h1 h2 => ?_⟩
    · subst h0
      exact k F2 A2 H2 _ s2 (e1.trans e2) rfl
    · cases hm : xs.max? with
      | none => rw [List.max?_eq_none_iff] at hm; rw [hm] at h1; cases h1
      | some z =>
        rw [max_un hm h1 h2]
        exact k F2 A2 H2 _ s2 (e1.trans e2) (by rw [hm]; rfl)
theorem px_getO {x : Option α} {y : α} (h : Px g B E E1 te x) (e : x = some y) : Px g B E E1 te y := by
  subst e
  exact fun F A σ H s Q k => h F A σ H s Q fun F1 A1 H1 v s1 e1 rv => k F1 A1 H1 v s1 e1 rv
/-- xs[::-1] -/
theorem pn_rev {st : List Bd → Prop} {xs : List α} (ha : PxL g B E E1 te xs st) (hst : st E1) : PxN g B E E1 (tRevL g.K te) xs.reverse := fun F A σ H s Q k =>
  ha F A σ H s _ fun F1 A1 H1 v s1 e1 rv => by
    obtain ⟨p, vs, ev, hp, r⟩ := rv F1 A1 H1 E1 s1 (Same.refl _) hst
    exact ⟨p, vs, ev, .of hp, new_of s1 e1 (rps_rev r) k⟩
end
end Gn
/-! Gn: own exceptions whose __init__ says super().__init__('..') and then sets one attribute. -/
namespace L2
open PySem PySem.Spec PyProof.Rows
/-- what stands behind such an __init__ -/
structure SupC (P : Program) (K : PySem.W.Frag) (C f : Addr) (fd : FuncData) (fl : Str) : Prop where
  oex : OexC K C
  th : PySem.W.nsIn K PySem.cStatics "thirdparty.any" = some none
  up : PySem.W.ks_superIn K C C "__init__" = some (some (.builtin "ValueError.__init__"))
  sub : PySem.W.subIn K (.ref C) (.type "ValueError") = some true
  self : PySem.W.mroIn K C (.ref C) = some true
  na : PySem.W.findIn K (.ref C) fl = some none
  sup : PySem.W.nsIn K mainGlobals "super" = some none
  top : (P.main.scope.names.lookup ("super" : Str)).isSome = false
  ex : ∃ (oc ccl cl : Value) (od cdd cld : Option Addr) (osl ccs csl : Array (Option Value)) (cc cda : Addr) (vs : Array Value) (file : Str) (tf : Tok) (name qual : Str) (params : Arguments) (body : List Stmt) (scope : Scope) (dV kV doc pm ct : Value) (an : Option Addr) (ar : Arg) (kd m : Str) (j : Nat) (p0 p1 p2 p3 p4 p5 p6 p7 p8 p9 : Pos),
    fd = PySem.W.ksFn name qual params body scope dV kV doc pm an (.ref cda) ct cc ∧ K.lookup f = some ⟨oc, od, .func fd, osl⟩ ∧ PySem.W.codeIn K (.ref cda) qual = true ∧
    K.lookup cda = some ⟨ccl, cdd, .fields vs, ccs⟩ ∧ vs[2]? = some (.str file tf) ∧ ((P.main.file : Str) == file) = true ∧ K.lookup cc = some ⟨cl, cld, .cell (some (.ref C)), csl⟩ ∧
    (params.posonlyargs ++ params.args).head? = some ar ∧ ar.arg = "self" ∧
    body = [.Expr (.Call (.Attribute (.Call (.Name "super" p0) [] [] p1) "__init__" p2) [.Constant (.str m) j p3] [] p4) p5, .Assign [.Attribute (.Name "self" p6) fl p7] (.Name kd p8) p9] ∧
    (∀ x ∈ scope.names, x.2 ≠ .cell) ∧ scope.names.lookup ("super" : Str) = some .globalImplicit ∧ scope.names.lookup ("__class__" : Str) = some .free ∧ scope.names.lookup ("self" : Str) = some .local ∧ scope.names.lookup kd = some .local ∧
    kd = fl ∧ (kd == ("self" : Str)) = false ∧ (kd == ("__debug__" : Str)) = false ∧ scope.isCoroutine = false ∧ scope.isGenerator = false ∧ scope.kind = .function ∧
    ∀ L : Addr, interactive (PySem.callEnv fd L f) = false ∧ swapsWith (.Call (.Attribute (.Call (.Name "super" p0) [] [] p1) "__init__" p2) [.Constant (.str m) j p3] [] p4) none p5.line (PySem.callEnv fd L f) = pure false ∧
      (∃ pl : Sem Bool, eval (.Call (.Attribute (.Call (.Name "super" p0) [] [] p1) "__init__" p2) [.Constant (.str m) j p3] [] p4) (PySem.callEnv fd L f) = (do
        let ov ← attributeBase (.Call (.Name "super" p0) [] [] p1) "__init__" (PySem.callEnv fd L f) (eval (.Call (.Name "super" p0) [] [] p1) (PySem.callEnv fd L f))
        standAt p2.atName
        let (f', first) ← holding [ov] (getMethod ov "__init__" pl)
        callWith p4 f' first (backTo p4 (starEach [.Constant (.str m) j p3] (PySem.callEnv fd L f))) [])) ∧
      swapsWith (.Name kd p8) (some (.Attribute (.Name "self" p6) fl p7)) p9.line (PySem.callEnv fd L f) = pure false ∧
      starEach [.Constant (.str m) j p3] (PySem.callEnv fd L f) = (false, eval (.Constant (.str m) j p3) (PySem.callEnv fd L f)) :: starEach [] (PySem.callEnv fd L f)
def spOex (C : Addr) (fl : Str) : Sp := fun vs H Q _ => ∃ (a : Addr) (v : V), vs = [.ref a, v] ∧ H a = some (exo a C none) ∧ ∀ d, H d = none → d ≠ a → Q .non (upd (upd H d (exd d [(fl, v)])) a (exo a C (some d)))
theorem fn_super {CX : CXT} {P : Program} {w : World} {K : PySem.W.Frag} {mg : Str → Option Value} {base : Heap} {C f : Addr} {fd : FuncData} {fl : Str} (hmg : mg "super" = none) (T : SupC P K C f fd fl) : FnOk P w K mg base CX 1 f fd ["self", fl] (spOex C fl) := by
  refine ⟨fun vs H Q E h => by obtain ⟨_, _, rfl, _⟩ := h; rfl, fun A outer s H args us vs Q E hr e0 hb r hsp => ?_⟩
  obtain ⟨oc, ccl, cl, od, cdd, cld, osl, ccs, csl, cc, cda, vsd, file, tf, name, qual, params, body, scope, dV, kV, doc, pm, ct, an, ar, kd, m, j, p0, p1, p2, p3, p4, p5, p6, p7, p8, p9, rfl, lk, hcd, hcode, hvs, hfile, hcell, hp, har, rfl, hnc, hks, hkc, hkself, hkk, hkf, hks2, hkdb, hco, hgen, hk, hsh⟩ := T.ex
  subst hkf
  obtain ⟨a, v, rfl, ea, q⟩ := hsp
  obtain ⟨u1, u, rfl, r1, r2⟩ := vals2 r
  obtain rfl : u1 = Value.ref a := r1
  have KX : K.In s.heap := e0.mod.kin.keeps fun b o e => (e0.bs b o e).1
  have lim : s.heap.NoLimit := e0.mod.nolimit.keeps fun b o e => (e0.bs b o e).1
  obtain ⟨nm, qn, N, bs, bm, sn, sub, ab, col, dd, k0, k1, k2, k3, k5, hC, hbm⟩ := T.oex.cls
  have hcl : PySem.W.clsIn K C = some { name := nm, bases := bs, mro := .ref C :: bm, ns := N, qualname := qn, hasDict := true, slotNames := sn, subclasses := sub, abstract := ab, collection := col, hasDel := false } := by unfold PySem.W.clsIn; rw [hC] <;> rfl
  obtain ⟨t1, ho⟩ := exo_at e0.hok ea
  obtain ⟨mb, hb1, hb2⟩ := e0.mod.blt
  refine PySem.ks_codeAny_call_defAt hr.depth (KX _ _ lk) rfl lim (PySem.W.codeRec_of KX hcd) rfl hb hnc (fun y hy => ?_) (fun h₀ hns hk₀ => ?_) hco hgen hk
  · have : y = (("self" : Str), Value.ref a) ∨ y = (kd, u) := by simpa using hy
    rcases this with rfl | rfl
    · exact hkself
    · exact hkk
  have nself : (("self" : Str) == kd) = false := by
    cases z : (("self" : Str) == kd) with
    | false => rfl
    | true =>
      rw [← eq_of_beq z] at hks2
      simp at hks2
  have gl : h₀.Ns mainGlobals mg := (e0.mod.glob.keeps fun b o e => (e0.bs b o e).1).keeps hk₀
  have bl : h₀.Ns builtinsNs mb := (hb1.keeps fun b o e => (e0.bs b o e).1).keeps hk₀
  have K0 : K.In h₀ := KX.keeps hk₀
  have ho0 := hk₀ _ _ ho
  have hD0 := K0 _ _ hC
  obtain ⟨hp0, g, d, t, os⟩ := s
  obtain ⟨hin, hsw, ⟨pl, hev⟩, hsw2, hse⟩ := hsh hp0.objs.size
  refine PySem.ks_wpAt_execs_cons (PySem.ks_wpAt_Expr_any (PySem.ks_wpAt_MethodCall (pl := pl) ?_ hev) hin hsw)
  refine PySem.ks_wpAt_super_base (cc := cda) (env := PySem.callEnv _ _ f) hks hkc (by decide) rfl (K0 _ _ lk) rfl hp rfl (K0 _ _ hcode) rfl hvs hfile T.top ?_
  refine PySem.W.ks_loadName_global hk hks (Calls.loadGlobal_builtin (env := PySem.callEnv _ _ f) gl hmg bl ((hb2 _ (by decide)).trans (by first | rfl | decide +kernel)) ⟨rfl, ?_⟩)
  refine PySem.wpAny_loadName_free hk hkc rfl ⟨_, K0 _ _ hcell, rfl⟩ ?_
  refine PySem.wpAny_loadName_local (m := fun x => [(("self" : Str), Value.ref a), (kd, u)].reverse.lookup x) (v := .ref a) hk (by rw [har]; exact hkself) hns (by rw [har]; show List.lookup ("self" : Str) [(kd, u), ("self", Value.ref a)] = _; rw [List.lookup, nself]; rfl) ?_
  refine PySem.ks_wpAny_isType_cls hD0 rfl ⟨rfl, ?_⟩
  have I0 : PySem.W.InstAt h₀ a _ C none := ⟨ho0, rfl, rfl, trivial⟩
  refine PySem.ks_wpAny_call_super hD0 rfl I0.at_ I0.cls (fun c e => by cases e) (PySem.W.looks_mroIn K0 T.self) (fun h1 e1 q1 => ?_)
  have K1 : K.In h1 := K0.keeps q1
  have hC1 : PySem.W.Looks (model P w) h1 (mroOf (.ref C)) (.ref C :: bm) := fun A Q E s k q => wpAny_bind ((PySem.W.looks_clsIn K1 hcl) A _ E s k (wpAny_pure q))
  have I1 : PySem.W.InstAt h1 a _ C none := ⟨q1 _ _ ho0, rfl, rfl, trivial⟩
  have hup : PySem.W.alongIn K "__init__" ((((Value.ref C :: bm).dropWhile (· != .ref C)).drop 1)) = some (some (.builtin "ValueError.__init__")) := by
    have := T.up
    unfold PySem.W.ks_superIn at this
    rw [hcl] at this
    exact this
  refine PySem.W.kxs_getMethod PySem.W.kxs_ValueError e1 (PySem.W.looks_opaque K1 T.th) hC1 rfl K1 hup (I1.type.andThen (PySem.W.looks_subIn K1 T.sub)) (PySem.W.ks_ne K1 I1 hcl) (by decide) ?_
  have q2 : ∀ b o, h1.get? b = some o → (h1.push (PySem.W.kxs_mw "ValueError.__init__" a)).get? b = some o := fun b o e => Heap.get?_push_of_some _ e
  have k2 : ∀ b o, hp0.get? b = some o → (h1.push (PySem.W.kxs_mw "ValueError.__init__" a)).get? b = some o := fun b o e => q2 _ _ (q1 _ _ (hk₀ _ _ e))
  have mw2 : (h1.push (PySem.W.kxs_mw "ValueError.__init__" a)).get? h1.objs.size = some (PySem.W.kxs_mw "ValueError.__init__" a) := Heap.get?_push_size _ rfl
  have ne2 : h1.objs.size ≠ a := fun z => by have := Heap.lt_size (q1 _ _ ho0); rw [← z] at this; exact Nat.lt_irrefl _ this
  dsimp only
  rw [hse]
  refine PySem.W.kxs_callWith (i := "ValueError.__init__") (x := a) rfl (PySem.Calls.evalArgs_plain ?_)
  show wpAny _ _ (spliced (backTo p4 ((false, eval (.Constant (.str m) j p3) _) :: starEach [] _))) _ _ _
  rw [← hse]
  refine args_cons (wpAny_Constant_str (args_nil ⟨mw2, ?_⟩)) hse
  show wpAny _ _ (call (.ref h1.objs.size) [_]) _ _ _
  refine wpAny_call (codeAny_of_tree ?_)
  show wpAny _ _ (callAny (.ref h1.objs.size) ⟨[_], []⟩) _ _ _
  simp only [callAny]
  refine wpAny_bind (wpAny_load mw2 ?_)
  simp only [PySem.W.kxs_mw, show (Value.type "method-wrapper" == Value.type "method" || Value.type "method-wrapper" == Value.type "builtin_function_or_method" || Value.type "method-wrapper" == Value.type "method-wrapper") = true by decide, if_true]
  refine PySem.W.KFB.if_so (by decide) ?_
  have ho2 := k2 _ _ ho
  have K2 : K.In (h1.push (PySem.W.kxs_mw "ValueError.__init__" a)) := K1.keeps q2
  refine wpAny_bind (PySem.W.check_bound_init F.excBase_ValueError.toExcCallFacts (K2 _ _ hC) ho2 rfl ?_)
  refine wpAny_bind (wpAny_pure (wpAny_pure ?_))
  refine ⟨plainId_quiet F.excBase_ValueError.init.plain _, codeAny_builtin F.excBase_ValueError.initEntry ?_⟩
  refine PySem.W.exc_init_tree (cls := .ref C) (t0 := t1) (dv := none) (c2 := .none) (c3 := .none) (b4 := .bool false) ho2 (by show 1 ≤ sizeLine; rw [sizeLine_eq]; omega) (fun h3 q3 ho3 _ => ?_)
  have q03 : ∀ b o, b ≠ a → hp0.get? b = some o → h3.get? b = some o := fun b o hb e => q3 b o hb (k2 b o e)
  have hlt : ∀ {b : Addr} {o : Obj}, hp0.get? b = some o → b < hp0.objs.size := fun e => Heap.lt_size e
  have hns3 : h3.Ns hp0.objs.size (fun x => [(("self" : Str), Value.ref a), (kd, u)].reverse.lookup x) := by
    obtain ⟨o, es, ep, hL, rr⟩ := hns
    have nL : hp0.objs.size ≠ a := fun z => by have := hlt ho; rw [← z] at this; exact Nat.lt_irrefl _ this
    exact ⟨o, es, ep, q3 _ _ nL (q2 _ _ (q1 _ _ hL)), rr⟩
  refine PySem.ks_wpAt_execs_cons (PySem.ks_wpAt_Assign_Attr (PySem.wpAt_of_wpAny (wpAny_Name (PySem.wpAny_loadName_local (v := u) hk hkk hns3 (by show List.lookup kd [(kd, u), ("self", Value.ref a)] = _; rw [List.lookup, beq_self_eq_true]) ?_) hkdb)) hsw2)
  refine wpAny_Name (PySem.wpAny_loadName_local (v := .ref a) hk hkself hns3 (by show List.lookup ("self" : Str) [(kd, u), ("self", Value.ref a)] = _; rw [List.lookup, nself]; rfl) ?_) (by decide)
  have K3 : K.In h3 := fun b o e => q03 b o (fun z => by
    have := (e0.bs b o (e0.mod.kin _ _ e)).2
    rw [z, ea] at this; cases this) (KX _ _ e)
  refine PySem.W.set_plain K3 (ox := { cls := .ref C, dict := none, data := .fields #[.ref _, .none, .none, .none, .bool false, .none] }) (od := none) ⟨ho3, rfl, rfl, trivial⟩ T.oex.sa ?_
  refine PySem.HandSPX.exc_osa K3 ho3 hcl (show PySem.HandSPX.refsVE (.ref C :: bm) = true from hbm) rfl T.na (fun h4 tk' dx q4 dn dne hx hn => ?_)
  have q04 : ∀ b o, b ≠ a → hp0.get? b = some o → h4.get? b = some o := fun b o hb e => q4 b o hb (q03 b o hb e)
  have hnd0 : hp0.get? dx = none := by
    cases z : hp0.get? dx with
    | none => rfl
    | some o => exact absurd (Heap.lt_size (q03 _ _ dne z)) (Nat.not_lt.mpr dn)
  have hnd : H dx = none := HOk.gone e0.hok hnd0
  have nd : ∀ {b : Addr} {o : Obj}, hp0.get? b = some o → b ≠ dx := fun {b o} q z => by rw [z, hnd0] at q; cases q
  have na : ∀ {b : Addr}, H b = none → b ≠ a := fun {b} n z => by
    rw [z, ea] at n
    cases n
  have Un1 : Un (frs outer) [] H (upd (upd H dx (exd dx [(kd, v)])) a (exo a C (some dx))) hp0 h4 := {
    keep := fun b o q n _ _ => q04 b o (na n) q
    slot := fun b o q n _ _ => ⟨o.slots, q04 b o (na n) q⟩
    free := fun b o q n _ => by rw [upd_ne (na n), upd_ne (nd q)]; exact n
    there := fun b o q _ => by
      by_cases hb : b = a
      · exact ⟨_, by rw [hb]; exact hx⟩
      · exact ⟨o, q04 b o hb q⟩
    tups := fun b xs q => by rw [upd_ne (at_ne ea q exo_tup), upd_ne (ne_of_none q hnd)]; exact q
    frzs := fun b o v q => by rw [upd_ne (at_ne ea q exo_frz), upd_ne (ne_of_none q hnd)]; exact q
    tbls := fun b ps q => ⟨#[], by rw [upd_ne (at_ne ea q exo_tbl), upd_ne (ne_of_none q hnd), q]; simp⟩ }
  have hokF : HOk P w (upd (upd H dx (exd dx [(kd, v)])) a (exo a C (some dx))) h4 := fun b o q => by
    by_cases hb : b = a
    · subst hb
      rw [upd_same] at q
      cases q
      exact exo_ok hx
    · rw [upd_ne hb] at q
      by_cases hd : b = dx
      · subst hd
        rw [upd_same] at q
        cases q
        exact exd_ok hn (relO_put (fs := []) r2 fun g => True.intro)
      · rw [upd_ne hd] at q
        exact (e0.hok b o q).stay (fun c v hc z => q04 c v (by
            rcases hc with hc | hc
            · rw [hc]
              exact hb
            · exact at_ne ea hc exo_own) z)
          (fun c hc => by rw [upd_ne (at_ne ea hc exo_own), upd_ne (ne_of_none hc hnd)]; exact hc) (fun c xs hc => by rw [upd_ne (at_ne ea hc exo_tup), upd_ne (ne_of_none hc hnd)]; exact hc)
  refine PySem.wpAt_of_wpAny (wpAny_execs_nil ?_)
  exact ⟨.non, _, rfl, e0.bare, Un1, hokF, rfl, q dx hnd dne⟩
end L2
/-! Gn: exceptions with one attribute: raised, caught, read. -/
namespace L2
open PySem PySem.Spec PyProof.Rows
def rIsP (K : PySem.W.Frag) (D a dd : Addr) : List V → Hp → VK → Prop := fun xs H Q => (∃ fs, H dd = some (.xd fs)) ∧ rIsE K D a xs H Q
theorem call_isP {X : Cx} {a D dd : Addr} {oe : Obj} {pn : List (Addr × Obj)} (C : ExcC X.K D) (hz : Zc (.ref D) (some dd) oe) (hf : ∃ vs, oe.data = .fields vs) : CallR (X.suite a ((a, oe) :: pn)) (.builtin "isinstance") (rIsP X.K D a dd) := by
  intro pins s σ H xs us Q I r h
  obtain ⟨⟨fs, hdd⟩, c, cv, b, rfl, hcv, e, q⟩ := h
  cases r with
  | cons rx rr =>
    cases rr with
    | cons rt rr =>
      cases rr
      cases rx
      have ec := hcv _ rt
      subst ec
      obtain ⟨hget, _⟩ := I.pin (a, oe) (List.mem_append.mpr (.inl List.mem_cons_self))
      obtain ⟨vs, hv⟩ := hf
      obtain ⟨mA, hns, _⟩ := (show ObjOk X.prog X.w H s.heap dd (.xd fs) from I.hok dd _ hdd)
      obtain ⟨od, ho, _⟩ := lookIn_ns hns
      have J : PySem.W.InstAt s.heap a oe D (some od) := by
        obtain ⟨oc, od', oda, osl⟩ := oe
        obtain ⟨h1, h2⟩ := hz
        dsimp only at h1 h2 hv
        subst h1 h2 hv
        exact ⟨hget, rfl, rfl, ho⟩
      have hcl : (PySem.W.clsIn X.K D).isSome = true := by obtain ⟨cd, hc, _⟩ := PySem.W.any_some C.hd; rw [hc]; rfl
      exact PySem.W.kia_one (PySem.W.kitx_exc hcl C.hg C.hk C.hs C.ha C.hn C.ht C.hm) I.kIn J e (fun z => nomatch z) fun tk => ⟨.bl b, H, I.kept (t' := tk) fun _ _ z => z, rfl, q⟩
theorem refs_of_tail : ∀ l : List Value, PySem.W.excTail PySem.HandSPX.veTail l = true → PySem.HandSPX.refsVE l = true := by
  intro l
  induction l with
  | nil => intro e; exact e
  | cons a r ih =>
    intro e
    rcases PySem.W.excTail_cases (a :: r) e with ⟨c, r', q, h⟩ | q
    · obtain ⟨rfl, rfl⟩ := List.cons.inj q
      exact ih h
    · rw [q]; decide
theorem oex_mk {K : PySem.W.Frag} {C : Addr} (q : PySem.W.excInitIn K C [.type "ValueError", .type "Exception", .type "BaseException", .type "object"] "ValueError.__new__" = true) (hd : PySem.W.hasDictIn K C = true) (sa : PySem.W.findIn K (.ref C) "__setattr__" = some (some (.builtin "object.__setattr__")))
    (exC : PySem.W.subIn K (.ref C) (.type "BaseException") = some true) (tyC : PySem.W.typeIn K (.ref C) = some (.type "type")) (kC : PySem.W.keepIn K (.ref C) = true) : OexC K C := by
  refine ⟨?_, sa, exC, tyC, kC⟩
  unfold PySem.W.hasDictIn PySem.W.clsIn at hd
  unfold PySem.W.excInitIn at q
  split at q
  · rename_i dd cd sl ho
    rw [ho] at hd
    split at q
    · rename_i C' bm k0 k1 k2 k3 n k5 hm hs
      simp only [Bool.and_eq_true, beq_iff_eq, Bool.not_eq_true'] at q
      obtain ⟨⟨⟨rfl, rfl⟩, hdel⟩, ht⟩ := q
      obtain ⟨nm, bs, mro, ns, qn, hd', sn, sub, ab, col, del⟩ := cd
      have hd : hd' = true := by simpa [Option.any] using hd
      dsimp only at hm hdel
      subst hm hdel hd
      have hsl : sl = #[k0, k1, k2, k3, some (.builtin "ValueError.__new__"), k5] := by
        obtain ⟨l⟩ := sl
        simp only at hs
        rw [hs]
      subst hsl
      exact ⟨nm, qn, ns, bs, bm, sn, sub, ab, col, dd, k0, k1, k2, k3, k5, ho, refs_of_tail _ ht⟩
    · cases q
  · cases q
end L2
namespace Gn
open PySem L2
open Rp (rp)
instance instDecT3 {α β γ : Type} [DecidableEq α] [DecidableEq β] [DecidableEq γ] : DecidableEq (T3 α β γ) := fun x y => decidable_of_iff (x.a = y.a ∧ x.b = y.b ∧ x.c = y.c) (by cases x; cases y; simp)
/-- data that are compared if their texts are in order -/
class Dg (α : Type) [Rp α] [DecidableEq α] where
  p : α → PyData
  n : Nat
  ok : α → Bool
  rd : ∀ {g : Gx} {H : Hp} {v : V} {x : α}, rp g H v x → Dp g.K H v (p x)
  eq : ∀ x y : α, PyData.eqv (p x) (p y) = decide (x = y)
  lay : ∀ x : α, ok x = true → (p x).canLay0 = true
  dep : ∀ x : α, (p x).depth ≤ n
instance instDgTx : Dg Tx := ⟨fun t => .str (Tx.s t), 0, fun t => PyData.strOk (Tx.s t), fun {g H v x} h => by
    have h : v = .str (Tx.s x) := h
    subst h; exact .str _, fun x y => by
    rw [PyData.eqv]
    by_cases h : x = y
    · subst h; simp
    · rw [decide_eq_false h]
      exact beq_eq_false_iff_ne.mpr fun z => h (Tx.s_inj z), fun x h => by rw [PyData.canLay0]; exact h, fun x => by rw [PyData.depth]; exact Nat.le_refl _⟩
instance instDgInt : Dg Int := ⟨Dq.p, Dq.n Int, fun _ => true, fun h => Dq.rd h, Dq.eq, fun x _ => Dq.lay x, Dq.dep⟩
instance instDgBool : Dg Bool := ⟨Dq.p, Dq.n Bool, fun _ => true, fun h => Dq.rd h, Dq.eq, fun x _ => Dq.lay x, Dq.dep⟩
section
variable {α β γ : Type} [Rp α] [DecidableEq α] [Dg α] [Rp β] [DecidableEq β] [Dg β] [Rp γ] [DecidableEq γ] [Dg γ]
instance instDgP : Dg (α × β) := ⟨fun x => .tuple [Dg.p x.1, Dg.p x.2], max (Dg.n α) (Dg.n β) + 1, fun x => Dg.ok x.1 && Dg.ok x.2, fun {g H v x} h => by
    obtain ⟨p, a, b, e, hp, r1, r2⟩ := h
    subst e
    exact .tup (.of hp) (.cons (Dg.rd r1) (.cons (Dg.rd r2) .nil)), fun x y => by
    rw [PyData.eqv, PyData.eqvAll, PyData.eqvAll, PyData.eqvAll, Dg.eq, Dg.eq]
    obtain ⟨a, b⟩ := x; obtain ⟨c, d⟩ := y
    simp, fun x h => by
    obtain ⟨h1, h2⟩ := Bool.and_eq_true_iff.mp h
    rw [PyData.canLay0, PyData.canLayAll0, PyData.canLayAll0, PyData.canLayAll0, Dg.lay _ h1, Dg.lay _ h2]; rfl, fun x => by
    rw [PyData.depth, PyData.depthAll, PyData.depthAll, PyData.depthAll]
    have h1 := Dg.dep x.1
    have h2 := Dg.dep x.2
    omega⟩
instance instDg3 : Dg (T3 α β γ) := ⟨fun x => .tuple [Dg.p x.a, Dg.p x.b, Dg.p x.c], max (Dg.n α) (max (Dg.n β) (Dg.n γ)) + 1, fun x => Dg.ok x.a && (Dg.ok x.b && Dg.ok x.c), fun {g H v x} h => by
    obtain ⟨p, a, b, c, e, hp, r1, r2, r3⟩ := h
    subst e
    exact .tup (.of hp) (.cons (Dg.rd r1) (.cons (Dg.rd r2) (.cons (Dg.rd r3) .nil))), fun x y => by
    rw [PyData.eqv, PyData.eqvAll, PyData.eqvAll, PyData.eqvAll, PyData.eqvAll, Dg.eq, Dg.eq, Dg.eq]
    obtain ⟨a, b, c⟩ := x; obtain ⟨d, e, f⟩ := y
    simp, fun x h => by
    obtain ⟨h1, h⟩ := Bool.and_eq_true_iff.mp h
    obtain ⟨h2, h3⟩ := Bool.and_eq_true_iff.mp h
    rw [PyData.canLay0, PyData.canLayAll0, PyData.canLayAll0, PyData.canLayAll0, PyData.canLayAll0, Dg.lay _ h1, Dg.lay _ h2, Dg.lay _ h3]; rfl, fun x => by
    rw [PyData.depth, PyData.depthAll, PyData.depthAll, PyData.depthAll, PyData.depthAll]
    have h1 := Dg.dep x.a
    have h2 := Dg.dep x.b
    have h3 := Dg.dep x.c
    omega⟩
theorem dg_all {g : Gx} {H : Hp} : ∀ {vs : List V} {xs : List α}, rps g H vs xs → DpAll g.K H vs (xs.map Dg.p)
  | [], [], _ => .nil
  | v :: vs, x :: xs, h => .cons (Dg.rd h.1) (dg_all h.2)
  | [], _ :: _, h => h.elim
  | _ :: _, [], h => h.elim
theorem dg_eq : ∀ xs ys : List α, PyData.eqvAll (xs.map Dg.p) (ys.map Dg.p) = decide (xs = ys)
  | [], [] => by simp [PyData.eqvAll]
  | x :: xs, y :: ys => by rw [List.map_cons, List.map_cons, PyData.eqvAll, Dg.eq, dg_eq xs ys]; simp
  | [], _ :: _ => by simp [PyData.eqvAll]
  | _ :: _, [] => by simp [PyData.eqvAll]
theorem dg_lay : ∀ xs : List α, xs.all Dg.ok = true → PyData.canLayAll0 (xs.map Dg.p) = true
  | [], _ => by simp [PyData.canLayAll0]
  | x :: xs, h => by
    rw [List.all_cons] at h
    obtain ⟨h1, h2⟩ := Bool.and_eq_true_iff.mp h
    rw [List.map_cons, PyData.canLayAll0, Dg.lay _ h1, dg_lay xs h2]; rfl
theorem dg_dep : ∀ xs : List α, PyData.depthAll (xs.map Dg.p) ≤ Dg.n α
  | [] => by simp [PyData.depthAll]
  | x :: xs => by rw [List.map_cons, PyData.depthAll]; exact Nat.max_le.mpr ⟨Dg.dep x, dg_dep xs⟩
instance instDgL : Dg (List α) := ⟨fun xs => .list (xs.map Dg.p), Dg.n α + 1, fun xs => xs.all Dg.ok, fun {g H v x} h => by
    obtain ⟨p, vs, e, hp, r⟩ := h
    subst e
    exact .lst (.of hp) (dg_all r), fun x y => by rw [PyData.eqv, dg_eq], fun x h => by rw [PyData.canLay0, dg_lay _ h], fun x => by rw [PyData.depth]; exact Nat.succ_le_succ (dg_dep x)⟩
theorem dg_shaped (h : Dg.n α ≤ 64) (x : α) (k : Dg.ok x = true) : SeqAt.shaped (Dg.p x) = true := by
  unfold SeqAt.shaped
  rw [Dg.lay _ k, decide_eq_true (Nat.le_trans (Dg.dep x) h)]; rfl
end
section
variable {g : Gx} {B : Bs} {E E1 E2 E3 : List Bd} {ta tb tc te : TE} {α : Type} [Rp α] [DecidableEq α] [Dg α]
theorem px_eqLG {st st' : List Bd → Prop} {xs ys : List α} (ha : PxL g B E E1 ta xs st) (hb : PxL g B E1 E2 tb ys st') (hst : st E2) (hst' : st' E2) (hn : Dg.n α + 1 ≤ 64) (hk : (Dg.ok xs && Dg.ok ys) = true) : Px g B E E2 (tOp (rEqD g.K) ta tb) (decide (xs = ys)) := fun F A σ H s Q k =>
  ha F A σ H s _ fun F1 A1 H1 v s1 e1 rv => hb F1 A1 σ H1 s1 _ fun F2 A2 H2 w s2 e2 rw => by
    obtain ⟨p, vs, rfl, hp, r⟩ := rv F2 A2 H2 E2 s2 e2 hst
    obtain ⟨q, ws, rfl, hq, r'⟩ := rw F2 A2 H2 E2 s2 (Same.refl _) hst'
    have m := s2.fa.trans s2.ah
    have d1 : rp g H2 (V.ref p) xs := ⟨p, vs, rfl, hp, rps_mono m r⟩
    have d2 : rp g H2 (V.ref q) ys := ⟨q, ws, rfl, hq, rps_mono m r'⟩
    obtain ⟨k1, k2⟩ := Bool.and_eq_true_iff.mp hk
    refine ⟨Dg.p xs, Dg.p ys, Dg.rd d1, Dg.rd d2, dg_shaped hn xs k1, dg_shaped hn ys k2, ?_⟩
    rw [Dg.eq]
    exact k F2 A2 H2 _ s2 (e1.trans e2) rfl
theorem px_neLG {st st' : List Bd → Prop} {xs ys : List α} (ha : PxL g B E E1 ta xs st) (hb : PxL g B E1 E2 tb ys st') (hst : st E2) (hst' : st' E2) (hn : Dg.n α + 1 ≤ 64) (hk : (Dg.ok xs && Dg.ok ys) = true) : Px g B E E2 (tOp (rNeD g.K) ta tb) (!decide (xs = ys)) := fun F A σ H s Q k =>
  ha F A σ H s _ fun F1 A1 H1 v s1 e1 rv => hb F1 A1 σ H1 s1 _ fun F2 A2 H2 w s2 e2 rw => by
    obtain ⟨p, vs, rfl, hp, r⟩ := rv F2 A2 H2 E2 s2 e2 hst
    obtain ⟨q, ws, rfl, hq, r'⟩ := rw F2 A2 H2 E2 s2 (Same.refl _) hst'
    have m := s2.fa.trans s2.ah
    have d1 : rp g H2 (V.ref p) xs := ⟨p, vs, rfl, hp, rps_mono m r⟩
    have d2 : rp g H2 (V.ref q) ys := ⟨q, ws, rfl, hq, rps_mono m r'⟩
    obtain ⟨k1, k2⟩ := Bool.and_eq_true_iff.mp hk
    refine ⟨Dg.p xs, Dg.p ys, Dg.rd d1, Dg.rd d2, dg_shaped hn xs k1, dg_shaped hn ys k2, ?_⟩
    rw [Dg.eq]
    exact k F2 A2 H2 _ s2 (e1.trans e2) rfl
end
/-- the exception of a suite, with one attribute -/
structure AdrP where
  a : Addr
  dd : Addr
  f : Tx
  d : D
instance : Rp AdrP := ⟨fun g H v x => v = .ref x.a ∧ ∃ u, H x.dd = some (.xd [(Tx.s x.f, u)]) ∧ rp g H u x.d, fun s ⟨e, u, h, r⟩ => ⟨e, u, s _ _ h, Rp.mono s r⟩⟩
def tIsP (K : PySem.W.Frag) (a : Addr) (cls : Value) (d : Option Addr) (t : TA) : TE := fun σ H Q => ∃ D dd, cls = .ref D ∧ d = some dd ∧ ExcC K D ∧ tCB (rIsP K D a dd) t σ H Q
theorem pe_isP {X : Cx} {K : PySem.W.Frag} {a : Addr} {oe : Obj} {cls : Value} {d : Option Addr} {pn : List (Addr × Obj)} {e : Expr} {es : List Expr} {t : TA} {p pos : Pos} (h : X.K = K) (hz : Zc cls d oe) (hf : ∃ vs, oe.data = .fields vs)
    (hg : Gl (X.suite a ((a, oe) :: pn)) "isinstance") (hm : X.mg "isinstance" = none) (ha : PA (X.suite a ((a, oe) :: pn)) (e :: es) t) 
    (he : starEach (e :: es) (X.suite a ((a, oe) :: pn)).env = (false, eval e (X.suite a ((a, oe) :: pn)).env) :: starEach es (X.suite a ((a, oe) :: pn)).env := by rfl) (hpl : (backTo pos (starEach es (X.suite a ((a, oe) :: pn)).env)).any (·.1) = false := by rfl) :
    PE (X.suite a ((a, oe) :: pn)) (.Call (.Name "isinstance" p) (e :: es) [] pos) (tIsP K a cls d t) := by
  subst h
  refine ⟨fun pins s σ H Q I h => ?_⟩
  obtain ⟨D, dd, rfl, rfl, C, q⟩ := h
  exact (pe_callB (call_isP C hz hf) hg hm (by decide +kernel) ha (he := he) (hpl := hpl)).run pins s σ H Q I q
theorem pe_xfK {X : Cx} {K : PySem.W.Frag} {a C : Addr} {oe : Obj} {cls : Value} {d : Option Addr} {pn : List (Addr × Obj)} {e : Expr} {te : TE} {pos : Pos} {n : Str} (h : X.K = K) (T : XfC K C) (hno : PySem.W.findIn K (.ref C) n = some none)
    (hz : Zc cls d oe) (hf : ∃ vs, oe.data = .fields vs) (he : PE (X.suite a ((a, oe) :: pn)) e te) (hb : attributeBase e n X.env (eval e X.env) = eval e X.env := by rfl) :
    PE (X.suite a ((a, oe) :: pn)) (.Attribute e n pos) (tXf a cls d C n te) := by subst h; exact pe_xf T hno hz hf he hb
section
variable {g : Gx} {B : Bs} {E E1 : List Bd} {te : TE} {α : Type} [Rp α]
theorem px_isP {a dd : Addr} {f : Tx} {y : D} {i : Nat} {cn : Str} {v : V} {cv : Value} {b : Bool} (hi : E[i]? = some (.kp (AdrP.mk a dd f y))) (C : ExcC g.K (g.ca cn)) (hv : ∀ u, RelV v u → u = cv) (hk : PySem.W.kitOne g.K (.ref (g.ca cn)) cv = some b) :
    Px g B E E (tIsP g.K a (.ref (g.ca cn)) (some dd) (tCons (tVar i) (tCons (tC v) tNil))) b := fun F A σ H s Q k => by
  obtain ⟨w, e, r, u, h, _⟩ := s.sl i _ hi
  have r : w = .ref a := r
  subst r
  exact ⟨_, dd, rfl, rfl, C, .ref a, e, ⟨_, s.ah _ _ (s.fa _ _ h)⟩, v, cv, b, rfl, hv, hk, k F A H _ s (Same.refl _) rfl⟩
/-- e.f -/
theorem px_xf {a dd : Addr} {f : Tx} {y : D} {i : Nat} {cn n : Str} (hi : E[i]? = some (.kp (AdrP.mk a dd f y))) (hn : n = Tx.s f) : Px g B E E (tXf a (.ref (g.ca cn)) (some dd) (g.ca cn) n (tVar i)) y := fun F A σ H s Q k => by
  obtain ⟨w, e, r, u, h, ru⟩ := s.sl i _ hi
  have r : w = .ref a := r
  subst r hn
  refine ⟨_, e, rfl, rfl, dd, _, u, rfl, s.ah _ _ (s.fa _ _ h), ?_, k F A H u s (Same.refl _) ru⟩
  show List.lookup (Tx.s f) [(Tx.s f, u)] = some u
  rw [List.lookup, beq_self_eq_true]
theorem as_wishP {D : Ends} {c : Value} {i : Nat} {ts : Addr → Value → Option Addr → TS} {Wout : WX} {cn : Str} {f : Tx} {y : Gn.D} (hm : PySem.W.exmOne g.K (.ref (g.ca cn)) c = some true) (hs : ∀ a dd, Sx g B (E1.set i (.kp (AdrP.mk a dd f y))) (ts a (.ref (g.ca cn)) (some dd)) (unAs D i)) :
    ∀ F A σ H dx, Sta g B F A E1 σ H → PayOk F dx (.tup [.str f, y]) → WE (wAs g.K c i ts Wout D) σ (.ref (g.ca cn)) dx H := fun F A σ H dx s p => by
  obtain ⟨dd, u, rfl, h, r⟩ := p
  exact ⟨true, hm, fun _ a ha => hs a dd F A _ H (s.setk (x := AdrP.mk a dd f y) ⟨rfl, u, h, r⟩), fun z => nomatch z⟩
theorem asM_yesP {D : Ends} {c : Value} {i : Nat} {ts : Addr → Value → Option Addr → TS} {Wout : WX} {l : List (Value × Nat × (Addr → Value → Option Addr → TS))} {cn : Str} {f : Tx} {y : Gn.D} (hm : PySem.W.exmOne g.K (.ref (g.ca cn)) c = some true) (hs : ∀ a dd, Sx g B (E1.set i (.kp (AdrP.mk a dd f y))) (ts a (.ref (g.ca cn)) (some dd)) (unAs D i)) :
    ∀ F A σ H dx, Sta g B F A E1 σ H → PayOk F dx (.tup [.str f, y]) → WE (wAsM g.K Wout D ((c, i, ts) :: l)) σ (.ref (g.ca cn)) dx H := fun F A σ H dx s p => by
  obtain ⟨dd, u, rfl, h, r⟩ := p
  show ∃ b, _ ∧ _ ∧ _
  refine ⟨true, hm, ?_, ?_⟩
  · intro _ a ha
    exact hs a dd F A _ H (s.setk (x := AdrP.mk a dd f y) ⟨rfl, u, h, r⟩)
  · intro z; exact Bool.noConfusion z
/-- raise C(e) of such a class -/
theorem sx_raiseP [ToD α] {x : α} {X : XK} {D : Ends} {c fl : Str} {f : Tx} (hfl : fl = Tx.s f) (hx : Px g B E E1 te x) (hX : XkOk g B X c (.tup [.str f, ToD.d x])) :
    Sx g B E (fun _ σ H => tMkO (g.ca c) (spOex (g.ca c) fl) [] (tCons te tNil) σ H fun cls d H' => X cls d H') D := fun F A σ H s =>
  hx F A σ H s _ fun F1 A1 H1 v s1 e1 rv => by
    refine ⟨by show 1 ≤ 1000; omega, fun a ha => ⟨a, v, rfl, upd_same, fun d hd hne => ?_⟩⟩
    have hd1 : H1 d = none := by rw [upd_ne hne] at hd; exact hd
    refine ⟨rfl, d, [(fl, v)], upd_same, ?_, hd1, ?_⟩
    · rw [upd_ne hne, upd_same]
    · have eH : upd (del (upd (upd (upd H1 a (exo a (g.ca c) none)) d (exd d [(fl, v)])) a (exo a (g.ca c) (some d))) a) d (.xd [(fl, v)]) = upd H1 d (.xd [(fl, v)]) := by
        funext b
        by_cases hb : b = d
        · rw [hb, upd_same, upd_same]
        · rw [upd_ne hb, upd_ne hb]
          by_cases hba : b = a
          · rw [hba, del_same, ha]
          · rw [del_ne hba, upd_ne hba, upd_ne hb, upd_ne hba]
      rw [eH]
      obtain ⟨s2, n⟩ := s1.alloc (o := .xd [(fl, v)]) hd1
      obtain ⟨F3, A3, s3, hF, hA, hp⟩ := s2.keep n
      exact hX F3 A3 E1 σ _ (some d) s3 ⟨d, v, rfl, by rw [← hfl]; exact hp, ToD.ok (g := g) (Rp.mono hF rv)⟩
end
/-- a try whose exceptions are caught, with or without an attribute -/
def tryRD {α : Type} (m : R α) (f : Str → D → R α) : R α := match m with
  | .ok a => .ok a
  | .ex c d => f c d
  | .bad => .bad
def payN {α : Type} (d : D) (m : R α) : R α := match d with
  | .non => m
  | _ => .bad
def payK {α : Type} (f : Tx) (d : D) (m : D → R α) : R α := match d with
  | .tup [.str f', x] => if f' = f then m x else .bad
  | _ => .bad
theorem tryD_ok {α : Type} {m : R α} {f : Str → D → R α} {a s : α} (h : R.ok a = m) (hT : tryRD m f = .ok s) : R.ok a = R.ok s := by subst h; exact hT
theorem tryD_ne {α : Type} {m : R α} {f : Str → D → R α} {s : α} (hT : tryRD m f = .ok s) : m ≠ .bad := fun e => by subst e; cases hT
theorem tryD_ex {α : Type} {m : R α} {f : Str → D → R α} {c : Str} {d : D} {s : α} (hT : tryRD m f = .ok s) (h : m = .ex c d) : f c d = .ok s := by
  subst h
  exact hT
theorem payN_ok {α : Type} {d : D} {m : R α} {s : α} (h : payN d m = .ok s) : d = .non ∧ m = .ok s := by
  unfold payN at h
  split at h
  · exact ⟨rfl, h⟩
  · cases h
theorem payK_ok {α : Type} {f : Tx} {d : D} {m : D → R α} {s : α} (h : payK f d m = .ok s) : ∃ x, d = .tup [.str f, x] ∧ m x = .ok s := by
  unfold payK at h
  split at h
  · rename_i f' x
    by_cases hf : f' = f
    · rw [if_pos hf] at h
      exact ⟨x, by rw [hf], h⟩
    · rw [if_neg hf] at h; cases h
  · cases h
end Gn
/-! Gn: defs with defaults, calls with keywords (in a try). -/
namespace Gn
open PySem L2 PyProof.Rows
open Rp (rp)
/-- values behind those written -/
def tApp (t : TA) (dvs : List V) : TA := fun σ H Q => t σ H fun vs H1 => Q (vs ++ dvs) H1
def tAppA (t tk : TA) : TA := fun σ H Q => t σ H fun vs H1 => tk σ H1 fun zs H2 => Q (vs ++ zs) H2
section
variable {X : Cx} {CX : CXT} {k n : Nat} {f C : Addr} {fd : FuncData} {ps ks : List Str} {sp : Sp} {E : L2.St → XK} {x m : Str} {p pos apos : Pos} {e o : Expr} {es : List Expr} {kws : List Keyword} {ta : TE} {t tk : TA} {dvs : List V} {ds : List Value}
theorem run_fnSA {pins : List (Addr × Obj)} {σ : L2.St} {H : Hp} {s : Shared} {Q : VK} {us us2 : List Value} {vs : List V} {kw : List (Str × Value)} (F : FnOk X.prog X.w X.K X.mg X.base CX k f fd ps sp) (hr : Room k X.A) (hb : BindsTo s fd ⟨us, kw⟩ (ps.zip us2)) (hx : PassesAt CX X σ (E σ))
    (I : Inv X pins σ H s) (r : Vals vs us2) (h : sp vs H Q (E σ)) : wpAny (model X.prog X.w) X.A (call (.ref f) us kw) (EP X pins σ Q) X.xe s := by
  refine wpAny_call (codeAny_mono (F.run X.A X.stack s H ⟨us, kw⟩ us2 vs Q (E σ) hr I.env0 hb r h) fun r s' hq => ?_)
  cases r with
  | error e => exact hx pins H s e s' I hq
  | ok fl =>
    cases fl with
    | ret u => exact I.after hq
    | next => exact False.elim hq
    | brk => exact False.elim hq
    | cont => exact False.elim hq
theorem pe_callSD (F : FnOk X.prog X.w X.K X.mg X.base CX k f fd ps sp) (hr : Room k X.A) (hg : Gl X x) (hm : X.mg x = some (.ref f)) (hk : PySem.W.keepIn X.K (.ref f) = true) (hb : ∃ ds, Vals dvs ds ∧ Binds X.K fd ps ds) (hx : ∀ σ, PassesAt CX X σ (E σ))
    (ha : PA X (e :: es) t) (hdb : (x == ("__debug__" : Str)) = false := by decide) (he : starEach (e :: es) X.env = (false, eval e X.env) :: starEach es X.env := by rfl) (hpl : (backTo pos (starEach es X.env)).any (·.1) = false := by rfl) :
    PE X (.Call (.Name x p) (e :: es) [] pos) (tCallS sp E (tApp t dvs)) := by
  obtain ⟨ds, hd, hb⟩ := hb
  refine ⟨fun pins s σ H Q I h => ?_⟩
  refine wpAny_Call_Name_kw (ld_glob I hg hm ?_ hdb)
  refine PySem.W.callWith_K (h₀ := X.base) I.ok.mod.kin hk (thn (ha.run pos pins s σ H _ I h) fun us s1 ⟨vs, H1, I1, r, q⟩ => ⟨I1.kIn, ?_⟩) he hpl
  have r2 : Vals (vs ++ dvs) (us ++ ds) := r.append hd
  have hl : (us ++ ds).length = ps.length := by rw [← r2.length]; exact F.len _ _ _ _ q
  exact run_fnSA F hr (hb s1 us I1.kIn hl) (hx σ) I1 r2 q
theorem pe_callSK {gL : List Value → List Value → List Value} (F : FnOk X.prog X.w X.K X.mg X.base CX k f fd ps sp) (hr : Room k X.A) (hg : Gl X x) (hm : X.mg x = some (.ref f)) (hk : PySem.W.keepIn X.K (.ref f) = true) (hb : KBn X.K fd ps n ks gL (· ++ ·)) (hn : n + ks.length = ps.length) (hx : ∀ σ, PassesAt CX X σ (E σ))
    (ha : PA X (e :: es) t) (hkw : PK X kws tk) (hkl : ∀ σ H Q, tk σ H Q → tk σ H fun zs H' => zs.length = ks.length ∧ Q zs H') (hall : (backToKw pos (keywordEach kws X.env)).all (·.1.isSome) = true := by rfl) (hks : (backToKw pos (keywordEach kws X.env)).filterMap (·.1) = ks := by rfl)
    (hdb : (x == ("__debug__" : Str)) = false := by decide) (he : starEach (e :: es) X.env = (false, eval e X.env) :: starEach es X.env := by rfl)
    (hpl : ((backTo pos (starEach (e :: es) X.env)).any (·.1) || (backToKw pos (keywordEach kws X.env)).any (·.1.isNone)) = false := by rfl) :
    PE X (.Call (.Name x p) (e :: es) kws pos) (tCallS sp E (tAppA t tk)) := by
  refine ⟨fun pins s σ H Q I h => ?_⟩
  refine wpAny_Call_Name_kw (ld_glob I hg hm ?_ hdb)
  refine PySem.W.callWith_KW (h₀ := X.base) I.ok.mod.kin hk hall (thn (ha.run pos pins s σ H _ I h) fun us s1 ⟨vs, H1, I1, r, q⟩ => ?_) hpl he
  refine thn (hkw.run pos pins s1 σ H1 _ I1 (hkl σ H1 _ q)) fun ws s2 ⟨zs, H2, I2, rz, lz, q2⟩ => ⟨I2.kIn, ?_⟩
  rw [hks]
  have lv : us.length = n := by
    have h1 := F.len _ _ _ _ q2
    rw [List.length_append] at h1
    have h2 := r.length
    omega
  have lw : ws.length = ks.length := by rw [← rz.length]; exact lz
  exact run_fnSA F hr (hb.to s2 us ws I2.kIn lv lw) (hx σ) I2 (hb.rel r rz) q2
end
theorem kl_1 {te : TE} : ∀ (σ : L2.St) (H : Hp) (Q : List V → Hp → Prop), tCons te tNil σ H Q → tCons te tNil σ H fun zs H' => zs.length = 1 ∧ Q zs H' := fun σ H Q h => by
  have e : (fun (v : V) (H1 : Hp) => Q [v] H1) = fun v H1 => [v].length = 1 ∧ Q [v] H1 := by
    funext v H1
    simp
  show te σ H fun v H1 => [v].length = 1 ∧ Q [v] H1
  rw [← e]
  exact h
section
variable {g : Gx} {B : Bs} {E E1 E2 : List Bd} {te : TE} {t tk : TA} {α : Type} [Rp α]
theorem ArOk.app {F : Hp} {σ : L2.St} : ∀ {vs zs : List V} {as bs : List Ar}, ArOk g F σ vs as → ArOk g F σ zs bs → ArOk g F σ (vs ++ zs) (as ++ bs)
  | [], _, [], _, _, h => h
  | _ :: _, _, @Ar.k _ _ _ :: _, _, h, h2 => ⟨h.1, ArOk.app h.2 h2⟩
  | _ :: _, _, .s _ :: _, _, h, h2 => ⟨h.1, ArOk.app h.2 h2⟩
  | [], _, @Ar.k _ _ _ :: _, _, h, _ => h.elim
  | [], _, .s _ :: _, _, h, _ => h.elim
  | _ :: _, _, [], _, h, _ => h.elim
theorem pa_app {as bs : List Ar} {dvs : List V} (ha : PxA g B E E1 t as) (hd : ∀ F σ, ArOk g F σ dvs bs) : PxA g B E E1 (tApp t dvs) (as ++ bs) := fun F A σ H s Q k =>
  ha F A σ H s _ fun F1 A1 H1 vs s1 e1 r1 => k F1 A1 H1 _ s1 e1 (r1.app (hd F1 σ))
theorem pa_appA {as bs : List Ar} (ha : PxA g B E E1 t as) (hb : PxA g B E1 E2 tk bs) : PxA g B E E2 (tAppA t tk) (as ++ bs) := fun F A σ H s Q k =>
  ha F A σ H s _ fun F1 A1 H1 vs s1 e1 r1 => hb F1 A1 σ H1 s1 _ fun F2 A2 H2 zs s2 e2 r2 => k F2 A2 H2 _ s2 (e1.trans e2) ((r1.mono e2).app r2)
end
section
variable {K : PySem.W.Frag}
theorem fund_mk {x qual : Str} {st : Stmt} {f T : Addr} {oc cT : Value} {od an dT : Option Addr} {osl sT : Array (Option Value)} {kV doc pm cdv ct : Value} {nT : Nat} {dvs : List V} {its : List Value}
    (l : K.lookup f = some ⟨oc, od, .func (PySem.W.fnOf x qual (defArgs st) (defBody st) (defScope st) (.ref T) kV doc pm an cdv ct), osl⟩)
    (c : PySem.W.codeIn K cdv qual = true) (k : PySem.W.keepIn K (.ref f) = true) (lT : K.lookup T = some ⟨cT, dT, .seq its.toArray nT, sT⟩) (hd : dvs ≠ []) (hv : Vals dvs its) :
    FunD K x qual (defArgs st) (defBody st) (defScope st) dvs [] f (PySem.W.fnOf x qual (defArgs st) (defBody st) (defScope st) (.ref T) kV doc pm an cdv ct) :=
  ⟨⟨oc, od, _, kV, doc, pm, an, cdv, ct, osl, rfl, l, c, .inr ⟨hd, T, _, its, nT, rfl, lT, rfl, hv⟩, .inl rfl⟩, k⟩
theorem Binds.of_nil {fd : FuncData} {ps : List Str} {dvs : List V} {n : Nat} (h : ∃ ds, Vals (dvs.drop n) ds ∧ Binds K fd ps ds) (hn : dvs.length ≤ n) : Binds K fd ps [] := by
  obtain ⟨ds, r, b⟩ := h
  rw [List.drop_eq_nil_of_le hn] at r
  have := r.length
  cases ds with
  | nil => exact b
  | cons _ _ => cases this
end
/-- fn_go of a def with defaults -/
theorem fn_goD {g : Gx} {P : Program} {w : World} {mg : Str → Option Value} {base : Heap} {x qual : Str} {st : Stmt} {f : Addr} {fd : FuncData} {N ps : List Str} {k : Nat} {rel : List Ca → Out → Prop} {dvs : List V} {kws : List (Str × V)} (F : FunD g.K x qual (defArgs st) (defBody st) (defScope st) dvs kws f fd) (S : FnScope N ps (defScope st)) (hlen : ∀ cs o, rel cs o → cs.length = ps.length) (hN : ps.length ≤ N.length)
    (hb : ∀ (cdv : Value) (A : Around) (outer : List Env) (s : Shared) (H : Hp) (X : XK), Room k (A.deeper (PyProof.Rows.envOfC qual (defScope st) s.heap.objs.size f cdv)) →
      ∃ t, PSs (cxOf (L2.CX P w) P w g.K mg base N qual (defScope st) f cdv A outer s H X) (defBody st) t ∧
        ∀ (B : Bs) (qs : List Addr) (cs : List Ca) (o : Out) (E : List Bd) (D : Ends), B.ps = qs → rel cs o → Ini cs qs E → DRt g B D.rt o → (∀ c d, o = .exc c d → XkOk g B X c d) → (∀ outs, o = .ret () outs → ∀ F A E σ H, Sta g B F A E σ H → CnOk g F H B.ps outs → D.nx σ H) → Sx g B (E ++ List.replicate (N.length - cs.length) .un) t D) :
    FnOk P w g.K mg base (L2.CX P w) (k + 1) f fd ps (spOf g rel) := by
  have hl : ∀ vs H Q X, spOf g rel vs H Q X → vs.length = ps.length := fun vs H Q X h => by
    obtain ⟨F, cs, qs, o, _, _, hin, hrel, _⟩ := h
    rw [in_len hin, hlen cs o hrel]
  refine F.ok S hl fun cdv A outer s H vs Q X hr h => ?_
  obtain ⟨t, ht, hgo⟩ := hb cdv A outer s H X hr
  refine ⟨t, ht, ?_⟩
  have hv := hl _ _ _ _ h
  obtain ⟨B, cs, o, E, hrel, hini, ⟨F', A', hsta⟩, hrt, hex, hfall⟩ := sp_start h (by omega : vs.length ≤ N.length)
  exact hgo B B.ps cs o E { nx := fun _ H' => Q .non H', rt := Q } rfl hrel hini hrt hex (fun outs e F A E σ H s cn => hfall outs e F A E σ H s cn) F' A' _ H hsta
end Gn
/-! Gn: told lists that are changed: data known since a mark (Kx), data whose lists are new since then (Fr). -/
namespace Gn
open PySem L2
open Rp (rp)
/-- known since F0 -/
structure Kx (F0 : Hp) (α : Type) where
  x : α
instance instRpKx {F0 : Hp} {α : Type} [Rp α] : Rp (Kx F0 α) := ⟨fun g F v x => rp g F0 v x.x ∧ Same F0 F, fun s h => ⟨h.1, h.2.trans s⟩⟩
/-- its lists are new since F0 -/
structure Fr (F0 : Hp) (α : Type) where
  x : α
instance instRpFr {F0 : Hp} {α : Type} [Rp α] : Rp (Fr F0 α) := ⟨fun g F v x => rp g (dl F F0) v x.x ∧ Same F0 F, fun s h => ⟨Rp.mono (dl_mono s) h.1, h.2.trans s⟩⟩
theorem Kx.rp {g : Gx} {F0 F : Hp} {α : Type} [Rp α] {v : V} {x : α} (h : Rp.rp g F v (Kx.mk x : Kx F0 α)) : Rp.rp g F v x := Rp.mono h.2 h.1
theorem Fr.rp {g : Gx} {F0 F : Hp} {α : Type} [Rp α] {v : V} {x : α} (h : Rp.rp g F v (Fr.mk x : Fr F0 α)) : Rp.rp g F v x := Rp.mono dl_le h.1
theorem Fr.older {g : Gx} {F0 F1 F : Hp} {α : Type} [Rp α] {v : V} {x : α} (s : Same F0 F1) (h : Rp.rp g F v (Fr.mk x : Fr F1 α)) : Rp.rp g F v (Fr.mk x : Fr F0 α) := ⟨Rp.mono (dl_anti s) h.1, s.trans h.2⟩
/-- data without lists -/
class Nl (α : Type) [Rp α] : Prop where
  nl : ∀ {g : Gx} {F F0 : Hp} {v : V} {x : α}, Same F0 F → rp g F v x → rp g (dl F F0) v x
instance : Nl Int := ⟨fun _ h => h⟩
instance : Nl Bool := ⟨fun _ h => h⟩
instance : Nl Unit := ⟨fun _ h => h⟩
instance : Nl Tx := ⟨fun _ h => h⟩
theorem dl_tup {F F0 : Hp} {p : Addr} {vs : List V} (s : Same F0 F) (h : F p = some (.tup vs)) : dl F F0 p = some (.tup vs) := by
  rcases dl_cases F F0 p with ⟨xs, e, _⟩ | ⟨_, e⟩
  · have := s _ _ e
    rw [h] at this; cases this
  · rw [e]; exact h
instance {α β : Type} [Rp α] [Rp β] [Nl α] [Nl β] : Nl (α × β) := ⟨fun s ⟨p, a, b, e, h, r1, r2⟩ => ⟨p, a, b, e, dl_tup s h, Nl.nl s r1, Nl.nl s r2⟩⟩
section
variable {g : Gx} {B : Bs} {F A F0 H : Hp} {E E' : List Bd} {σ : L2.St}
/-- slots told in other words -/
theorem Sta.slots (s : Sta g B F A E σ H) (hl : E'.length = E.length) (h : ∀ (i : Nat) (b' : Bd), E'[i]? = some b' → ∃ b : Bd, E[i]? = some b ∧ (b'.isO → b.isO) ∧ (∀ q ∈ b'.qs, q ∈ b.qs) ∧ (SlotOk g F A H σ[i]? b → SlotOk g F A H σ[i]? b')) : Sta g B F A E' σ H := by
  have back : ∀ i p, Own E' σ i p → Own E σ i p := fun i p ⟨h1, c, e, h2⟩ => by
    obtain ⟨b, e1, h3, _, _⟩ := h i c e
    exact ⟨h1, b, e1, h3 h2⟩
  have backI : ∀ i p, Inn E' i p → Inn E i p := fun i p ⟨c, e, h2⟩ => by
    obtain ⟨b, e1, _, h3, _⟩ := h i c e
    exact ⟨b, e1, h3 _ h2⟩
  refine ⟨hl.trans s.len, s.fa, s.ah, s.f0, s.a0, s.fr, s.inn, fun i c e => ?_, fun i j p h1 h2 => s.ne i j p (back i p h1) (back j p h2), fun a o e => ?_, fun i q h => ?_⟩
  · obtain ⟨b, e1, _, _, h3⟩ := h i c e
    exact h3 (s.sl i b e1)
  · obtain ⟨h1, h2, h3⟩ := s.pr a o e
    exact ⟨h1, h2, fun i q => h3 i (back i a q)⟩
  · obtain ⟨h1, h2, h3, h4⟩ := s.nn i q (backI i q h)
    exact ⟨fun j z => h1 j (back j q z), fun j z => h2 j (backI j q z), h3, h4⟩
/-- the mark: what is known is known at F0 -/
inductive Mrk (F0 : Hp) : List Bd → List Bd → Prop
  | nil : Mrk F0 [] []
  | keep {b : Bd} {E E' : List Bd} : Mrk F0 E E' → Mrk F0 (b :: E) (b :: E')
  | kx {α : Type} [Rp α] {x : α} {E E' : List Bd} : Mrk F0 E E' → Mrk F0 (.kp x :: E) (.kp (Kx.mk x : Kx F0 α) :: E')
theorem Mrk.length (m : Mrk F0 E E') : E'.length = E.length := by
  induction m with
  | nil => rfl
  | keep _ ih => simp [ih]
  | kx _ ih => simp [ih]
theorem Mrk.get (m : Mrk F0 E E') : ∀ {i : Nat} {b' : Bd}, E'[i]? = some b' → E[i]? = some b' ∨ ∃ (α : Type) (_ : Rp α) (x : α), E[i]? = some (.kp x) ∧ b' = .kp (Kx.mk x : Kx F0 α) := by
  induction m with
  | nil => intro i b' e; cases e
  | keep _ ih =>
    intro i b' e
    cases i with
    | zero => exact .inl e
    | succ i => exact ih e
  | kx _ ih =>
    intro i b' e
    cases i with
    | zero => cases e; exact .inr ⟨_, _, _, rfl, rfl⟩
    | succ i => exact ih e
theorem Sta.mark (s : Sta g B F A E σ H) (m : Mrk F E E') : Sta g B F A E' σ H := s.slots m.length fun i b' e => by
  rcases m.get e with e1 | ⟨α, _, x, e1, rfl⟩
  · exact ⟨b', e1, id, fun _ h => h, id⟩
  · exact ⟨_, e1, id, fun _ h => h, fun ⟨v, e2, r⟩ => ⟨v, e2, r, Same.refl _⟩⟩
theorem sx_mark {t : TS} {D : Ends} {f : Hp → List Bd} (m : ∀ F0, Mrk F0 E (f F0)) (h : ∀ B' F0, B'.F0 = F0 → Nest g B B' → Sx g B' (f F0) t D) : Sx g B E t D := fun F A σ H s =>
  h (B.to F A) F rfl s.rebase.2 F A σ H (s.rebase.1.mark (m F))
theorem Kx.le {α : Type} [Rp α] {x : α} : Le (.kp (Kx.mk x : Kx F0 α)) (.kp x) := .kk fun g F v h => Kx.rp h
theorem Fr.le {α : Type} [Rp α] {x : α} : Le (.kp (Fr.mk x : Fr F0 α)) (.kp x) := .kk fun g F v h => Fr.rp h
end
/-- data that leans on no heap -/
class Fx (α : Type) [Rp α] : Prop where
  fx : ∀ {g : Gx} {F F' : Hp} {v : V} {x : α}, rp g F v x → rp g F' v x
instance : Fx Int := ⟨fun h => h⟩
instance : Fx Bool := ⟨fun h => h⟩
instance : Fx Unit := ⟨fun h => h⟩
instance : Fx Tx := ⟨fun h => h⟩
instance {α : Type} [Rp α] [Fx α] : Fx (Option α) := ⟨fun {g F F' v x} h => by
  cases x with
  | none => exact h
  | some y => exact Fx.fx (α := α) h⟩
theorem rps_fx {α : Type} [Rp α] [Fx α] {g : Gx} {F F' : Hp} : ∀ {vs : List V} {xs : List α}, rps g F vs xs → rps g F' vs xs
  | [], [], _ => trivial
  | _ :: _, _ :: _, h => ⟨Fx.fx h.1, rps_fx h.2⟩
  | [], _ :: _, h => h.elim
  | _ :: _, [], h => h.elim
/-- what stays when a list that is new since F0 is changed -/
inductive Rst (F0 : Hp) : List Bd → List Bd → Prop
  | nil : Rst F0 [] []
  | un {b : Bd} {E E' : List Bd} : Rst F0 E E' → Rst F0 (b :: E) (.un :: E')
  | kx {α : Type} [Rp α] {x : α} {E E' : List Bd} : Rst F0 E E' → Rst F0 (.kp (Kx.mk x : Kx F0 α) :: E) (.kp (Kx.mk x : Kx F0 α) :: E')
  | kxo {F1 : Hp} (s : Same F1 F0) {α : Type} [Rp α] {x : α} {E E' : List Bd} : Rst F0 E E' → Rst F0 (.kp (Kx.mk x : Kx F1 α) :: E) (.kp (Kx.mk x : Kx F1 α) :: E')
  | fx {α : Type} [Rp α] [Fx α] {x : α} {E E' : List Bd} : Rst F0 E E' → Rst F0 (.kp x :: E) (.kp x :: E')
  | ow {α : Type} [Rp α] [Fx α] {x : List α} {E E' : List Bd} : Rst F0 E E' → Rst F0 (.ow x :: E) (.ow x :: E')
  | io {α : Type} [Rp α] [Fx α] {p : Addr} {x : List α} {E E' : List Bd} : Rst F0 E E' → Rst F0 (.io p x :: E) (.io p x :: E')
section
variable {g : Gx} {B : Bs} {F A F0 H : Hp} {E E' : List Bd} {σ : L2.St}
theorem Rst.length (m : Rst F0 E E') : E'.length = E.length := by
  induction m with
  | nil => rfl
  | un _ ih => simp [ih]
  | kx _ ih => simp [ih]
  | kxo _ _ ih => simp [ih]
  | fx _ ih => simp [ih]
  | ow _ ih => simp [ih]
  | io _ ih => simp [ih]
theorem Rst.get (m : Rst F0 E E') : ∀ {i : Nat} {b' : Bd}, E'[i]? = some b' → ∃ b : Bd, E[i]? = some b ∧ Rst F0 [b] [b'] := by
  induction m with
  | nil => intro i b' e; cases e
  | un _ ih =>
    intro i b' e
    cases i with
    | zero => cases e; exact ⟨_, rfl, .un .nil⟩
    | succ i => exact ih e
  | kx _ ih =>
    intro i b' e
    cases i with
    | zero => cases e; exact ⟨_, rfl, .kx .nil⟩
    | succ i => exact ih e
  | kxo s _ ih =>
    intro i b' e
    cases i with
    | zero => cases e; exact ⟨_, rfl, .kxo s .nil⟩
    | succ i => exact ih e
  | fx _ ih =>
    intro i b' e
    cases i with
    | zero => cases e; exact ⟨_, rfl, .fx .nil⟩
    | succ i => exact ih e
  | ow _ ih =>
    intro i b' e
    cases i with
    | zero => cases e; exact ⟨_, rfl, .ow .nil⟩
    | succ i => exact ih e
  | io _ ih =>
    intro i b' e
    cases i with
    | zero => cases e; exact ⟨_, rfl, .io .nil⟩
    | succ i => exact ih e
theorem Sta.reset (s : Sta g B F A E σ H) (m : Rst B.F0 E E') {p : Addr} {vs ws : List V} (hF : F p = some (.lst vs)) (h0 : B.F0 p = none) : Sta g B B.F0 (fun a => if a = p then none else A a) E' σ (upd H p (.lst ws)) := by
  have hA : A p = some (.lst vs) := s.fa _ _ hF
  have hA0 : B.A0 p = none := by
    cases e : B.A0 p with
    | none => rfl
    | some o =>
      have := s.fr p h0 (.inl (by rw [e]; exact fun z => nomatch z))
      rw [hF] at this; cases this
  have ne : ∀ {a : Addr}, A a = none → a ≠ p := fun h e => by rw [e, hA] at h; cases h
  have upn : ∀ {a : Addr}, a ≠ p → upd H p (.lst ws) a = H a := fun h => upd_ne h
  have back : ∀ i q, Own E' σ i q → Own E σ i q := fun i q ⟨h1, c, e, h2⟩ => by
    obtain ⟨b, e1, r⟩ := m.get e
    cases r with
    | un _ => exact h2.elim
    | kx _ => exact h2.elim
    | kxo _ _ => exact h2.elim
    | fx _ => exact h2.elim
    | ow _ => exact ⟨h1, _, e1, trivial⟩
    | io _ => exact ⟨h1, _, e1, trivial⟩
  have backI : ∀ i q, ¬ Inn E' i q := fun i q ⟨c, e, h2⟩ => by
    obtain ⟨b, e1, r⟩ := m.get e
    cases r with
    | un _ => cases h2
    | kx _ => cases h2
    | kxo _ _ => cases h2
    | fx _ => cases h2
    | ow _ => cases h2
    | io _ => cases h2
  refine ⟨m.length.trans s.len, fun a o h => ?_, fun a o h => ?_, Same.refl _, fun a o h => ?_, fun a h _ => h, fun a h => ?_, fun i c e => ?_, fun i j q h1 h2 => s.ne i j q (back i q h1) (back j q h2), fun a o e => ?_, fun i q h => (backI i q h).elim⟩
  · have : a ≠ p := fun e => by rw [e, h0] at h; cases h
    show (if a = p then none else A a) = some o
    rw [if_neg this]
    exact s.fa _ _ (s.f0 _ _ h)
  · have h : (if a = p then none else A a) = some o := h
    split at h
    · cases h
    · rename_i n
      rw [upn n]; exact s.ah _ _ h
  · have : a ≠ p := fun e => by rw [e, hA0] at h; cases h
    show (if a = p then none else A a) = some o
    rw [if_neg this]
    exact s.a0 _ _ h
  · have z := s.inn a h
    refine ⟨by rw [upn (ne z.2)]; exact z.1, ?_⟩
    show (if a = p then none else A a) = none
    split
    · rfl
    · exact z.2
  · obtain ⟨b, e1, r⟩ := m.get e
    have q := s.sl i b e1
    cases r with
    | un _ => trivial
    | kx _ => obtain ⟨v, e2, r2, _⟩ := q; exact ⟨v, e2, r2, Same.refl _⟩
    | kxo s' _ => obtain ⟨v, e2, r2, _⟩ := q; exact ⟨v, e2, r2, s'⟩
    | fx _ => obtain ⟨v, e2, r2⟩ := q; exact ⟨v, e2, Fx.fx r2⟩
    | ow _ =>
      obtain ⟨p', vs', e2, e3, r2, e4, e5⟩ := q
      exact ⟨p', vs', e2, by rw [upn (ne e5)]; exact e3, rps_fx r2, s.f0.free e4, by show (if p' = p then none else A p') = none; rw [if_neg (ne e5)]; exact e5⟩
    | io _ =>
      obtain ⟨vs', e2, e3, r2, e4, e5⟩ := q
      exact ⟨vs', e2, by rw [upn (ne e5)]; exact e3, rps_fx r2, s.f0.free e4, by show (if _ = p then none else A _) = none; rw [if_neg (ne e5)]; exact e5⟩
  · obtain ⟨h1, h2, h3⟩ := s.pr a o e
    refine ⟨by rw [upn (ne h2)]; exact h1, ?_, fun i q => h3 i (back i a q)⟩
    show (if a = p then none else A a) = none
    split
    · rfl
    · exact h2
end
end Gn
/-! Gn: told lists that are changed: reading, calls, return, append. -/
namespace Gn
open PySem L2
open Rp (rp)
theorem dl_new {F F0 : Hp} {p : Addr} {o : HO} (h : F p = some o) (h0 : F0 p = none) : dl F F0 p = some o := by
  unfold dl
  rw [h0]; exact h
theorem dl_lst {F F0 : Hp} {p : Addr} {vs : List V} (s : Same F0 F) (h : dl F F0 p = some (.lst vs)) : F p = some (.lst vs) ∧ F0 p = none := by
  have h1 := dl_le _ _ h
  refine ⟨h1, ?_⟩
  cases e : F0 p with
  | none => rfl
  | some o =>
    have h2 := s _ _ e
    rw [h1] at h2
    cases h2
    unfold dl at h
    rw [e] at h
    cases h
mutual
/-- data without lists -/
def D.nl : D → Bool
  | .non => true
  | .bl _ => true
  | .int _ => true
  | .str _ => true
  | .lst _ => false
  | .tup xs => D.nls xs
def D.nls : List D → Bool
  | [] => true
  | x :: xs => D.nl x && D.nls xs
end
mutual
theorem rpD_nl {F F0 : Hp} (s : Same F0 F) : ∀ {v : V} {x : D}, D.nl x = true → rpD F v x → rpD (dl F F0) v x
  | _, .non, _, h => by simpa [rpD] using h
  | _, .bl _, _, h => by simpa [rpD] using h
  | _, .int _, _, h => by simpa [rpD] using h
  | _, .str _, _, h => by simpa [rpD] using h
  | _, .lst xs, n, _ => by simp [D.nl] at n
  | _, .tup xs, n, h => by
    simp only [rpD] at h ⊢
    obtain ⟨p, vs, e, h, r⟩ := h
    exact ⟨p, vs, e, dl_tup s h, rpDs_nl s (by simpa [D.nl] using n) r⟩
theorem rpDs_nl {F F0 : Hp} (s : Same F0 F) : ∀ {vs : List V} {xs : List D}, D.nls xs = true → rpDs F vs xs → rpDs (dl F F0) vs xs
  | [], [], _, _ => by simp [rpDs]
  | v :: vs, x :: xs, n, h => by
    simp only [rpDs] at h ⊢
    simp only [D.nls, Bool.and_eq_true] at n
    exact ⟨rpD_nl s n.1 h.1, rpDs_nl s n.2 h.2⟩
  | [], _ :: _, _, h => by simp [rpDs] at h
  | _ :: _, [], _, h => by simp [rpDs] at h
end
theorem rpDs_len' {F : Hp} : ∀ {vs : List V} {xs : List D}, rpDs F vs xs → vs.length = xs.length
  | [], [], _ => rfl
  | _ :: _, _ :: _, h => by rw [rpDs] at h; exact congrArg (· + 1) (rpDs_len' h.2)
  | [], _ :: _, h => by simp [rpDs] at h
  | _ :: _, [], h => by simp [rpDs] at h
theorem rps_nl {α : Type} [Rp α] [Nl α] {g : Gx} {F F0 : Hp} (s : Same F0 F) : ∀ {vs : List V} {xs : List α}, rps g F vs xs → rps g (dl F F0) vs xs
  | [], [], _ => trivial
  | _ :: _, _ :: _, h => ⟨Nl.nl s h.1, rps_nl s h.2⟩
  | [], _ :: _, h => h.elim
  | _ :: _, [], h => h.elim
instance {α : Type} [Rp α] [Nl α] : Nl (Option α) := ⟨fun {g F F0 v x} s h => by
  cases x with
  | none => exact h
  | some y => exact Nl.nl (α := α) s h⟩
section
variable {g : Gx} {α β γ : Type} [Rp α] [Rp β] [Rp γ]
theorem tc_t {i j l : Nat} {vs : List Nat} (hi : i ∈ vs) (hj : j ∈ vs) (hl : l ∈ vs) : TgC g (gTup g.K 3 (gCons (gName i) (gCons (gName j) (gCons (gName l) gNil)))) vs (fun E (x : T3 α β γ) => ((E.set i (.kp x.a)).set j (.kp x.b)).set l (.kp x.c)) := ⟨fun B F A E σ H v x s ⟨p, a, b, c, e, hp, r1, r2, r3⟩ Q k =>
  ⟨p, [a, b, c], e, .of (s.ah _ _ (s.fa _ _ hp)), rfl, a, [b, c], rfl, b, [c], rfl, c, [], rfl, rfl, k _ (((s.setk r1).setk r2).setk r3) (by simp) fun n hn => by
    rw [List.getElem?_set_ne (show l ≠ n from fun z => hn (z ▸ hl)), List.getElem?_set_ne (show j ≠ n from fun z => hn (z ▸ hj)), List.getElem?_set_ne (show i ≠ n from fun z => hn (z ▸ hi))]⟩⟩
theorem nowns3 {E : List Bd} {j l m : Nat} (h : ∀ b, E[j]? = some b → b.nO) (h' : ∀ b, E[l]? = some b → b.nO) (h2 : ∀ b, E[m]? = some b → b.nO) : ∀ i ∈ [j, l, m], ∀ b, E[i]? = some b → b.nO := fun i hi => by
  simp only [List.mem_cons, List.not_mem_nil, or_false] at hi
  rcases hi with hi | hi | hi <;> subst hi <;> assumption
end
section
variable {g : Gx} {B : Bs} {E E1 E2 E3 E' : List Bd} {ta tb te : TE} {t : TA} {α β γ : Type} [Rp α] [Rp β] [Rp γ] {F0 : Hp}
theorem px_kx {x : α} (h : Px g B E E1 te (Kx.mk x : Kx F0 α)) : Px g B E E1 te x := fun F A σ H s Q k => h F A σ H s Q fun F' A' H' v s' f r => k F' A' H' v s' f (Kx.rp r)
theorem px_fr {x : α} (h : Px g B E E1 te (Fr.mk x : Fr F0 α)) : Px g B E E1 te x := fun F A σ H s Q k => h F A σ H s Q fun F' A' H' v s' f r => k F' A' H' v s' f (Fr.rp r)
/-- data without lists is new -/
theorem pf_nl [Nl α] (sm : Same F0 B.F0) {x : α} (h : Px g B E E1 te x) : Px g B E E1 te (Fr.mk x : Fr F0 α) := fun F A σ H s Q k => h F A σ H s Q fun F' A' H' v s' f r => k F' A' H' v s' f ⟨Nl.nl (sm.trans s'.f0) r, sm.trans s'.f0⟩
theorem pf_nlD (sm : Same F0 B.F0) {x : D} (hx : D.nl x = true) (h : Px g B E E1 te x) : Px g B E E1 te (Fr.mk x : Fr F0 D) := fun F A σ H s Q k => h F A σ H s Q fun F' A' H' v s' f r => k F' A' H' v s' f ⟨rpD_nl (sm.trans s'.f0) hx r, sm.trans s'.f0⟩
theorem pf_d [ToD α] {x : α} (h : Px g B E E1 te (Fr.mk x : Fr F0 α)) : Px g B E E1 te (Fr.mk (ToD.d x) : Fr F0 D) := fun F A σ H s Q k => h F A σ H s Q fun F' A' H' v s' f r => k F' A' H' v s' f ⟨ToD.ok r.1, r.2⟩
theorem pf_some {x : α} (h : Px g B E E1 te (Fr.mk x : Fr F0 α)) : Px g B E E1 te (Fr.mk (some x) : Fr F0 (Option α)) := fun F A σ H s Q k => h F A σ H s Q fun F' A' H' v s' f r => k F' A' H' v s' f ⟨r.1, r.2⟩
theorem pf_none (sm : Same F0 B.F0) (h : Px g B E E1 te ()) : Px g B E E1 te (Fr.mk none : Fr F0 (Option α)) := fun F A σ H s Q k => h F A σ H s Q fun F' A' H' v s' f r => k F' A' H' v s' f ⟨r, sm.trans s'.f0⟩
theorem pf_get {x : Option α} {y : α} (h : Px g B E E1 te (Fr.mk x : Fr F0 (Option α))) (e : x = some y) : Px g B E E1 te (Fr.mk y : Fr F0 α) := fun F A σ H s Q k => h F A σ H s Q fun F' A' H' v s' f r => k F' A' H' v s' f (by subst e; exact ⟨r.1, r.2⟩)
theorem pf_eq {x y : α} (h : Px g B E E1 te (Fr.mk x : Fr F0 α)) (e : x = y) : Px g B E E1 te (Fr.mk y : Fr F0 α) := e ▸ h
/-- a new list of data without lists -/
theorem pf_new [Nl α] (sm : Same F0 B.F0) {xs : List α} (h : PxN g B E E1 te xs) : Px g B E E1 te (Fr.mk xs : Fr F0 (List α)) := fun F A σ H s Q k => h F A σ H s Q fun F' A' H' p vs s' e n r => by
  obtain ⟨F2, A2, s2, hF, hA, hp⟩ := s'.keep n
  exact k F2 A2 H' _ s2 (e.trans hF) ⟨⟨p, vs, rfl, dl_new hp ((sm.trans s'.f0).free n.f), rps_nl (sm.trans s2.f0) (rps_mono hF r)⟩, sm.trans s2.f0⟩
theorem rps_fr {F : Hp} (s0 : Same F0 F) : ∀ {vs : List V} {xs : List α}, rps g F vs (xs.map fun x => (Fr.mk x : Fr F0 α)) → rps g (dl F F0) vs xs
  | [], [], _ => trivial
  | _ :: _, _ :: _, h => ⟨h.1.1, rps_fr s0 h.2⟩
  | [], _ :: _, h => h.elim
  | _ :: _, [], h => h.elim
/-- a new list of new data -/
theorem pf_newF (sm : Same F0 B.F0) {xs : List α} (h : PxN g B E E1 te (xs.map fun x => (Fr.mk x : Fr F0 α))) : Px g B E E1 te (Fr.mk xs : Fr F0 (List α)) := fun F A σ H s Q k => h F A σ H s Q fun F' A' H' p vs s' e n r => by
  obtain ⟨F2, A2, s2, hF, hA, hp⟩ := s'.keep n
  exact k F2 A2 H' _ s2 (e.trans hF) ⟨⟨p, vs, rfl, dl_new hp ((sm.trans s'.f0).free n.f), rps_fr (sm.trans s2.f0) (rps_mono hF r)⟩, sm.trans s2.f0⟩
theorem pf_tup2 (sm : Same F0 B.F0) {x : α} {y : β} (ha : Px g B E E1 ta (Fr.mk x : Fr F0 α)) (hb : Px g B E1 E2 tb (Fr.mk y : Fr F0 β)) : Px g B E E2 (tTup (tCons ta (tCons tb tNil))) (Fr.mk (x, y) : Fr F0 (α × β)) := fun F A σ H s Q k =>
  ha F A σ H s _ fun F1 A1 H1 v s1 e1 rv => hb F1 A1 σ H1 s1 _ fun F2 A2 H2 w s2 e2 rw => ⟨by show 2 ≤ sizeLine; decide, fun p hp => by
    obtain ⟨s3, n⟩ := s2.alloc (o := .tup [v, w]) hp
    obtain ⟨F4, A4, s4, hF, hA, hp4⟩ := s3.keep n
    exact k F4 A4 _ _ s4 ((e1.trans e2).trans hF) ⟨⟨p, v, w, rfl, dl_new hp4 ((sm.trans s3.f0).free n.f), Rp.mono (dl_mono (e2.trans hF)) rv.1, Rp.mono (dl_mono hF) rw.1⟩, sm.trans s4.f0⟩⟩
theorem pf_t0 {x : α × β} (ha : Px g B E E1 ta (Fr.mk x : Fr F0 (α × β))) : Px g B E E1 (tOp (rIxT g.K) ta (tC (.int 0))) (Fr.mk x.1 : Fr F0 α) := fun F A σ H s Q k =>
  ha F A σ H s _ fun F1 A1 H1 v s1 e1 ⟨⟨p, a, b, ev, hp, r1, r2⟩, z⟩ => ⟨p, [a, b], 0, a, ev, rfl, .of (s1.ah _ _ (s1.fa _ _ (dl_le _ _ hp))), rfl, k F1 A1 H1 _ s1 e1 ⟨r1, z⟩⟩
theorem pf_t1 {x : α × β} (ha : Px g B E E1 ta (Fr.mk x : Fr F0 (α × β))) : Px g B E E1 (tOp (rIxT g.K) ta (tC (.int 1))) (Fr.mk x.2 : Fr F0 β) := fun F A σ H s Q k =>
  ha F A σ H s _ fun F1 A1 H1 v s1 e1 ⟨⟨p, a, b, ev, hp, r1, r2⟩, z⟩ => ⟨p, [a, b], 1, b, ev, rfl, .of (s1.ah _ _ (s1.fa _ _ (dl_le _ _ hp))), rfl, k F1 A1 H1 _ s1 e1 ⟨r2, z⟩⟩
/-- a call that tells what is new -/
theorem pf_call {rel : List Ca → Out → Prop} {X : XK} {as : List Ar} {cs : List Ca} {ms : List Nat} {x : α} {outs : List Cn} {t : TA} (sm : Same F0 B.F0) (ha : PxA g B E E1 t as) (hr : Rs E1 as cs ms) (ap : Apart E1 ms as cs) (nd : ms.Nodup) (hrel : rel cs (.fr x outs)) : Px g B E (puts E1 ms outs) (tCall (spOf g rel) [] X t) (Fr.mk x : Fr F0 α) := fun F A σ H s Q k =>
  ha F A σ H s _ fun F1 A1 H1 vs s1 e1 r1 => by
    show spOf g rel (vs ++ []) H1 Q X
    rw [List.append_nil]
    obtain ⟨⟨ps, had⟩, ho⟩ := rs_ads s1 hr
    refine ⟨F1, cs, ps, .fr x outs, s1.fa.trans s1.ah, ads_nodup s1 had nd ho, in_ok s1 had ho hr ap r1 had, hrel, fun F' H' v gr cn r => ?_⟩
    have c := cn_at cn
    obtain ⟨A', s'⟩ := after_call s1 had ho gr (fun p hp => (c p hp).2) (fun p hp => (c p hp).1) puts_len fun i b e => .inr (puts_get had cn nd (fun i hi => by
      obtain ⟨b, hb, hbo⟩ := ho i hi
      exact ⟨b, hb, hbo, sl_io s1 hb⟩) i b e)
    exact k F' A' H' v s' (e1.trans gr.f) ⟨Rp.mono (dl_anti (sm.trans s1.f0)) r, sm.trans s'.f0⟩
theorem pf_callS {rel : List Ca → Out → Prop} {X : L2.St → XK} {as : List Ar} {cs : List Ca} {ms : List Nat} {x : α} {outs : List Cn} {t : TA} (sm : Same F0 B.F0) (ha : PxA g B E E1 t as) (hr : Rs E1 as cs ms) (ap : Apart E1 ms as cs) (nd : ms.Nodup) (hrel : rel cs (.fr x outs)) : Px g B E (puts E1 ms outs) (tCallS (spOf g rel) X t) (Fr.mk x : Fr F0 α) := fun F A σ H s Q k =>
  ha F A σ H s _ fun F1 A1 H1 vs s1 e1 r1 => by
    obtain ⟨⟨ps, had⟩, ho⟩ := rs_ads s1 hr
    refine ⟨F1, cs, ps, .fr x outs, s1.fa.trans s1.ah, ads_nodup s1 had nd ho, in_ok s1 had ho hr ap r1 had, hrel, fun F' H' v gr cn r => ?_⟩
    have c := cn_at cn
    obtain ⟨A', s'⟩ := after_call s1 had ho gr (fun p hp => (c p hp).2) (fun p hp => (c p hp).1) puts_len fun i b e => .inr (puts_get had cn nd (fun i hi => by
      obtain ⟨b, hb, hbo⟩ := ho i hi
      exact ⟨b, hb, hbo, sl_io s1 hb⟩) i b e)
    exact k F' A' H' v s' (e1.trans gr.f) ⟨Rp.mono (dl_anti (sm.trans s1.f0)) r, sm.trans s'.f0⟩
theorem sx_retF {D : Ends} {x : α} {outs : List Cn} {qs : List Addr} (eF : B.F0 = F0) (hx : Px g B E E1 te (Fr.mk x : Fr F0 α)) (hps : B.ps = qs) (hf : Fi E1 qs outs) (h : DRt g B D.rt (.fr x outs)) : Sx g B E (tRet te) D := fun F A σ H s =>
  hx F A σ H s _ fun F1 A1 H1 v s1 e1 r => h F1 A1 E1 σ H1 v s1 (hps ▸ fi_ok s1 hf) (by rw [eF]; exact r.1)
/-- a list told is changed -/
theorem Sta.appF {F A H : Hp} {σ : L2.St} (s : Sta g B F A E σ H) (m : Rst B.F0 E E') {p : Addr} {vs ws : List V} (hF : F p = some (.lst vs)) (h0 : B.F0 p = none) : Sp' g B E' σ (upd H p (.lst ws)) := ⟨_, _, s.reset m hF h0⟩
theorem sx_appFD {D : Ends} {x : γ} {d : Gn.D} {ds : List Gn.D} (eF : B.F0 = F0) (ht : Px g B E E1 ta (Fr.mk d : Fr F0 Gn.D)) (hd : d = .lst ds) (hx : Px g B E1 E2 te x) (hz : sz (ds.length + 1) = true) (m : Rst F0 E2 E3) (k : ∀ σ H, Sp' g B E3 σ H → D.nx σ H) :
    Sx g B E (tDrop (tBM g.K "list" rAppend ta (tCons te tNil))) D := fun F A σ H s => by
  subst eF; subst hd
  refine ht F A σ H s _ fun F1 A1 H1 v s1 e1 rv => ?_
  obtain ⟨rv, z⟩ := rv
  have rv : rpD (dl F1 B.F0) v (.lst ds) := rv
  rw [rpD] at rv
  obtain ⟨p, vs, rfl, hp, r⟩ := rv
  obtain ⟨hp, h0⟩ := dl_lst z hp
  refine ⟨.inl ⟨rfl, _, .of (s1.ah _ _ (s1.fa _ _ hp))⟩, hx F1 A1 σ H1 s1 _ fun F2 A2 H2 w s2 e2 rw => ?_⟩
  have hp2 := e2 _ _ hp
  refine ⟨p, vs, w, rfl, rfl, s2.ah _ _ (s2.fa _ _ hp2), ?_, k _ _ (s2.appF m hp2 h0)⟩
  rw [rpDs_len' r]; exact Nat.lt_of_lt_of_le (Nat.lt_succ_self _) (sz_ok hz)
theorem sx_appFL {D : Ends} {x : γ} {xs : List α} (eF : B.F0 = F0) (ht : Px g B E E1 ta (Fr.mk xs : Fr F0 (List α))) (hx : Px g B E1 E2 te x) (hz : sz (xs.length + 1) = true) (m : Rst F0 E2 E3) (k : ∀ σ H, Sp' g B E3 σ H → D.nx σ H) :
    Sx g B E (tDrop (tBM g.K "list" rAppend ta (tCons te tNil))) D := fun F A σ H s => by
  subst eF
  refine ht F A σ H s _ fun F1 A1 H1 v s1 e1 rv => ?_
  obtain ⟨⟨p, vs, rfl, hp, r⟩, z⟩ := rv
  obtain ⟨hp, h0⟩ := dl_lst z hp
  refine ⟨.inl ⟨rfl, _, .of (s1.ah _ _ (s1.fa _ _ hp))⟩, hx F1 A1 σ H1 s1 _ fun F2 A2 H2 w s2 e2 rw => ?_⟩
  have hp2 := e2 _ _ hp
  exact ⟨p, vs, w, rfl, rfl, s2.ah _ _ (s2.fa _ _ hp2), by rw [rps_len r]; exact Nat.lt_of_lt_of_le (Nat.lt_succ_self _) (sz_ok hz), k _ _ (s2.appF m hp2 h0)⟩
end
def D.asL : D → Option (List D)
  | .lst xs => some xs
  | _ => none
theorem asL_eq {d : D} {xs : List D} (h : D.asL d = some xs) : d = .lst xs := by
  cases d <;> simp only [D.asL] at h
  all_goals first | cases h | skip
  rfl
theorem Sp'.nest {g : Gx} {B B' : Bs} {E : List Bd} {P : L2.St → Hp → Prop} (n : Nest g B B') (h : ∀ σ H, Sp' g B E σ H → P σ H) : ∀ σ H, Sp' g B' E σ H → P σ H := fun σ H ⟨F, A, s⟩ => h σ H ⟨F, A, n.2.2 _ _ _ _ _ s⟩
def resF {τ : Type} [Rp τ] (r : R τ) (o : Out) : Prop := match r with
  | .ok y => o = .fr y []
  | .ex c d => o = .exc c d
  | .bad => False
def resF1 {τ σ : Type} [Rp τ] [Rp σ] (r : R (τ × List σ)) (o : Out) : Prop := match r with
  | .ok y => o = .fr y.1 [.mk y.2]
  | .ex c d => o = .exc c d
  | .bad => False
theorem resF_ne {τ : Type} [Rp τ] {r : R τ} {o : Out} (h : resF r o) : r ≠ .bad ∧ (∀ y, r = .ok y → o = .fr y []) ∧ (∀ c d, r = .ex c d → o = .exc c d) := by
  cases r with
  | ok y => exact ⟨(fun z => nomatch z), (fun z e => by cases e; exact h), (fun c d e => nomatch e)⟩
  | ex c d => exact ⟨(fun z => nomatch z), (fun z e => nomatch e), (fun c d e => by cases e; exact h)⟩
  | bad => exact h.elim
theorem resF1_ne {τ σ : Type} [Rp τ] [Rp σ] {r : R (τ × List σ)} {o : Out} (h : resF1 r o) : r ≠ .bad ∧ (∀ y, r = .ok y → o = .fr y.1 [.mk y.2]) ∧ (∀ c d, r = .ex c d → o = .exc c d) := by
  cases r with
  | ok y => exact ⟨(fun z => nomatch z), (fun z e => by cases e; exact h), (fun c d e => nomatch e)⟩
  | ex c d => exact ⟨(fun z => nomatch z), (fun z e => nomatch e), (fun c d e => by cases e; exact h)⟩
  | bad => exact h.elim
end Gn
/-! Gn: lists of new lists made by a comprehension. -/
namespace Gn
open PySem L2
open Rp (rp)
section
variable {g : Gx} {B : Bs} {E E' : List Bd} {α β : Type} [Rp α] [Rp β]
theorem Sta.unbase {F2 A2 F' A' H' : Hp} {σ : L2.St} (f0 : Same B.F0 F2) (a0 : Same B.A0 A2) (fr : ∀ a, B.F0 a = none → (B.A0 a ≠ none ∨ a ∈ B.ps) → F2 a = none) (q : Sta g (B.to F2 A2) F' A' E σ H') : Sta g B F' A' E σ H' :=
  ⟨q.len, q.fa, q.ah, f0.trans q.f0, a0.trans q.a0, fun a h1 h2 => q.fr a (fr a h1 h2) (by
    rcases h2 with h2 | h2
    · left
      show A2 a ≠ none
      cases e : B.A0 a with
      | none => exact absurd e h2
      | some o => rw [a0 _ _ e]; exact fun z => nomatch z
    · exact .inr h2), q.inn, q.sl, q.ne, q.pr, q.nn⟩
theorem Sta.unwipeG {F A H F1 A1 H1 : Hp} {σ σ2 : L2.St} {vs : List Nat} (hlen : E.length = σ.length) (hsl : ∀ (i : Nat) (b : Bd), E[i]? = some b → SlotOk g F1 A1 H1 σ[i]? b) (sF : Same F1 F) (sA : Same A1 A) (s : Sta g B F A (wipeE E vs) σ2 H) (hl : σ2.length = σ.length) (hσ : ∀ i, i ∉ vs → σ2[i]? = σ[i]?)
    (hv : ∀ i ∈ vs, ∀ b, E[i]? = some b → b.nO) : Sta g B F A E σ H := by
  have ow : ∀ i p, Own E σ i p → Own (wipeE E vs) σ2 i p := fun i p ⟨e1, b, hb, hbo⟩ => by
    by_cases hi : i ∈ vs
    · exact absurd hbo (hv i hi b hb).1
    · exact ⟨by rw [hσ i hi]; exact e1, b, by rw [wipeE_out hi]; exact hb, hbo⟩
  have inn : ∀ i p, Inn E i p → Inn (wipeE E vs) i p := fun i p ⟨b, hb, hbo⟩ => by
    by_cases hi : i ∈ vs
    · rw [(hv i hi b hb).2] at hbo; cases hbo
    · exact ⟨b, by rw [wipeE_out hi]; exact hb, hbo⟩
  refine ⟨hlen, s.fa, s.ah, s.f0, s.a0, s.fr, s.inn, fun i b e => ?_, fun i j p h1 h2 => s.ne i j p (ow i p h1) (ow j p h2), fun a o e => ?_, fun i q h => ?_⟩
  · by_cases hi : i ∈ vs
    · have h2 := hv i hi b e
      exact SlotOk.mono sF sA (fun p _ hb => absurd hb h2.1) (hsl i b e) fun q hq => by rw [h2.2] at hq; cases hq
    · rw [← hσ i hi]
      exact s.sl i b (by rw [wipeE_out hi]; exact e)
  · obtain ⟨h1, h2, h3⟩ := s.pr a o e
    exact ⟨h1, h2, fun i q => h3 i (ow i a q)⟩
  · obtain ⟨h1, h2, h3, h4⟩ := s.nn i q (inn i q h)
    exact ⟨fun j z => h1 j (ow j q z), fun j z => h2 j (inn j q z), h3, h4⟩
theorem aside_swap {p q : Addr} {o u : HO} (h : p ≠ q) : (B.aside p o).aside q u = (B.aside q u).aside p o := by
  unfold Bs.aside
  congr 1
  funext a
  by_cases h1 : a = p
  · subst h1
    show upd (upd B.P a o) q u a = upd (upd B.P q u) a o a
    rw [upd_same, upd_ne h, upd_same]
  · show upd (upd B.P p o) q u a = upd (upd B.P q u) p o a
    rw [upd_ne h1]
    by_cases h2 : a = q
    · subst h2; rw [upd_same, upd_same]
    · rw [upd_ne h2, upd_ne h2, upd_ne h1]
theorem nest_aside {p : Addr} {o : HO} (hP : B.P p = none) (hps : p ∉ B.ps) : Nest g B (B.aside p o) := ⟨rfl, ⟨Same.refl _, fun a e => by
    have e : (upd B.P p o) a = none := e
    by_cases h : a = p
    · rw [h]; exact hP
    · rwa [upd_ne h] at e⟩, fun F A E σ H q => (q.back hP hps).1⟩
/-- a new list of new lists -/
structure NewL (B : Bs) (F A : Hp) (E : List Bd) (σ : L2.St) (H : Hp) (p : Addr) (qs : List Addr) : Prop where
  nd : (p :: qs).Nodup
  at_ : H p = some (.lst (qs.map V.ref))
  nw : ∀ q ∈ p :: qs, F q = none ∧ A q = none ∧ (∀ j, ¬ Own E σ j q) ∧ (∀ j, ¬ Inn E j q) ∧ q ∉ B.ps ∧ B.P q = none
def PxNL (g : Gx) (B : Bs) (E E' : List Bd) (te : TE) {α : Type} [Rp α] (xss : List (List α)) : Prop :=
  ∀ F A σ H, Sta g B F A E σ H → ∀ Q : VK, (∀ F' A' H' p qs, Sta g B F' A' E' σ H' → Same F F' → NewL B F' A' E' σ H' p qs → nlOk g F' H' qs xss → Q (.ref p) H') → te σ H Q
theorem nl_app {F H : Hp} {q : Addr} {ws : List V} {ys : List α} (e : H q = some (.lst ws)) (r : rps g F ws ys) : ∀ {qs : List Addr} {xss : List (List α)}, nlOk g F H qs xss → nlOk g F H (qs ++ [q]) (xss ++ [ys])
  | [], [], _ => ⟨⟨ws, e, r⟩, trivial⟩
  | _ :: _, _ :: _, h => ⟨h.1, nl_app e r h.2⟩
  | [], _ :: _, h => h.elim
  | _ :: _, [], h => h.elim
theorem pnl_comp {γ : Type} [Rp γ] {E1 : List Bd} {xs : List γ} {yss : List (List α)} {fn : γ → R (List α)} {wi : TI} {tg : TG} {te : TE} {vs : List Nat} {f : List Bd → γ → List Bd}
    (hsrc : Sr g B E E1 wi xs) (htg : TgC g tg vs f) (hC : mapR xs fn = .ok yss) (hz : sz xs.length = true) (hv : ∀ i ∈ vs, ∀ b, E1[i]? = some b → b.nO) (hl : ∀ x, LeE (f (wipeE E1 vs) x) (wipeE E1 vs))
    (hb : ∀ B' x y, Nest g B B' → x ∈ xs → fn x = .ok y → PxN g B' (f (wipeE E1 vs) x) (f (wipeE E1 vs) x) te y) : PxNL g B E E1 (tLc wi tg tYes te vs) yss := fun F A σ H s Q k => by
  have split : ∀ (i : Nat) (q : List (List α)), i < xs.length → mapR (xs.drop i) fn = .ok q → ∃ x y q', xs[i]? = some x ∧ fn x = .ok y ∧ mapR (xs.drop (i + 1)) fn = .ok q' ∧ q = y :: q' := fun i q hi hq => by
    rw [List.drop_eq_getElem_cons hi] at hq
    unfold mapR at hq
    obtain ⟨r, h1, h2⟩ := bind_ok hq
    obtain ⟨q', h3, h4⟩ := bind_ok h2
    exact ⟨xs[i], r, q', by simp [hi], h1, h3, (R.ok.inj h4).symm⟩
  refine hsrc F A σ H s _ fun F1 A1 H1 J B0 s0' n0 eF src => fun D hD => ?_
  obtain ⟨s1, nr⟩ := s0'.rebase
  generalize hB1 : B0.to F1 A1 = B1 at s1 nr
  have n01 := n0.trans nr
  have hf0 : B1.F0 = F1 := by rw [← hB1]; rfl
  have hPD : B1.P D = none := by
    cases e : B1.P D with
    | none => rfl
    | some o => have := (s1.pr D o e).1; rw [hD] at this; cases this
  have hpsD : D ∉ B1.ps := fun z => (s1.inn D z).1 hD
  obtain ⟨s2, n2⟩ := s1.alloc (o := .lst []) hD
  obtain ⟨s3, _⟩ := s2.aside n2
  let Inv : Nat → Hp → Prop := fun i H => ∃ (F A : Hp) (Bi : Bs) (qs : List Addr) (done rest : List (List α)), Sta g (Bi.aside D (.lst (qs.map V.ref))) F A E1 σ H ∧ Nest g B1 Bi ∧ Bi.P D = none ∧ qs.Nodup ∧ (∀ q ∈ qs, B1.P q = none ∧ q ∉ B1.ps) ∧ nlOk g F Bi.P qs done ∧ mapR (xs.drop i) fn = .ok rest ∧ yss = done ++ rest ∧ qs.length = i
  refine ⟨fun i m H => m = xs.length - i ∧ i ≤ xs.length ∧ Inv i H, ⟨xs.length, by simp, Nat.zero_le _, F1, A1, B1, [], [], yss, s3, Nest.refl, hPD, List.nodup_nil, (fun q h => nomatch h), trivial, by rw [List.drop_zero]; exact hC, rfl, rfl⟩, ?_⟩
  rintro i m H' ⟨rfl, hi, F', A', Bi, qs, done, rest, st, nBi, hPi, nd, hqs, hnl, hR, hys, hlen⟩
  have hpi : D ∉ Bi.ps := by rw [nBi.1]; exact hpsD
  have nA : Nest g Bi (Bi.aside D (.lst (qs.map V.ref))) := nest_aside hPi hpi
  by_cases hlt : i < xs.length
  · right
    refine ⟨src.goes i F' A' _ σ H' hlt (nr.2.2 _ _ _ _ _ (nBi.2.2 _ _ _ _ _ (nA.2.2 _ _ _ _ _ st))), Inv (i + 1), fun H'' hI => ⟨xs.length - (i + 1), by omega, rfl, hlt, hI⟩, fun v H'' hy => ?_⟩
    obtain ⟨x, y, q', hx, hfn, hq', e1⟩ := split i _ hlt hR
    obtain ⟨st', nst⟩ := st.rebase
    obtain ⟨F2, A2, st2, rv⟩ := src.yld _ i F' A' _ σ H' v H'' x (nr.trans (nBi.trans (nA.trans nst))) hx st' hy
    have hF2 : Same F' F2 := st2.f0
    have st2 := nst.2.2 _ _ _ _ _ st2
    obtain ⟨st3, n3⟩ := st2.rebase
    have nAll : Nest g B ((Bi.aside D (.lst (qs.map V.ref))).to F2 A2) := n01.trans (nBi.trans (nA.trans n3))
    have stw := st3.wipe vs (σ' := L2.wipe σ vs) (wipe_length σ vs) fun i hi => wipe_out hi
    refine htg.go _ F2 A2 _ _ H'' v x stw rv _ fun σ2 st4 hl2 hσ2 => ⟨wipe_eq (hl2.trans (wipe_length σ vs)) hσ2, ?_⟩
    have hσσ : ∀ i, i ∉ vs → σ2[i]? = σ[i]? := fun i hi => (hσ2 i hi).trans (wipe_out hi)
    have hlσ : σ2.length = σ.length := hl2.trans (wipe_length σ vs)
    refine pt_yes F2 A2 σ2 H'' st4 _ fun F3 A3 H3 st5 e3 => iteT (hb _ x y nAll (List.mem_of_getElem? hx) hfn F3 A3 σ2 H3 st5 _ fun F4 A4 H4 q ws st6 e4 n rw => ?_)
    have st7 : Sta g (((Bi.aside D (.lst (qs.map V.ref))).aside q (.lst ws)).to F2 A2) F4 A4 (f (wipeE E1 vs) x) σ2 H4 := (st6.aside n).1
    have st8 := Sta.unwipeG (F1 := F2) (A1 := A2) (H1 := H'') st2.len st2.sl st6.f0 st6.a0 (st7.weak (hl x)) hlσ hσσ hv
    have hDq : D ≠ q := fun z => by
      have := n.P
      rw [← z] at this
      have this : (upd Bi.P D (.lst (qs.map V.ref))) D = none := this
      rw [upd_same] at this; cases this
    have hPq : Bi.P q = none := by
      have := n.P
      have this : (upd Bi.P D (.lst (qs.map V.ref))) q = none := this
      rwa [upd_ne (Ne.symm hDq)] at this
    have hpq : q ∉ Bi.ps := n.ps
    have st9 := Sta.unbase (B := (Bi.aside D (.lst (qs.map V.ref))).aside q (.lst ws)) st2.f0 st2.a0 st2.fr st8
    rw [aside_swap hDq] at st9
    have hPD' : (Bi.aside q (.lst ws)).P D = none := by
      show (upd Bi.P q (.lst ws)) D = none
      rw [upd_ne hDq]; exact hPi
    have hD4 : H4 D = some (.lst (qs.map V.ref)) := (st9.pr D _ (by show (upd (Bi.aside q (.lst ws)).P D _) D = _; exact upd_same)).1
    refine ⟨qs.map V.ref, hD4, by rw [List.length_map, hlen]; exact Nat.lt_of_lt_of_le hlt (sz_ok hz), F4, A4, Bi.aside q (.lst ws), qs ++ [q], done ++ [y], q', ?_, nBi.trans (nest_aside hPq hpq), hPD', ?_, ?_, ?_, hq', by rw [hys, e1, List.append_assoc]; rfl, by rw [List.length_append, hlen]; rfl⟩
    · have := st9.aside_set (o' := .lst (qs.map V.ref ++ [.ref q])) hPD' hpi
      rw [List.map_append]
      exact this
    · refine List.nodup_append.mpr ⟨nd, by simp, fun a ha b hb => ?_⟩
      rw [List.mem_singleton.mp hb]
      intro z
      subst z
      exact nl_mem hnl a ha hPq
    · intro a ha
      rcases List.mem_append.mp ha with ha | ha
      · exact hqs a ha
      · rw [List.mem_singleton.mp ha]
        exact ⟨nBi.2.1.2 q hPq, by rw [← nBi.1]; exact hpq⟩
    · refine nl_app (by show (upd Bi.P q _) q = _; exact upd_same) rw (nl_mono (hF2.trans st6.f0) (fun a ha o e => ?_) hnl)
      show (upd Bi.P q _) a = _
      rw [upd_ne (fun z => by rw [z, hPq] at e; cases e)]; exact e
  · left
    have hi' : i = xs.length := by omega
    have hr : rest = [] := by
      rw [hi', List.drop_length] at hR
      exact (R.ok.inj hR).symm
    subst hr
    rw [List.append_nil] at hys
    subst hys
    have fin := fun (s' : Sta g (Bi.aside D (.lst (qs.map V.ref))) F' A' E1 σ H') => nA.2.2 _ _ _ _ _ s'
    obtain ⟨sB, nD⟩ := st.back hPi hpi
    have sAll : Sta g B F' A' E1 σ H' := n01.2.2 _ _ _ _ _ (nBi.2.2 _ _ _ _ _ sB)
    have prq : ∀ q ∈ qs, ∃ o, Bi.P q = some o := fun q hq => by
      cases e : Bi.P q with
      | none => exact absurd e (nl_mem hnl q hq)
      | some o => exact ⟨o, rfl⟩
    have hDqs : D ∉ qs := fun z => by
      obtain ⟨o, e⟩ := prq D z
      rw [hPi] at e; cases e
    have hstop := nBi.2.2 _ _ _ _ _ sB
    subst hi'
    refine ⟨src.stops F' A' _ σ H' (nr.2.2 _ _ _ _ _ hstop), k F' A' H' D qs sAll (eF.trans (by
      have := sB.f0
      have h2 := nBi.2.1.1
      rw [hf0] at h2
      exact h2.trans this)) ⟨List.nodup_cons.mpr ⟨hDqs, nd⟩, nD.at_, fun q hq => ?_⟩ (nl_mono (Same.refl _) (fun a ha o e => (sB.pr a o e).1) hnl)⟩
    rcases List.mem_cons.mp hq with hq | hq
    · subst hq
      exact ⟨nD.f, nD.a, nD.ne, nD.ni, by rw [← n01.1]; exact hpsD, n01.2.1.2 q hPD⟩
    · obtain ⟨o, e⟩ := prq q hq
      obtain ⟨p1, p2, p3⟩ := sB.pr q o e
      obtain ⟨z1, z2⟩ := hqs q hq
      refine ⟨sB.fa.free p2, p2, p3, fun j z => ?_, by rw [← n01.1]; exact z2, n01.2.1.2 q z1⟩
      have := (sB.nn j q z).2.2.2
      rw [e] at this; cases this
/-- a slot gets a list of lists of one's own -/
theorem Sta.setNL {F A H : Hp} {σ : L2.St} (s : Sta g B F A E σ H) {i : Nat} {p : Addr} {qs : List Addr} {xss : List (List α)} (n : NewL B F A E σ H p qs) (h : nlOk g F H qs xss) : Sta g B F A (E.set i (.ot (p :: qs) (NL.mk xss))) (σ.set i (some (.ref p))) H :=
  s.setG ⟨.ref p, rfl, ⟨p, qs, rfl, rfl, n.nd, n.at_, h⟩, fun q hq => ⟨(n.nw q hq).1, (n.nw q hq).2.1⟩⟩ (fun _ _ z => z.elim) (fun q hq => by
    obtain ⟨_, _, h1, h2, h3, h4⟩ := n.nw q hq
    exact ⟨fun j _ => h1 j, fun j _ => h2 j, h3, h4⟩) fun z => z.elim
theorem sx_asgNL {D : Ends} {i : Nat} {te : TE} {E1 : List Bd} {xss : List (List α)} (h : PxNL g B E E1 te xss) (k : ∀ ps, ∀ σ H, Sp' g B (E1.set i (.ot ps (NL.mk xss))) σ H → D.nx σ H) : Sx g B E (tAsg te (gName i)) D := fun F A σ H s =>
  h F A σ H s _ fun F1 A1 H1 p qs s1 e1 n r => k (p :: qs) _ _ ⟨F1, A1, s1.setNL n r⟩
/-- a new object is frozen, told where -/
theorem Sta.keep2 {F A H : Hp} {σ : L2.St} (s : Sta g B F A E σ H) {p : Addr} {o : HO} (n : New B F A E σ H p o) : Sta g B (upd F p o) (upd A p o) E σ H := by
  have k1 : ∀ a, a ≠ p → (upd F p o) a = F a := fun a h => upd_ne h
  have k2 : ∀ a, a ≠ p → (upd A p o) a = A a := fun a h => upd_ne h
  refine ⟨s.len, fun a u e => ?_, fun a u e => ?_, s.f0.trans (Same.upd n.f), s.a0.trans (Same.upd n.a), fun a h1 h2 => ?_, fun a h => ⟨(s.inn a h).1, ?_⟩, fun i b e => ?_, s.ne, fun a u e => ?_, s.nn⟩
  · by_cases h : a = p
    · subst h; rw [upd_same] at e ⊢; exact e
    · rw [k1 a h] at e; rw [k2 a h]; exact s.fa _ _ e
  · by_cases h : a = p
    · subst h; rw [upd_same] at e; cases e; exact n.at_
    · rw [k2 a h] at e; exact s.ah _ _ e
  · by_cases h : a = p
    · subst h
      rcases h2 with h2 | h2
      · cases e : B.A0 a with
        | none => exact absurd e h2
        | some u => have := s.a0 _ _ e; rw [n.a] at this; cases this
      · exact absurd h2 n.ps
    · rw [k1 a h]; exact s.fr a h1 h2
  · rw [k2 a (fun z => n.ps (z ▸ h))]; exact (s.inn a h).2
  · refine SlotOk.mono (Same.upd n.f) (Same.upd n.a) (fun q e1 h => ?_) (s.sl i b e) fun q h => ?_
    · have o' : Own E σ i q := ⟨e1, _, e, h⟩
      have hq : q ≠ p := fun z => n.ne i (z ▸ o')
      obtain ⟨f1, f2, _⟩ := s.own o'
      exact ⟨fun _ h => h, by rw [k1 q hq]; exact f1, by rw [k2 q hq]; exact f2⟩
    · have o' : Inn E i q := ⟨_, e, h⟩
      have hq : q ≠ p := fun z => n.ni i (z ▸ o')
      obtain ⟨f1, f2, _⟩ := s.inq o'
      exact ⟨fun _ h => h, by rw [k1 q hq]; exact f1, by rw [k2 q hq]; exact f2⟩
  · obtain ⟨h1, h2, h3⟩ := s.pr a u e
    refine ⟨h1, ?_, h3⟩
    rw [k2 a (fun z => by rw [z, n.P] at e; cases e)]; exact h2
def Nw (B : Bs) (F A : Hp) (E : List Bd) (σ : L2.St) (q : Addr) : Prop := F q = none ∧ A q = none ∧ (∀ j, ¬ Own E σ j q) ∧ (∀ j, ¬ Inn E j q) ∧ q ∉ B.ps ∧ B.P q = none
theorem Nw.new {F A H : Hp} {σ : L2.St} {q : Addr} {o : HO} (n : Nw B F A E σ q) (h : H q = some o) : New B F A E σ H q o := ⟨h, n.1, n.2.1, n.2.2.1, n.2.2.2.1, n.2.2.2.2.1, n.2.2.2.2.2⟩
theorem Sta.keepL {H : Hp} {σ : L2.St} : ∀ {qs : List Addr} {xss : List (List α)} {F A : Hp}, Sta g B F A E σ H → qs.Nodup → (∀ q ∈ qs, Nw B F A E σ q) → nlOk g F H qs xss → ∃ F' A', Sta g B F' A' E σ H ∧ Same F F' ∧ rps g F' (qs.map V.ref) xss ∧ (∀ q ∈ qs, F' q = H q) ∧ ∀ q, q ∉ qs → F' q = F q ∧ A' q = A q
  | [], [], F, A, s, _, _, _ => ⟨F, A, s, Same.refl _, trivial, (fun q h => nomatch h), fun q _ => ⟨rfl, rfl⟩⟩
  | q :: qs, xs :: xss, F, A, s, nd, hn, h => by
    obtain ⟨⟨ws, e, r⟩, h2⟩ := h
    obtain ⟨nd1, nd2⟩ := List.nodup_cons.mp nd
    have nq := hn q List.mem_cons_self
    have s2 := s.keep2 (nq.new e)
    have sF : Same F (upd F q (.lst ws)) := Same.upd nq.1
    obtain ⟨F', A', s', h3, h4, h5, h6⟩ := Sta.keepL s2 nd2 (fun q' hq' => by
      have n' := hn q' (List.mem_cons_of_mem _ hq')
      have ne : q' ≠ q := fun z => nd1 (z ▸ hq')
      exact ⟨by rw [upd_ne ne]; exact n'.1, by rw [upd_ne ne]; exact n'.2.1, n'.2.2⟩) (nl_mono sF (fun _ _ _ h => h) h2)
    have eq : F' q = H q := by rw [(h6 q nd1).1, upd_same, e]
    refine ⟨F', A', s', sF.trans h3, ⟨⟨q, ws, rfl, by rw [eq, e], rps_mono (sF.trans h3) r⟩, h4⟩, fun q' hq' => ?_, fun q' hq' => ?_⟩
    · rcases List.mem_cons.mp hq' with z | z
      · rw [z]; exact eq
      · exact h5 q' z
    · have ne : q' ≠ q := fun z => hq' (z ▸ List.mem_cons_self)
      obtain ⟨z1, z2⟩ := h6 q' (fun z => hq' (List.mem_cons_of_mem _ z))
      rw [upd_ne ne] at z1 z2
      exact ⟨z1, z2⟩
  | [], _ :: _, _, _, _, _, _, h => h.elim
  | _ :: _, [], _, _, _, _, _, h => h.elim
/-- the lists within are frozen -/
theorem Sta.melt {F A H : Hp} {σ : L2.St} (s : Sta g B F A E σ H) {i : Nat} {ps : List Addr} {xss : List (List α)} (hi : E[i]? = some (.ot ps (NL.mk xss))) : ∃ F' A' p qs, σ[i]? = some (some (.ref p)) ∧ ps = p :: qs ∧ Sta g B F' A' (E.set i .un) σ H ∧ Same F F' ∧ rps g F' (qs.map V.ref) xss ∧ (∀ q ∈ qs, F q = none ∧ F' q = H q) ∧ New B F' A' (E.set i .un) σ H p (.lst (qs.map V.ref)) ∧ F p = none := by
  obtain ⟨v, e1, ⟨p, qs, rfl, rfl, nd, hp, r⟩, kk⟩ := s.sl i _ hi
  have hs : σ.set i (some (.ref p)) = σ := by
    apply List.ext_getElem?
    intro j
    by_cases h : j = i
    · subst h
      rw [List.getElem?_set_self (List.getElem?_eq_some_iff.mp e1).1, e1]
    · rw [List.getElem?_set_ne (Ne.symm h)]
  have su : Sta g B F A (E.set i .un) σ H := by
    have := s.setG (i := i) (b := .un) (v := .ref p) trivial (fun _ _ z => z.elim) (fun q h => nomatch h) fun z => z.elim
    rwa [hs] at this
  have nw : ∀ q ∈ p :: qs, Nw B F A (E.set i .un) σ q := fun q hq => by
    obtain ⟨n1, n2, n3, n4⟩ := s.nn i q ⟨_, hi, hq⟩
    refine ⟨(kk q hq).1, (kk q hq).2, fun j z => ?_, fun j z => ?_, n3, n4⟩
    · obtain ⟨z1, b, z2, z3⟩ := z
      by_cases hj : j = i
      · subst hj
        rw [List.getElem?_set_self (List.getElem?_eq_some_iff.mp hi).1] at z2
        cases z2; exact z3
      · rw [List.getElem?_set_ne (Ne.symm hj)] at z2
        exact n1 j ⟨z1, b, z2, z3⟩
    · rcases inn_set z with ⟨_, z⟩ | ⟨z1, z2⟩
      · cases z
      · exact z1 (n2 j z2)
  obtain ⟨nd1, nd2⟩ := List.nodup_cons.mp nd
  obtain ⟨F', A', s', h3, h4, h5, h6⟩ := Sta.keepL su nd2 (fun q hq => nw q (List.mem_cons_of_mem _ hq)) r
  obtain ⟨z1, z2⟩ := h6 p nd1
  have np := nw p List.mem_cons_self
  exact ⟨F', A', p, qs, e1, rfl, s', h3, h4, fun q hq => ⟨(kk q (List.mem_cons_of_mem _ hq)).1, h5 q hq⟩, Nw.new ⟨by rw [z1]; exact np.1, by rw [z2]; exact np.2.1, np.2.2⟩ hp, np.1⟩
theorem set_back {σ : L2.St} {i : Nat} {v : V} (e1 : σ[i]? = some (some v)) : σ.set i (some v) = σ := by
  apply List.ext_getElem?
  intro j
  by_cases h : j = i
  · subst h
    rw [List.getElem?_set_self (List.getElem?_eq_some_iff.mp e1).1, e1]
  · rw [List.getElem?_set_ne (Ne.symm h)]
theorem sx_melt {t : TS} {D : Ends} {i : Nat} {ps : List Addr} {xss : List (List α)} (hi : E[i]? = some (.ot ps (NL.mk xss))) (h : Sx g B (E.set i (.ow xss)) t D) : Sx g B E t D := fun F A σ H s => by
  obtain ⟨F', A', p, qs, e1, rfl, s', h3, h4, h5, n, _⟩ := s.melt hi
  have := s'.seto (i := i) n h4
  rw [set_back e1, List.set_set] at this
  exact h F' A' σ H this
theorem sx_frNL {t : TS} {D : Ends} {F0 : Hp} [Nl α] (sm : Same F0 B.F0) {i : Nat} {ps : List Addr} {xss : List (List α)} (hi : E[i]? = some (.ot ps (NL.mk xss))) (h : Sx g B (E.set i (.kp (Fr.mk xss : Fr F0 (List (List α))))) t D) : Sx g B E t D := fun F A σ H s => by
  obtain ⟨F', A', p, qs, e1, rfl, s', h3, h4, h5, n, hp⟩ := s.melt hi
  have s2 := s'.keep2 n
  have sF : Same F' (upd F' p (.lst (qs.map V.ref))) := Same.upd n.f
  have s0 : Same F0 F := sm.trans s.f0
  have key : ∀ {qs' : List Addr} {yss : List (List α)}, (∀ q ∈ qs', F q = none) → rps g F' (qs'.map V.ref) yss → rps g (dl (upd F' p (.lst (qs.map V.ref))) F0) (qs'.map V.ref) yss := by
    intro qs'
    induction qs' with
    | nil => intro yss _ r; cases yss with
      | nil => trivial
      | cons _ _ => exact r.elim
    | cons q qs' ih =>
      intro yss hq r
      cases yss with
      | nil => exact r.elim
      | cons ys yss =>
        obtain ⟨⟨a, ws, ea, eh, rr⟩, r2⟩ := r
        cases ea
        exact ⟨⟨q, ws, rfl, dl_new (sF _ _ eh) (s0.free (hq q List.mem_cons_self)), rps_nl ((s0.trans h3).trans sF) (rps_mono sF rr)⟩, ih (fun q' h => hq q' (List.mem_cons_of_mem _ h)) r2⟩
  have := s2.setk (i := i) (x := (Fr.mk xss : Fr F0 (List (List α)))) (v := .ref p) ⟨⟨p, qs.map V.ref, rfl, dl_new upd_same (s0.free hp), key (fun q hq => (h5 q hq).1) h4⟩, (s0.trans h3).trans sF⟩
  rw [set_back e1, List.set_set] at this
  exact h _ _ σ H this
end
end Gn
/-! Gn: x in o by an own __contains__. -/
namespace L2
open PySem PySem.Spec PyProof.Rows
theorem contains_own {M : Model} {A : Around} {E : Value → Shared → Prop} {s : Shared} {K : PySem.W.Frag} {x C f : Addr} {ox : Obj} {od : Option Obj} {v : Value} {Q : Bool → Shared → Prop} (X : K.In s.heap) (I : PySem.W.InstAt s.heap x ox C od) (hs : PySem.W.findIn K (.ref C) "__contains__" = some (some (.ref f))) (hf : PySem.W.isFn K (.ref f) = true)
    (h : wpAny M A (call (.ref f) [.ref x, v]) (fun r s' => wpAny M A (truthy r) Q E s') E s) : wpAny M A (PySem.contains (.ref x) v) Q E s := by
  unfold PySem.contains
  refine wpAny_holding (wpAny_bind (wpAny_bind (I.type.here ((PySem.W.looks_findIn X hs).here ?_))))
  rw [if_neg (by simp)]
  exact wpAny_bind (PySem.W.unlessNone_K X I hs hf h)
/-- x in o, x not in o: what the own __contains__ says -/
def rInOwn (C : Addr) (sp : Sp) (E : XK) (neg : Bool) : R2 := fun x y H Q => ∃ a dx fs, y = .ref a ∧ H a = some (.ins C dx fs) ∧ sp [.ref a, x] H (fun z H' => ∃ b, z = .bl b ∧ Q (.bl (if neg = true then !b else b)) H') E
theorem op_inOwn {X : Cx} {CX : CXT} {C f : Addr} {fd : FuncData} {ps : List Str} {sp : Sp} {E : XK} {k : Nat} (F : FnOk X.prog X.w X.K X.mg X.base CX k f fd ps sp) (m : Meth X.K C "__contains__" f) (hr : Room k X.A) (hb : Binds X.K fd ps []) (hx : Passes CX X E) : OpR X (compareOp .In) (rInOwn C sp E false) := by
  intro pins s σ H x y v u Q I rx ry hq
  obtain ⟨a, dx, fs, rfl, ha, h⟩ := hq
  cases ry
  obtain ⟨mA, J, _⟩ := ins_get I.hok ha
  obtain ⟨od, J, _⟩ := J.look
  refine wpAny_bind (contains_own I.kIn J m.at_ m.fn (thn (run_fn (us := [.ref a, v]) (vs := [.ref a, x]) F hr hb .nil hx I (.cons rfl (.cons rx .nil)) h) fun r s' hq => ?_))
  obtain ⟨z, H', I', rz, b, rfl, q⟩ := hq
  cases rz
  exact wpAny_truthy_bool (wpAny_pure ⟨.bl b, H', I', rfl, q⟩)
theorem op_notinOwn {X : Cx} {CX : CXT} {C f : Addr} {fd : FuncData} {ps : List Str} {sp : Sp} {E : XK} {k : Nat} (F : FnOk X.prog X.w X.K X.mg X.base CX k f fd ps sp) (m : Meth X.K C "__contains__" f) (hr : Room k X.A) (hb : Binds X.K fd ps []) (hx : Passes CX X E) : OpR X (compareOp .NotIn) (rInOwn C sp E true) := by
  intro pins s σ H x y v u Q I rx ry hq
  obtain ⟨a, dx, fs, rfl, ha, h⟩ := hq
  cases ry
  obtain ⟨mA, J, _⟩ := ins_get I.hok ha
  obtain ⟨od, J, _⟩ := J.look
  refine wpAny_bind (contains_own I.kIn J m.at_ m.fn (thn (run_fn (us := [.ref a, v]) (vs := [.ref a, x]) F hr hb .nil hx I (.cons rfl (.cons rx .nil)) h) fun r s' hq => ?_))
  obtain ⟨z, H', I', rz, b, rfl, q⟩ := hq
  cases rz
  exact wpAny_truthy_bool (wpAny_pure ⟨.bl (!b), H', I', rfl, q⟩)
end L2
namespace Gn
open PySem L2
open Rp (rp)
section
variable {g : Gx} {B : Bs} {E E1 E2 : List Bd} {ta tb : TE} {α β : Type} [Rp α] [Rp β]
theorem px_inOwn {C : Addr} {m : Str} {X : XK} {rel : List Ca → Out → Prop} {x : α} {o : β} {b : Bool} {neg : Bool} (fo : Frees β g C m) (ha : Px g B E E1 ta x) (hb : Px g B E1 E2 tb o) (hrel : rel [.k o, .k x] (.ret b [])) : Px g B E E2 (tOp (rInOwn C (spOf g rel) X neg) ta tb) (if neg = true then !b else b) := fun F A σ H s Q k =>
  ha F A σ H s _ fun F1 A1 H1 v s1 e1 rv => hb F1 A1 σ H1 s1 _ fun F2 A2 H2 w s2 e2 rw => by
    obtain ⟨a, dx, fs, rfl, hw, _⟩ := fo F2 w o rw
    refine ⟨a, dx, fs, rfl, s2.ah _ _ (s2.fa _ _ hw), run_sp (X := X) (as := [.k o, .k x]) (cs := [.k o, .k x]) (ms := []) (outs := []) (.k (.k .nil)) (.k (.k .nil)) List.nodup_nil hrel s2 (vs := [.ref a, v]) (show ArOk g F2 σ [.ref a, v] [.k o, .k x] from ⟨rw, Rp.mono e2 rv, trivial⟩) fun F' A' H' z s' e r => ⟨b, r, k F' A' H' _ s' ((e1.trans e2).trans e) rfl⟩⟩
end
end Gn
/-! Gn: [e for a in xs for b in ys]. -/
namespace Gn
open PySem L2
open Rp (rp)
def catR {α β : Type} : List α → (α → R (List β)) → R (List β)
  | [], _ => .ok []
  | x :: xs, f => (f x).bind fun y => (catR xs f).bind fun ys => .ok (y ++ ys)
section
variable {g : Gx} {B : Bs} {E E1 : List Bd} {α β γ : Type} [Rp α] [Rp β] [Rp γ]
theorem pn_comp2 {xs : List α} {ys : List β} {fn : α → R (List β)} {wi : TI} {tg tg1 : TG} {tt1 : TT} {te te1 : TE} {vs vs1 : List Nat} {f : List Bd → α → List Bd} {f1 : List Bd → γ → List Bd}
    (hsrc : Sr g B E E1 wi xs) (htg : TgC g tg vs f) (htg1 : TgC g tg1 vs1 f1) (hC : catR xs fn = .ok ys) (hz : sz ys.length = true) (hv : ∀ i ∈ vs, ∀ b, E1[i]? = some b → b.nO) (hl : ∀ x, LeE (f (wipeE E1 vs) x) (wipeE E1 vs))
    (hv1 : ∀ x, ∀ i ∈ vs1, ∀ b, (f (wipeE E1 vs) x)[i]? = some b → b.nO) (hl1 : ∀ x z, LeE (f1 (wipeE (f (wipeE E1 vs) x) vs1) z) (wipeE (f (wipeE E1 vs) x) vs1))
    (hb : ∀ x r, x ∈ xs → fn x = .ok r → ∃ (zs : List γ) (fn1 : γ → R (Option β)), (∀ B', Nest g B B' → Px g B' (f (wipeE E1 vs) x) (f (wipeE E1 vs) x) te1 zs) ∧ filR zs fn1 = .ok r ∧
      ∀ B' z q, Nest g B B' → z ∈ zs → fn1 z = .ok q → ∃ b, PxT g B' (f1 (wipeE (f (wipeE E1 vs) x) vs1) z) (f1 (wipeE (f (wipeE E1 vs) x) vs1) z) tt1 b ∧ (b = true → ∃ y, q = some y ∧ Px g B' (f1 (wipeE (f (wipeE E1 vs) x) vs1) z) (f1 (wipeE (f (wipeE E1 vs) x) vs1) z) te y) ∧ (b = false → q = none)) :
    PxN g B E E1 (tLc2 wi tg tYes (iList g.K te1) tg1 tt1 te vs vs1) ys := fun F A σ H s Q k => by
  have split : ∀ (i : Nat) (q : List β), i < xs.length → catR (xs.drop i) fn = .ok q → ∃ x r q', xs[i]? = some x ∧ fn x = .ok r ∧ catR (xs.drop (i + 1)) fn = .ok q' ∧ q = r ++ q' := fun i q hi hq => by
    rw [List.drop_eq_getElem_cons hi] at hq
    unfold catR at hq
    obtain ⟨r, h1, h2⟩ := bind_ok hq
    obtain ⟨q', h3, h4⟩ := bind_ok h2
    exact ⟨xs[i], r, q', by simp [hi], h1, h3, (R.ok.inj h4).symm⟩
  have split1 : ∀ (zs : List γ) (fn1 : γ → R (Option β)) (i : Nat) (q : List β), i < zs.length → filR (zs.drop i) fn1 = .ok q → ∃ x r q', zs[i]? = some x ∧ fn1 x = .ok r ∧ filR (zs.drop (i + 1)) fn1 = .ok q' ∧ q = (match r with | some y => y :: q' | none => q') := fun zs fn1 i q hi hq => by
    rw [List.drop_eq_getElem_cons hi] at hq
    unfold filR at hq
    obtain ⟨r, h1, h2⟩ := bind_ok hq
    obtain ⟨q', h3, h4⟩ := bind_ok h2
    exact ⟨zs[i], r, q', by simp [hi], h1, h3, (R.ok.inj h4).symm⟩
  refine hsrc F A σ H s _ fun F1 A1 H1 J B0 s0' n0 eF src => fun D hD => ?_
  obtain ⟨s1, nr⟩ := s0'.rebase
  generalize hB1 : B0.to F1 A1 = B1 at s1 nr
  have n01 := n0.trans nr
  have hf0 : B1.F0 = F1 := by rw [← hB1]; rfl
  have hPD : B1.P D = none := by
    cases e : B1.P D with
    | none => rfl
    | some o => have := (s1.pr D o e).1; rw [hD] at this; cases this
  have hpsD : D ∉ B1.ps := fun z => (s1.inn D z).1 hD
  have hPB : B.P D = none := n01.2.1.2 D hPD
  obtain ⟨s2, n2⟩ := s1.alloc (o := .lst []) hD
  obtain ⟨s3, _⟩ := s2.aside n2
  let Inv : Nat → Hp → Prop := fun i H => ∃ (F A : Hp) (acc : List V) (done rest : List β), Sta g (B1.aside D (.lst acc)) F A E1 σ H ∧ rps g F acc done ∧ catR (xs.drop i) fn = .ok rest ∧ ys = done ++ rest
  refine ⟨fun i m H => m = xs.length - i ∧ i ≤ xs.length ∧ Inv i H, ⟨xs.length, by simp, Nat.zero_le _, F1, A1, [], [], ys, s3, trivial, by rw [List.drop_zero]; exact hC, rfl⟩, ?_⟩
  rintro i m H' ⟨rfl, hi, F', A', acc, done, rest, st, racc, hR, hys⟩
  have nB : ∀ acc, Nest g B1 (B1.aside D (.lst acc)) := fun acc => nest_aside hPD hpsD
  by_cases hlt : i < xs.length
  · right
    refine ⟨src.goes i F' A' _ σ H' hlt (nr.2.2 _ _ _ _ _ ((nB acc).2.2 _ _ _ _ _ st)), Inv (i + 1), fun H'' hI => ⟨xs.length - (i + 1), by omega, rfl, hlt, hI⟩, fun v H'' hy => ?_⟩
    obtain ⟨x, ri, q', hx, hfn, hq', e1⟩ := split i _ hlt hR
    obtain ⟨st', nst⟩ := st.rebase
    obtain ⟨F2, A2, st2, rv⟩ := src.yld _ i F' A' _ σ H' v H'' x (nr.trans ((nB acc).trans nst)) hx st' hy
    have hF2 : Same F' F2 := st2.f0
    have st2 := nst.2.2 _ _ _ _ _ st2
    obtain ⟨st3, n3⟩ := st2.rebase
    have stw := st3.wipe vs (σ' := L2.wipe σ vs) (wipe_length σ vs) fun i hi => wipe_out hi
    refine htg.go _ F2 A2 _ _ H'' v x stw rv _ fun σ2 st4 hl2 hσ2 => ⟨wipe_eq (hl2.trans (wipe_length σ vs)) hσ2, ?_⟩
    have hσσ : ∀ i, i ∉ vs → σ2[i]? = σ[i]? := fun i hi => (hσ2 i hi).trans (wipe_out hi)
    have hlσ : σ2.length = σ.length := hl2.trans (wipe_length σ vs)
    refine pt_yes F2 A2 σ2 H'' st4 _ fun F3 A3 H3 st5 e3 => iteT ?_
    obtain ⟨zs, fn1, hz1, hfil, hel⟩ := hb x ri (List.mem_of_getElem? hx) hfn
    -- the base without the list that is made
    have nB2 : ∀ acc, Nest g B ((B1.aside D (.lst acc)).to F2 A2) := fun acc' => by
      refine n01.trans ((nB acc').trans ⟨rfl, ⟨st2.f0, fun _ h => h⟩, fun F A E σ H q => Sta.unbase (B := B1.aside D (.lst acc')) st2.f0 st2.a0 st2.fr q⟩)
    refine hz1 _ (nB2 acc) F3 A3 σ2 H3 st5 _ fun F5 A5 H5 w s5 e5 rw => ?_
    obtain ⟨p, ws, rfl, hp, rws⟩ := rw
    refine ⟨p, rfl, ⟨ws, .of (s5.ah _ _ (s5.fa _ _ hp))⟩, ?_⟩
    generalize hEx : f (wipeE E1 vs) x = Ex at *
    let Inv1 : Nat → Hp → Prop := fun j H => ∃ (F A : Hp) (acc : List V) (done1 rest1 : List β), Sta g ((B1.aside D (.lst acc)).to F2 A2) F A Ex σ2 H ∧ Same F5 F ∧ rps g F acc done1 ∧ filR (zs.drop j) fn1 = .ok rest1 ∧ done ++ ri = done1 ++ rest1
    refine ⟨fun j m H => m = zs.length - j ∧ j ≤ zs.length ∧ Inv1 j H, ⟨zs.length, by simp, Nat.zero_le _, F5, A5, acc, done, ri, s5, Same.refl _, rps_mono (hF2.trans s5.f0) racc, by rw [List.drop_zero]; exact hfil, rfl⟩, ?_⟩
    rintro j m H6 ⟨rfl, hj, F6, A6, acc1, done1, rest1, t6, f6, racc1, hR1, hd1⟩
    have atp : H6 p = some (.lst ws) := t6.ah _ _ (t6.fa _ _ (f6 _ _ hp))
    by_cases hjt : j < zs.length
    · right
      have hjw : j < ws.length := by rw [rps_len rws]; exact hjt
      refine ⟨⟨ws, ws[j], .of atp, by simp [hjw]⟩, Inv1 (j + 1), fun H'' hI => ⟨zs.length - (j + 1), by omega, rfl, hjt, hI⟩, fun v1 H7 hy1 => ?_⟩
      obtain ⟨e7, hy1⟩ := hy1
      subst e7
      obtain ⟨z, rz, q1, hzj, hfz, hq1, ez⟩ := split1 zs fn1 j _ hjt hR1
      obtain ⟨u, hu, ru⟩ := rps_get rws hzj
      have huv := hy1 ws (.of atp)
      rw [hu] at huv
      cases huv
      obtain ⟨t6', n6⟩ := t6.rebase
      have tw := t6'.wipe vs1 (σ' := L2.wipe σ2 vs1) (wipe_length σ2 vs1) fun i hi => wipe_out hi
      refine htg1.go _ F6 A6 _ _ _ v1 z tw (Rp.mono f6 ru) _ fun σ3 t7 hl3 hσ3 => ⟨wipe_eq (hl3.trans (wipe_length σ2 vs1)) hσ3, ?_⟩
      have hσσ3 : ∀ i, i ∉ vs1 → σ3[i]? = σ2[i]? := fun i hi => (hσ3 i hi).trans (wipe_out hi)
      have hlσ3 : σ3.length = σ2.length := hl3.trans (wipe_length σ2 vs1)
      have hl1' := hl1 x z
      rw [hEx] at hl1'
      have hv1' := hv1 x
      rw [hEx] at hv1'
      have fin : ∀ {F8 A8 H8}, Sta g (((B1.aside D (.lst acc1)).to F2 A2).to F6 A6) F8 A8 (f1 (wipeE Ex vs1) z) σ3 H8 → Sta g ((B1.aside D (.lst acc1)).to F2 A2) F8 A8 Ex σ2 H8 := fun {F8 A8 H8} q =>
        Sta.unbase t6.f0 t6.a0 t6.fr (Sta.unwipeG (F1 := F6) (A1 := A6) (H1 := H7) t6.len t6.sl q.f0 q.a0 (q.weak hl1') hlσ3 hσσ3 hv1')
      obtain ⟨b, hT, hY, hN⟩ := hel _ z rz ((nB2 acc1).trans n6) (List.mem_of_getElem? hzj) hfz
      refine hT F6 A6 σ3 H7 t7 _ fun F8 A8 H8 t8 e8 => ?_
      cases b with
      | false =>
        have t9 := fin t8
        refine iteF ⟨F8, A8, acc1, done1, q1, t9, f6.trans t8.f0, rps_mono t8.f0 racc1, hq1, ?_⟩
        rw [hd1, ez, hN rfl]
      | true =>
        obtain ⟨y, ey, hpx⟩ := hY rfl
        refine iteT (hpx F8 A8 σ3 H8 t8 _ fun F9 A9 H9 w9 t9 e9 rw9 => ?_)
        have t10 := fin t9
        have hD9 : H9 D = some (.lst acc1) := (t10.pr D _ (by show (upd B1.P D _) D = _; exact upd_same)).1
        have hlen : acc1.length < ys.length := by
          have h1 : ys = done1 ++ (y :: (q1 ++ q')) := by
            rw [hys, e1, ← List.append_assoc, hd1, ez, ey, List.append_assoc]; rfl
          rw [rps_len racc1, h1, List.length_append, List.length_cons]
          omega
        refine ⟨acc1, hD9, Nat.lt_of_lt_of_le hlen (sz_ok hz), F9, A9, acc1 ++ [w9], done1 ++ [y], q1, ?_, f6.trans t9.f0, rps_app (rps_mono t9.f0 racc1) ⟨rw9, trivial⟩, hq1, ?_⟩
        · exact (show Sta g ((B1.to F2 A2).aside D (.lst acc1)) F9 A9 Ex σ2 H9 from t10).aside_set (o' := .lst (acc1 ++ [w9])) hPD hpsD
        · rw [hd1, ez, ey, List.append_assoc]; rfl
    · left
      have hj' : j = zs.length := by omega
      subst hj'
      have hr : rest1 = [] := by
        rw [List.drop_length] at hR1
        exact (R.ok.inj hR1).symm
      subst hr
      rw [List.append_nil] at hd1
      refine ⟨⟨ws, .of atp, by rw [rps_len rws]; exact Nat.le_refl _⟩, F6, A6, acc1, done1, q', ?_, racc1, hq', by rw [hys, e1, ← List.append_assoc, hd1]⟩
      have hl' := hl x
      rw [hEx] at hl'
      exact Sta.unbase (B := B1.aside D (.lst acc1)) st2.f0 st2.a0 st2.fr (Sta.unwipeG (F1 := F2) (A1 := A2) (H1 := H'') st2.len st2.sl t6.f0 t6.a0 (t6.weak hl') hlσ hσσ hv)
  · left
    have e : i = xs.length := by omega
    subst e
    rw [List.drop_length] at hR
    have e2 : rest = [] := (R.ok.inj hR).symm
    subst e2
    rw [List.append_nil] at hys
    subst hys
    obtain ⟨s8, n8⟩ := st.back hPD hpsD
    exact ⟨src.stops F' A' _ σ H' (nr.2.2 _ _ _ _ _ s8), k F' A' H' D acc (n01.2.2 _ _ _ _ _ s8) (eF.trans (by have := s8.f0; rwa [hf0] at this)) ⟨n8.at_, n8.f, n8.a, n8.ne, n8.ni, by rw [← n01.1]; exact n8.ps, hPB⟩ racc⟩
end
end Gn
/-! Gn: lengths of lists of lists, parts of new data. -/
namespace Gn
open PySem L2
open Rp (rp)
section
variable {g : Gx} {B : Bs} {E E1 E2 : List Bd} {ta tb : TE} {α β : Type} [Rp α] [Rp β] {F0 : Hp}
theorem px_lenNL {i : Nat} {ps : List Addr} {xss : List (List α)} (hi : E[i]? = some (.ot ps (NL.mk xss))) : Px g B E E (tCB (fun xs H Q => ∃ p ys, xs = [.ref p] ∧ (SqL g.K H p ys ∨ SqT g.K H p ys) ∧ Q (.int ys.length) H) (tCons (tVar i) tNil)) (xss.length : Int) := fun F A σ H s Q k => by
  obtain ⟨p, qs, ep, es, nd, hp, r⟩ := nl_slot s hi
  exact ⟨.ref p, es, p, qs.map V.ref, rfl, .inl (.of hp), by rw [List.length_map, nl_len r]; exact k F A H _ s (Same.refl _) rfl⟩
theorem px_lenNL1 {i : Nat} {ps : List Addr} {xss : List (List α)} {xs : List α} {w : Int} (hb : Px g B E E1 tb w) (hi : E[i]? = some (.ot ps (NL.mk xss))) (hi1 : E1[i]? = some (.ot ps (NL.mk xss))) (e1 : atI xss w = some xs) : Px g B E E1 (tCB (fun xs H Q => ∃ p ys, xs = [.ref p] ∧ (SqL g.K H p ys ∨ SqT g.K H p ys) ∧ Q (.int ys.length) H) (tCons (tOp (rIxL g.K) (tVar i) tb) tNil)) (xs.length : Int) := fun F A σ H s Q k =>
  nl_ix s hb hi hi1 e1 fun F1 A1 H1 q s1 f1 hq => by
    obtain ⟨p, qs, j, ws, _, _, _, hw, r⟩ := hq F1 A1 H1 E1 s1 hi1
    exact ⟨q, ws, rfl, .inl (.of hw), by rw [rps_len r]; exact k F1 A1 H1 _ s1 f1 rfl⟩
theorem tg_pF {i j : Nat} : Tg g (gTup g.K 2 (gCons (gName i) (gCons (gName j) gNil))) (fun E (x : Fr F0 (α × β)) => (E.set i (.kp (Fr.mk x.x.1 : Fr F0 α))).set j (.kp (Fr.mk x.x.2 : Fr F0 β))) := fun B F A E σ H v x s ⟨⟨p, a, b, e, hp, r1, r2⟩, z⟩ Q k =>
  ⟨p, [a, b], e, .of (s.ah _ _ (s.fa _ _ (dl_le _ _ hp))), rfl, a, [b], rfl, b, [], rfl, rfl, k F A _ ((s.setk (x := (Fr.mk x.x.1 : Fr F0 α)) (show rp g F a (Fr.mk x.x.1 : Fr F0 α) from ⟨r1, z⟩)).setk (x := (Fr.mk x.x.2 : Fr F0 β)) (show rp g F b (Fr.mk x.x.2 : Fr F0 β) from ⟨r2, z⟩))⟩
theorem pf_idx {xs : List α} {i : Int} {y : α} (ha : Px g B E E1 ta (Fr.mk xs : Fr F0 (List α))) (hb : Px g B E1 E2 tb i) (e : atI xs i = some y) : Px g B E E2 (tOp (rIxL g.K) ta tb) (Fr.mk y : Fr F0 α) := fun F A σ H s Q k =>
  ha F A σ H s _ fun F1 A1 H1 v s1 e1 rv => hb F1 A1 σ H1 s1 _ fun F2 A2 H2 w s2 e2 rw => by
    obtain ⟨⟨p, vs, ev, hp, r⟩, z⟩ := rv
    have rw : w = .int i := rw
    subst rw; subst ev
    unfold atI at e
    cases h : ixN xs.length i with
    | none => rw [h] at e; cases e
    | some j =>
      rw [h] at e
      obtain ⟨u, e3, ru⟩ := rps_get r (show xs[j]? = some y from e)
      refine ⟨p, vs, i, u, rfl, rfl, .of (s2.ah _ _ (s2.fa _ _ (e2 _ _ (dl_le _ _ hp)))), ?_, k F2 A2 H2 u s2 (e1.trans e2) ⟨Rp.mono (dl_mono e2) ru, z.trans e2⟩⟩
      unfold atI
      rw [rps_len r, h]
      exact e3
end
end Gn
/-! Gn: data of any kind compared, read as a list of numbers. -/
namespace Gn
open PySem L2
open Rp (rp)
mutual
def D.py : D → PyData
  | .non => .none
  | .bl b => .bool b
  | .int i => .int i
  | .str t => .str (Tx.s t)
  | .lst xs => .list (D.pys xs)
  | .tup xs => .tuple (D.pys xs)
def D.pys : List D → List PyData
  | [] => []
  | x :: xs => D.py x :: D.pys xs
end
mutual
theorem dp_D {K : PySem.W.Frag} {H : Hp} : ∀ {v : V} {x : D}, rpD H v x → Dp K H v (D.py x)
  | v, .non, h => by simp only [rpD] at h; subst h; rw [D.py]; constructor
  | v, .bl b, h => by simp only [rpD] at h; subst h; rw [D.py]; constructor
  | v, .int i, h => by simp only [rpD] at h; subst h; rw [D.py]; constructor
  | v, .str t, h => by simp only [rpD] at h; subst h; rw [D.py]; exact .str _
  | v, .lst xs, h => by
    simp only [rpD] at h
    obtain ⟨p, vs, e, hp, r⟩ := h
    subst e
    rw [D.py]
    exact .lst (.of hp) (dp_Ds r)
  | v, .tup xs, h => by
    simp only [rpD] at h
    obtain ⟨p, vs, e, hp, r⟩ := h
    subst e
    rw [D.py]
    exact .tup (.of hp) (dp_Ds r)
theorem dp_Ds {K : PySem.W.Frag} {H : Hp} : ∀ {vs : List V} {xs : List D}, rpDs H vs xs → DpAll K H vs (D.pys xs)
  | [], [], _ => by rw [D.pys]; exact .nil
  | v :: vs, x :: xs, h => by
    simp only [rpDs] at h
    rw [D.pys]
    exact .cons (dp_D h.1) (dp_Ds h.2)
  | [], _ :: _, h => by simp [rpDs] at h
  | _ :: _, [], h => by simp [rpDs] at h
end
def D.sh (d : D) : Bool := SeqAt.shaped d.py
def D.eqv (x y : D) : Bool := PyData.eqv x.py y.py
theorem eqv_str {a b : Tx} : D.eqv (.str a) (.str b) = decide (a = b) := by
  unfold D.eqv
  rw [D.py, D.py, PyData.eqv]
  by_cases h : a = b
  · subst h; simp
  · rw [decide_eq_false h]
    exact beq_eq_false_iff_ne.mpr fun z => h (Tx.s_inj z)
theorem eqv_ls {xs : List D} {b : Tx} : D.eqv (.lst xs) (.str b) = false := by
  unfold D.eqv
  rw [D.py, D.py, PyData.eqv] <;> simp
theorem sh_str {a : Tx} (h : PyData.strOk (Tx.s a) = true) : D.sh (.str a) = true := by
  unfold D.sh SeqAt.shaped
  rw [D.py, PyData.canLay0, PyData.depth, h]; rfl
theorem sh_ints {xs : List Int} : D.sh (ToD.d xs) = true := by
  have h : ∀ xs : List Int, PyData.canLayAll0 (D.pys (xs.map ToD.d)) = true ∧ PyData.depthAll (D.pys (xs.map ToD.d)) = 0 := by
    intro xs
    induction xs with
    | nil => rw [List.map_nil, D.pys, PyData.canLayAll0, PyData.depthAll]; exact ⟨rfl, rfl⟩
    | cons x xs ih =>
      rw [List.map_cons, D.pys, PyData.canLayAll0, PyData.depthAll, ih.1, ih.2]
      show (PyData.canLay0 (D.py (.int x)) && true) = true ∧ max (PyData.depth (D.py (.int x))) 0 = 0
      rw [D.py, PyData.canLay0, PyData.depth]
      exact ⟨rfl, rfl⟩
  unfold D.sh SeqAt.shaped
  show (PyData.canLay0 (D.py (.lst (xs.map ToD.d))) && decide (PyData.depth (D.py (.lst (xs.map ToD.d))) ≤ 64)) = true
  rw [D.py, PyData.canLay0, PyData.depth, (h xs).1, (h xs).2]; rfl
section
variable {g : Gx} {B : Bs} {E E1 : List Bd} {te : TE}
theorem r2_eqDD {x y : D} (h : (D.sh x && D.sh y) = true) : R2x g B E (rEqD g.K) x y (D.eqv x y) := fun F A σ H v w s rv rw Q q => by
  obtain ⟨h1, h2⟩ := Bool.and_eq_true_iff.mp h
  have m := s.fa.trans s.ah
  exact ⟨x.py, y.py, dp_D (rpD_mono m rv), dp_D (rpD_mono m rw), h1, h2, q F A H _ s (Same.refl _) rfl⟩
theorem r2_neDD {x y : D} (h : (D.sh x && D.sh y) = true) : R2x g B E (rNeD g.K) x y (!D.eqv x y) := fun F A σ H v w s rv rw Q q => by
  obtain ⟨h1, h2⟩ := Bool.and_eq_true_iff.mp h
  have m := s.fa.trans s.ah
  exact ⟨x.py, y.py, dp_D (rpD_mono m rv), dp_D (rpD_mono m rw), h1, h2, q F A H _ s (Same.refl _) rfl⟩
end
def intsD : List D → Option (List Int)
  | [] => some []
  | .int i :: xs => (intsD xs).map fun ys => i :: ys
  | _ => none
def D.ints : D → Option (List Int)
  | .lst xs => intsD xs
  | _ => none
theorem ints_d (xs : List Int) : D.ints (ToD.d xs) = some xs := by
  show intsD (xs.map ToD.d) = some xs
  induction xs with
  | nil => rfl
  | cons x xs ih =>
    show (intsD (xs.map ToD.d)).map _ = _
    rw [ih]; rfl
theorem rps_intsD {g : Gx} {H : Hp} : ∀ {vs : List V} {ds : List D} {xs : List Int}, rpDs H vs ds → intsD ds = some xs → rps g H vs xs
  | [], [], xs, _, e => by cases e; trivial
  | v :: vs, d :: ds, xs, h, e => by
    simp only [rpDs] at h
    cases d with
    | int i =>
      simp only [intsD] at e
      cases e2 : intsD ds with
      | none => rw [e2] at e; cases e
      | some ys =>
        rw [e2] at e
        cases e
        have h1 := h.1
        simp only [rpD] at h1
        exact ⟨h1, rps_intsD h.2 e2⟩
    | _ => simp [intsD] at e
  | [], _ :: _, _, h, _ => by simp [rpDs] at h
  | _ :: _, [], _, h, _ => by simp [rpDs] at h
theorem px_ints {g : Gx} {B : Bs} {E E1 : List Bd} {te : TE} {d : D} {xs : List Int} (h : Px g B E E1 te d) (e : d.ints = some xs) : Px g B E E1 te xs := fun F A σ H s Q k => h F A σ H s Q fun F' A' H' v s' f r => k F' A' H' v s' f (by
  cases d with
  | lst ds =>
    have r : rpD F' v (.lst ds) := r
    simp only [rpD] at r
    obtain ⟨p, vs, ev, hp, r⟩ := r
    exact ⟨p, vs, ev, hp, rps_intsD r e⟩
  | _ => simp [D.ints] at e)
end Gn
/-! Gn: a list of one's own lent for an expression. -/
namespace Gn
open PySem L2
open Rp (rp)
section
variable {g : Gx} {B : Bs} {E : List Bd} {te : TE} {α β : Type} [Rp α] [Rp β]
theorem pn_lend {i : Nat} {xs : List α} {ys : List β} (hi : E[i]? = some (.ow xs)) (hps : B.ps = [] ∨ ∃ j, i ≠ j ∧ ∃ (β : Type) (_ : Rp β) (p : Addr) (ys : List β), B.ps = [p] ∧ E[j]? = some (.io p ys)) (h : ∀ B', Nest g B B' → PxN g B' (E.set i (.bo xs)) (E.set i (.bo xs)) te ys) : PxN g B E E te ys := fun F A σ H s Q k => by
  obtain ⟨p, vs, e1, e2, r, e3, e4⟩ := s.sl i _ hi
  have ow : Own E σ i p := ⟨e1, _, hi, trivial⟩
  have hil : i < E.length := (List.getElem?_eq_some_iff.mp hi).1
  have hpp : p ∉ B.ps := fun hm => by
    rcases hps with hps | ⟨j, hij, β, _, q, ys, hps, ej⟩
    · rw [hps] at hm; cases hm
    · rw [hps] at hm
      have e1' : p = q := by simpa using hm
      subst e1'
      obtain ⟨vs, e2, _⟩ := s.sl j _ ej
      exact hij (s.ne i j p ow ⟨e2, _, ej, trivial⟩)
  have sA : Same A (upd A p (.lst vs)) := Same.upd e4
  have hPp : B.P p = none := by
    cases z : B.P p with
    | none => rfl
    | some u => exact absurd ow ((s.pr p u z).2.2 i)
  have ownb : ∀ j q, Own (E.set i (.bo xs)) σ j q → j ≠ i ∧ Own E σ j q := fun j q ⟨h1, c, h2, h3⟩ => by
    by_cases hj : j = i
    · subst hj
      rw [List.getElem?_set_self hil] at h2; cases h2; exact h3.elim
    · rw [List.getElem?_set_ne (Ne.symm hj)] at h2
      exact ⟨hj, h1, c, h2, h3⟩
  have innb : ∀ j q, Inn (E.set i (.bo xs)) j q → Inn E j q := fun j q h => by
    rcases inn_set h with ⟨_, z⟩ | ⟨_, z⟩
    · cases z
    · exact z
  have hnp : ∀ j q, Own E σ j q → j ≠ i → q ≠ p := fun j q h hj z => hj (s.ne j i p (z ▸ h) ow)
  have hinp : ∀ j q, Inn E j q → q ≠ p := fun j q h z => (s.nn j q h).1 i (z ▸ ow)
  have upn : ∀ {a : Addr}, a ≠ p → upd A p (.lst vs) a = A a := fun h => upd_ne h
  have s1 : Sta g (B.to F (upd A p (.lst vs))) F (upd A p (.lst vs)) (E.set i (.bo xs)) σ H := by
    refine ⟨by simpa using s.len, s.fa.trans sA, fun a o z => ?_, Same.refl _, Same.refl _, fun a z _ => z, fun a z => ?_, fun j c z => ?_, fun j l q a b => s.ne j l q (ownb j q a).2 (ownb l q b).2, fun a o z => ?_, fun j q z => ?_⟩
    · by_cases ha : a = p
      · subst ha; rw [upd_same] at z; cases z; exact e2
      · rw [upn ha] at z; exact s.ah _ _ z
    · have := s.inn a z
      exact ⟨this.1, by rw [upn (fun y => hpp (y ▸ z))]; exact this.2⟩
    · by_cases hj : j = i
      · subst hj
        rw [List.getElem?_set_self hil] at z
        cases z
        exact ⟨.ref p, e1, p, vs, rfl, upd_same, rps_mono (s.fa.trans sA) r⟩
      · rw [List.getElem?_set_ne (Ne.symm hj)] at z
        refine SlotOk.mono (Same.refl _) sA (fun q a b => ?_) (s.sl j c z) fun q b => ?_
        · have o : Own E σ j q := ⟨a, _, z, b⟩
          obtain ⟨f1, f2, _⟩ := s.own o
          exact ⟨fun _ y => y, f1, by rw [upn (hnp j q o hj)]; exact f2⟩
        · have o : Inn E j q := ⟨_, z, b⟩
          obtain ⟨f1, f2, _⟩ := s.inq o
          exact ⟨fun _ y => y, f1, by rw [upn (hinp j q o)]; exact f2⟩
    · obtain ⟨h1, h2, h3⟩ := s.pr a o z
      exact ⟨h1, by rw [upn (fun y => by
        have z : B.P a = some o := z
        rw [y, hPp] at z; cases z)]; exact h2, fun j q => h3 j (ownb j a q).2⟩
    · obtain ⟨h1, h2, h3, h4⟩ := s.nn j q (innb j q z)
      exact ⟨fun l y => h1 l (ownb l q y).2, fun l y => h2 l (innb l q y), h3, h4⟩
  have nest : Nest g B (B.to F (upd A p (.lst vs))) := ⟨rfl, ⟨s.f0, fun _ h => h⟩, fun F' A' E' σ' H' q => Sta.unbase s.f0 (s.a0.trans sA) s.fr q⟩
  refine h _ nest F _ σ H s1 Q fun F' A' H' q ws s2 f2 n rr => ?_
  have apv : A' p = some (.lst vs) := s2.a0 _ _ upd_same
  have fpn : F' p = none := s2.fr p e3 (.inl (by show upd A p _ p ≠ none; rw [upd_same]; exact fun z => nomatch z))
  have qp : q ≠ p := fun z => by have := n.a; rw [z, apv] at this; cases this
  have sAm : ∀ a o, A a = some o → (if a = p then none else A' a) = some o := fun a o z => by
    rw [if_neg (fun y => by rw [y, e4] at z; cases z)]
    exact s2.a0 _ _ (sA _ _ z)
  have s3 : Sta g B F' (fun a => if a = p then none else A' a) E σ H' := by
    refine ⟨s.len, fun a o z => ?_, fun a o z => ?_, s.f0.trans f2, fun a o z => sAm a o (s.a0 _ _ z), fun a z y => ?_, fun a z => ?_, fun j c z => ?_, s.ne, fun a o z => ?_, s.nn⟩
    · show (if a = p then none else A' a) = some o
      rw [if_neg (fun y => by rw [y, fpn] at z; cases z)]
      exact s2.fa _ _ z
    · have z : (if a = p then none else A' a) = some o := z
      split at z
      · cases z
      · exact s2.ah _ _ z
    · refine s2.fr a (s.fr a z y) ?_
      rcases y with y | y
      · left
        cases e : B.A0 a with
        | none => exact absurd e y
        | some o =>
          show upd A p _ a ≠ none
          rw [sA _ _ (s.a0 _ _ e)]; exact fun w => nomatch w
      · exact .inr y
    · have := s2.inn a z
      refine ⟨this.1, ?_⟩
      show (if a = p then none else A' a) = none
      split
      · rfl
      · exact this.2
    · by_cases hj : j = i
      · subst hj
        rw [hi] at z; cases z
        exact ⟨p, vs, e1, s2.ah _ _ apv, rps_mono f2 r, fpn, if_pos rfl⟩
      · have z2 : (E.set i (.bo xs))[j]? = some c := by rw [List.getElem?_set_ne (Ne.symm hj)]; exact z
        have q1 := s2.sl j c z2
        have q0 := s.sl j c z
        cases c with
        | un => trivial
        | kp x => exact q1
        | bo x => obtain ⟨v, a, b⟩ := q0; exact ⟨v, a, Rp.mono sAm b⟩
        | ow x =>
          obtain ⟨p', vs', a1, a2, a3, a4, a5⟩ := q1
          exact ⟨p', vs', a1, a2, a3, a4, by show (if p' = p then none else A' p') = none; split <;> first | rfl | exact a5⟩
        | io p' x =>
          obtain ⟨vs', a1, a2, a3, a4, a5⟩ := q1
          exact ⟨vs', a1, a2, a3, a4, by show (if p' = p then none else A' p') = none; split <;> first | rfl | exact a5⟩
        | ot ps x =>
          obtain ⟨v, a1, a2, a3⟩ := q1
          exact ⟨v, a1, a2, fun l hl => ⟨(a3 l hl).1, by show (if l = p then none else A' l) = none; split <;> first | rfl | exact (a3 l hl).2⟩⟩
    · obtain ⟨h1, h2, h3⟩ := s2.pr a o z
      refine ⟨h1, ?_, (s.pr a o z).2.2⟩
      show (if a = p then none else A' a) = none
      split
      · rfl
      · exact h2
  refine k F' _ H' q ws s3 f2 ⟨n.at_, n.f, ?_, fun j z => ?_, fun j z => ?_, n.ps, n.P⟩ rr
  · show (if q = p then none else A' q) = none
    rw [if_neg qp]; exact n.a
  · by_cases hj : j = i
    · subst hj
      have := z.1
      rw [e1] at this
      cases this
      exact qp rfl
    · obtain ⟨a, c, b, d⟩ := z
      exact n.ne j ⟨a, c, by rw [List.getElem?_set_ne (Ne.symm hj)]; exact b, d⟩
  · obtain ⟨c, b, d⟩ := z
    by_cases hj : j = i
    · subst hj
      rw [hi] at b; cases b; cases d
    · exact n.ni j ⟨c, by rw [List.getElem?_set_ne (Ne.symm hj)]; exact b, d⟩
end
end Gn
/-! Gn: a new list handed to a def that changes it. -/
namespace Gn
open PySem L2
open Rp (rp)
section
variable {g : Gx} {B : Bs} {E E1 E2 : List Bd} {te : TE} {ta : TA} {α β : Type} [Rp α] [Rp β]
theorem Sta.push {F A H : Hp} {σ : L2.St} (s : Sta g B F A E σ H) {p : Addr} {vs : List V} {xs : List α} (n : New B F A E σ H p (.lst vs)) (r : rps g F vs xs) : Sta g B F A (E ++ [.ow xs]) (σ ++ [some (.ref p)]) H := by
  have hl := s.len
  have get : ∀ (i : Nat) (b : Bd), (E ++ [.ow xs])[i]? = some b → (i < E.length ∧ E[i]? = some b ∧ (σ ++ [some (.ref p)])[i]? = σ[i]?) ∨ (i = E.length ∧ b = .ow xs ∧ (σ ++ [some (.ref p)])[i]? = some (some (.ref p))) := fun i b e => by
    by_cases h : i < E.length
    · rw [List.getElem?_append_left h] at e
      exact .inl ⟨h, e, List.getElem?_append_left (by omega)⟩
    · rw [List.getElem?_append_right (by omega)] at e
      have hi : i = E.length := by
        have := (List.getElem?_eq_some_iff.mp e).1
        simp at this; omega
      subst hi
      refine .inr ⟨rfl, by simpa using e.symm, ?_⟩
      rw [hl, List.getElem?_append_right (Nat.le_refl _)]; simp
  have own : ∀ i q, Own (E ++ [.ow xs]) (σ ++ [some (.ref p)]) i q → (i < E.length ∧ Own E σ i q) ∨ (i = E.length ∧ q = p) := fun i q ⟨h1, b, h2, h3⟩ => by
    rcases get i b h2 with ⟨a, c, d⟩ | ⟨a, c, d⟩
    · exact .inl ⟨a, by rw [← d]; exact h1, b, c, h3⟩
    · rw [d] at h1; cases h1; exact .inr ⟨a, rfl⟩
  have inn : ∀ i q, Inn (E ++ [.ow xs]) i q → Inn E i q := fun i q ⟨b, h2, h3⟩ => by
    rcases get i b h2 with ⟨a, c, d⟩ | ⟨a, c, d⟩
    · exact ⟨b, c, h3⟩
    · subst c; cases h3
  refine ⟨by simp [hl], s.fa, s.ah, s.f0, s.a0, s.fr, s.inn, fun i b e => ?_, fun i j q h1 h2 => ?_, fun a o e => ?_, fun i q h => ?_⟩
  · rcases get i b e with ⟨a, c, d⟩ | ⟨a, c, d⟩
    · rw [d]; exact s.sl i b c
    · subst c; rw [d]; exact ⟨p, vs, rfl, n.at_, r, n.f, n.a⟩
  · rcases own i q h1 with ⟨a, o1⟩ | ⟨a, rfl⟩
    · rcases own j q h2 with ⟨b, o2⟩ | ⟨b, rfl⟩
      · exact s.ne i j q o1 o2
      · exact absurd o1 (n.ne i)
    · rcases own j q h2 with ⟨b, o2⟩ | ⟨b, _⟩
      · exact absurd o2 (n.ne j)
      · rw [a, b]
  · obtain ⟨h1, h2, h3⟩ := s.pr a o e
    refine ⟨h1, h2, fun i q => ?_⟩
    rcases own i a q with ⟨_, o1⟩ | ⟨_, z⟩
    · exact h3 i o1
    · rw [z, n.P] at e; cases e
  · obtain ⟨h1, h2, h3, h4⟩ := s.nn i q (inn i q h)
    refine ⟨fun j z => ?_, fun j z => h2 j (inn j q z), h3, h4⟩
    rcases own j q z with ⟨_, o1⟩ | ⟨_, y⟩
    · exact h1 j o1
    · subst y; exact n.ni i (inn i q h)
theorem Sta.pop {F A H : Hp} {σ : L2.St} {b : Bd} {o : Option V} (s : Sta g B F A (E ++ [b]) (σ ++ [o]) H) : Sta g B F A E σ H := by
  have hl : E.length = σ.length := by have := s.len; simpa using this
  have up : ∀ (i : Nat) (c : Bd), E[i]? = some c → (E ++ [b])[i]? = some c ∧ (σ ++ [o])[i]? = σ[i]? := fun i c e => by
    have h := (List.getElem?_eq_some_iff.mp e).1
    exact ⟨by rw [List.getElem?_append_left h]; exact e, List.getElem?_append_left (by omega)⟩
  have own : ∀ i q, Own E σ i q → Own (E ++ [b]) (σ ++ [o]) i q := fun i q ⟨h1, c, h2, h3⟩ => by
    obtain ⟨a, d⟩ := up i c h2
    exact ⟨by rw [d]; exact h1, c, a, h3⟩
  have inn : ∀ i q, Inn E i q → Inn (E ++ [b]) i q := fun i q ⟨c, h2, h3⟩ => ⟨c, (up i c h2).1, h3⟩
  refine ⟨hl, s.fa, s.ah, s.f0, s.a0, s.fr, s.inn, fun i c e => ?_, fun i j q h1 h2 => s.ne i j q (own i q h1) (own j q h2), fun a u e => ?_, fun i q h => ?_⟩
  · obtain ⟨a, d⟩ := up i c e
    rw [← d]; exact s.sl i c a
  · obtain ⟨h1, h2, h3⟩ := s.pr a u e
    exact ⟨h1, h2, fun i q => h3 i (own i a q)⟩
  · obtain ⟨h1, h2, h3, h4⟩ := s.nn i q (inn i q h)
    exact ⟨fun j z => h1 j (own j q z), fun j z => h2 j (inn j q z), h3, h4⟩
/-- kept arguments alone -/
inductive Rk : List Ar → List Ca → Prop
  | nil : Rk [] []
  | k {α : Type} [Rp α] {x : α} {as cs} : Rk as cs → Rk (.k x :: as) (.k x :: cs)
theorem Rk.rs {as : List Ar} {cs : List Ca} (h : Rk as cs) : Rs E as cs [] := by
  induction h with
  | nil => exact .nil
  | k _ ih => exact .k ih
theorem Rk.ap {as : List Ar} {cs : List Ca} {ms : List Nat} (h : Rk as cs) : Apart E ms as cs := by
  induction h with
  | nil => exact .nil
  | k _ ih => exact .k ih
theorem Rk.ar {F : Hp} {σ σ' : L2.St} {as : List Ar} {cs : List Ca} (h : Rk as cs) : ∀ {vs : List V}, ArOk g F σ vs as → ArOk g F σ' vs as := by
  induction h with
  | nil => intro vs z; exact (by cases vs with | nil => trivial | cons _ _ => exact z.elim)
  | k _ ih => intro vs z; exact (by cases vs with | nil => exact z.elim | cons _ _ => exact ⟨z.1, ih z.2⟩)
theorem px_callT {rel : List Ca → Out → Prop} {X : XK} {xs ys : List α} {x : β} {as : List Ar} {cs : List Ca} (ha0 : PxN g B E E1 te xs) (ha : ∀ B', Nest g B B' → PxA g B' E1 E2 ta as) (hr : Rk as cs) (hrel : rel (.m xs :: cs) (.ret x [.mk ys])) : Px g B E E2 (tCall (spOf g rel) [] X (tCons te ta)) x := fun F A σ H s Q k =>
  ha0 F A σ H s _ fun F1 A1 H1 p ws s1 e1 n r => by
    obtain ⟨s1', nest⟩ := s1.aside n
    refine ha _ nest F1 A1 σ H1 s1' _ fun F2 A2 H2 vs s2' e2 r2 => ?_
    obtain ⟨s2, n2⟩ := s2'.back n.P n.ps
    have s3 := s2.push n2 (rps_mono e2 r)
    show spOf g rel ((.ref p :: vs) ++ []) H2 Q X
    rw [List.append_nil]
    refine run_sp (E := E2 ++ [.ow xs]) (ms := [E2.length]) (as := .s E2.length :: as) (cs := .m xs :: cs) (outs := [.mk ys]) (.m (b := Bd.ow xs) (by simp) (show (Bd.ow xs).isO from trivial) RdL.ow hr.rs) (.m hr.ap) (by simp) hrel s3 (vs := .ref p :: vs) (show ArOk g F2 _ (.ref p :: vs) (.s E2.length :: as) from ⟨by rw [s2.len]; simp, hr.ar r2⟩) fun F' A' H' v s' e r' => k F' A' H' v ?_ ((e1.trans e2).trans e) r'
    have : puts (E2 ++ [Bd.ow xs]) [E2.length] [@Cn.mk α _ ys] = E2 ++ [Bd.ow ys] := by
      show (E2 ++ [Bd.ow xs]).set E2.length ((((E2 ++ [Bd.ow xs])[E2.length]?).getD Bd.un).put ys) = _
      rw [List.getElem?_append_right (Nat.le_refl _)]
      simp
      rfl
    rw [this] at s'
    exact s'.pop
end
end Gn
/-! Gn: a list told is changed while later ones stay. -/
namespace Gn
open PySem L2
open Rp (rp)
/-- what stays when a list that is new since F0 and known at F1 is changed -/
inductive RstP (F0 F1 : Hp) : List Bd → List Bd → Prop
  | nil : RstP F0 F1 [] []
  | r {b b' : Bd} {E E' : List Bd} : Rst F0 [b] [b'] → RstP F0 F1 E E' → RstP F0 F1 (b :: E) (b' :: E')
  | fr {α : Type} [Rp α] {x : α} {E E' : List Bd} : RstP F0 F1 E E' → RstP F0 F1 (.kp (Fr.mk x : Fr F1 α) :: E) (.kp (Fr.mk x : Fr F0 α) :: E')
section
variable {g : Gx} {B : Bs} {F A F0 F1 H : Hp} {E E' : List Bd} {σ : L2.St}
theorem RstP.length (m : RstP F0 F1 E E') : E'.length = E.length := by
  induction m with
  | nil => rfl
  | r _ _ ih => simp [ih]
  | fr _ ih => simp [ih]
theorem RstP.get (m : RstP F0 F1 E E') : ∀ {i : Nat} {b' : Bd}, E'[i]? = some b' → ∃ b : Bd, E[i]? = some b ∧ (Rst F0 [b] [b'] ∨ ∃ (α : Type) (_ : Rp α) (x : α), b = .kp (Fr.mk x : Fr F1 α) ∧ b' = .kp (Fr.mk x : Fr F0 α)) := by
  induction m with
  | nil => intro i b' e; cases e
  | r h _ ih =>
    intro i b' e
    cases i with
    | zero => cases e; exact ⟨_, rfl, .inl h⟩
    | succ i => exact ih e
  | fr _ ih =>
    intro i b' e
    cases i with
    | zero => cases e; exact ⟨_, rfl, .inr ⟨_, _, _, rfl, rfl⟩⟩
    | succ i => exact ih e
theorem Sta.resetP (s : Sta g B F A E σ H) (m : RstP B.F0 F1 E E') (sm : Same B.F0 F1) {p : Addr} {vs us ws : List V} (h1 : F1 p = some (.lst us)) (hF : F p = some (.lst vs)) (h0 : B.F0 p = none) : Sta g B (fun a => if a = p then none else F a) (fun a => if a = p then none else A a) E' σ (upd H p (.lst ws)) := by
  have hA : A p = some (.lst vs) := s.fa _ _ hF
  have hA0 : B.A0 p = none := by
    cases e : B.A0 p with
    | none => rfl
    | some o =>
      have := s.fr p h0 (.inl (by rw [e]; exact fun z => nomatch z))
      rw [hF] at this; cases this
  have ne : ∀ {a : Addr}, A a = none → a ≠ p := fun h e => by rw [e, hA] at h; cases h
  have upn : ∀ {a : Addr}, a ≠ p → upd H p (.lst ws) a = H a := fun h => upd_ne h
  have f0' : Same B.F0 (fun a => if a = p then none else F a) := fun a o h => by
    have : a ≠ p := fun e => by rw [e, h0] at h; cases h
    show (if a = p then none else F a) = some o
    rw [if_neg this]
    exact s.f0 _ _ h
  have back : ∀ i q, Own E' σ i q → Own E σ i q := fun i q ⟨h1, c, e, h2⟩ => by
    obtain ⟨b, e1, r⟩ := m.get e
    rcases r with r | ⟨_, _, _, _, r⟩
    · cases r with
      | un _ => exact h2.elim
      | kx _ => exact h2.elim
      | kxo _ _ => exact h2.elim
      | fx _ => exact h2.elim
      | ow _ => exact ⟨h1, _, e1, trivial⟩
      | io _ => exact ⟨h1, _, e1, trivial⟩
    · rw [r] at h2; exact h2.elim
  have backI : ∀ i q, ¬ Inn E' i q := fun i q ⟨c, e, h2⟩ => by
    obtain ⟨b, e1, r⟩ := m.get e
    rcases r with r | ⟨_, _, _, _, r⟩
    · cases r with
      | un _ => cases h2
      | kx _ => cases h2
      | kxo _ _ => cases h2
      | fx _ => cases h2
      | ow _ => cases h2
      | io _ => cases h2
    · rw [r] at h2; cases h2
  refine ⟨m.length.trans s.len, fun a o h => ?_, fun a o h => ?_, f0', fun a o h => ?_, fun a h k => ?_, fun a h => ?_, fun i c e => ?_, fun i j q h1 h2 => s.ne i j q (back i q h1) (back j q h2), fun a o e => ?_, fun i q h => (backI i q h).elim⟩
  · have h : (if a = p then none else F a) = some o := h
    show (if a = p then none else A a) = some o
    split at h
    · cases h
    · rename_i n
      rw [if_neg n]; exact s.fa _ _ h
  · have h : (if a = p then none else A a) = some o := h
    split at h
    · cases h
    · rename_i n
      rw [upn n]; exact s.ah _ _ h
  · have : a ≠ p := fun e => by rw [e, hA0] at h; cases h
    show (if a = p then none else A a) = some o
    rw [if_neg this]
    exact s.a0 _ _ h
  · show (if a = p then none else F a) = none
    split
    · rfl
    · exact s.fr a h k
  · have z := s.inn a h
    refine ⟨by rw [upn (ne z.2)]; exact z.1, ?_⟩
    show (if a = p then none else A a) = none
    split
    · rfl
    · exact z.2
  · obtain ⟨b, e1, r⟩ := m.get e
    have q := s.sl i b e1
    rcases r with r | ⟨α, _, x, rb, rc⟩
    · cases r with
      | un _ => trivial
      | kx _ => obtain ⟨v, e2, r2, _⟩ := q; exact ⟨v, e2, r2, f0'⟩
      | kxo s' _ => obtain ⟨v, e2, r2, _⟩ := q; exact ⟨v, e2, r2, s'.trans f0'⟩
      | fx _ => obtain ⟨v, e2, r2⟩ := q; exact ⟨v, e2, Fx.fx r2⟩
      | ow _ =>
        obtain ⟨p', vs', e2, e3, r2, e4, e5⟩ := q
        exact ⟨p', vs', e2, by rw [upn (ne e5)]; exact e3, rps_fx r2, by show (if p' = p then none else F p') = none; rw [if_neg (ne e5)]; exact e4, by show (if p' = p then none else A p') = none; rw [if_neg (ne e5)]; exact e5⟩
      | io _ =>
        obtain ⟨vs', e2, e3, r2, e4, e5⟩ := q
        exact ⟨vs', e2, by rw [upn (ne e5)]; exact e3, rps_fx r2, by show (if _ = p then none else F _) = none; rw [if_neg (ne e5)]; exact e4, by show (if _ = p then none else A _) = none; rw [if_neg (ne e5)]; exact e5⟩
    · subst rb rc
      obtain ⟨v, e2, r2, s2⟩ := q
      refine ⟨v, e2, Rp.mono (fun a o h => ?_) r2, f0'⟩
      have ha : F a = some o := dl_le _ _ h
      have hap : a ≠ p := fun z => by
        subst z
        unfold dl at h
        rw [h1] at h
        cases h
      rcases dl_cases (fun a => if a = p then none else F a) B.F0 a with ⟨xs, e3, _⟩ | ⟨_, e3⟩
      · have e4 := sm _ _ e3
        unfold dl at h
        rw [e4] at h
        cases h
      · rw [e3]
        show (if a = p then none else F a) = some o
        rw [if_neg hap]; exact ha
  · obtain ⟨h1, h2, h3⟩ := s.pr a o e
    refine ⟨by rw [upn (ne h2)]; exact h1, ?_, fun i q => h3 i (back i a q)⟩
    show (if a = p then none else A a) = none
    split
    · rfl
    · exact h2
end
section
variable {g : Gx} {B : Bs} {E E1 E2 E3 : List Bd} {ta te : TE} {α β : Type} [Rp α] [Rp β] {F0 F1 : Hp}
theorem pk_get {x : Option α} {y : α} (h : Px g B E E1 te (Kx.mk (Fr.mk x) : Kx F1 (Fr F0 (Option α)))) (e : x = some y) : Px g B E E1 te (Kx.mk (Fr.mk y) : Kx F1 (Fr F0 α)) := fun F A σ H s Q k => h F A σ H s Q fun F' A' H' v s' f r => k F' A' H' v s' f (by subst e; exact ⟨⟨r.1.1, r.1.2⟩, r.2⟩)
theorem sx_appFK {D : Ends} {x : β} {xs : List α} (eF : B.F0 = F0) (sm : Same F0 F1) (ht : Px g B E E1 ta (Kx.mk (Fr.mk xs) : Kx F1 (Fr F0 (List α)))) (hx : Px g B E1 E2 te x) (hz : sz (xs.length + 1) = true) (m : RstP F0 F1 E2 E3) (k : ∀ σ H, Sp' g B E3 σ H → D.nx σ H) :
    Sx g B E (tDrop (tBM g.K "list" rAppend ta (tCons te tNil))) D := fun F A σ H s => by
  subst eF
  refine ht F A σ H s _ fun F1' A1 H1 v s1 e1 rv => ?_
  obtain ⟨⟨⟨p, vs, rfl, hp, r⟩, z⟩, s01⟩ := rv
  obtain ⟨hp1, h0⟩ := dl_lst z hp
  have hp := s01 _ _ hp1
  refine ⟨.inl ⟨rfl, _, .of (s1.ah _ _ (s1.fa _ _ hp))⟩, hx F1' A1 σ H1 s1 _ fun F2 A2 H2 w s2 e2 rw => ?_⟩
  have hp2 := e2 _ _ hp
  exact ⟨p, vs, w, rfl, rfl, s2.ah _ _ (s2.fa _ _ hp2), by rw [rps_len r]; exact Nat.lt_of_lt_of_le (Nat.lt_succ_self _) (sz_ok hz), k _ _ ⟨_, _, s2.resetP m sm hp1 hp2 h0⟩⟩
end
end Gn
/-! Gn: two new lists told as a pair. -/
namespace Gn
open PySem L2
open Rp (rp)
/-- a pair of two lists that are not one -/
structure Dj (α β : Type) where
  x : List α
  y : List β
instance instRpDj {α β : Type} [Rp α] [Rp β] : Rp (Dj α β) := ⟨fun g H v d => ∃ p q r vs ws, v = .ref p ∧ H p = some (.tup [.ref q, .ref r]) ∧ q ≠ r ∧ H q = some (.lst vs) ∧ rps g H vs d.x ∧ H r = some (.lst ws) ∧ rps g H ws d.y,
  fun s ⟨p, q, r, vs, ws, e, h1, h2, h3, h4, h5, h6⟩ => ⟨p, q, r, vs, ws, e, s _ _ h1, h2, s _ _ h3, rps_mono s h4, s _ _ h5, rps_mono s h6⟩⟩
/-- nothing owned -/
inductive KpL : List Bd → Prop
  | nil : KpL []
  | un {E : List Bd} : KpL E → KpL (.un :: E)
  | kp {α : Type} [Rp α] {x : α} {E : List Bd} : KpL E → KpL (.kp x :: E)
theorem KpL.get {E : List Bd} (m : KpL E) : ∀ {i : Nat} {b : Bd}, E[i]? = some b → b = .un ∨ ∃ (α : Type) (_ : Rp α) (x : α), b = .kp x := by
  induction m with
  | nil => intro i b e; cases e
  | un _ ih =>
    intro i b e
    cases i with
    | zero => cases e; exact .inl rfl
    | succ i => exact ih e
  | kp _ ih =>
    intro i b e
    cases i with
    | zero => cases e; exact .inr ⟨_, _, _, rfl⟩
    | succ i => exact ih e
section
variable {g : Gx} {B : Bs} {E : List Bd} {te : TE} {α β : Type} [Rp α] [Rp β]
instance {α β γ δ : Type} [Rp α] [Rp β] [Rp γ] [Rp δ] [Nl α] [Nl β] [Nl γ] [Nl δ] : Nl (T4 α β γ δ) := ⟨fun s ⟨p, a, b, c, d, e, h, r1, r2, r3, r4⟩ => ⟨p, a, b, c, d, e, dl_tup s h, Nl.nl s r1, Nl.nl s r2, Nl.nl s r3, Nl.nl s r4⟩⟩
theorem sx_retDj [Nl α] [Nl β] {D : Ends} {i j : Nat} {xs : List α} {ys : List β} (hi : E[i]? = some (.ow xs)) (hj : E[j]? = some (.ow ys)) (hij : i ≠ j) (hps : B.ps = []) (h : DRt g B D.rt (.fr (Dj.mk xs ys) [])) : Sx g B E (tRet (tTup (tCons (tVar i) (tCons (tVar j) tNil)))) D := fun F A σ H s => by
  obtain ⟨p, vs, e1, e2, r, e3, e4⟩ := s.sl i _ hi
  obtain ⟨q, ws, d1, d2, t, d3, d4⟩ := s.sl j _ hj
  have hpq : p ≠ q := fun z => hij (s.ne i j p ⟨e1, _, hi, trivial⟩ ⟨by rw [z]; exact d1, _, hj, trivial⟩)
  refine ⟨_, e1, _, d1, by show 2 ≤ sizeLine; decide, fun a ha => ?_⟩
  obtain ⟨F1, A1, s1, f1, a1⟩ := s.freeze hi (fun p _ z => by rw [hps] at z; cases z)
  obtain ⟨F2, A2, s2, f2, a2⟩ := s1.freeze (i := j) (xs := ys) (by rw [List.getElem?_set_ne hij]; exact hj) (fun p _ z => by rw [hps] at z; cases z)
  have k1 : ∃ vs, F1 p = some (.lst vs) ∧ rps g F1 vs xs := by
    obtain ⟨v, e, p', vs', ev, hp, r⟩ := s1.sl i (.kp xs) (List.getElem?_set_self (List.getElem?_eq_some_iff.mp hi).1)
    rw [e1] at e
    cases e; cases ev
    exact ⟨vs', hp, r⟩
  have k2 : ∃ ws, F2 q = some (.lst ws) ∧ rps g F2 ws ys := by
    obtain ⟨v, e, p', vs', ev, hp, r⟩ := s2.sl j (.kp ys) (List.getElem?_set_self (by rw [List.length_set]; exact (List.getElem?_eq_some_iff.mp hj).1))
    rw [d1] at e
    cases e; cases ev
    exact ⟨vs', hp, r⟩
  obtain ⟨vs1, hp1, r1⟩ := k1
  obtain ⟨ws1, hq1, r2⟩ := k2
  obtain ⟨s3, n⟩ := s2.alloc (o := .tup [.ref p, .ref q]) ha
  obtain ⟨F4, A4, s4, f4, a4, hp4⟩ := s3.keep n
  have free : ∀ {a : Addr}, F a = none → B.F0 a = none := fun {a} h => s.f0.free h
  refine h F4 A4 _ σ _ (.ref a) s4 (by rw [hps]; trivial) ?_
  have m1 : ∀ {a : Addr} {o : HO}, F a = none → F4 a = some o → dl F4 B.F0 a = some o := fun h1 h2 => dl_new h2 (free h1)
  exact ⟨a, p, q, vs1, ws1, rfl, dl_tup s4.f0 hp4, hpq, m1 e3 (f4 _ _ (f2 _ _ hp1)), rps_nl s4.f0 (rps_mono (f2.trans f4) r1), m1 d3 (f4 _ _ hq1), rps_nl s4.f0 (rps_mono f4 r2)⟩
end
section
variable {g : Gx} {B : Bs} {E : List Bd} {te : TE} {α β : Type} [Rp α] [Rp β]
theorem sx_ifE {D : Ends} {t u : TS} (h : PxE g B E te) : Sx g B E (tIfS (tB (tIsN te)) t u) D := fun F A σ H s => h F A σ H s _
theorem sx_asgDj [Nl α] [Nl β] {D : Ends} {i j : Nat} {xs : List α} {ys : List β} (hk : KpL E) (hij : i ≠ j) (hi : i < E.length) (hj : j < E.length) (hx : ∀ (B' : Bs) (F0 : Hp), Same F0 B'.F0 → Px g B' E E te (Fr.mk (Dj.mk xs ys) : Fr F0 (Dj α β))) (k : ∀ σ H, Sp' g B ((E.set i (.ow xs)).set j (.ow ys)) σ H → D.nx σ H) : Sx g B E (tAsg te (gTup g.K 2 (gCons (gName i) (gCons (gName j) gNil)))) D := fun F A σ H s => by
  have sr := s.rebase.1
  refine hx (B.to F A) F (Same.refl _) F A σ H sr _ fun F1 A1 H1 v s1 e1 rv => ?_
  obtain ⟨⟨a, p, q, vs, ws, rfl, ha, hpq, hp, r1, hq, r2⟩, _⟩ := rv
  obtain ⟨hp1, hp0⟩ := dl_lst e1 hp
  obtain ⟨hq1, hq0⟩ := dl_lst e1 hq
  have ha1 : F1 a = some (.tup [.ref p, .ref q]) := dl_le _ _ ha
  have su : Sta g B F1 A1 E σ H1 := s1.unbase s.f0 s.a0 s.fr
  have hpA : A1 p = some (.lst vs) := su.fa _ _ hp1
  have hqA : A1 q = some (.lst ws) := su.fa _ _ hq1
  have aA : ∀ {x : Addr} {o : HO}, F x = none → F1 x = some o → A x = none := fun {x o} h0 h1 => by
    cases e : A x with
    | none => rfl
    | some u =>
      have := s1.fr x h0 (.inl (by show A x ≠ none; rw [e]; exact fun z => nomatch z))
      rw [h1] at this; cases this
  have hpA0 := aA hp0 hp1
  have hqA0 := aA hq0 hq1
  refine ⟨a, [.ref p, .ref q], rfl, .of (su.ah _ _ (su.fa _ _ ha1)), rfl, .ref p, [.ref q], rfl, .ref q, [], rfl, rfl, k _ _ ⟨fun x => if x = p ∨ x = q then none else F1 x, fun x => if x = p ∨ x = q then none else A1 x, ?_⟩⟩
  have nF : ∀ {x : Addr} {o : HO}, F x = some o → ¬ (x = p ∨ x = q) := fun h z => by
    rcases z with rfl | rfl
    · rw [hp0] at h; cases h
    · rw [hq0] at h; cases h
  have nA : ∀ {x : Addr} {o : HO}, A x = some o → ¬ (x = p ∨ x = q) := fun h z => by
    rcases z with rfl | rfl
    · rw [hpA0] at h; cases h
    · rw [hqA0] at h; cases h
  have nA1 : ∀ {x : Addr}, A1 x = none → ¬ (x = p ∨ x = q) := fun h z => by
    rcases z with rfl | rfl
    · rw [hpA] at h; cases h
    · rw [hqA] at h; cases h
  have fF : Same F (fun x => if x = p ∨ x = q then none else F1 x) := fun x o h => by
    show (if x = p ∨ x = q then none else F1 x) = some o
    rw [if_neg (nF h)]; exact e1 _ _ h
  have fA : Same A (fun x => if x = p ∨ x = q then none else A1 x) := fun x o h => by
    show (if x = p ∨ x = q then none else A1 x) = some o
    rw [if_neg (nA h)]; exact s1.a0 _ _ h
  have hl := su.len
  have getE : ∀ {l : Nat} {b : Bd}, ((E.set i (.ow xs)).set j (.ow ys))[l]? = some b → (l = j ∧ b = .ow ys) ∨ (l = i ∧ l ≠ j ∧ b = .ow xs) ∨ (l ≠ i ∧ l ≠ j ∧ E[l]? = some b) := fun {l b} e => by
    by_cases h1 : l = j
    · subst h1
      rw [List.getElem?_set_self (by rw [List.length_set]; exact hj)] at e
      exact .inl ⟨rfl, (Option.some.inj e).symm⟩
    · rw [List.getElem?_set_ne (Ne.symm h1)] at e
      by_cases h2 : l = i
      · subst h2
        rw [List.getElem?_set_self hi] at e
        exact .inr (.inl ⟨rfl, h1, (Option.some.inj e).symm⟩)
      · rw [List.getElem?_set_ne (Ne.symm h2)] at e
        exact .inr (.inr ⟨h2, h1, e⟩)
  have getS : ∀ {l : Nat}, ((σ.set i (some (.ref p))).set j (some (.ref q)))[l]? = if l = j then some (some (.ref q)) else if l = i then some (some (.ref p)) else σ[l]? := fun {l} => by
    by_cases h1 : l = j
    · subst h1
      rw [if_pos rfl, List.getElem?_set_self (by rw [List.length_set]; omega)]
    · rw [if_neg h1, List.getElem?_set_ne (Ne.symm h1)]
      by_cases h2 : l = i
      · subst h2
        rw [if_pos rfl, List.getElem?_set_self (by omega)]
      · rw [if_neg h2, List.getElem?_set_ne (Ne.symm h2)]
  have own : ∀ {l : Nat} {x : Addr}, Own ((E.set i (.ow xs)).set j (.ow ys)) ((σ.set i (some (.ref p))).set j (some (.ref q))) l x → (l = i ∧ x = p) ∨ (l = j ∧ x = q) := fun {l x} ⟨h1, b, h2, h3⟩ => by
    rw [getS] at h1
    rcases getE h2 with ⟨z1, z2⟩ | ⟨z1, z2, z3⟩ | ⟨z1, z2, z3⟩
    · rw [if_pos z1] at h1
      cases h1; exact .inr ⟨z1, rfl⟩
    · rw [if_neg z2, if_pos z1] at h1
      cases h1; exact .inl ⟨z1, rfl⟩
    · rcases hk.get z3 with rfl | ⟨_, _, _, rfl⟩ <;> exact h3.elim
  have inn : ∀ {l : Nat} {x : Addr}, ¬ Inn ((E.set i (.ow xs)).set j (.ow ys)) l x := fun {l x} ⟨b, h2, h3⟩ => by
    rcases getE h2 with ⟨_, z2⟩ | ⟨_, _, z2⟩ | ⟨_, _, z3⟩
    · rw [z2] at h3; cases h3
    · rw [z2] at h3; cases h3
    · rcases hk.get z3 with rfl | ⟨_, _, _, rfl⟩ <;> cases h3
  have rm : ∀ {zs : List V} {γ : Type} [Rp γ] [Nl γ] {ds : List γ}, rps g (dl F1 F) zs ds → rps g (fun x => if x = p ∨ x = q then none else F1 x) zs ds := fun r => rps_mono (fun x o h => by
    have h1 := dl_le _ _ h
    show (if x = p ∨ x = q then none else F1 x) = some o
    rw [if_neg (fun z => by
      unfold dl at h
      rcases z with rfl | rfl
      · rw [hp1] at h; cases h
      · rw [hq1] at h; cases h)]
    exact h1) (rps_nl (Same.refl _) (rps_mono dl_le r))
  refine ⟨by rw [List.length_set, List.length_set, List.length_set, List.length_set]; exact hl, fun x o h => ?_, fun x o h => ?_, s.f0.trans fF, s.a0.trans fA, fun x h1 h2 => ?_, fun x hx => ?_, fun l b e => ?_, fun l m x h1 h2 => ?_, fun x o h => ?_, fun l x h => (inn h).elim⟩
  · have h : (if x = p ∨ x = q then none else F1 x) = some o := h
    show (if x = p ∨ x = q then none else A1 x) = some o
    split at h
    · cases h
    · rename_i n
      rw [if_neg n]; exact su.fa _ _ h
  · have h : (if x = p ∨ x = q then none else A1 x) = some o := h
    split at h
    · cases h
    · exact su.ah _ _ h
  · show (if x = p ∨ x = q then none else F1 x) = none
    split
    · rfl
    · exact su.fr x h1 h2
  · have z := su.inn x hx
    exact ⟨z.1, by show (if x = p ∨ x = q then none else A1 x) = none; rw [if_neg (nA1 z.2)]; exact z.2⟩
  · rw [getS]
    rcases getE e with ⟨z1, rfl⟩ | ⟨z1, z2, rfl⟩ | ⟨z1, z2, z3⟩
    · rw [if_pos z1]
      exact ⟨q, ws, rfl, su.ah _ _ hqA, rm r2, if_pos (.inr rfl), if_pos (.inr rfl)⟩
    · rw [if_neg z2, if_pos z1]
      exact ⟨p, vs, rfl, su.ah _ _ hpA, rm r1, if_pos (.inl rfl), if_pos (.inl rfl)⟩
    · rw [if_neg z2, if_neg z1]
      have t := s.sl l b z3
      rcases hk.get z3 with rfl | ⟨_, _, _, rfl⟩
      · trivial
      · obtain ⟨v, e2, r⟩ := t
        exact ⟨v, e2, Rp.mono fF r⟩
  · rcases own h1 with ⟨a1, a2⟩ | ⟨a1, a2⟩ <;> rcases own h2 with ⟨b1, b2⟩ | ⟨b1, b2⟩
    · rw [a1, b1]
    · exact absurd (a2.symm.trans b2) hpq
    · exact absurd (b2.symm.trans a2) hpq
    · rw [a1, b1]
  · obtain ⟨h1, h2, h3⟩ := su.pr x o h
    have nx := nA1 h2
    refine ⟨h1, by show (if x = p ∨ x = q then none else A1 x) = none; rw [if_neg nx]; exact h2, fun l z => ?_⟩
    rcases own z with ⟨_, z⟩ | ⟨_, z⟩
    · exact nx (.inl z)
    · exact nx (.inr z)
end
end Gn
/-! Gn: a list of one's own lent to a call that keeps nothing. -/
namespace Gn
open PySem L2
open Rp (rp)
section
variable {g : Gx} {B : Bs} {E : List Bd} {te : TE} {α β τ : Type} [Rp α] [Rp β] [Rp τ]
theorem px_lend [Fx α] [Fx τ] {i j : Nat} {xs : List α} {ys : List β} {x : τ} (hi : E[i]? = some (.ow xs)) (hj : E[j]? = some (.ow ys)) (hij : i ≠ j) (hps : B.ps = []) (hk : KpL ((E.set i .un).set j .un)) (h : ∀ B', Nest g B B' → Px g B' ((E.set i (.kp xs)).set j .un) ((E.set i (.kp xs)).set j .un) te x) : Px g B E E te x := fun F A σ H s Q k => by
  obtain ⟨p, vs, e1, e2, r, e3, e4⟩ := s.sl i _ hi
  obtain ⟨q, ws, d1, d2, t, d3, d4⟩ := s.sl j _ hj
  have own_i : Own E σ i p := ⟨e1, _, hi, trivial⟩
  have own_j : Own E σ j q := ⟨d1, _, hj, trivial⟩
  have hpq : p ≠ q := fun z => hij (s.ne i j p own_i (z ▸ own_j))
  have hil := (List.getElem?_eq_some_iff.mp hi).1
  have hjl := (List.getElem?_eq_some_iff.mp hj).1
  have rest : ∀ {l : Nat} {b : Bd}, l ≠ i → l ≠ j → E[l]? = some b → b = .un ∨ ∃ (γ : Type) (_ : Rp γ) (z : γ), b = .kp z := fun {l b} h1 h2 e => hk.get (i := l) (by rw [List.getElem?_set_ne (Ne.symm h2), List.getElem?_set_ne (Ne.symm h1)]; exact e)
  obtain ⟨F1, A1, s1, f1, a1⟩ := s.freeze hi (fun p _ z => by rw [hps] at z; cases z)
  have s2 : Sta g B F1 A1 ((E.set i (.kp xs)).set j .un) σ H := s1.slots (by simp) fun l b' e => by
    by_cases h1 : l = j
    · subst h1
      rw [List.getElem?_set_self (by rw [List.length_set]; exact hjl)] at e
      cases e
      exact ⟨_, by rw [List.getElem?_set_ne hij]; exact hj, fun z => z.elim, (fun q z => by cases z), fun _ => trivial⟩
    · rw [List.getElem?_set_ne (Ne.symm h1)] at e
      exact ⟨b', e, id, fun _ z => z, id⟩
  have e2i : ((E.set i (.kp xs)).set j .un)[i]? = some (.kp xs) := by rw [List.getElem?_set_ne (Ne.symm hij), List.getElem?_set_self hil]
  obtain ⟨v', w1, p', vs1, w2, hp1, rr⟩ := s2.sl i (.kp xs) e2i
  rw [e1] at w1
  cases w1; cases w2
  have noO : ∀ l a, ¬ Own ((E.set i (.kp xs)).set j .un) σ l a := fun l a ⟨_, b, h2, h3⟩ => by
    by_cases h1 : l = j
    · subst h1
      rw [List.getElem?_set_self (by rw [List.length_set]; exact hjl)] at h2
      cases h2; exact h3
    · rw [List.getElem?_set_ne (Ne.symm h1)] at h2
      by_cases h4 : l = i
      · subst h4
        rw [List.getElem?_set_self hil] at h2
        cases h2; exact h3
      · rw [List.getElem?_set_ne (Ne.symm h4)] at h2
        rcases rest h4 h1 h2 with rfl | ⟨_, _, _, rfl⟩ <;> exact h3
  have noI : ∀ l a, ¬ Inn ((E.set i (.kp xs)).set j .un) l a := fun l a ⟨b, h2, h3⟩ => by
    by_cases h1 : l = j
    · subst h1
      rw [List.getElem?_set_self (by rw [List.length_set]; exact hjl)] at h2
      cases h2; cases h3
    · rw [List.getElem?_set_ne (Ne.symm h1)] at h2
      by_cases h4 : l = i
      · subst h4
        rw [List.getElem?_set_self hil] at h2
        cases h2; cases h3
      · rw [List.getElem?_set_ne (Ne.symm h4)] at h2
        rcases rest h4 h1 h2 with rfl | ⟨_, _, _, rfl⟩ <;> cases h3
  have own1j : Own (E.set i (.kp xs)) σ j q := ⟨d1, .ow ys, by rw [List.getElem?_set_ne hij]; exact hj, trivial⟩
  obtain ⟨n1, n2, _⟩ := s1.own own1j
  have hPq : B.P q = none := by
    cases z : B.P q with
    | none => rfl
    | some o => exact absurd own_j ((s.pr q o z).2.2 j)
  have hqs : q ∉ B.ps := by rw [hps]; exact fun z => nomatch z
  obtain ⟨s3, nst⟩ := s2.aside (p := q) (o := .lst ws) ⟨d2, n1, n2, fun l => noO l q, fun l => noI l q, hqs, hPq⟩
  refine h _ nst F1 A1 σ H s3 _ fun F' A' H' v s' e rx => ?_
  obtain ⟨s4, n4⟩ := s'.back hPq hqs
  have hpF : F' p = some (.lst vs1) := e _ _ hp1
  have hpA : A' p = some (.lst vs1) := s4.fa _ _ hpF
  have hpH : H' p = some (.lst vs1) := s4.ah _ _ hpA
  have nA : ∀ {a : Addr}, A' a = none → a ≠ p := fun h z => by rw [z, hpA] at h; cases h
  have fF : Same F (fun a => if a = p then none else F' a) := fun a o h => by
    have : a ≠ p := fun z => by rw [z, e3] at h; cases h
    show (if a = p then none else F' a) = some o
    rw [if_neg this]
    exact e _ _ (f1 _ _ h)
  have hB0 : B.F0 p = none := s.f0.free e3
  have hA0 : B.A0 p = none := s.a0.free e4
  have own5 : ∀ {l : Nat} {a : Addr}, Own E σ l a → (l = i ∧ a = p) ∨ (l = j ∧ a = q) := fun {l a} ⟨h1, b, h2, h3⟩ => by
    by_cases hl : l = i
    · subst hl
      rw [e1] at h1; cases h1; exact .inl ⟨rfl, rfl⟩
    · by_cases hl2 : l = j
      · subst hl2
        rw [d1] at h1; cases h1; exact .inr ⟨rfl, rfl⟩
      · rcases rest hl hl2 h2 with rfl | ⟨_, _, _, rfl⟩ <;> exact h3.elim
  have inn5 : ∀ {l : Nat} {a : Addr}, ¬ Inn E l a := fun {l a} ⟨b, h2, h3⟩ => by
    by_cases hl : l = i
    · subst hl
      rw [hi] at h2; cases h2; cases h3
    · by_cases hl2 : l = j
      · subst hl2
        rw [hj] at h2; cases h2; cases h3
      · rcases rest hl hl2 h2 with rfl | ⟨_, _, _, rfl⟩ <;> cases h3
  refine k (fun a => if a = p then none else F' a) (fun a => if a = p then none else A' a) H' v ⟨s.len, fun a o h => ?_, fun a o h => ?_, s.f0.trans fF, fun a o h => ?_, fun a h1 h2 => ?_, fun a h => ?_, fun l b el => ?_, s.ne, fun a o h => ?_, fun l a h => (inn5 h).elim⟩ fF (Fx.fx rx)
  · have h : (if a = p then none else F' a) = some o := h
    show (if a = p then none else A' a) = some o
    split at h
    · cases h
    · rename_i n
      rw [if_neg n]; exact s4.fa _ _ h
  · have h : (if a = p then none else A' a) = some o := h
    split at h
    · cases h
    · exact s4.ah _ _ h
  · have : a ≠ p := fun z => by rw [z, hA0] at h; cases h
    show (if a = p then none else A' a) = some o
    rw [if_neg this]; exact s4.a0 _ _ h
  · show (if a = p then none else F' a) = none
    split
    · rfl
    · exact s4.fr a h1 h2
  · rw [hps] at h; cases h
  · by_cases hl : l = i
    · subst hl
      rw [hi] at el
      cases el
      exact ⟨p, vs1, e1, hpH, rps_fx rr, if_pos rfl, if_pos rfl⟩
    · by_cases hl2 : l = j
      · subst hl2
        rw [hj] at el
        cases el
        exact ⟨q, ws, d1, n4.at_, rps_mono fF t, by show (if q = p then none else F' q) = none; rw [if_neg (Ne.symm hpq)]; exact n4.f, by show (if q = p then none else A' q) = none; rw [if_neg (Ne.symm hpq)]; exact n4.a⟩
      · have z := s.sl l b el
        rcases rest hl hl2 el with rfl | ⟨_, _, _, rfl⟩
        · trivial
        · obtain ⟨v2, u1, u2⟩ := z
          exact ⟨v2, u1, Rp.mono fF u2⟩
  · obtain ⟨h1, h2, h3⟩ := s4.pr a o h
    have np := nA h2
    refine ⟨h1, by show (if a = p then none else A' a) = none; rw [if_neg np]; exact h2, fun l z => ?_⟩
    exact (s.pr a o h).2.2 l z
end
end Gn
namespace Gn
open PySem L2
open Rp (rp)
def topS (i : Nat) : Stmt := PySem.Challenge.pw_damphouse_k38_whole_saver_sees_ahead.main.body.getD i (.Pass ⟨0, 0, 0, 0⟩)
abbrev s_Lacquer___init__ : Stmt := inClass (topS 24) 1
abbrev s_Lacquer_slack : Stmt := inClass (topS 24) 2
abbrev s_Lacquer_spans : Stmt := inClass (topS 24) 5
abbrev s_Lacquer_lead : Stmt := inClass (topS 24) 7
abbrev s_check_kind : Stmt := topS 28
abbrev s_plain_list : Stmt := topS 29
abbrev s_Climate___init__ : Stmt := inClass (topS 40) 0
abbrev s_Climate_peak : Stmt := inClass (topS 40) 4
abbrev s_fault : Stmt := topS 31
abbrev s_Climate___iter__ : Stmt := inClass (topS 40) 5
abbrev s_lead_of : Stmt := topS 32
abbrev s_bad_kinds : Stmt := topS 33
abbrev s_Unsound___init__ : Stmt := inClass (topS 8) 0
abbrev s_demand_sound : Stmt := topS 35
abbrev s_saver_sight : Stmt := topS 37
abbrev s_Weather___init__ : Stmt := inClass (topS 44) 0
abbrev s_Weather_hours : Stmt := inClass (topS 44) 1
abbrev s_Weather_signs : Stmt := inClass (topS 44) 6
abbrev s_Weather_of_signs : Stmt := inClass (topS 44) 5
abbrev s_dry_flags : Stmt := topS 11
abbrev s_flagged : Stmt := topS 12
abbrev s_reach_flags : Stmt := topS 13
abbrev s_end_flags : Stmt := topS 14
abbrev s_onward_flags : Stmt := topS 15
abbrev s_reached : Stmt := topS 17
abbrev s_spoilt_hour : Stmt := topS 18
abbrev s_Spoilt___init__ : Stmt := inClass (topS 9) 0
abbrev s__demand_kept : Stmt := topS 20
abbrev s__step_hours : Stmt := topS 21
abbrev s_latest : Stmt := topS 22
abbrev s__law_cell : Stmt := topS 46
abbrev s__law_pool : Stmt := topS 47
abbrev s__law_take : Stmt := topS 48
abbrev s__law_same : Stmt := topS 49
abbrev s__law_ab : Stmt := topS 50
abbrev s__law_up : Stmt := topS 51
abbrev s__law_lead : Stmt := topS 52
abbrev s__law_sound_pairs : Stmt := topS 53
abbrev s__law_peak : Stmt := topS 54
abbrev s__law_live : Stmt := topS 55
abbrev s__law_last_row : Stmt := topS 56
abbrev s__law_longest : Stmt := topS 57
abbrev s__law_longer_signs : Stmt := topS 58
abbrev s__law_drawn : Stmt := topS 59
abbrev s__law_until : Stmt := topS 60
abbrev s_law : Stmt := topS 61
structure O_Lacquer where
  f_a : Int
  f_b : Int
instance instOb_O_Lacquer : Ob O_Lacquer := ⟨Str.ofString "Lacquer", fun g H fs x => ∃ w0 w1, fs = [(Str.ofString "a", w0), (Str.ofString "b", w1)] ∧ Rp.rp g H w0 x.f_a ∧ Rp.rp g H w1 x.f_b, fun s ⟨w0, w1, e, r0, r1⟩ => ⟨w0, w1, e, Rp.mono s r0, Rp.mono s r1⟩⟩
instance instRp_O_Lacquer : Rp O_Lacquer := Ob.rp
theorem fr_Lacquer {g : Gx} {m : Str} (h : ([(Str.ofString "a"), (Str.ofString "b")].any fun n => m == n) = false) : Frees O_Lacquer g (g.ca (Str.ofString "Lacquer")) m := fun H v x ⟨a, dx, fs, e, h1, w0, w1, e2, _⟩ => ⟨a, dx, fs, e, h1, by subst e2; simp only [List.any_cons, List.any_nil, Bool.or_false, Bool.or_eq_false_iff] at h; simp only [List.lookup, h]⟩
theorem has_Lacquer_f_a {g : Gx} (c : Cls g.K (g.ca (Str.ofString "Lacquer"))) (n : NoAttr g.K (g.ca (Str.ofString "Lacquer")) (Str.ofString "a")) : Has O_Lacquer Int g (Str.ofString "a") O_Lacquer.f_a := fun H v x ⟨a, dx, fs, e, h1, w0, w1, e2, r0, r1⟩ => ⟨a, _, dx, fs, w0, e, h1, c, n, by subst e2; rfl, r0⟩
theorem has_Lacquer_f_b {g : Gx} (c : Cls g.K (g.ca (Str.ofString "Lacquer"))) (n : NoAttr g.K (g.ca (Str.ofString "Lacquer")) (Str.ofString "b")) : Has O_Lacquer Int g (Str.ofString "b") O_Lacquer.f_b := fun H v x ⟨a, dx, fs, e, h1, w0, w1, e2, r0, r1⟩ => ⟨a, _, dx, fs, w1, e, h1, c, n, by subst e2; rfl, r1⟩
theorem hasC_Lacquer_f_a {g : Gx} (c : Cls g.K (g.ca (Str.ofString "Lacquer"))) (n : NoAttr g.K (g.ca (Str.ofString "Lacquer")) (Str.ofString "a")) : HasC O_Lacquer Int g (g.ca (Str.ofString "Lacquer")) (Str.ofString "a") O_Lacquer.f_a := fun H v x ⟨a, dx, fs, e, h1, w0, w1, e2, r0, r1⟩ => ⟨a, dx, fs, w0, e, h1, c, n, by subst e2; rfl, r0⟩
theorem hasC_Lacquer_f_b {g : Gx} (c : Cls g.K (g.ca (Str.ofString "Lacquer"))) (n : NoAttr g.K (g.ca (Str.ofString "Lacquer")) (Str.ofString "b")) : HasC O_Lacquer Int g (g.ca (Str.ofString "Lacquer")) (Str.ofString "b") O_Lacquer.f_b := fun H v x ⟨a, dx, fs, e, h1, w0, w1, e2, r0, r1⟩ => ⟨a, dx, fs, w1, e, h1, c, n, by subst e2; rfl, r1⟩
theorem nn_O_Lacquer {g : Gx} {H : Hp} {v : V} {y : O_Lacquer} (h : Rp.rp g H v y) : v ≠ .non := by
  obtain ⟨a, dx, fs, e, _⟩ := h
  rw [e]; exact fun z => nomatch z

structure O_Climate where
  f_kinds : (Tu (Int × Int))
instance instOb_O_Climate : Ob O_Climate := ⟨Str.ofString "Climate", fun g H fs x => ∃ w0, fs = [(Str.ofString "kinds", w0)] ∧ Rp.rp g H w0 x.f_kinds, fun s ⟨w0, e, r0⟩ => ⟨w0, e, Rp.mono s r0⟩⟩
instance instRp_O_Climate : Rp O_Climate := Ob.rp
theorem fr_Climate {g : Gx} {m : Str} (h : ([(Str.ofString "kinds")].any fun n => m == n) = false) : Frees O_Climate g (g.ca (Str.ofString "Climate")) m := fun H v x ⟨a, dx, fs, e, h1, w0, e2, _⟩ => ⟨a, dx, fs, e, h1, by subst e2; simp only [List.any_cons, List.any_nil, Bool.or_false, Bool.or_eq_false_iff] at h; simp only [List.lookup, h]⟩
theorem has_Climate_f_kinds {g : Gx} (c : Cls g.K (g.ca (Str.ofString "Climate"))) (n : NoAttr g.K (g.ca (Str.ofString "Climate")) (Str.ofString "kinds")) : Has O_Climate (Tu (Int × Int)) g (Str.ofString "kinds") O_Climate.f_kinds := fun H v x ⟨a, dx, fs, e, h1, w0, e2, r0⟩ => ⟨a, _, dx, fs, w0, e, h1, c, n, by subst e2; rfl, r0⟩
theorem hasC_Climate_f_kinds {g : Gx} (c : Cls g.K (g.ca (Str.ofString "Climate"))) (n : NoAttr g.K (g.ca (Str.ofString "Climate")) (Str.ofString "kinds")) : HasC O_Climate (Tu (Int × Int)) g (g.ca (Str.ofString "Climate")) (Str.ofString "kinds") O_Climate.f_kinds := fun H v x ⟨a, dx, fs, e, h1, w0, e2, r0⟩ => ⟨a, dx, fs, w0, e, h1, c, n, by subst e2; rfl, r0⟩
theorem nn_O_Climate {g : Gx} {H : Hp} {v : V} {y : O_Climate} (h : Rp.rp g H v y) : v ≠ .non := by
  obtain ⟨a, dx, fs, e, _⟩ := h
  rw [e]; exact fun z => nomatch z

structure O_Weather where
  f_lengths : (Tu Int)
  f_signs : Tx
instance instOb_O_Weather : Ob O_Weather := ⟨Str.ofString "Weather", fun g H fs x => ∃ w0 w1, fs = [(Str.ofString "lengths", w0), (Str.ofString "_signs", w1)] ∧ Rp.rp g H w0 x.f_lengths ∧ Rp.rp g H w1 x.f_signs, fun s ⟨w0, w1, e, r0, r1⟩ => ⟨w0, w1, e, Rp.mono s r0, Rp.mono s r1⟩⟩
instance instRp_O_Weather : Rp O_Weather := Ob.rp
theorem fr_Weather {g : Gx} {m : Str} (h : ([(Str.ofString "lengths"), (Str.ofString "_signs")].any fun n => m == n) = false) : Frees O_Weather g (g.ca (Str.ofString "Weather")) m := fun H v x ⟨a, dx, fs, e, h1, w0, w1, e2, _⟩ => ⟨a, dx, fs, e, h1, by subst e2; simp only [List.any_cons, List.any_nil, Bool.or_false, Bool.or_eq_false_iff] at h; simp only [List.lookup, h]⟩
theorem has_Weather_f_lengths {g : Gx} (c : Cls g.K (g.ca (Str.ofString "Weather"))) (n : NoAttr g.K (g.ca (Str.ofString "Weather")) (Str.ofString "lengths")) : Has O_Weather (Tu Int) g (Str.ofString "lengths") O_Weather.f_lengths := fun H v x ⟨a, dx, fs, e, h1, w0, w1, e2, r0, r1⟩ => ⟨a, _, dx, fs, w0, e, h1, c, n, by subst e2; rfl, r0⟩
theorem has_Weather_f_signs {g : Gx} (c : Cls g.K (g.ca (Str.ofString "Weather"))) (n : NoAttr g.K (g.ca (Str.ofString "Weather")) (Str.ofString "_signs")) : Has O_Weather Tx g (Str.ofString "_signs") O_Weather.f_signs := fun H v x ⟨a, dx, fs, e, h1, w0, w1, e2, r0, r1⟩ => ⟨a, _, dx, fs, w1, e, h1, c, n, by subst e2; rfl, r1⟩
theorem hasC_Weather_f_lengths {g : Gx} (c : Cls g.K (g.ca (Str.ofString "Weather"))) (n : NoAttr g.K (g.ca (Str.ofString "Weather")) (Str.ofString "lengths")) : HasC O_Weather (Tu Int) g (g.ca (Str.ofString "Weather")) (Str.ofString "lengths") O_Weather.f_lengths := fun H v x ⟨a, dx, fs, e, h1, w0, w1, e2, r0, r1⟩ => ⟨a, dx, fs, w0, e, h1, c, n, by subst e2; rfl, r0⟩
theorem hasC_Weather_f_signs {g : Gx} (c : Cls g.K (g.ca (Str.ofString "Weather"))) (n : NoAttr g.K (g.ca (Str.ofString "Weather")) (Str.ofString "_signs")) : HasC O_Weather Tx g (g.ca (Str.ofString "Weather")) (Str.ofString "_signs") O_Weather.f_signs := fun H v x ⟨a, dx, fs, e, h1, w0, w1, e2, r0, r1⟩ => ⟨a, dx, fs, w1, e, h1, c, n, by subst e2; rfl, r1⟩
theorem nn_O_Weather {g : Gx} {H : Hp} {v : V} {y : O_Weather} (h : Rp.rp g H v y) : v ≠ .non := by
  obtain ⟨a, dx, fs, e, _⟩ := h
  rw [e]; exact fun z => nomatch z

structure Ad where
  f_Lacquer___init__ : Addr
  d_Lacquer___init__ : FuncData
  f_Lacquer_slack : Addr
  d_Lacquer_slack : FuncData
  f_Lacquer_spans : Addr
  d_Lacquer_spans : FuncData
  f_Lacquer_lead : Addr
  d_Lacquer_lead : FuncData
  f_check_kind : Addr
  d_check_kind : FuncData
  f_plain_list : Addr
  d_plain_list : FuncData
  f_Climate___init__ : Addr
  d_Climate___init__ : FuncData
  f_Climate_peak : Addr
  d_Climate_peak : FuncData
  f_fault : Addr
  d_fault : FuncData
  f_Climate___iter__ : Addr
  d_Climate___iter__ : FuncData
  f_lead_of : Addr
  d_lead_of : FuncData
  f_bad_kinds : Addr
  d_bad_kinds : FuncData
  f_Unsound___init__ : Addr
  d_Unsound___init__ : FuncData
  f_demand_sound : Addr
  d_demand_sound : FuncData
  f_saver_sight : Addr
  d_saver_sight : FuncData
  f_Weather___init__ : Addr
  d_Weather___init__ : FuncData
  f_Weather_hours : Addr
  d_Weather_hours : FuncData
  f_Weather_signs : Addr
  d_Weather_signs : FuncData
  f_Weather_of_signs : Addr
  d_Weather_of_signs : FuncData
  f_dry_flags : Addr
  d_dry_flags : FuncData
  f_flagged : Addr
  d_flagged : FuncData
  f_reach_flags : Addr
  d_reach_flags : FuncData
  f_end_flags : Addr
  d_end_flags : FuncData
  f_onward_flags : Addr
  d_onward_flags : FuncData
  f_reached : Addr
  d_reached : FuncData
  f_spoilt_hour : Addr
  d_spoilt_hour : FuncData
  f_Spoilt___init__ : Addr
  d_Spoilt___init__ : FuncData
  f__demand_kept : Addr
  d__demand_kept : FuncData
  f__step_hours : Addr
  d__step_hours : FuncData
  f_latest : Addr
  d_latest : FuncData
  f__law_cell : Addr
  d__law_cell : FuncData
  f__law_pool : Addr
  d__law_pool : FuncData
  f__law_take : Addr
  d__law_take : FuncData
  f__law_same : Addr
  d__law_same : FuncData
  f__law_ab : Addr
  d__law_ab : FuncData
  f__law_up : Addr
  d__law_up : FuncData
  f__law_lead : Addr
  d__law_lead : FuncData
  f__law_sound_pairs : Addr
  d__law_sound_pairs : FuncData
  f__law_peak : Addr
  d__law_peak : FuncData
  f__law_live : Addr
  d__law_live : FuncData
  f__law_last_row : Addr
  d__law_last_row : FuncData
  f__law_longest : Addr
  d__law_longest : FuncData
  f__law_longer_signs : Addr
  d__law_longer_signs : FuncData
  f__law_drawn : Addr
  d__law_drawn : FuncData
  f__law_until : Addr
  d__law_until : FuncData
  f_law : Addr
  d_law : FuncData
structure Txt (P : Program) (g : Gx) (mg : Str → Option Value) (A : Ad) : Prop where
  F_Lacquer___init__ : Fun g.K "__init__" "Lacquer.__init__" s_Lacquer___init__ A.f_Lacquer___init__ A.d_Lacquer___init__
  kp_Lacquer___init__ : PySem.W.keepIn g.K (.ref A.f_Lacquer___init__) = true
  b_Lacquer___init__ : Binds g.K A.d_Lacquer___init__ ["self", "a", "b"] []
  F_Lacquer_slack : Fun g.K "slack" "Lacquer.slack" s_Lacquer_slack A.f_Lacquer_slack A.d_Lacquer_slack
  kp_Lacquer_slack : PySem.W.keepIn g.K (.ref A.f_Lacquer_slack) = true
  b_Lacquer_slack : Binds g.K A.d_Lacquer_slack ["self"] []
  F_Lacquer_spans : Fun g.K "spans" "Lacquer.spans" s_Lacquer_spans A.f_Lacquer_spans A.d_Lacquer_spans
  kp_Lacquer_spans : PySem.W.keepIn g.K (.ref A.f_Lacquer_spans) = true
  b_Lacquer_spans : Binds g.K A.d_Lacquer_spans ["self", "w"] []
  F_Lacquer_lead : Fun g.K "lead" "Lacquer.lead" s_Lacquer_lead A.f_Lacquer_lead A.d_Lacquer_lead
  kp_Lacquer_lead : PySem.W.keepIn g.K (.ref A.f_Lacquer_lead) = true
  b_Lacquer_lead : Binds g.K A.d_Lacquer_lead ["self", "w"] []
  F_check_kind : Fun g.K "check_kind" "check_kind" s_check_kind A.f_check_kind A.d_check_kind
  mg_check_kind : mg "check_kind" = some (.ref A.f_check_kind)
  kp_check_kind : PySem.W.keepIn g.K (.ref A.f_check_kind) = true
  b_check_kind : Binds g.K A.d_check_kind ["w", "g"] []
  F_plain_list : Fun g.K "plain_list" "plain_list" s_plain_list A.f_plain_list A.d_plain_list
  mg_plain_list : mg "plain_list" = some (.ref A.f_plain_list)
  kp_plain_list : PySem.W.keepIn g.K (.ref A.f_plain_list) = true
  b_plain_list : Binds g.K A.d_plain_list ["kinds"] []
  F_Climate___init__ : Fun g.K "__init__" "Climate.__init__" s_Climate___init__ A.f_Climate___init__ A.d_Climate___init__
  kp_Climate___init__ : PySem.W.keepIn g.K (.ref A.f_Climate___init__) = true
  b_Climate___init__ : Binds g.K A.d_Climate___init__ ["self", "kinds"] []
  F_Climate_peak : Fun g.K "peak" "Climate.peak" s_Climate_peak A.f_Climate_peak A.d_Climate_peak
  kp_Climate_peak : PySem.W.keepIn g.K (.ref A.f_Climate_peak) = true
  b_Climate_peak : Binds g.K A.d_Climate_peak ["self"] []
  F_fault : Fun g.K "fault" "fault" s_fault A.f_fault A.d_fault
  mg_fault : mg "fault" = some (.ref A.f_fault)
  kp_fault : PySem.W.keepIn g.K (.ref A.f_fault) = true
  b_fault : Binds g.K A.d_fault ["lacquer", "w", "g"] []
  F_Climate___iter__ : Fun g.K "__iter__" "Climate.__iter__" s_Climate___iter__ A.f_Climate___iter__ A.d_Climate___iter__
  kp_Climate___iter__ : PySem.W.keepIn g.K (.ref A.f_Climate___iter__) = true
  b_Climate___iter__ : Binds g.K A.d_Climate___iter__ ["self"] []
  F_lead_of : Fun g.K "lead_of" "lead_of" s_lead_of A.f_lead_of A.d_lead_of
  mg_lead_of : mg "lead_of" = some (.ref A.f_lead_of)
  kp_lead_of : PySem.W.keepIn g.K (.ref A.f_lead_of) = true
  b_lead_of : Binds g.K A.d_lead_of ["lacquer", "climate"] []
  F_bad_kinds : Fun g.K "bad_kinds" "bad_kinds" s_bad_kinds A.f_bad_kinds A.d_bad_kinds
  mg_bad_kinds : mg "bad_kinds" = some (.ref A.f_bad_kinds)
  kp_bad_kinds : PySem.W.keepIn g.K (.ref A.f_bad_kinds) = true
  b_bad_kinds : Binds g.K A.d_bad_kinds ["lacquer", "climate"] []
  kp_Unsound___init__ : PySem.W.keepIn g.K (.ref A.f_Unsound___init__) = true
  b_Unsound___init__ : Binds g.K A.d_Unsound___init__ ["self", "kind"] []
  F_demand_sound : Fun g.K "demand_sound" "demand_sound" s_demand_sound A.f_demand_sound A.d_demand_sound
  mg_demand_sound : mg "demand_sound" = some (.ref A.f_demand_sound)
  kp_demand_sound : PySem.W.keepIn g.K (.ref A.f_demand_sound) = true
  b_demand_sound : Binds g.K A.d_demand_sound ["lacquer", "climate"] []
  F_saver_sight : Fun g.K "saver_sight" "saver_sight" s_saver_sight A.f_saver_sight A.d_saver_sight
  mg_saver_sight : mg "saver_sight" = some (.ref A.f_saver_sight)
  kp_saver_sight : PySem.W.keepIn g.K (.ref A.f_saver_sight) = true
  b_saver_sight : Binds g.K A.d_saver_sight ["lacquer", "climate"] []
  F_Weather___init__ : Fun g.K "__init__" "Weather.__init__" s_Weather___init__ A.f_Weather___init__ A.d_Weather___init__
  kp_Weather___init__ : PySem.W.keepIn g.K (.ref A.f_Weather___init__) = true
  b_Weather___init__ : Binds g.K A.d_Weather___init__ ["self", "lengths"] []
  F_Weather_hours : Fun g.K "hours" "Weather.hours" s_Weather_hours A.f_Weather_hours A.d_Weather_hours
  kp_Weather_hours : PySem.W.keepIn g.K (.ref A.f_Weather_hours) = true
  b_Weather_hours : Binds g.K A.d_Weather_hours ["self"] []
  F_Weather_signs : Fun g.K "signs" "Weather.signs" s_Weather_signs A.f_Weather_signs A.d_Weather_signs
  kp_Weather_signs : PySem.W.keepIn g.K (.ref A.f_Weather_signs) = true
  b_Weather_signs : Binds g.K A.d_Weather_signs ["self"] []
  F_Weather_of_signs : Fun g.K "of_signs" "Weather.of_signs" s_Weather_of_signs A.f_Weather_of_signs A.d_Weather_of_signs
  kp_Weather_of_signs : PySem.W.keepIn g.K (.ref A.f_Weather_of_signs) = true
  b_Weather_of_signs : Binds g.K A.d_Weather_of_signs ["signs"] []
  F_dry_flags : Fun g.K "dry_flags" "dry_flags" s_dry_flags A.f_dry_flags A.d_dry_flags
  mg_dry_flags : mg "dry_flags" = some (.ref A.f_dry_flags)
  kp_dry_flags : PySem.W.keepIn g.K (.ref A.f_dry_flags) = true
  b_dry_flags : Binds g.K A.d_dry_flags ["signs"] []
  F_flagged : Fun g.K "flagged" "flagged" s_flagged A.f_flagged A.d_flagged
  mg_flagged : mg "flagged" = some (.ref A.f_flagged)
  kp_flagged : PySem.W.keepIn g.K (.ref A.f_flagged) = true
  b_flagged : Binds g.K A.d_flagged ["flags"] []
  F_reach_flags : Fun g.K "reach_flags" "reach_flags" s_reach_flags A.f_reach_flags A.d_reach_flags
  mg_reach_flags : mg "reach_flags" = some (.ref A.f_reach_flags)
  kp_reach_flags : PySem.W.keepIn g.K (.ref A.f_reach_flags) = true
  b_reach_flags : Binds g.K A.d_reach_flags ["lacquer", "dry"] []
  F_end_flags : Fun g.K "end_flags" "end_flags" s_end_flags A.f_end_flags A.d_end_flags
  mg_end_flags : mg "end_flags" = some (.ref A.f_end_flags)
  kp_end_flags : PySem.W.keepIn g.K (.ref A.f_end_flags) = true
  b_end_flags : Binds g.K A.d_end_flags ["lacquer", "dry"] []
  F_onward_flags : Fun g.K "onward_flags" "onward_flags" s_onward_flags A.f_onward_flags A.d_onward_flags
  mg_onward_flags : mg "onward_flags" = some (.ref A.f_onward_flags)
  kp_onward_flags : PySem.W.keepIn g.K (.ref A.f_onward_flags) = true
  b_onward_flags : Binds g.K A.d_onward_flags ["lacquer", "dry"] []
  F_reached : Fun g.K "reached" "reached" s_reached A.f_reached A.d_reached
  mg_reached : mg "reached" = some (.ref A.f_reached)
  kp_reached : PySem.W.keepIn g.K (.ref A.f_reached) = true
  b_reached : Binds g.K A.d_reached ["lacquer", "weather"] []
  F_spoilt_hour : Fun g.K "spoilt_hour" "spoilt_hour" s_spoilt_hour A.f_spoilt_hour A.d_spoilt_hour
  mg_spoilt_hour : mg "spoilt_hour" = some (.ref A.f_spoilt_hour)
  kp_spoilt_hour : PySem.W.keepIn g.K (.ref A.f_spoilt_hour) = true
  b_spoilt_hour : Binds g.K A.d_spoilt_hour ["lacquer", "weather"] []
  kp_Spoilt___init__ : PySem.W.keepIn g.K (.ref A.f_Spoilt___init__) = true
  b_Spoilt___init__ : Binds g.K A.d_Spoilt___init__ ["self", "hour"] []
  F__demand_kept : Fun g.K "_demand_kept" "_demand_kept" s__demand_kept A.f__demand_kept A.d__demand_kept
  mg__demand_kept : mg "_demand_kept" = some (.ref A.f__demand_kept)
  kp__demand_kept : PySem.W.keepIn g.K (.ref A.f__demand_kept) = true
  b__demand_kept : Binds g.K A.d__demand_kept ["lacquer", "weather"] []
  F__step_hours : Fun g.K "_step_hours" "_step_hours" s__step_hours A.f__step_hours A.d__step_hours
  mg__step_hours : mg "_step_hours" = some (.ref A.f__step_hours)
  kp__step_hours : PySem.W.keepIn g.K (.ref A.f__step_hours) = true
  b__step_hours : Binds g.K A.d__step_hours ["lacquer", "hour", "flags"] []
  F_latest : Fun g.K "latest" "latest" s_latest A.f_latest A.d_latest
  mg_latest : mg "latest" = some (.ref A.f_latest)
  kp_latest : PySem.W.keepIn g.K (.ref A.f_latest) = true
  b_latest : Binds g.K A.d_latest ["lacquer", "weather"] []
  F__law_cell : Fun g.K "_law_cell" "_law_cell" s__law_cell A.f__law_cell A.d__law_cell
  mg__law_cell : mg "_law_cell" = some (.ref A.f__law_cell)
  kp__law_cell : PySem.W.keepIn g.K (.ref A.f__law_cell) = true
  b__law_cell : Binds g.K A.d__law_cell ["script", "k"] []
  F__law_pool : Fun g.K "_law_pool" "_law_pool" s__law_pool A.f__law_pool A.d__law_pool
  mg__law_pool : mg "_law_pool" = some (.ref A.f__law_pool)
  kp__law_pool : PySem.W.keepIn g.K (.ref A.f__law_pool) = true
  b__law_pool : Binds g.K A.d__law_pool ["cell"] []
  F__law_take : Fun g.K "_law_take" "_law_take" s__law_take A.f__law_take A.d__law_take
  mg__law_take : mg "_law_take" = some (.ref A.f__law_take)
  kp__law_take : PySem.W.keepIn g.K (.ref A.f__law_take) = true
  b__law_take : Binds g.K A.d__law_take ["pool", "size"] []
  F__law_same : Fun g.K "_law_same" "_law_same" s__law_same A.f__law_same A.d__law_same
  mg__law_same : mg "_law_same" = some (.ref A.f__law_same)
  kp__law_same : PySem.W.keepIn g.K (.ref A.f__law_same) = true
  b__law_same : Binds g.K A.d__law_same ["actual", "due"] []
  F__law_ab : Fun g.K "_law_ab" "_law_ab" s__law_ab A.f__law_ab A.d__law_ab
  mg__law_ab : mg "_law_ab" = some (.ref A.f__law_ab)
  kp__law_ab : PySem.W.keepIn g.K (.ref A.f__law_ab) = true
  b__law_ab : Binds g.K A.d__law_ab ["pool", "most"] []
  F__law_up : Fun g.K "_law_up" "_law_up" s__law_up A.f__law_up A.d__law_up
  mg__law_up : mg "_law_up" = some (.ref A.f__law_up)
  kp__law_up : PySem.W.keepIn g.K (.ref A.f__law_up) = true
  b__law_up : Binds g.K A.d__law_up ["x", "y"] []
  F__law_lead : Fun g.K "_law_lead" "_law_lead" s__law_lead A.f__law_lead A.d__law_lead
  mg__law_lead : mg "_law_lead" = some (.ref A.f__law_lead)
  kp__law_lead : PySem.W.keepIn g.K (.ref A.f__law_lead) = true
  b__law_lead : Binds g.K A.d__law_lead ["ab", "w"] []
  F__law_sound_pairs : Fun g.K "_law_sound_pairs" "_law_sound_pairs" s__law_sound_pairs A.f__law_sound_pairs A.d__law_sound_pairs
  mg__law_sound_pairs : mg "_law_sound_pairs" = some (.ref A.f__law_sound_pairs)
  kp__law_sound_pairs : PySem.W.keepIn g.K (.ref A.f__law_sound_pairs) = true
  b__law_sound_pairs : Binds g.K A.d__law_sound_pairs ["pool", "ab", "need", "many"] []
  F__law_peak : Fun g.K "_law_peak" "_law_peak" s__law_peak A.f__law_peak A.d__law_peak
  mg__law_peak : mg "_law_peak" = some (.ref A.f__law_peak)
  kp__law_peak : PySem.W.keepIn g.K (.ref A.f__law_peak) = true
  b__law_peak : Binds g.K A.d__law_peak ["kinds"] []
  F__law_live : Fun g.K "_law_live" "_law_live" s__law_live A.f__law_live A.d__law_live
  mg__law_live : mg "_law_live" = some (.ref A.f__law_live)
  kp__law_live : PySem.W.keepIn g.K (.ref A.f__law_live) = true
  b__law_live : Binds g.K A.d__law_live ["ab", "signs"] []
  F__law_last_row : Fun g.K "_law_last_row" "_law_last_row" s__law_last_row A.f__law_last_row A.d__law_last_row
  mg__law_last_row : mg "_law_last_row" = some (.ref A.f__law_last_row)
  kp__law_last_row : PySem.W.keepIn g.K (.ref A.f__law_last_row) = true
  b__law_last_row : Binds g.K A.d__law_last_row ["ab", "signs"] []
  F__law_longest : Fun g.K "_law_longest" "_law_longest" s__law_longest A.f__law_longest A.d__law_longest
  mg__law_longest : mg "_law_longest" = some (.ref A.f__law_longest)
  kp__law_longest : PySem.W.keepIn g.K (.ref A.f__law_longest) = true
  b__law_longest : Binds g.K A.d__law_longest ["kinds", "stretch"] []
  F__law_longer_signs : Fun g.K "_law_longer_signs" "_law_longer_signs" s__law_longer_signs A.f__law_longer_signs A.d__law_longer_signs
  mg__law_longer_signs : mg "_law_longer_signs" = some (.ref A.f__law_longer_signs)
  kp__law_longer_signs : PySem.W.keepIn g.K (.ref A.f__law_longer_signs) = true
  b__law_longer_signs : Binds g.K A.d__law_longer_signs ["pool", "kinds", "signs", "hours", "thick"] []
  F__law_drawn : Fun g.K "_law_drawn" "_law_drawn" s__law_drawn A.f__law_drawn A.d__law_drawn
  mg__law_drawn : mg "_law_drawn" = some (.ref A.f__law_drawn)
  kp__law_drawn : PySem.W.keepIn g.K (.ref A.f__law_drawn) = true
  b__law_drawn : Binds g.K A.d__law_drawn ["script"] []
  F__law_until : Fun g.K "_law_until" "_law_until" s__law_until A.f__law_until A.d__law_until
  mg__law_until : mg "_law_until" = some (.ref A.f__law_until)
  kp__law_until : PySem.W.keepIn g.K (.ref A.f__law_until) = true
  b__law_until : Binds g.K A.d__law_until ["row", "q"] []
  F_law : Fun g.K "law" "law" s_law A.f_law A.d_law
  mg_law : mg "law" = some (.ref A.f_law)
  kp_law : PySem.W.keepIn g.K (.ref A.f_law) = true
  b_law : Binds g.K A.d_law ["script"] []
  no_any : mg "any" = none
  no_bool : mg "bool" = none
  no_enumerate : mg "enumerate" = none
  no_int : mg "int" = none
  no_isinstance : mg "isinstance" = none
  no_iter : mg "iter" = none
  no_len : mg "len" = none
  no_list : mg "list" = none
  no_max : mg "max" = none
  no_min : mg "min" = none
  no_range : mg "range" = none
  no_str : mg "str" = none
  no_sum : mg "sum" = none
  no_super : mg "super" = none
  no_tuple : mg "tuple" = none
  mg_BOTH_SIGNS : ∃ u, mg "BOTH_SIGNS" = some u ∧ RelV (.str (Str.ofString ".#")) u
  mg_LONGEST_RUN : ∃ u, mg "LONGEST_RUN" = some u ∧ RelV (.int (120)) u
  mg_LONGEST_SPELL : ∃ u, mg "LONGEST_SPELL" = some u ∧ RelV (.int (16)) u
  mg_MOST_HOURS : ∃ u, mg "MOST_HOURS" = some u ∧ RelV (.int (200)) u
  mg_MOST_KINDS : ∃ u, mg "MOST_KINDS" = some u ∧ RelV (.int (300)) u
  mg_BadKind : mg "BadKind" = some (.ref (g.ca (Str.ofString "BadKind")))
  x_BadKind : PySem.W.excIn g.K (g.ca (Str.ofString "BadKind")) [.type "ValueError", .type "Exception", .type "BaseException", .type "object"] "ValueError.__new__" = true
  kp_BadKind : PySem.W.keepIn g.K (.ref (g.ca (Str.ofString "BadKind"))) = true
  s_BadKind : PySem.W.subIn g.K (.ref (g.ca (Str.ofString "BadKind"))) (.type "BaseException") = some true
  t_BadKind : PySem.W.typeIn g.K (.ref (g.ca (Str.ofString "BadKind"))) = some (.type "type")
  mg_BadLacquer : mg "BadLacquer" = some (.ref (g.ca (Str.ofString "BadLacquer")))
  x_BadLacquer : PySem.W.excIn g.K (g.ca (Str.ofString "BadLacquer")) [.type "ValueError", .type "Exception", .type "BaseException", .type "object"] "ValueError.__new__" = true
  kp_BadLacquer : PySem.W.keepIn g.K (.ref (g.ca (Str.ofString "BadLacquer"))) = true
  s_BadLacquer : PySem.W.subIn g.K (.ref (g.ca (Str.ofString "BadLacquer"))) (.type "BaseException") = some true
  t_BadLacquer : PySem.W.typeIn g.K (.ref (g.ca (Str.ofString "BadLacquer"))) = some (.type "type")
  mg_BadNumber : mg "BadNumber" = some (.ref (g.ca (Str.ofString "BadNumber")))
  x_BadNumber : PySem.W.excIn g.K (g.ca (Str.ofString "BadNumber")) [.type "ValueError", .type "Exception", .type "BaseException", .type "object"] "ValueError.__new__" = true
  kp_BadNumber : PySem.W.keepIn g.K (.ref (g.ca (Str.ofString "BadNumber"))) = true
  s_BadNumber : PySem.W.subIn g.K (.ref (g.ca (Str.ofString "BadNumber"))) (.type "BaseException") = some true
  t_BadNumber : PySem.W.typeIn g.K (.ref (g.ca (Str.ofString "BadNumber"))) = some (.type "type")
  mg_BadWeather : mg "BadWeather" = some (.ref (g.ca (Str.ofString "BadWeather")))
  x_BadWeather : PySem.W.excIn g.K (g.ca (Str.ofString "BadWeather")) [.type "ValueError", .type "Exception", .type "BaseException", .type "object"] "ValueError.__new__" = true
  kp_BadWeather : PySem.W.keepIn g.K (.ref (g.ca (Str.ofString "BadWeather"))) = true
  s_BadWeather : PySem.W.subIn g.K (.ref (g.ca (Str.ofString "BadWeather"))) (.type "BaseException") = some true
  t_BadWeather : PySem.W.typeIn g.K (.ref (g.ca (Str.ofString "BadWeather"))) = some (.type "type")
  mg_Climate : mg "Climate" = some (.ref (g.ca (Str.ofString "Climate")))
  c_Climate : Cls g.K (g.ca (Str.ofString "Climate"))
  na_Climate_f_kinds : NoAttr g.K (g.ca (Str.ofString "Climate")) (Str.ofString "kinds")
  mk_Climate : Mk g.K (g.ca (Str.ofString "Climate")) A.f_Climate___init__
  pr_Climate_peak : ∃ p, PropOf g.K (g.ca (Str.ofString "Climate")) (Str.ofString "peak") p A.f_Climate_peak
  me_Climate___iter__ : Meth g.K (g.ca (Str.ofString "Climate")) (Str.ofString "__iter__") A.f_Climate___iter__
  mg_Lacquer : mg "Lacquer" = some (.ref (g.ca (Str.ofString "Lacquer")))
  c_Lacquer : Cls g.K (g.ca (Str.ofString "Lacquer"))
  na_Lacquer_f_a : NoAttr g.K (g.ca (Str.ofString "Lacquer")) (Str.ofString "a")
  na_Lacquer_f_b : NoAttr g.K (g.ca (Str.ofString "Lacquer")) (Str.ofString "b")
  cv_Lacquer_MOST : ∃ mc u, ClX.CRead g.K (g.ca (Str.ofString "Lacquer")) mc ∧ ClX.CVal g.K (g.ca (Str.ofString "Lacquer")) mc (Str.ofString "MOST") (.int (12)) u
  mk_Lacquer : Mk g.K (g.ca (Str.ofString "Lacquer")) A.f_Lacquer___init__
  pr_Lacquer_slack : ∃ p, PropOf g.K (g.ca (Str.ofString "Lacquer")) (Str.ofString "slack") p A.f_Lacquer_slack
  me_Lacquer_spans : Meth g.K (g.ca (Str.ofString "Lacquer")) (Str.ofString "spans") A.f_Lacquer_spans
  me_Lacquer_lead : Meth g.K (g.ca (Str.ofString "Lacquer")) (Str.ofString "lead") A.f_Lacquer_lead
  mg_Spoilt : mg "Spoilt" = some (.ref (g.ca (Str.ofString "Spoilt")))
  sup_Spoilt : SupC P g.K (g.ca (Str.ofString "Spoilt")) A.f_Spoilt___init__ A.d_Spoilt___init__ (Str.ofString "hour")
  in_Spoilt : PySem.W.findIn g.K (.ref (g.ca (Str.ofString "Spoilt"))) "__init__" = some (some (.ref A.f_Spoilt___init__))
  ti_Spoilt : PySem.W.typeIn g.K (.ref A.f_Spoilt___init__) = some (.type "function")
  kp_Spoilt : PySem.W.keepIn g.K (.ref (g.ca (Str.ofString "Spoilt"))) = true
  s_Spoilt : PySem.W.subIn g.K (.ref (g.ca (Str.ofString "Spoilt"))) (.type "BaseException") = some true
  t_Spoilt : PySem.W.typeIn g.K (.ref (g.ca (Str.ofString "Spoilt"))) = some (.type "type")
  mg_Unsound : mg "Unsound" = some (.ref (g.ca (Str.ofString "Unsound")))
  sup_Unsound : SupC P g.K (g.ca (Str.ofString "Unsound")) A.f_Unsound___init__ A.d_Unsound___init__ (Str.ofString "kind")
  in_Unsound : PySem.W.findIn g.K (.ref (g.ca (Str.ofString "Unsound"))) "__init__" = some (some (.ref A.f_Unsound___init__))
  ti_Unsound : PySem.W.typeIn g.K (.ref A.f_Unsound___init__) = some (.type "function")
  kp_Unsound : PySem.W.keepIn g.K (.ref (g.ca (Str.ofString "Unsound"))) = true
  s_Unsound : PySem.W.subIn g.K (.ref (g.ca (Str.ofString "Unsound"))) (.type "BaseException") = some true
  t_Unsound : PySem.W.typeIn g.K (.ref (g.ca (Str.ofString "Unsound"))) = some (.type "type")
  mg_Weather : mg "Weather" = some (.ref (g.ca (Str.ofString "Weather")))
  c_Weather : Cls g.K (g.ca (Str.ofString "Weather"))
  na_Weather_f_signs : NoAttr g.K (g.ca (Str.ofString "Weather")) (Str.ofString "_signs")
  na_Weather_f_lengths : NoAttr g.K (g.ca (Str.ofString "Weather")) (Str.ofString "lengths")
  mk_Weather : Mk g.K (g.ca (Str.ofString "Weather")) A.f_Weather___init__
  pr_Weather_hours : ∃ p, PropOf g.K (g.ca (Str.ofString "Weather")) (Str.ofString "hours") p A.f_Weather_hours
  me_Weather_signs : Meth g.K (g.ca (Str.ofString "Weather")) (Str.ofString "signs") A.f_Weather_signs
  sm_Weather_of_signs : ∃ mc, SMet g.K (g.ca (Str.ofString "Weather")) mc (Str.ofString "of_signs") A.f_Weather_of_signs
def m_Lacquer__init (a : Int) (b : Int) : R (O_Lacquer) :=
  (if (!((decide ((1 : Int) ≤ a)) && ((decide (a < b)) && (decide (b ≤ (12 : Int)))))) = true then .ex (Str.ofString "BadLacquer") .non else .ok (⟨a, b⟩ : O_Lacquer))

def m_Lacquer_slack (self : O_Lacquer) : R (Int) :=
  .ok (self.f_b - self.f_a)

def m_Lacquer_spans (self : O_Lacquer) (w_p : Int) : R (Int) :=
  (if (decide (w_p < (0 : Int))) = true then .ex (Str.ofString "BadNumber") .non else gd (divOk (self.f_b - self.f_a)) <| .ok (-((-w_p) / (self.f_b - self.f_a))))

def m_Lacquer_lead (self : O_Lacquer) (w_p : Int) : R (Int) :=
  (if (decide (w_p < (1 : Int))) = true then .ex (Str.ofString "BadNumber") .non else ob ((m_Lacquer_spans self w_p).opt) fun t2 => gd (mulOk (t2 - (1 : Int)) self.f_a) <| .ok ((t2 - (1 : Int)) * self.f_a))

def m_check_kind (w_p : Int) (g_p : Int) : R (Unit) :=
  (if ((!((decide ((1 : Int) ≤ w_p)) && (decide (w_p ≤ (16 : Int))))) || (!((decide ((1 : Int) ≤ g_p)) && (decide (g_p ≤ (120 : Int)))))) = true then .ex (Str.ofString "BadKind") .non else .ok ())

def m_plain_list (kinds : (List (Int × Int))) : R ((List (Int × Int))) :=
  (foldR kinds ([] : (List (Int × Int))) (fun x1 (least2 : (List (Int × Int))) => (if (decide (x1.2 < ((dget least2 x1.1).getD ((120 : Int) + (1 : Int))))) = true then gd (sz (least2.length + 1)) <| .ok (dput least2 x1.1 x1.2) else .ok least2))).bind fun least7 => elet ([] : (List (Int × Int))) fun plain8 => elet (((120 : Int) + (1 : Int)) : Int) fun shortest10 => (foldR (rngD (16 : Int) (0 : Int)) (plain8, shortest10) (fun x12 ((plain13, shortest14) : (List (Int × Int)) × Int) => (if (decide (((dget least7 x12).getD shortest14) < shortest14)) = true then ob (dget least7 x12) fun t16 => gd (sz (plain13.length + 1)) <| .ok ((plain13 ++ [(x12, t16)]), t16) else .ok (plain13, shortest14)))).bind fun (plain19, shortest20) => .ok plain19.reverse

def m_Climate__init (kinds : (List (Int × Int))) : R (O_Climate) :=
  (if (decide ((300 : Int) < (kinds.length : Int))) = true then .ex (Str.ofString "BadKind") .non else (foldR kinds () (fun x2 (_ : Unit) => ((m_check_kind x2.1 x2.2)).bind fun t3 => .ok ())).bind fun _ => ob ((m_plain_list kinds).opt) fun t8 => .ok (⟨(Tu.mk t8)⟩ : O_Climate))

def m_Climate_peak (self : O_Climate) : R (Int) :=
  ob ((if (!self.f_kinds.xs.isEmpty) = true then (ob (atI self.f_kinds.xs (-1 : Int)) fun t1 => .ok t1.1) else .ok (0 : Int) : R Int).opt) fun t3 => .ok t3

def m_fault (lacquer : O_Lacquer) (w_p : Int) (g_p : Int) : R ((Option Tx)) :=
  (if (decide (lacquer.f_b ≤ w_p)) = true then .ok (some ([108, 111, 110, 103] : Tx)) else ob ((m_Lacquer_lead lacquer w_p).opt) fun t2 => (if (decide (g_p ≤ t2)) = true then .ok (some ([99, 108, 111, 115, 101] : Tx)) else .ok (none : (Option Tx))))


def m_lead_of (lacquer : O_Lacquer) (climate : O_Climate) : R (Int) :=
  gd (sz climate.f_kinds.xs.length) <| ob ((mapR climate.f_kinds.xs (fun x1 => (ob ((m_Lacquer_lead lacquer x1.1).opt) fun t2 => .ok t2))).opt) fun ys5 => .ok (ys5.max?.getD (0 : Int))

def m_bad_kinds (lacquer : O_Lacquer) (climate : O_Climate) : R ((List (T3 Int Int Tx))) :=
  elet ([] : (List (T3 Int Int Tx))) fun found1 => (foldR climate.f_kinds.xs found1 (fun x3 (found4 : (List (T3 Int Int Tx))) => ((m_fault lacquer x3.1 x3.2)).bind fun t5 => (if t5.isSome = true then ob t5 fun word11 => gd (sz (found4.length + 1)) <| .ok (found4 ++ [(T3.mk x3.1 x3.2 word11)]) else .ok found4))).bind fun found14 => .ok found14


def m_demand_sound (lacquer : O_Lacquer) (climate : O_Climate) : R (Unit) :=
  ob ((m_bad_kinds lacquer climate).opt) fun t1 => gd (Dg.ok (t1 : (List (T3 Int Int Tx))) && Dg.ok ([] : (List (T3 Int Int Tx)))) <| (if (!(decide (t1 = []))) = true then ob (atI t1 (0 : Int)) fun t5 => ob (atI t1 (0 : Int)) fun t7 => .ex (Str.ofString "Unsound") (.tup [.str ([107, 105, 110, 100] : Tx), ToD.d (t5.a, t7.b)]) else .ok ())

def m_saver_sight (lacquer : O_Lacquer) (climate : O_Climate) : R (Int) :=
  ((m_demand_sound lacquer climate)).bind fun t1 => ob ((m_Lacquer_slack lacquer).opt) fun t6 => ob ((m_lead_of lacquer climate).opt) fun t8 => ob ((m_Climate_peak climate).opt) fun t10 => .ok ((t6 + t8) + t10)

def m_Weather__init (lengths : (List Int)) : R (O_Weather) :=
  ob ((if (!(!lengths.isEmpty)) = true then .ok true else (ob (lengths.min?) fun t1 => .ok ((decide (t1 < (1 : Int))) || (decide ((200 : Int) < lengths.sum)))) : R (Bool)).opt) fun c3 => (if c3 = true then .ex (Str.ofString "BadWeather") .non else gd (sz (enumL lengths).length) <| ob ((mapR (enumL lengths) (fun x7 => (gd (sz ([46, 35] : Tx).length) <| ob (atI ([46, 35] : Tx) (x7.1 % (2 : Int))) fun t9 => gd (repOk ([t9] : Tx).length x7.2) <| .ok (repL ([t9] : Tx) x7.2)))).opt) fun ys13 => gd (joinOk ([] : Tx) ys13) <| .ok (⟨(Tu.mk lengths), (joinT ([] : Tx) ys13)⟩ : O_Weather))

def m_Weather_hours (self : O_Weather) : R (Int) :=
  gd (sz self.f_signs.length) <| .ok (self.f_signs.length : Int)

def m_Weather_signs (self : O_Weather) : R (Tx) :=
  .ok self.f_signs

def m_Weather_of_signs (signs : Tx) : R (O_Weather) :=
  gd (sz signs.length) <| ob ((if (!((decide ((1 : Int) ≤ (signs.length : Int))) && (decide ((signs.length : Int) ≤ (200 : Int))))) = true then .ok true else (gd (sz signs.length) <| ob (atI signs (0 : Int)) fun t3 => .ok (!(decide (([t3] : Tx) = ([46] : Tx))))) : R (Bool)).opt) fun c5 => (if c5 = true then .ex (Str.ofString "BadWeather") .non else elet ([] : (List Int)) fun lengths9 => (foldR (enumL (signs.map fun c => ([c] : Tx))) (lengths9, (0 : Int)) (fun x11 ((lengths12, length13) : (List Int) × Int) => gd (one x11.2) <| (if (!(inS x11.2 ([46, 35] : Tx))) = true then .ex (Str.ofString "BadWeather") .non else ob ((if (decide ((0 : Int) < x11.1)) = true then (gd (sz signs.length) <| ob (atI signs (x11.1 - (1 : Int))) fun t17 => .ok (!(decide (x11.2 = ([t17] : Tx))))) else .ok false : R (Bool)).opt) fun c19 => ob ((if c19 = true then gd (sz (lengths12.length + 1)) <| .ok ((lengths12 ++ [length13]), (0 : Int)) else .ok (lengths12, length13) : R ((List Int) × Int)).opt) fun (lengths23, length24) => .ok (lengths23, (length24 + (1 : Int)))))).bind fun (lengths28, length29) => gd (sz (lengths28.length + 1)) <| ((m_Weather__init (lengths28 ++ [length29]))).bind fun t31 => .ok t31)

def m_dry_flags (signs : Tx) : R ((List Bool)) :=
  gd (sz (signs.map fun c => ([c] : Tx)).length) <| ob ((mapR (signs.map fun c => ([c] : Tx)) (fun x1 => .ok (decide (x1 = ([46] : Tx))))).opt) fun ys3 => gd (sz (([false]).length + ys3.length)) <| .ok ([false] ++ ys3)

def m_flagged (flags : (List Bool)) : R ((List Int)) :=
  gd (rgOk (flags.length : Int)) <| gd (sz (rng 0 (flags.length : Int)).length) <| ob ((filR (rng 0 (flags.length : Int)) (fun x2 => (ob (atI flags x2) fun t3 => if t3 = true then .ok (some x2) else .ok none))).opt) fun ys6 => .ok ys6

def m_reach_flags (lacquer : O_Lacquer) (dry : (List Bool)) : R ((List Bool)) :=
  gd (repOk ([false]).length (dry.length : Int)) <| elet ((repL ([false]) (dry.length : Int)) : (List Bool)) fun flags2 => ob (setI flags2 (1 : Int) true) fun flags4 => gd (rgOk (dry.length : Int)) <| (foldR (rng (2 : Int) (dry.length : Int)) flags4 (fun x7 (flags8 : (List Bool)) => ob (atI dry x7) fun t9 => (if t9 = true then ob (setI flags8 x7 ((cutL flags8 (some (max (x7 - lacquer.f_b) (0 : Int))) (some (max ((x7 - lacquer.f_a) + (1 : Int)) (0 : Int)))).any id)) fun flags12 => .ok flags12 else .ok flags8))).bind fun flags14 => .ok flags14

def m_end_flags (lacquer : O_Lacquer) (dry : (List Bool)) : R ((List Bool)) :=
  gd (rgOk (dry.length : Int)) <| gd (sz (rng 0 (dry.length : Int)).length) <| ob ((mapR (rng 0 (dry.length : Int)) (fun x2 => (ob (atI dry x2) fun t3 => .ok (t3 && (decide ((dry.length : Int) ≤ (x2 + lacquer.f_b))))))).opt) fun ys6 => .ok ys6

def m_onward_flags (lacquer : O_Lacquer) (dry : (List Bool)) : R ((List Bool)) :=
  ob ((m_end_flags lacquer dry).opt) fun t1 => gd (rgOk ((dry.length : Int) - (1 : Int))) <| (foldR (rngD ((dry.length : Int) - (1 : Int)) (0 : Int)) t1 (fun x4 (flags5 : (List Bool)) => ob (atI dry x4) fun t6 => (if (t6 && ((cutL flags5 (some (x4 + lacquer.f_a)) (some ((x4 + lacquer.f_b) + (1 : Int)))).any id)) = true then ob (setI flags5 x4 true) fun flags9 => .ok flags9 else .ok flags5))).bind fun flags11 => .ok flags11

def m_reached (lacquer : O_Lacquer) (weather : O_Weather) : R ((List Int)) :=
  ob ((m_Weather_signs weather).opt) fun t1 => ob ((m_dry_flags t1).opt) fun t3 => ob ((m_reach_flags lacquer t3).opt) fun t5 => ob ((m_flagged t5).opt) fun t7 => .ok t7

def m_spoilt_hour (lacquer : O_Lacquer) (weather : O_Weather) : R ((Option Int)) :=
  ob ((m_reached lacquer weather).opt) fun t1 => ob (atI t1 (-1 : Int)) fun t3 => elet ((t3 + lacquer.f_b) : Int) fun end5 => ob ((m_Weather_hours weather).opt) fun t7 => (if (decide (t7 < end5)) = true then .ok (none : (Option Int)) else .ok (some end5))


def m_demand_kept (lacquer : O_Lacquer) (weather : O_Weather) : R (Unit) :=
  ob ((m_spoilt_hour lacquer weather).opt) fun t1 => (if t1.isSome = true then ob t1 fun hour4 => .ex (Str.ofString "Spoilt") (.tup [.str ([104, 111, 117, 114] : Tx), ToD.d hour4]) else .ok ())

def m_step_hours (lacquer : O_Lacquer) (hour : Int) (flags : (List Bool)) : R ((List Int)) :=
  elet ((min (hour + lacquer.f_b) ((flags.length : Int) - (1 : Int))) : Int) fun last1 => gd (rgOk (hour + lacquer.f_a)) <| gd (rgOk (last1 + (1 : Int))) <| gd (sz (rng (hour + lacquer.f_a) (last1 + (1 : Int))).length) <| ob ((filR (rng (hour + lacquer.f_a) (last1 + (1 : Int))) (fun x5 => (ob (atI flags x5) fun t6 => if t6 = true then .ok (some x5) else .ok none))).opt) fun ys9 => .ok ys9

def m_latest (lacquer : O_Lacquer) (weather : O_Weather) : R ((List Int)) :=
  ((m_demand_kept lacquer weather)).bind fun t1 => ob ((m_Weather_signs weather).opt) fun t6 => ob ((m_dry_flags t6).opt) fun t8 => ob ((m_onward_flags lacquer t8).opt) fun t10 => elet ([(1 : Int)] : (List Int)) fun row12 => ob ((m_Weather_hours weather).opt) fun t14 => gd (rgOk t14) <| (loopR (ρ := (List Int)) (rng 0 t14) row12 (fun x17 (row18 : (List Int)) => ob (atI row18 (-1 : Int)) fun t19 => ob ((m_Weather_hours weather).opt) fun t21 => (if (decide (t21 < (t19 + lacquer.f_b))) = true then .ok (.brk row18) else ob (atI row18 (-1 : Int)) fun t24 => ob ((m_step_hours lacquer t24 t10).opt) fun t26 => ob (atI t26 (-1 : Int)) fun t28 => gd (sz (row18.length + 1)) <| .ok (.go (row18 ++ [t28]))))).bind fun o_ => o_.fin (fun y_ => .ok y_) fun row31 => .ok row31

def m_law_cell (script : Sc) (k : Int) : R (Int) :=
  (if (decide (k < (script.xs.length : Int))) = true then ob (atI script.xs k) fun t2 => .ok t2 else .ok (((977 : Int) * k) + (31 : Int)))

def m_law_pool (cell : Int) : R ((List Int)) :=
  (if (decide (((10 : Int) ^ (18 : Int).toNat) ≤ cell)) = true then .ok ([(cell - ((10 : Int) ^ (18 : Int).toNat)), (cell % (1000000007 : Int)), (0 : Int)]) else (if (decide (cell < (0 : Int))) = true then .ok ([(0 : Int), (((1 : Int) - ((2 : Int) * cell)) % (1000000007 : Int)), (0 : Int)]) else .ok ([(0 : Int), (((2 : Int) * cell) % (1000000007 : Int)), (0 : Int)])))

def m_law_take (pool : (List Int)) (size : Int) : R (Int × (List Int)) :=
  ob (atI pool (2 : Int)) fun t1 => ob (setI pool (2 : Int) (t1 + (1 : Int))) fun pool3 => ob (atI pool3 (0 : Int)) fun t5 => (if (decide ((1 : Int) < t5)) = true then ob (atI pool3 (0 : Int)) fun t8 => gd (decide (0 < size)) <| elet ((t8 % size) : Int) fun digit11 => ob (atI pool3 (0 : Int)) fun t13 => gd (divOk size) <| ob (setI pool3 (0 : Int) (t13 / size)) fun pool16 => .ok (digit11, pool16) else ob (atI pool3 (1 : Int)) fun t18 => ob (atI pool3 (2 : Int)) fun t20 => elet ((((t18 + ((48271 : Int) * t20)) + (12345 : Int)) % (2147483647 : Int)) : Int) fun x22 => gd (mulOk x22 x22) <| ob (atI pool3 (2 : Int)) fun t25 => elet (((((x22 * x22) + ((16807 : Int) * t25)) + (7 : Int)) % (2147483629 : Int)) : Int) fun x27 => gd (mulOk x27 x27) <| ob (atI pool3 (2 : Int)) fun t30 => elet (((((x27 * x27) + ((69621 : Int) * t30)) + (3 : Int)) % (2147483587 : Int)) : Int) fun x32 => gd (decide (0 < size)) <| .ok (((x32 / (7 : Int)) % size), pool3))

def bm_law_same (rec_ : Gn.D → Gn.D → R (Bool)) (actual : Gn.D) (due : Gn.D) : R (Bool) :=
  (if due.isN = true then .ok actual.isN else (if (isT due "bool") = true then ob ((if (isT actual "bool") = true then (gd (eqK actual due) <| .ok (eqD actual due)) else .ok false : R (Bool)).opt) fun c4 => .ok c4 else (if (isT due "int") = true then ob ((if (isT actual "int") = true then (ob ((if (!(isT actual "bool")) = true then (gd (eqK actual due) <| .ok (eqD actual due)) else .ok false : R (Bool)).opt) fun c9 => .ok c9) else .ok false : R (Bool)).opt) fun c12 => .ok c12 else (if (isT due "str") = true then ob ((if (isT actual "str") = true then (gd (eqK actual due) <| .ok (eqD actual due)) else .ok false : R (Bool)).opt) fun c17 => .ok c17 else (if ((isT due "tuple") && (!(isT actual "tuple"))) = true then .ok false else (if ((isT due "list") && (!(isT actual "list"))) = true then .ok false else ob (actual.len) fun t22 => ob (due.len) fun t24 => (if (!(decide (t22 = t24))) = true then .ok false else ob (due.len) fun t27 => gd (rgOk t27) <| (loopR (ρ := Bool) (rng 0 t27) () (fun x30 (_ : Unit) => ob (actual.at x30) fun t31 => ob (due.at x30) fun t33 => ob ((rec_ t31 t33).opt) fun t35 => (if (!t35) = true then .ok (.ret false) else .ok (.go ())))).bind fun o_ => o_.fin (fun y_ => .ok y_) fun _ => .ok true)))))))
def nm_law_same : Nat → Gn.D → Gn.D → R (Bool)
  | 0, _, _ => .bad
  | n + 1, actual, due => bm_law_same (nm_law_same n) actual due
def m_law_same (actual : Gn.D) (due : Gn.D) : R (Bool) := nm_law_same 8 actual due

def m_law_ab (pool : (List Int)) (most : Int) : R ((Int × Int) × (List Int)) :=
  ob ((m_law_take pool (most - (1 : Int))).opt) fun (t1, pool2) => elet (((1 : Int) + t1) : Int) fun a4 => ob ((m_law_take pool2 (most - a4)).opt) fun (t6, pool7) => .ok ((a4, ((a4 + (1 : Int)) + t6)), pool7)

def m_law_up (x : Int) (y : Int) : R (Int) :=
  gd (divOk y) <| .ok (((x + y) - (1 : Int)) / y)

def m_law_lead (ab : (Int × Int)) (w_p : Int) : R (Int) :=
  ob ((m_law_up w_p (ab.2 - ab.1)).opt) fun t1 => gd (mulOk (t1 - (1 : Int)) ab.1) <| .ok ((t1 - (1 : Int)) * ab.1)

def m_law_sound_pairs (pool : (List Int)) (ab : (Int × Int)) (need : Int) (many : Int) : R ((List (Int × Int)) × (List Int)) :=
  gd (divOk ab.1) <| gd (mulOk (((need - (1 : Int)) / ab.1) + (1 : Int)) (ab.2 - ab.1)) <| elet ((min (ab.2 - (1 : Int)) ((((need - (1 : Int)) / ab.1) + (1 : Int)) * (ab.2 - ab.1))) : Int) fun longest3 => elet ([] : (List (Int × Int))) fun kinds5 => gd (rgOk many) <| (foldR (rng 0 many) (pool, kinds5) (fun x8 ((pool9, kinds10) : (List Int) × (List (Int × Int))) => ob ((m_law_take pool9 longest3).opt) fun (t11, pool12) => elet (((1 : Int) + t11) : Int) fun w14 => ob ((m_law_lead ab w14).opt) fun t16 => elet ((need - t16) : Int) fun near18 => ob ((m_law_take pool12 (2 : Int)).opt) fun (t20, pool21) => ob ((if (decide (t20 = (1 : Int))) = true then elet ((min (4 : Int) near18) : Int) fun near26 => .ok near26 else .ok near18 : R (Int)).opt) fun near24 => ob ((m_law_lead ab w14).opt) fun t29 => ob ((m_law_take pool21 near24).opt) fun (t31, pool32) => gd (sz (kinds10.length + 1)) <| .ok (pool32, (kinds10 ++ [(w14, ((t29 + (1 : Int)) + t31))])))).bind fun (pool35, kinds36) => .ok (kinds36, pool35)

def m_law_peak (kinds : (List (Int × Int))) : R (Int) :=
  gd (sz kinds.length) <| ob ((mapR kinds (fun x1 => .ok x1.1)).opt) fun ys3 => gd (sz (([(0 : Int)]).length + ys3.length)) <| ob (([(0 : Int)] ++ ys3).max?) fun t8 => .ok t8

def m_law_live (ab : (Int × Int)) (signs : Tx) : R ((List Bool)) :=
  gd (sz signs.length) <| elet ((signs.length : Int) : Int) fun n2 => gd (rgOk (n2 + (1 : Int))) <| gd (sz (rng 0 (n2 + (1 : Int))).length) <| ob ((mapR (rng 0 (n2 + (1 : Int))) (fun x5 => .ok false)).opt) fun ys7 => gd (rgOk n2) <| (foldR (rng 0 n2) ys7 (fun x12 (alive13 : (List Bool)) => elet ((n2 - x12) : Int) fun h14 => gd (sz signs.length) <| ob (atI signs (h14 - (1 : Int))) fun t17 => (if ((decide (([t17] : Tx) = ([46] : Tx))) && (decide (n2 < (h14 + ab.2)))) = true then ob (setI alive13 h14 true) fun alive20 => .ok alive20 else gd (sz signs.length) <| ob (atI signs (h14 - (1 : Int))) fun t23 => (if (decide (([t23] : Tx) = ([46] : Tx))) = true then gd (rgOk (h14 + ab.1)) <| gd (rgOk ((h14 + ab.2) + (1 : Int))) <| (foldR (rng (h14 + ab.1) ((h14 + ab.2) + (1 : Int))) alive13 (fun x28 (alive29 : (List Bool)) => ob (atI alive29 x28) fun t30 => (if t30 = true then ob (setI alive29 h14 true) fun alive33 => .ok alive33 else .ok alive29))).bind fun alive35 => .ok alive35 else .ok alive13)))).bind fun alive36 => .ok alive36

def m_law_last_row (ab : (Int × Int)) (signs : Tx) : R ((List Int)) :=
  ob ((m_law_live ab signs).opt) fun t1 => elet ([(1 : Int)] : (List Int)) fun row3 => gd (sz signs.length) <| gd (rgOk (signs.length : Int)) <| (loopR (ρ := (List Int)) (rng 0 (signs.length : Int)) row3 (fun x7 (row8 : (List Int)) => ob (atI row8 (-1 : Int)) fun t9 => gd (sz signs.length) <| ob ((if (decide ((signs.length : Int) < (t9 + ab.2))) = true then .ok true else (ob (atI row8 (-1 : Int)) fun t12 => ob (atI t1 t12) fun t14 => .ok (!t14)) : R (Bool)).opt) fun c16 => (if c16 = true then .ok (.brk row8) else ob (atI row8 (-1 : Int)) fun t20 => ob (atI row8 (-1 : Int)) fun t22 => gd (rgOk (t20 + ab.1)) <| gd (rgOk ((t22 + ab.2) + (1 : Int))) <| gd (sz (rng (t20 + ab.1) ((t22 + ab.2) + (1 : Int))).length) <| ob ((filR (rng (t20 + ab.1) ((t22 + ab.2) + (1 : Int))) (fun x26 => (ob (atI t1 x26) fun t27 => if t27 = true then .ok (some x26) else .ok none))).opt) fun ys30 => ob (ys30.max?) fun t35 => gd (sz (row8.length + 1)) <| .ok (.go (row8 ++ [t35]))))).bind fun o_ => o_.fin (fun y_ => .ok y_) fun row38 => .ok row38

def m_law_longest (kinds : (List (Int × Int))) (stretch : Int) : R (Int) :=
  (foldR kinds (0 : Int) (fun x1 (best2 : Int) => (if ((decide (x1.2 ≤ stretch)) && (decide (best2 < x1.1))) = true then .ok x1.1 else .ok best2))).bind fun best4 => .ok best4

def m_law_longer_signs (pool : (List Int)) (kinds : (List (Int × Int))) (signs : Tx) (hours : Int) (thick : Int) : R (Tx × (List Int)) :=
  (foldR (signs.map fun c => ([c] : Tx)) ((0 : Int), (0 : Int), (0 : Int)) (fun x1 ((stretch2, spell3, start4) : Int × Int × Int) => (if ((decide (x1 = ([46] : Tx))) && (decide ((0 : Int) < spell3))) = true then .ok ((1 : Int), (0 : Int), start4) else (if (decide (x1 = ([46] : Tx))) = true then elet ((stretch2 + (1 : Int)) : Int) fun stretch7 => .ok (stretch7, spell3, start4) else elet ((spell3 + (1 : Int)) : Int) fun spell9 => .ok (stretch2, spell9, stretch2))))).bind fun (stretch11, spell12, start13) => gd (sz signs.length) <| gd (rgOk (hours - (signs.length : Int))) <| (foldR (rng 0 (hours - (signs.length : Int))) (pool, stretch11, spell12, start13, signs) (fun x16 ((pool17, stretch18, spell19, start20, text21) : (List Int) × Int × Int × Int × Tx) => ob ((if (decide ((0 : Int) < spell19)) = true then ob ((m_law_longest kinds start20).opt) fun t25 => elet ((t25 - spell19) : Int) fun room27 => .ok room27 else ob ((m_law_longest kinds stretch18).opt) fun t29 => .ok t29 : R (Int)).opt) fun room23 => ob ((if (decide ((0 : Int) < room23)) = true then (ob ((m_law_take pool17 thick).opt) fun (t32, pool33) => .ok ((decide ((0 : Int) < t32)), pool33)) else .ok (false, pool17) : R (Bool × (List Int))).opt) fun (c35, pool36) => (if c35 = true then gd (sz (text21.length + ([35] : Tx).length)) <| elet ((text21 ++ ([35] : Tx)) : Tx) fun text41 => elet ((spell19 + (1 : Int)) : Int) fun spell43 => .ok (pool36, stretch18, spell43, stretch18, text41) else gd (sz (text21.length + ([46] : Tx).length)) <| elet ((text21 ++ ([46] : Tx)) : Tx) fun text46 => ob ((if (decide ((0 : Int) < spell19)) = true then .ok (0 : Int) else .ok stretch18 : R (Int)).opt) fun stretch49 => elet ((stretch49 + (1 : Int)) : Int) fun stretch52 => .ok (pool36, stretch52, (0 : Int), start20, text46)))).bind fun (pool54, stretch55, spell56, start57, text58) => .ok (text58, pool54)

def m_law_drawn (script : Sc) : R ((T5 (Int × Int) (List (Int × Int)) Int Int (List Tx))) :=
  ob ((m_law_cell script (0 : Int)).opt) fun t1 => ob ((m_law_pool t1).opt) fun t3 => ob ((m_law_take t3 (8 : Int)).opt) fun (t5, pool6) => ob ((if (decide (t5 = (5 : Int))) = true then .ok ((12 : Int), (40 : Int)) else .ok ((6 : Int), (12 : Int)) : R (Int × Int)).opt) fun (most9, need10) => ob ((m_law_ab pool6 most9).opt) fun (t13, pool14) => ob ((m_law_take pool14 (8 : Int)).opt) fun (t16, pool17) => ob (atI ([(1 : Int), (2 : Int), (3 : Int), (1 : Int), (2 : Int), (0 : Int), (1 : Int), (2 : Int)]) t16) fun t19 => ob ((m_law_sound_pairs pool17 t13 need10 t19).opt) fun (t21, pool22) => gd (sz t21.length) <| ob ((mapR t21 (fun x24 => (ob ((m_law_lead t13 x24.1).opt) fun t25 => .ok t25))).opt) fun ys28 => gd (sz (([(0 : Int)]).length + ys28.length)) <| ob (([(0 : Int)] ++ ys28).max?) fun t33 => ob ((m_law_peak t21).opt) fun t35 => elet ((((t13.2 - t13.1) + t33) + t35) : Int) fun sight37 => ob ((m_law_cell script (1 : Int)).opt) fun t39 => ob ((m_law_pool t39).opt) fun t41 => ob ((m_law_take t41 (24 : Int)).opt) fun (t43, other44) => elet (((1 : Int) + t43) : Int) fun q46 => ob ((m_law_take other44 (4 : Int)).opt) fun (t48, other49) => elet (((2 : Int) + t48) : Int) fun thick51 => ob ((m_law_longer_signs other49 t21 ([46] : Tx) (min (180 : Int) (q46 + sight37)) thick51).opt) fun (t53, other54) => elet ([] : (List Tx)) fun texts56 => (foldR (rng 0 (3 : Int)) (other54, texts56) (fun x58 ((other59, texts60) : (List Int) × (List Tx)) => ob ((m_law_take other59 (21 : Int)).opt) fun (t61, other62) => ob ((if (decide (x58 = (0 : Int))) = true then (ob ((m_law_take other62 (2 : Int)).opt) fun (t64, other65) => .ok ((decide (t64 = (1 : Int))), other65)) else .ok (false, other62) : R (Bool × (List Int))).opt) fun (c67, other68) => ob ((if c67 = true then .ok (0 : Int) else .ok t61 : R (Int)).opt) fun more72 => ob ((m_law_cell script ((2 : Int) + x58)).opt) fun t75 => ob ((m_law_pool t75).opt) fun t77 => gd (sz t53.length) <| ob ((m_law_take t77 (4 : Int)).opt) fun (t80, far81) => ob ((m_law_longer_signs far81 t21 t53 ((t53.length : Int) + more72) ((2 : Int) + t80)).opt) fun (t83, far84) => gd (sz (texts60.length + 1)) <| .ok (other68, (texts60 ++ [t83])))).bind fun (other87, texts88) => gd (sz t53.length) <| gd (sz (texts88.length + ([t53]).length)) <| .ok (T5.mk t13 t21 sight37 (max (1 : Int) ((t53.length : Int) - sight37)) (texts88 ++ [t53]))

def m_law_until (row : (List Int)) (q : Int) : R ((List Int)) :=
  gd (sz row.length) <| ob ((filR row (fun x1 => if (decide (x1 ≤ q)) = true then .ok (some x1) else .ok none)).opt) fun ys3 => .ok ys3

def m_law (script : Sc) : R (Bool) :=
  ob ((m_law_drawn script).opt) fun t1 => ((m_Lacquer__init t1.a.1 t1.a.2)).bind fun t3 => ((m_Climate__init t1.b)).bind fun t8 => gd (sz t1.e.length) <| ob ((mapR t1.e (fun x13 => (ob ((m_Weather_of_signs x13).opt) fun t14 => .ok t14))).opt) fun ys17 => gd (sz t1.e.length) <| ob ((mapR t1.e (fun x21 => (ob ((m_law_last_row t1.a x21).opt) fun t22 => .ok t22))).opt) fun ys25 => ob ((m_saver_sight t3 t8).opt) fun t29 => ob ((m_law_same (ToD.d t29) (ToD.d t1.c)).opt) fun t31 => (if (!t31) = true then .ok false else (loopR (ρ := Bool) (rng 0 (2 : Int)) () (fun x34 (_ : Unit) => elet ([] : (List (List Int))) fun coats35 => gd (rgOk (t1.e.length : Int)) <| (loopR (ρ := Bool) (rng 0 (t1.e.length : Int)) coats35 (fun x38 (coats39 : (List (List Int))) => ob (atI ys17 x38) fun t40 => ob ((m_latest t3 t40).opt) fun t42 => ob (atI ys25 x38) fun t44 => ob ((m_law_same (ToD.d t42) (ToD.d t44)).opt) fun t46 => (if (!t46) = true then .ok (.ret false) else ob ((m_law_until t42 t1.d).opt) fun t49 => gd (sz (coats39.length + 1)) <| ob (setI t42 (0 : Int) (0 : Int)) fun row52 => gd (sz (row52.length + 1)) <| .ok (.go (coats39 ++ [t49]))))).bind fun o_ => o_.fin (fun y_ => .ok (.ret y_)) fun coats55 => gd (rgOk (coats55.length : Int)) <| (loopR (ρ := Bool) (rng (1 : Int) (coats55.length : Int)) () (fun x57 (_ : Unit) => ob (atI t1.e (-1 : Int)) fun t58 => gd (sz t58.length) <| ob ((if (decide ((t1.d + t1.c) ≤ (t58.length : Int))) = true then (ob (atI coats55 x57) fun t61 => ob (atI coats55 (0 : Int)) fun t63 => ob ((m_law_same (ToD.d t61) (ToD.d t63)).opt) fun t65 => .ok (!t65)) else .ok false : R (Bool)).opt) fun c67 => (if c67 = true then .ok (.ret false) else .ok (.go ())))).bind fun o_ => o_.fin (fun y_ => .ok (.ret y_)) fun _ => .ok (.go ()))).bind fun o_ => o_.fin (fun y_ => .ok y_) fun _ => ob ((m_saver_sight t3 t8).opt) fun t71 => ob ((m_law_same (ToD.d t71) (ToD.d t1.c)).opt) fun t73 => .ok t73)

def N_Lacquer___init__ : List Str := ["self", "a", "b"]
theorem sc_Lacquer___init__ : FnScope N_Lacquer___init__ ["self", "a", "b"] (defScope s_Lacquer___init__) := ⟨rfl, rfl, rfl, by decide +kernel, rfl, by decide +kernel, by decide +kernel⟩
def rel_Lacquer___init__ (cs : List Ca) (r : R O_Lacquer) : Prop := ∃ (a : Int) (b : Int), cs = [.k a, .k b] ∧ r = m_Lacquer__init a b
theorem ok_Lacquer___init__ {g : Gx} {P : Program} {w : World} {mg : Str → Option Value} {base : Heap} {A : Ad} (T : Txt P g mg A) : FnOk P w g.K mg base (L2.CX P w) 1 A.f_Lacquer___init__ A.d_Lacquer___init__ ["self", "a", "b"] (spIni g O_Lacquer rel_Lacquer___init__) := by
  refine fn_ini T.F_Lacquer___init__ sc_Lacquer___init__ (fun cs o h => by obtain ⟨_, _, rfl, _⟩ := h; rfl) (by decide) (fun cdv A_ outer s H X hr => ⟨_, (pss_cons (ps_if (L2.pt_not (pt_chain3 op_le op_lt op_le pe_int (pv 1) (pv 2) (pe_cvalK (K := g.K) rfl (pe_glob (v := .ref (g.ca (Str.ofString "Lacquer"))) (by rfl) T.mg_Lacquer rfl)))) (pss_one (ps_raise rfl (takes_of rfl rfl rfl rfl) (pmk_own PySem.F.excBase_ValueError T.x_BadLacquer T.mg_BadLacquer T.kp_BadLacquer (raises_own T.s_BadLacquer T.t_BadLacquer) (by rfl)))) pss_nil)
 (pss_cons (ps_fldK (K := g.K) rfl (pv 0) (pv 1) rfl)
 (pss_one (ps_fldK (K := g.K) rfl (pv 0) (pv 2) rfl)))), fun B x_ dx_ cs r E D hP hrel hne hini hx hok => ?_⟩)
  obtain ⟨a, b, rfl, hr_⟩ := hrel
  obtain ⟨E1, rfl, hini1⟩ := ini_k hini
  obtain ⟨E2, rfl, hini2⟩ := ini_k hini1
  obtain ⟨-, rfl⟩ := ini_nil hini2
  have hm := hr_.symm
  clear hr_
  have hex := hx
  unfold m_Lacquer__init at hm
  show Sx g B [.kp ((Adr.mk x_) : Adr), .kp (a : Int), .kp (b : Int)] _ _
  refine sx_seq (sx_if (pt_not (pt_chain3' ((px_int (n := 1))) ((px_v (i := 1) (by exact rfl))) r2_le ((px_v (i := 2) (by exact rfl))) r2_lt ((px_cval T.cv_Lacquer_MOST)) r2_le)) (fun e1 => ?_) (fun e1 => ?_))
  · have hm := (if_pos e1).symm.trans hm
    exact sx_raise0 (c := Str.ofString "BadLacquer") (hex _ _ hm.symm)
  · have hm := (if_neg (fun z_ => Bool.false_ne_true (e1.symm.trans z_))).symm.trans hm
    refine sx_next (nx_of ?_)
    refine sx_seq (sx_fld (x := x_) (C := (g.ca (Str.ofString "Lacquer"))) (f := Str.ofString "a") rfl hP ((px_v (i := 1) (by exact rfl))) T.c_Lacquer T.na_Lacquer_f_a (by first | decide | simp [putF]) (fun w1 F1 B r1 hP un1 => nx_of ?_))
    refine sx_fld (x := x_) (C := (g.ca (Str.ofString "Lacquer"))) (f := Str.ofString "b") rfl hP ((px_v (i := 2) (by exact rfl))) T.c_Lacquer T.na_Lacquer_f_b (by first | decide | simp [putF]) (fun w2 F2 B r2 hP un2 σ_ H_ ⟨F_, A_, s_⟩ => ?_)
    obtain ⟨q2, z2⟩ := un2 _ _ _ _ _ _ s_
    obtain ⟨q1, z1⟩ := un1 _ _ _ _ _ _ q2
    obtain ⟨p1_, p2_, _⟩ := s_.pr x_ _ hP
    exact hok _ hm.symm F_ A_ _ σ_ H_ _ q1 p1_ (s_.fa.free p2_) ⟨w1, w2, rfl, Rp.mono z1 r1, Rp.mono z2 r2⟩

def N_Lacquer_slack : List Str := ["self"]
theorem sc_Lacquer_slack : FnScope N_Lacquer_slack ["self"] (defScope s_Lacquer_slack) := ⟨rfl, rfl, rfl, by decide +kernel, rfl, by decide +kernel, by decide +kernel⟩
def rel_Lacquer_slack (cs : List Ca) (o : Out) : Prop := ∃ (self : O_Lacquer), cs = [.k self] ∧ res0 (m_Lacquer_slack self) o
theorem ok_Lacquer_slack {g : Gx} {P : Program} {w : World} {mg : Str → Option Value} {base : Heap} {A : Ad} (T : Txt P g mg A) : FnOk P w g.K mg base (L2.CX P w) 1 A.f_Lacquer_slack A.d_Lacquer_slack ["self"] (spOf g rel_Lacquer_slack) := by
  refine fn_go T.F_Lacquer_slack sc_Lacquer_slack (fun cs o h => by obtain ⟨_, rfl, _⟩ := h; rfl) (by decide) (fun cdv A_ outer s H X hr => ⟨_, (pss_one (ps_ret (pe_op op_sub (pe_fldK (K := g.K) rfl (pv 0) rfl) (pe_fldK (K := g.K) rfl (pv 0) rfl)))), fun B qs cs o E D hps hrel hini hrt hx hfall => ?_⟩)
  obtain ⟨self, rfl, hrel⟩ := hrel
  generalize hm : m_Lacquer_slack self = r at hrel
  obtain ⟨hne, hret, hex⟩ := res0_ne hrel
  clear hrel
  obtain ⟨E1, rfl, hini1⟩ := ini_k hini
  obtain ⟨rfl, rfl⟩ := ini_nil hini1
  have hret := fun y_ h_ => (hret y_ h_ ▸ hrt : DRt g B D.rt _)
  have hex := fun c_ d_ h_ => hx c_ d_ (hex c_ d_ h_)
  unfold m_Lacquer_slack at hm
  show Sx g B [.kp (self : O_Lacquer)] _ _
  exact sx_ret' ((px_op (px_fld (has_Lacquer_f_b T.c_Lacquer T.na_Lacquer_f_b) ((px_v (i := 0) (by exact rfl)))) (px_fld (has_Lacquer_f_a T.c_Lacquer T.na_Lacquer_f_a) ((px_v (i := 0) (by exact rfl)))) r2_sub)) hps .nil (hret _ hm.symm)

def N_Lacquer_spans : List Str := ["self", "w"]
theorem sc_Lacquer_spans : FnScope N_Lacquer_spans ["self", "w"] (defScope s_Lacquer_spans) := ⟨rfl, rfl, rfl, by decide +kernel, rfl, by decide +kernel, by decide +kernel⟩
def rel_Lacquer_spans (cs : List Ca) (o : Out) : Prop := ∃ (self : O_Lacquer) (w_p : Int), cs = [.k self, .k w_p] ∧ res0 (m_Lacquer_spans self w_p) o
theorem ok_Lacquer_spans {g : Gx} {P : Program} {w : World} {mg : Str → Option Value} {base : Heap} {A : Ad} (T : Txt P g mg A) : FnOk P w g.K mg base (L2.CX P w) 1 A.f_Lacquer_spans A.d_Lacquer_spans ["self", "w"] (spOf g rel_Lacquer_spans) := by
  refine fn_go T.F_Lacquer_spans sc_Lacquer_spans (fun cs o h => by obtain ⟨_, _, rfl, _⟩ := h; rfl) (by decide) (fun cdv A_ outer s H X hr => ⟨_, (pss_cons (ps_if (pt_cmpR op_lt (pv 1) pe_int (nomark _)) (pss_one (ps_raise rfl (takes_of rfl rfl rfl rfl) (pmk_own PySem.F.excBase_ValueError T.x_BadNumber T.mg_BadNumber T.kp_BadNumber (raises_own T.s_BadNumber T.t_BadNumber) (by rfl)))) pss_nil)
 (pss_one (ps_ret (pe_un un_neg (pe_op op_fdiv (pe_un un_neg (pv 1)) (pe_op op_sub (pe_fldK (K := g.K) rfl (pv 0) rfl) (pe_fldK (K := g.K) rfl (pv 0) rfl))))))), fun B qs cs o E D hps hrel hini hrt hx hfall => ?_⟩)
  obtain ⟨self, w_p, rfl, hrel⟩ := hrel
  generalize hm : m_Lacquer_spans self w_p = r at hrel
  obtain ⟨hne, hret, hex⟩ := res0_ne hrel
  clear hrel
  obtain ⟨E1, rfl, hini1⟩ := ini_k hini
  obtain ⟨E2, rfl, hini2⟩ := ini_k hini1
  obtain ⟨rfl, rfl⟩ := ini_nil hini2
  have hret := fun y_ h_ => (hret y_ h_ ▸ hrt : DRt g B D.rt _)
  have hex := fun c_ d_ h_ => hx c_ d_ (hex c_ d_ h_)
  unfold m_Lacquer_spans at hm
  show Sx g B [.kp (self : O_Lacquer), .kp (w_p : Int)] _ _
  refine sx_seq (sx_if (pt_test (px_op ((px_v (i := 1) (by exact rfl))) ((px_int (n := 0))) r2_lt)) (fun e1 => ?_) (fun e1 => ?_))
  · have hm := (if_pos e1).symm.trans hm
    exact sx_raise0 (c := Str.ofString "BadNumber") (hex _ _ hm.symm)
  · have hm := (if_neg (fun z_ => Bool.false_ne_true (e1.symm.trans z_))).symm.trans hm
    refine sx_next (nx_of ?_)
    obtain ⟨g2, hm⟩ := gd_ne hm hne
    exact sx_ret' ((px_un (px_op (px_un (px_v (i := 1) (by exact rfl)) r1_neg) (px_op (px_fld (has_Lacquer_f_b T.c_Lacquer T.na_Lacquer_f_b) ((px_v (i := 0) (by exact rfl)))) (px_fld (has_Lacquer_f_a T.c_Lacquer T.na_Lacquer_f_a) ((px_v (i := 0) (by exact rfl)))) r2_sub) (r2_div g2)) r1_neg)) hps .nil (hret _ hm.symm)

def N_Lacquer_lead : List Str := ["self", "w"]
theorem sc_Lacquer_lead : FnScope N_Lacquer_lead ["self", "w"] (defScope s_Lacquer_lead) := ⟨rfl, rfl, rfl, by decide +kernel, rfl, by decide +kernel, by decide +kernel⟩
def rel_Lacquer_lead (cs : List Ca) (o : Out) : Prop := ∃ (self : O_Lacquer) (w_p : Int), cs = [.k self, .k w_p] ∧ res0 (m_Lacquer_lead self w_p) o
theorem ok_Lacquer_lead {g : Gx} {P : Program} {w : World} {mg : Str → Option Value} {base : Heap} {A : Ad} (T : Txt P g mg A) : FnOk P w g.K mg base (L2.CX P w) 2 A.f_Lacquer_lead A.d_Lacquer_lead ["self", "w"] (spOf g rel_Lacquer_lead) := by
  refine fn_go T.F_Lacquer_lead sc_Lacquer_lead (fun cs o h => by obtain ⟨_, _, rfl, _⟩ := h; rfl) (by decide) (fun cdv A_ outer s H X hr => ⟨_, (pss_cons (ps_if (pt_cmpR op_lt (pv 1) pe_int (nomark _)) (pss_one (ps_raise rfl (takes_of rfl rfl rfl rfl) (pmk_own PySem.F.excBase_ValueError T.x_BadNumber T.mg_BadNumber T.kp_BadNumber (raises_own T.s_BadNumber T.t_BadNumber) (by rfl)))) pss_nil)
 (pss_one (ps_ret (pe_op op_mul (pe_op op_sub (pe_meth (pv 0) T.c_Lacquer T.me_Lacquer_spans (ok_Lacquer_spans T) (hr.mono (by decide)) T.b_Lacquer_spans .nil (passes_call (takes_of rfl rfl rfl rfl) (fun _ _ _ _ h_ => h_)) (pa_cons (pv 1) pa_nil)) pe_int) (pe_fldK (K := g.K) rfl (pv 0) rfl))))), fun B qs cs o E D hps hrel hini hrt hx hfall => ?_⟩)
  obtain ⟨self, w_p, rfl, hrel⟩ := hrel
  generalize hm : m_Lacquer_lead self w_p = r at hrel
  obtain ⟨hne, hret, hex⟩ := res0_ne hrel
  clear hrel
  obtain ⟨E1, rfl, hini1⟩ := ini_k hini
  obtain ⟨E2, rfl, hini2⟩ := ini_k hini1
  obtain ⟨rfl, rfl⟩ := ini_nil hini2
  have hret := fun y_ h_ => (hret y_ h_ ▸ hrt : DRt g B D.rt _)
  have hex := fun c_ d_ h_ => hx c_ d_ (hex c_ d_ h_)
  unfold m_Lacquer_lead at hm
  show Sx g B [.kp (self : O_Lacquer), .kp (w_p : Int)] _ _
  refine sx_seq (sx_if (pt_test (px_op ((px_v (i := 1) (by exact rfl))) ((px_int (n := 1))) r2_lt)) (fun e1 => ?_) (fun e1 => ?_))
  · have hm := (if_pos e1).symm.trans hm
    exact sx_raise0 (c := Str.ofString "BadNumber") (hex _ _ hm.symm)
  · have hm := (if_neg (fun z_ => Bool.false_ne_true (e1.symm.trans z_))).symm.trans hm
    refine sx_next (nx_of ?_)
    obtain ⟨t2, h3, hm⟩ := ob_ne hm hne
    obtain ⟨g4, hm⟩ := gd_ne hm hne
    exact sx_ret' ((px_op (px_op (px_meth (x := t2) (outs := []) (X := X) (pa_m (fr_Lacquer (m := Str.ofString "spans") (by decide)) ((px_v (i := 0) (by exact rfl))) (pa_k ((px_v (i := 1) (by exact rfl))) pa_n)) (.k (.k .nil)) (.k (.k .nil)) (by decide) ⟨self, w_p, rfl, by rw [(opt_ok h3)]; rfl⟩) (px_int (n := 1)) r2_sub) (px_fld (has_Lacquer_f_a T.c_Lacquer T.na_Lacquer_f_a) ((px_v (i := 0) (by exact rfl)))) (r2_mul g4))) hps .nil (hret _ hm.symm)

def N_check_kind : List Str := ["w", "g"]
theorem sc_check_kind : FnScope N_check_kind ["w", "g"] (defScope s_check_kind) := ⟨rfl, rfl, rfl, by decide +kernel, rfl, by decide +kernel, by decide +kernel⟩
def rel_check_kind (cs : List Ca) (o : Out) : Prop := ∃ (w_p : Int) (g_p : Int), cs = [.k w_p, .k g_p] ∧ res0 (m_check_kind w_p g_p) o
theorem ok_check_kind {g : Gx} {P : Program} {w : World} {mg : Str → Option Value} {base : Heap} {A : Ad} (T : Txt P g mg A) : FnOk P w g.K mg base (L2.CX P w) 1 A.f_check_kind A.d_check_kind ["w", "g"] (spOf g rel_check_kind) := by
  refine fn_go T.F_check_kind sc_check_kind (fun cs o h => by obtain ⟨_, _, rfl, _⟩ := h; rfl) (by decide) (fun cdv A_ outer s H X hr => ⟨_, (pss_one (ps_if (PW.pt (pw_or (L2.pt_not (pt_chain op_le op_le pe_int (pv 0) (pe_gc (by rfl) T.mg_LONGEST_SPELL))) (pw_or1 (L2.pt_not (pt_chain op_le op_le pe_int (pv 1) (pe_gc (by rfl) T.mg_LONGEST_RUN)))))) (pss_one (ps_raise rfl (takes_of rfl rfl rfl rfl) (pmk_own PySem.F.excBase_ValueError T.x_BadKind T.mg_BadKind T.kp_BadKind (raises_own T.s_BadKind T.t_BadKind) (by rfl)))) pss_nil)), fun B qs cs o E D hps hrel hini hrt hx hfall => ?_⟩)
  obtain ⟨w_p, g_p, rfl, hrel⟩ := hrel
  generalize hm : m_check_kind w_p g_p = r at hrel
  obtain ⟨hne, hret, hex⟩ := res0_ne hrel
  clear hrel
  obtain ⟨E1, rfl, hini1⟩ := ini_k hini
  obtain ⟨E2, rfl, hini2⟩ := ini_k hini1
  obtain ⟨rfl, rfl⟩ := ini_nil hini2
  have hfall := fun y_ h_ => hfall _ (hret y_ h_)
  have hret := fun y_ h_ => (hret y_ h_ ▸ hrt : DRt g B D.rt _)
  have hex := fun c_ d_ h_ => hx c_ d_ (hex c_ d_ h_)
  unfold m_check_kind at hm
  show Sx g B [.kp (w_p : Int), .kp (g_p : Int)] _ _
  refine sx_if (pt_or (pt_not (pt_test (px_chain (px_int (n := 1)) (px_v (i := 0) (by exact rfl)) r2_le (fun _ => (px_int (n := 16))) (fun _ => r2_le) (fun _ => rfl)))) (fun _ => (pt_not (pt_test (px_chain (px_int (n := 1)) (px_v (i := 1) (by exact rfl)) r2_le (fun _ => (px_int (n := 120))) (fun _ => r2_le) (fun _ => rfl))))) (fun _ => rfl)) (fun e1 => ?_) (fun e1 => ?_)
  · have hm := (if_pos e1).symm.trans hm
    exact sx_raise0 (c := Str.ofString "BadKind") (hex _ _ hm.symm)
  · have hm := (if_neg (fun z_ => Bool.false_ne_true (e1.symm.trans z_))).symm.trans hm
    exact sx_next (sx_fall' hps .nil (hfall _ hm.symm))

def N_plain_list : List Str := ["kinds", "least", "w", "g", "plain", "shortest"]
theorem sc_plain_list : FnScope N_plain_list ["kinds"] (defScope s_plain_list) := ⟨rfl, rfl, rfl, by decide +kernel, rfl, by decide +kernel, by decide +kernel⟩
def rel_plain_list (cs : List Ca) (o : Out) : Prop := ∃ (kinds : (List (Int × Int))), cs = [.k kinds] ∧ res0 (m_plain_list kinds) o
theorem ok_plain_list {g : Gx} {P : Program} {w : World} {mg : Str → Option Value} {base : Heap} {A : Ad} (T : Txt P g mg A) : FnOk P w g.K mg base (L2.CX P w) 1 A.f_plain_list A.d_plain_list ["kinds"] (spOf g rel_plain_list) := by
  refine fn_go T.F_plain_list sc_plain_list (fun cs o h => by obtain ⟨_, rfl, _⟩ := h; rfl) (by decide) (fun cdv A_ outer s H X hr => ⟨_, (pss_cons (ps_set (i := 1) sc_plain_list.nd rfl (by first | exact Or.inl rfl | exact Or.inr rfl) pe_dnewK)
 (pss_cons (ps_for (passes_of rfl) rfl (pi_listK (K := g.K) rfl (pv 0)) (pg_tupK (K := g.K) (n := 2) rfl rfl (pgs_cons (pg_name (i := 2) sc_plain_list.nd rfl (by first | exact Or.inl rfl | exact Or.inr rfl)) (pgs_cons (pg_name (i := 3) sc_plain_list.nd rfl (by first | exact Or.inl rfl | exact Or.inr rfl)) pgs_nil))) (pss_one (ps_if (pt_cmpR op_lt (pv 3) (pe_dget2 (hu_of hr) (pv 1) (pv 2) (pe_op op_add (pe_gc (by rfl) T.mg_LONGEST_RUN) pe_int) ⟨rfl, rfl, rfl, rfl⟩) (nomark _)) (pss_one (ps_dput (hu_of hr) (pv 1) (pv 2) (pv 3) (by rfl))) pss_nil)))
 (pss_cons (ps_set (i := 4) sc_plain_list.nd rfl (by first | exact Or.inl rfl | exact Or.inr rfl) (pe_lst pa_nil))
 (pss_cons (ps_set (i := 5) sc_plain_list.nd rfl (by first | exact Or.inl rfl | exact Or.inr rfl) (pe_op op_add (pe_gc (by rfl) T.mg_LONGEST_RUN) pe_int))
 (pss_cons (ps_for (passes_of rfl) rfl (pi_range3 (by rfl) T.no_range (pa_cons (pe_gc (by rfl) T.mg_LONGEST_SPELL) (pa_cons pe_int (pa_cons (pe_un un_neg pe_int) pa_nil)))) (pg_name (i := 2) sc_plain_list.nd rfl (by first | exact Or.inl rfl | exact Or.inr rfl)) (pss_one (ps_if (pt_cmpR op_lt (pe_dget2 (hu_of hr) (pv 1) (pv 2) (pv 5) ⟨rfl, rfl, rfl, rfl⟩) (pv 5) (nomark _)) (pss_cons (ps_set (i := 5) sc_plain_list.nd rfl (by first | exact Or.inl rfl | exact Or.inr rfl) (pe_dget (hu_of hr) (pv 1) (pv 2) (fun _ _ => rfl)))
 (pss_one (ps_expr (pe_bm PySem.F.plainAttrs_list PySem.F.slot_list_append PySem.F.type_list_append mt_append (pv 4) (pa_cons (pe_tup (pa_cons (pv 2) (pa_cons (pv 5) pa_nil))) pa_nil))))) pss_nil)))
 (pss_one (ps_ret (pe_revLK (K := g.K) rfl (pv 4))))))))), fun B qs cs o E D hps hrel hini hrt hx hfall => ?_⟩)
  obtain ⟨kinds, rfl, hrel⟩ := hrel
  generalize hm : m_plain_list kinds = r at hrel
  obtain ⟨hne, hret, hex⟩ := res0_ne hrel
  clear hrel
  obtain ⟨E1, rfl, hini1⟩ := ini_k hini
  obtain ⟨rfl, rfl⟩ := ini_nil hini1
  have hret := fun y_ h_ => (hret y_ h_ ▸ hrt : DRt g B D.rt _)
  have hex := fun c_ d_ h_ => hx c_ d_ (hex c_ d_ h_)
  unfold m_plain_list at hm
  show Sx g B [.kp (kinds : (List (Int × Int))), .un, .un, .un, .un, .un] _ _
  refine sx_seq (sx_asgDK (κ := Int) (α := Int) (i := 1) rfl (fun Q_least => (nx_of ?_)))
  obtain ⟨out_, hL_, hno_, hm⟩ := bind_split hm hne
  refine sx_seq (sx_fold (s0 := ([] : (List (Int × Int)))) (X := fun B_ c_ d_ => XkOk g B_ X c_ d_) (Ei := (fun (least2 : (List (Int × Int))) => [.kp (kinds : (List (Int × Int))), .ot Q_least (DK.mk (least2 : (List (Int × Int)))), .un, .un, .un, .un])) (fun _ _ _ _ n_ h_ => h_.nest n_) (sr_list ((px_v (i := 0) (by exact rfl)))) (tg_p) (by exact (LeE.cons .refl (LeE.cons .refl (LeE.cons .un (LeE.cons .un (LeE.cons .un (LeE.cons .un LeE.nil))))))) hL_ hno_ (fun c_ d_ h_ => hex c_ d_ (by rw [h_] at hm; exact hm.symm)) (fun B x1 least2 r_ D hB_ hx_ hm hne hnx hct hex => ?_) (fun least7 hs_ => ?_))
  · have hps := hB_.1.trans hps
    show Sx g B [.kp (kinds : (List (Int × Int))), .ot Q_least (DK.mk (least2 : (List (Int × Int)))), .kp (x1.1 : Int), .kp (x1.2 : Int), .un, .un] _ _
    refine sx_if (pt_test (px_op ((px_v (i := 3) (by exact rfl))) ((px_dget2 (i := 1) ((px_v (i := 2) (by exact rfl))) ((px_op (px_int (n := 120)) (px_int (n := 1)) r2_add)) rfl rfl)) r2_lt)) (fun e3 => ?_) (fun e3 => ?_)
    · have hm := (if_pos e3).symm.trans hm
      obtain ⟨g4, hm⟩ := gd_ne hm hne
      exact sx_dput (i := 1) ((px_v (i := 3) (by exact rfl))) ((px_v (i := 2) (by exact rfl))) rfl rfl g4 (nx_le (LeE.cons .refl (LeE.cons .refl (LeE.cons .un (LeE.cons .un (LeE.cons .un (LeE.cons .un LeE.nil)))))) (hnx _ hm.symm))
    · have hm := (if_neg (fun z_ => Bool.false_ne_true (e3.symm.trans z_))).symm.trans hm
      exact sx_next (nx_le (LeE.cons .refl (LeE.cons .refl (LeE.cons .un (LeE.cons .un (LeE.cons .un (LeE.cons .un LeE.nil)))))) (hnx _ hm.symm))
  · rw [hs_] at hm
    clear hs_ hL_ hno_
    replace hm := rbind_ok hm
    refine nx_of ?_
    show Sx g B [.kp (kinds : (List (Int × Int))), .ot Q_least (DK.mk (least7 : (List (Int × Int)))), .un, .un, .un, .un] _ _
    obtain ⟨plain8, h9, hm⟩ := elet_eq (v := ([] : (List (Int × Int)))) hm
    refine sx_seq (sx_asgO (i := 4) (pn_eq (pn_lst (xs := ([] : (List (Int × Int)))) ps_nil (by decide)) h9) (nx_of ?_))
    obtain ⟨shortest10, h11, hm⟩ := elet_eq (v := (((120 : Int) + (1 : Int)) : Int)) hm
    refine sx_seq (sx_asg (i := 5) (px_eq ((px_op (px_int (n := 120)) (px_int (n := 1)) r2_add)) h11) (nx_of ?_))
    obtain ⟨out_, hL_, hno_, hm⟩ := bind_split hm hne
    refine sx_seq (sx_fold (s0 := (plain8, shortest10)) (X := fun B_ c_ d_ => XkOk g B_ X c_ d_) (Ei := (fun ((plain13, shortest14) : (List (Int × Int)) × Int) => [.kp (kinds : (List (Int × Int))), .ot Q_least (DK.mk (least7 : (List (Int × Int)))), .un, .un, .ow (plain13 : (List (Int × Int))), .kp (shortest14 : Int)])) (fun _ _ _ _ n_ h_ => h_.nest n_) (sr_rD (px_int (n := 16)) (px_int (n := 0)) (px_un (px_int (n := 1)) r1_neg) (by decide) (by decide)) (tg_n) (by exact (LeE.cons .refl (LeE.cons .refl (LeE.cons .un (LeE.cons .un (LeE.cons .refl (LeE.cons .refl LeE.nil))))))) hL_ hno_ (fun c_ d_ h_ => hex c_ d_ (by rw [h_] at hm; exact hm.symm)) (fun B x12 s_ r_ D hB_ hx_ hm hne hnx hct hex => ?_) (fun s_ hs_ => ?_))
    · obtain ⟨plain13, shortest14⟩ := s_
      have hps := hB_.1.trans hps
      show Sx g B [.kp (kinds : (List (Int × Int))), .ot Q_least (DK.mk (least7 : (List (Int × Int)))), .kp (x12 : Int), .un, .ow (plain13 : (List (Int × Int))), .kp (shortest14 : Int)] _ _
      refine sx_if (pt_test (px_op ((px_dget2 (i := 1) ((px_v (i := 2) (by exact rfl))) ((px_v (i := 5) (by exact rfl))) rfl rfl)) ((px_v (i := 5) (by exact rfl))) r2_lt)) (fun e15 => ?_) (fun e15 => ?_)
      · have hm := (if_pos e15).symm.trans hm
        obtain ⟨t16, h17, hm⟩ := ob_ne hm hne
        refine sx_seq (sx_asg (i := 5) ((px_dix (i := 1) ((px_v (i := 2) (by exact rfl))) rfl rfl h17)) (nx_of ?_))
        obtain ⟨g18, hm⟩ := gd_ne hm hne
        exact sx_append (i := 4) rfl ((px_tup2 ((px_v (i := 2) (by exact rfl))) ((px_v (i := 5) (by exact rfl))))) rfl trivial RdL.ow g18 (nx_le (LeE.cons .refl (LeE.cons .refl (LeE.cons .un (LeE.cons .un (LeE.cons .refl (LeE.cons .refl LeE.nil)))))) (hnx _ hm.symm))
      · have hm := (if_neg (fun z_ => Bool.false_ne_true (e15.symm.trans z_))).symm.trans hm
        exact sx_next (nx_le (LeE.cons .refl (LeE.cons .refl (LeE.cons .un (LeE.cons .un (LeE.cons .refl (LeE.cons .refl LeE.nil)))))) (hnx _ hm.symm))
    · rw [hs_] at hm
      clear hs_ hL_ hno_
      obtain ⟨plain19, shortest20⟩ := s_
      replace hm := rbind_ok hm
      refine nx_of ?_
      show Sx g B [.kp (kinds : (List (Int × Int))), .ot Q_least (DK.mk (least7 : (List (Int × Int)))), .un, .un, .ow (plain19 : (List (Int × Int))), .kp (shortest20 : Int)] _ _
      exact sx_ret' ((PxN.pxA (Int × Int) (pn_rev (pl_s (i := 4) (by exact rfl) RdL.ow) rfl))) hps .nil (hret _ hm.symm)

def N_Climate___init__ : List Str := ["self", "kinds", "w", "g"]
theorem sc_Climate___init__ : FnScope N_Climate___init__ ["self", "kinds"] (defScope s_Climate___init__) := ⟨rfl, rfl, rfl, by decide +kernel, rfl, by decide +kernel, by decide +kernel⟩
def rel_Climate___init__ (cs : List Ca) (r : R O_Climate) : Prop := ∃ (kinds : (List (Int × Int))), cs = [.k kinds] ∧ r = m_Climate__init kinds
theorem ok_Climate___init__ {g : Gx} {P : Program} {w : World} {mg : Str → Option Value} {base : Heap} {A : Ad} (T : Txt P g mg A) : FnOk P w g.K mg base (L2.CX P w) 2 A.f_Climate___init__ A.d_Climate___init__ ["self", "kinds"] (spIni g O_Climate rel_Climate___init__) := by
  refine fn_ini T.F_Climate___init__ sc_Climate___init__ (fun cs o h => by obtain ⟨_, rfl, _⟩ := h; rfl) (by decide) (fun cdv A_ outer s H X hr => ⟨_, (pss_cons (ps_if (pt_cmpR op_gt (pe_callB (call_len_seqK (K := g.K) rfl) (by rfl) T.no_len (by decide +kernel) (pa_cons (pv 1) pa_nil)) (pe_gc (by rfl) T.mg_MOST_KINDS) (nomark _)) (pss_one (ps_raise rfl (takes_of rfl rfl rfl rfl) (pmk_own PySem.F.excBase_ValueError T.x_BadKind T.mg_BadKind T.kp_BadKind (raises_own T.s_BadKind T.t_BadKind) (by rfl)))) pss_nil)
 (pss_cons (ps_for (passes_of rfl) rfl (pi_listK (K := g.K) rfl (pv 1)) (pg_tupK (K := g.K) (n := 2) rfl rfl (pgs_cons (pg_name (i := 2) sc_Climate___init__.nd rfl (by first | exact Or.inl rfl | exact Or.inr rfl)) (pgs_cons (pg_name (i := 3) sc_Climate___init__.nd rfl (by first | exact Or.inl rfl | exact Or.inr rfl)) pgs_nil))) (pss_one (ps_expr (pe_call (ok_check_kind T) (hr.mono (by decide)) (by rfl) T.mg_check_kind T.kp_check_kind T.b_check_kind .nil (passes_call (takes_of rfl rfl rfl rfl) (fun _ _ _ _ h_ => h_)) (pa_cons (pv 2) (pa_cons (pv 3) pa_nil))))))
 (pss_one (ps_fldK (K := g.K) rfl (pv 0) (pe_callTy (call_tuple_ofK (K := g.K) rfl) (by rfl) T.no_tuple (by decide +kernel) (pa_cons (pe_call (ok_plain_list T) (hr.mono (by decide)) (by rfl) T.mg_plain_list T.kp_plain_list T.b_plain_list .nil (passes_call (takes_of rfl rfl rfl rfl) (fun _ _ _ _ h_ => h_)) (pa_cons (pv 1) pa_nil)) pa_nil)) rfl)))), fun B x_ dx_ cs r E D hP hrel hne hini hx hok => ?_⟩)
  obtain ⟨kinds, rfl, hr_⟩ := hrel
  obtain ⟨E1, rfl, hini1⟩ := ini_k hini
  obtain ⟨-, rfl⟩ := ini_nil hini1
  have hm := hr_.symm
  clear hr_
  have hex := hx
  unfold m_Climate__init at hm
  show Sx g B [.kp ((Adr.mk x_) : Adr), .kp (kinds : (List (Int × Int))), .un, .un] _ _
  refine sx_seq (sx_if (pt_test (px_op ((px_len (pl_k (px_v (i := 1) (by exact rfl))) trivial)) ((px_int (n := 300))) r2_gt)) (fun e1 => ?_) (fun e1 => ?_))
  · have hm := (if_pos e1).symm.trans hm
    exact sx_raise0 (c := Str.ofString "BadKind") (hex _ _ hm.symm)
  · have hm := (if_neg (fun z_ => Bool.false_ne_true (e1.symm.trans z_))).symm.trans hm
    refine sx_next (nx_of ?_)
    obtain ⟨out_, hL_, hno_, hm⟩ := bind_split hm hne
    refine sx_seq (sx_fold (s0 := ()) (X := fun B_ c_ d_ => XkOk g B_ X c_ d_) (Ei := (fun (_ : Unit) => [.kp ((Adr.mk x_) : Adr), .kp (kinds : (List (Int × Int))), .un, .un])) (fun _ _ _ _ n_ h_ => h_.nest n_) (sr_list ((px_v (i := 1) (by exact rfl)))) (tg_p) (by exact (LeE.cons .refl (LeE.cons .refl (LeE.cons .un (LeE.cons .un LeE.nil))))) hL_ hno_ (fun c_ d_ h_ => hex c_ d_ (by rw [h_] at hm; exact hm.symm)) (fun B x2 s_ r_ D hB_ hx_ hm hne hnx hct hex => ?_) (fun s_ hs_ => ?_))
    · show Sx g B [.kp ((Adr.mk x_) : Adr), .kp (kinds : (List (Int × Int))), .kp (x2.1 : Int), .kp (x2.2 : Int)] _ _
      rcases bind_cases hm with ⟨t3, h4, hm⟩ | ⟨c5, d6, h4, h7⟩ | h7
      rotate_left
      · exact sx_dropE (pe_callX (pa_k ((px_v (i := 2) (by exact rfl))) (pa_k ((px_v (i := 3) (by exact rfl))) pa_n)) (.k (.k .nil)) (.k (.k .nil)) ⟨x2.1, x2.2, rfl, by rw [h4]; rfl⟩ (hex _ _ h7))
      · exact absurd h7 hne
      exact sx_drop ((px_call (x := t3) (outs := []) (X := X) (pa_k ((px_v (i := 2) (by exact rfl))) (pa_k ((px_v (i := 3) (by exact rfl))) pa_n)) (.k (.k .nil)) (.k (.k .nil)) (by decide) ⟨x2.1, x2.2, rfl, by rw [h4]; rfl⟩)) (nx_le (LeE.cons .refl (LeE.cons .refl (LeE.cons .un (LeE.cons .un LeE.nil)))) (hnx _ hm.symm))
    · rw [hs_] at hm
      clear hs_ hL_ hno_
      obtain _ := s_
      replace hm := rbind_ok hm
      refine nx_of ?_
      show Sx g B [.kp ((Adr.mk x_) : Adr), .kp (kinds : (List (Int × Int))), .un, .un] _ _
      obtain ⟨t8, h9, hm⟩ := ob_ne hm hne
      refine sx_fld (x := x_) (C := (g.ca (Str.ofString "Climate"))) (f := Str.ofString "kinds") rfl hP ((px_tuple (pl_k ((px_call (x := t8) (outs := []) (X := X) (pa_k ((px_v (i := 1) (by exact rfl))) pa_n) (.k .nil) (.k .nil) (by decide) ⟨kinds, rfl, by rw [(opt_ok h9)]; rfl⟩))) trivial)) T.c_Climate T.na_Climate_f_kinds (by first | decide | simp [putF]) (fun w1 F1 B r1 hP un1 σ_ H_ ⟨F_, A_, s_⟩ => ?_)
      obtain ⟨q1, z1⟩ := un1 _ _ _ _ _ _ s_
      obtain ⟨p1_, p2_, _⟩ := s_.pr x_ _ hP
      exact hok _ hm.symm F_ A_ _ σ_ H_ _ q1 p1_ (s_.fa.free p2_) ⟨w1, rfl, Rp.mono z1 r1⟩

def N_Climate_peak : List Str := ["self"]
theorem sc_Climate_peak : FnScope N_Climate_peak ["self"] (defScope s_Climate_peak) := ⟨rfl, rfl, rfl, by decide +kernel, rfl, by decide +kernel, by decide +kernel⟩
def rel_Climate_peak (cs : List Ca) (o : Out) : Prop := ∃ (self : O_Climate), cs = [.k self] ∧ res0 (m_Climate_peak self) o
theorem ok_Climate_peak {g : Gx} {P : Program} {w : World} {mg : Str → Option Value} {base : Heap} {A : Ad} (T : Txt P g mg A) : FnOk P w g.K mg base (L2.CX P w) 1 A.f_Climate_peak A.d_Climate_peak ["self"] (spOf g rel_Climate_peak) := by
  refine fn_go T.F_Climate_peak sc_Climate_peak (fun cs o h => by obtain ⟨_, rfl, _⟩ := h; rfl) (by decide) (fun cdv A_ outer s H X hr => ⟨_, (pss_one (ps_ret (pe_ifExp (pt_truthK (K := g.K) rfl (pe_fldK (K := g.K) rfl (pv 0) rfl) (by intro _; rfl)) (pe_ix (ix_tupK (K := g.K) rfl) (pe_ix (ix_tupK (K := g.K) rfl) (pe_fldK (K := g.K) rfl (pv 0) rfl) (pe_un un_neg pe_int) (fun _ _ => rfl)) pe_int (fun _ _ => rfl)) pe_int))), fun B qs cs o E D hps hrel hini hrt hx hfall => ?_⟩)
  obtain ⟨self, rfl, hrel⟩ := hrel
  generalize hm : m_Climate_peak self = r at hrel
  obtain ⟨hne, hret, hex⟩ := res0_ne hrel
  clear hrel
  obtain ⟨E1, rfl, hini1⟩ := ini_k hini
  obtain ⟨rfl, rfl⟩ := ini_nil hini1
  have hret := fun y_ h_ => (hret y_ h_ ▸ hrt : DRt g B D.rt _)
  have hex := fun c_ d_ h_ => hx c_ d_ (hex c_ d_ h_)
  unfold m_Climate_peak at hm
  show Sx g B [.kp (self : O_Climate)] _ _
  obtain ⟨t3, h4, hm⟩ := ob_ne hm hne
  exact sx_ret' ((px_if (x := t3) (pt_truT ((px_fld (has_Climate_f_kinds T.c_Climate T.na_Climate_f_kinds) ((px_v (i := 0) (by exact rfl)))))) (fun e5_ => by
    have e5 := (if_pos e5_).symm.trans (opt_ok h4)
    obtain ⟨t1, h2, e5⟩ := ob_ne e5 ok_ne
    have e5 := R.ok.inj e5
    subst e5
    exact (px_t0 (px_ixTu ((px_fld (has_Climate_f_kinds T.c_Climate T.na_Climate_f_kinds) ((px_v (i := 0) (by exact rfl))))) (px_un (px_int (n := 1)) r1_neg) h2))) (fun e5_ => by
    have e5 := (if_neg (fun z_ => Bool.false_ne_true (e5_.symm.trans z_))).symm.trans (opt_ok h4)
    have e5 := R.ok.inj e5
    subst e5
    exact (px_int (n := 0))))) hps .nil (hret _ hm.symm)

def N_fault : List Str := ["lacquer", "w", "g"]
theorem sc_fault : FnScope N_fault ["lacquer", "w", "g"] (defScope s_fault) := ⟨rfl, rfl, rfl, by decide +kernel, rfl, by decide +kernel, by decide +kernel⟩
def rel_fault (cs : List Ca) (o : Out) : Prop := ∃ (lacquer : O_Lacquer) (w_p : Int) (g_p : Int), cs = [.k lacquer, .k w_p, .k g_p] ∧ res0 (m_fault lacquer w_p g_p) o
theorem ok_fault {g : Gx} {P : Program} {w : World} {mg : Str → Option Value} {base : Heap} {A : Ad} (T : Txt P g mg A) : FnOk P w g.K mg base (L2.CX P w) 3 A.f_fault A.d_fault ["lacquer", "w", "g"] (spOf g rel_fault) := by
  refine fn_go T.F_fault sc_fault (fun cs o h => by obtain ⟨_, _, _, rfl, _⟩ := h; rfl) (by decide) (fun cdv A_ outer s H X hr => ⟨_, (pss_cons (ps_if (pt_cmpR op_ge (pv 1) (pe_fldK (K := g.K) rfl (pv 0) rfl) (nomark _)) (pss_one (ps_ret pe_str)) pss_nil)
 (pss_cons (ps_if (pt_cmpR op_le (pv 2) (pe_meth (pv 0) T.c_Lacquer T.me_Lacquer_lead (ok_Lacquer_lead T) (hr.mono (by decide)) T.b_Lacquer_lead .nil (passes_call (takes_of rfl rfl rfl rfl) (fun _ _ _ _ h_ => h_)) (pa_cons (pv 1) pa_nil)) (nomark _)) (pss_one (ps_ret pe_str)) pss_nil)
 (pss_one (ps_ret pe_non)))), fun B qs cs o E D hps hrel hini hrt hx hfall => ?_⟩)
  obtain ⟨lacquer, w_p, g_p, rfl, hrel⟩ := hrel
  generalize hm : m_fault lacquer w_p g_p = r at hrel
  obtain ⟨hne, hret, hex⟩ := res0_ne hrel
  clear hrel
  obtain ⟨E1, rfl, hini1⟩ := ini_k hini
  obtain ⟨E2, rfl, hini2⟩ := ini_k hini1
  obtain ⟨E3, rfl, hini3⟩ := ini_k hini2
  obtain ⟨rfl, rfl⟩ := ini_nil hini3
  have hret := fun y_ h_ => (hret y_ h_ ▸ hrt : DRt g B D.rt _)
  have hex := fun c_ d_ h_ => hx c_ d_ (hex c_ d_ h_)
  unfold m_fault at hm
  show Sx g B [.kp (lacquer : O_Lacquer), .kp (w_p : Int), .kp (g_p : Int)] _ _
  refine sx_seq (sx_if (pt_test (px_op ((px_v (i := 1) (by exact rfl))) ((px_fld (has_Lacquer_f_b T.c_Lacquer T.na_Lacquer_f_b) ((px_v (i := 0) (by exact rfl))))) r2_ge)) (fun e1 => ?_) (fun e1 => ?_))
  · have hm := (if_pos e1).symm.trans hm
    exact sx_ret' (px_some ((px_str (t := ([108, 111, 110, 103] : Tx)) rfl))) hps .nil (hret _ hm.symm)
  · have hm := (if_neg (fun z_ => Bool.false_ne_true (e1.symm.trans z_))).symm.trans hm
    refine sx_next (nx_of ?_)
    obtain ⟨t2, h3, hm⟩ := ob_ne hm hne
    refine sx_seq (sx_if (pt_test (px_op ((px_v (i := 2) (by exact rfl))) ((px_meth (x := t2) (outs := []) (X := X) (pa_m (fr_Lacquer (m := Str.ofString "lead") (by decide)) ((px_v (i := 0) (by exact rfl))) (pa_k ((px_v (i := 1) (by exact rfl))) pa_n)) (.k (.k .nil)) (.k (.k .nil)) (by decide) ⟨lacquer, w_p, rfl, by rw [(opt_ok h3)]; rfl⟩)) r2_le)) (fun e4 => ?_) (fun e4 => ?_))
    · have hm := (if_pos e4).symm.trans hm
      exact sx_ret' (px_some ((px_str (t := ([99, 108, 111, 115, 101] : Tx)) rfl))) hps .nil (hret _ hm.symm)
    · have hm := (if_neg (fun z_ => Bool.false_ne_true (e4.symm.trans z_))).symm.trans hm
      refine sx_next (nx_of ?_)
      exact sx_ret' (px_none (px_non)) hps .nil (hret _ hm.symm)

def N_Climate___iter__ : List Str := ["self"]
theorem sc_Climate___iter__ : FnScope N_Climate___iter__ ["self"] (defScope s_Climate___iter__) := ⟨rfl, rfl, rfl, by decide +kernel, rfl, by decide +kernel, by decide +kernel⟩
theorem it_Climate {g : Gx} {P : Program} {w : World} {mg : Str → Option Value} {base : Heap} {A : Ad} (T : Txt P g mg A) : IterFn P w g.K mg base (g.ca (Str.ofString "Climate")) A.f_Climate___iter__ (Str.ofString "kinds") :=
  ⟨T.me_Climate___iter__.at_, T.me_Climate___iter__.fn, _, _, _, N_Climate___iter__, T.F_Climate___iter__, sc_Climate___iter__, T.b_Climate___iter__, fun _ => rfl, fun cdv A_ outer s H E => pss_one (ps_ret (pe_callB (call_iterT (K := g.K) rfl) (by rfl) T.no_iter (by decide +kernel) (pa_cons (pe_fldK (K := g.K) rfl (pv 0) rfl) pa_nil)))⟩
def N_lead_of : List Str := ["lacquer", "climate", "w", "_"]
theorem sc_lead_of : FnScope N_lead_of ["lacquer", "climate"] (defScope s_lead_of) := ⟨rfl, rfl, rfl, by decide +kernel, rfl, by decide +kernel, by decide +kernel⟩
def rel_lead_of (cs : List Ca) (o : Out) : Prop := ∃ (lacquer : O_Lacquer) (climate : O_Climate), cs = [.k lacquer, .k climate] ∧ res0 (m_lead_of lacquer climate) o
theorem ok_lead_of {g : Gx} {P : Program} {w : World} {mg : Str → Option Value} {base : Heap} {A : Ad} (T : Txt P g mg A) : FnOk P w g.K mg base (L2.CX P w) 4 A.f_lead_of A.d_lead_of ["lacquer", "climate"] (spOf g rel_lead_of) := by
  refine fn_go T.F_lead_of sc_lead_of (fun cs o h => by obtain ⟨_, _, rfl, _⟩ := h; rfl) (by decide) (fun cdv A_ outer s H X hr => ⟨_, (pss_one (ps_ret (pe_callBK (call_maxDfK (K := g.K) rfl rfl) (by rfl) T.no_max (by decide +kernel) (pa_cons (pe_lc (own := [("w", 2), ("_", 3)]) (by rfl) sc_lead_of.nd (pi_own (K := g.K) rfl (it_Climate T) (hr.mono (by decide)) (Nat.le_refl 1) (pv 1)) (blkOk_by (own := [("w", 2), ("_", 3)]) (N := N_lead_of) (sc := defScope s_lead_of) (by decide +kernel)) (fun _ _ _ _ _ => (pg_tupK (K := g.K) (n := 2) rfl rfl (pgs_cons (pg_name (i := 2) sc_lead_of.nd rfl (by first | exact Or.inl rfl | exact Or.inr rfl)) (pgs_cons (pg_name (i := 3) sc_lead_of.nd rfl (by first | exact Or.inl rfl | exact Or.inr rfl)) pgs_nil)))) (fun _ _ _ _ _ => pts_nil) (fun _ _ _ _ _ => (pe_meth (pv 0) T.c_Lacquer T.me_Lacquer_lead (ok_Lacquer_lead T) (hr.mono (by decide)) T.b_Lacquer_lead .nil passL (pa_cons (pv 2) pa_nil)))) pa_nil) (pk_cons pe_int pk_nil)))), fun B qs cs o E D hps hrel hini hrt hx hfall => ?_⟩)
  obtain ⟨lacquer, climate, rfl, hrel⟩ := hrel
  generalize hm : m_lead_of lacquer climate = r at hrel
  obtain ⟨hne, hret, hex⟩ := res0_ne hrel
  clear hrel
  obtain ⟨E1, rfl, hini1⟩ := ini_k hini
  obtain ⟨E2, rfl, hini2⟩ := ini_k hini1
  obtain ⟨rfl, rfl⟩ := ini_nil hini2
  have hret := fun y_ h_ => (hret y_ h_ ▸ hrt : DRt g B D.rt _)
  have hex := fun c_ d_ h_ => hx c_ d_ (hex c_ d_ h_)
  unfold m_lead_of at hm
  show Sx g B [.kp (lacquer : O_Lacquer), .kp (climate : O_Climate), .un, .un] _ _
  obtain ⟨g4, hm⟩ := gd_ne hm hne
  obtain ⟨ys5, h6, hm⟩ := ob_ne hm hne
  exact sx_ret' ((px_maxDf (pl_k ((PxN.pxA Int (pn_map (sr_own (hasC_Climate_f_kinds T.c_Climate T.na_Climate_f_kinds) ((px_v (i := 1) (by exact rfl)))) (tc_p (by decide) (by decide)) (opt_ok h6) g4 (by exact nowns2 (nown rfl (fun z_ => z_)) (nown rfl (fun z_ => z_))) (fun x_ => LeE.trans (leE_set rfl) (leE_set rfl)) (fun B_ x1 y7 n_ hx_ e8 => by
      obtain ⟨t2, h3, e8⟩ := ob_ne e8 ok_ne
      have e8 := R.ok.inj e8
      subst e8
      exact (px_meth (x := t2) (outs := []) (X := E0) (pa_m (fr_Lacquer (m := Str.ofString "lead") (by decide)) ((px_v (i := 0) (by exact rfl))) (pa_k ((px_v (i := 2) (by exact rfl))) pa_n)) (.k (.k .nil)) (.k (.k .nil)) (by decide) ⟨lacquer, x1.1, rfl, by rw [(opt_ok h3)]; rfl⟩)))))) (px_int (n := 0)) trivial)) hps .nil (hret _ hm.symm)

def N_bad_kinds : List Str := ["lacquer", "climate", "found", "w", "g", "word"]
theorem sc_bad_kinds : FnScope N_bad_kinds ["lacquer", "climate"] (defScope s_bad_kinds) := ⟨rfl, rfl, rfl, by decide +kernel, rfl, by decide +kernel, by decide +kernel⟩
def rel_bad_kinds (cs : List Ca) (o : Out) : Prop := ∃ (lacquer : O_Lacquer) (climate : O_Climate), cs = [.k lacquer, .k climate] ∧ res0 (m_bad_kinds lacquer climate) o
theorem ok_bad_kinds {g : Gx} {P : Program} {w : World} {mg : Str → Option Value} {base : Heap} {A : Ad} (T : Txt P g mg A) : FnOk P w g.K mg base (L2.CX P w) 5 A.f_bad_kinds A.d_bad_kinds ["lacquer", "climate"] (spOf g rel_bad_kinds) := by
  refine fn_go T.F_bad_kinds sc_bad_kinds (fun cs o h => by obtain ⟨_, _, rfl, _⟩ := h; rfl) (by decide) (fun cdv A_ outer s H X hr => ⟨_, (pss_cons (ps_set (i := 2) sc_bad_kinds.nd rfl (by first | exact Or.inl rfl | exact Or.inr rfl) (pe_lst pa_nil))
 (pss_cons (ps_for (passes_of rfl) rfl (pi_own (K := g.K) rfl (it_Climate T) (hr.mono (by decide)) (Nat.le_refl 1) (pv 1)) (pg_tupK (K := g.K) (n := 2) rfl rfl (pgs_cons (pg_name (i := 3) sc_bad_kinds.nd rfl (by first | exact Or.inl rfl | exact Or.inr rfl)) (pgs_cons (pg_name (i := 4) sc_bad_kinds.nd rfl (by first | exact Or.inl rfl | exact Or.inr rfl)) pgs_nil))) (pss_cons (ps_set (i := 5) sc_bad_kinds.nd rfl (by first | exact Or.inl rfl | exact Or.inr rfl) (pe_call (ok_fault T) (hr.mono (by decide)) (by rfl) T.mg_fault T.kp_fault T.b_fault .nil (passes_call (takes_of rfl rfl rfl rfl) (fun _ _ _ _ h_ => h_)) (pa_cons (pv 0) (pa_cons (pv 3) (pa_cons (pv 4) pa_nil)))))
 (pss_one (ps_if (pt_cmp (pc_notN (pv 5)) (by rfl)) (pss_one (ps_expr (pe_bm PySem.F.plainAttrs_list PySem.F.slot_list_append PySem.F.type_list_append mt_append (pv 2) (pa_cons (pe_tup (pa_cons (pv 3) (pa_cons (pv 4) (pa_cons (pv 5) pa_nil)))) pa_nil)))) pss_nil))))
 (pss_one (ps_ret (pv 2))))), fun B qs cs o E D hps hrel hini hrt hx hfall => ?_⟩)
  obtain ⟨lacquer, climate, rfl, hrel⟩ := hrel
  generalize hm : m_bad_kinds lacquer climate = r at hrel
  obtain ⟨hne, hret, hex⟩ := res0_ne hrel
  clear hrel
  obtain ⟨E1, rfl, hini1⟩ := ini_k hini
  obtain ⟨E2, rfl, hini2⟩ := ini_k hini1
  obtain ⟨rfl, rfl⟩ := ini_nil hini2
  have hret := fun y_ h_ => (hret y_ h_ ▸ hrt : DRt g B D.rt _)
  have hex := fun c_ d_ h_ => hx c_ d_ (hex c_ d_ h_)
  unfold m_bad_kinds at hm
  show Sx g B [.kp (lacquer : O_Lacquer), .kp (climate : O_Climate), .un, .un, .un, .un] _ _
  obtain ⟨found1, h2, hm⟩ := elet_eq (v := ([] : (List (T3 Int Int Tx)))) hm
  refine sx_seq (sx_asgO (i := 2) (pn_eq (pn_lst (xs := ([] : (List (T3 Int Int Tx)))) ps_nil (by decide)) h2) (nx_of ?_))
  obtain ⟨out_, hL_, hno_, hm⟩ := bind_split hm hne
  refine sx_seq (sx_fold (s0 := found1) (X := fun B_ c_ d_ => XkOk g B_ X c_ d_) (Ei := (fun (found4 : (List (T3 Int Int Tx))) => [.kp (lacquer : O_Lacquer), .kp (climate : O_Climate), .ow (found4 : (List (T3 Int Int Tx))), .un, .un, .un])) (fun _ _ _ _ n_ h_ => h_.nest n_) (sr_own (hasC_Climate_f_kinds T.c_Climate T.na_Climate_f_kinds) ((px_v (i := 1) (by exact rfl)))) (tg_p) (by exact (LeE.cons .refl (LeE.cons .refl (LeE.cons .refl (LeE.cons .un (LeE.cons .un (LeE.cons .un LeE.nil))))))) hL_ hno_ (fun c_ d_ h_ => hex c_ d_ (by rw [h_] at hm; exact hm.symm)) (fun B x3 found4 r_ D hB_ hx_ hm hne hnx hct hex => ?_) (fun found14 hs_ => ?_))
  · have hps := hB_.1.trans hps
    show Sx g B [.kp (lacquer : O_Lacquer), .kp (climate : O_Climate), .ow (found4 : (List (T3 Int Int Tx))), .kp (x3.1 : Int), .kp (x3.2 : Int), .un] _ _
    rcases bind_cases hm with ⟨t5, h6, hm⟩ | ⟨c7, d8, h6, h9⟩ | h9
    rotate_left
    · exact sx_seq (sx_exprE (pe_callX (pa_k ((px_v (i := 0) (by exact rfl))) (pa_k ((px_v (i := 3) (by exact rfl))) (pa_k ((px_v (i := 4) (by exact rfl))) pa_n))) (.k (.k (.k .nil))) (.k (.k (.k .nil))) ⟨lacquer, x3.1, x3.2, rfl, by rw [h6]; rfl⟩ (hex _ _ h9)))
    · exact absurd h9 hne
    refine sx_seq (sx_asg (i := 5) ((px_call (x := t5) (outs := []) (X := X) (pa_k ((px_v (i := 0) (by exact rfl))) (pa_k ((px_v (i := 3) (by exact rfl))) (pa_k ((px_v (i := 4) (by exact rfl))) pa_n))) (.k (.k (.k .nil))) (.k (.k (.k .nil))) (by decide) ⟨lacquer, x3.1, x3.2, rfl, by rw [h6]; rfl⟩)) (nx_of ?_))
    refine sx_if (pt_B (px_notN nn_tx (px_v (i := 5) (by exact rfl)))) (fun e10 => ?_) (fun e10 => ?_)
    · have hm := (if_pos e10).symm.trans hm
      obtain ⟨word11, h12, hm⟩ := ob_ne hm hne
      refine sx_some (i := 5) rfl h12 ?_
      show Sx g B [.kp (lacquer : O_Lacquer), .kp (climate : O_Climate), .ow (found4 : (List (T3 Int Int Tx))), .kp (x3.1 : Int), .kp (x3.2 : Int), .kp (word11 : Tx)] _ _
      obtain ⟨g13, hm⟩ := gd_ne hm hne
      exact sx_append (i := 2) rfl ((px_tp3 ((px_v (i := 3) (by exact rfl))) ((px_v (i := 4) (by exact rfl))) ((px_v (i := 5) (by exact rfl))))) rfl trivial RdL.ow g13 (nx_le (LeE.cons .refl (LeE.cons .refl (LeE.cons .refl (LeE.cons .un (LeE.cons .un (LeE.cons .un LeE.nil)))))) (hnx _ hm.symm))
    · have hm := (if_neg (fun z_ => Bool.false_ne_true (e10.symm.trans z_))).symm.trans hm
      exact sx_next (nx_le (LeE.cons .refl (LeE.cons .refl (LeE.cons .refl (LeE.cons .un (LeE.cons .un (LeE.cons .un LeE.nil)))))) (hnx _ hm.symm))
  · rw [hs_] at hm
    clear hs_ hL_ hno_
    replace hm := rbind_ok hm
    refine nx_of ?_
    show Sx g B [.kp (lacquer : O_Lacquer), .kp (climate : O_Climate), .ow (found14 : (List (T3 Int Int Tx))), .un, .un, .un] _ _
    refine sx_freeze (i := 2) rfl (.inl hps) ?_
    exact sx_ret' ((px_v (i := 2) (by exact rfl))) hps .nil (hret _ hm.symm)

theorem ok_Unsound___init__ {g : Gx} {P : Program} {w : World} {mg : Str → Option Value} {base : Heap} {A : Ad} (T : Txt P g mg A) : FnOk P w g.K mg base (L2.CX P w) 1 A.f_Unsound___init__ A.d_Unsound___init__ ["self", "kind"] (spOex (g.ca (Str.ofString "Unsound")) (Str.ofString "kind")) := fn_super T.no_super T.sup_Unsound
def N_demand_sound : List Str := ["lacquer", "climate", "bad"]
theorem sc_demand_sound : FnScope N_demand_sound ["lacquer", "climate"] (defScope s_demand_sound) := ⟨rfl, rfl, rfl, by decide +kernel, rfl, by decide +kernel, by decide +kernel⟩
def rel_demand_sound (cs : List Ca) (o : Out) : Prop := ∃ (lacquer : O_Lacquer) (climate : O_Climate), cs = [.k lacquer, .k climate] ∧ res0 (m_demand_sound lacquer climate) o
theorem ok_demand_sound {g : Gx} {P : Program} {w : World} {mg : Str → Option Value} {base : Heap} {A : Ad} (T : Txt P g mg A) : FnOk P w g.K mg base (L2.CX P w) 7 A.f_demand_sound A.d_demand_sound ["lacquer", "climate"] (spOf g rel_demand_sound) := by
  refine fn_go T.F_demand_sound sc_demand_sound (fun cs o h => by obtain ⟨_, _, rfl, _⟩ := h; rfl) (by decide) (fun cdv A_ outer s H X hr => ⟨_, (pss_cons (ps_set (i := 2) sc_demand_sound.nd rfl (by first | exact Or.inl rfl | exact Or.inr rfl) (pe_call (ok_bad_kinds T) (hr.mono (by decide)) (by rfl) T.mg_bad_kinds T.kp_bad_kinds T.b_bad_kinds .nil (passes_call (takes_of rfl rfl rfl rfl) (fun _ _ _ _ h_ => h_)) (pa_cons (pv 0) (pa_cons (pv 1) pa_nil))))
 (pss_one (ps_if (pt_cmpR (op_neDK (K := g.K) rfl hr.units) (pv 2) (pe_lst pa_nil) (nomark _)) (pss_one (ps_raise rfl (takes_of rfl rfl rfl rfl) (pmk_oex T.sup_Unsound.oex T.in_Unsound T.ti_Unsound (ok_Unsound___init__ T) (hr.mono (by decide)) T.b_Unsound___init__ .nil passL (by rfl) T.mg_Unsound (pa_cons (pe_tup (pa_cons (pe_ix (ix_tupK (K := g.K) rfl) (pe_ix (ix_listK (K := g.K) rfl) (pv 2) pe_int (fun _ _ => rfl)) pe_int (fun _ _ => rfl)) (pa_cons (pe_ix (ix_tupK (K := g.K) rfl) (pe_ix (ix_listK (K := g.K) rfl) (pv 2) pe_int (fun _ _ => rfl)) pe_int (fun _ _ => rfl)) pa_nil))) pa_nil)))) pss_nil))), fun B qs cs o E D hps hrel hini hrt hx hfall => ?_⟩)
  obtain ⟨lacquer, climate, rfl, hrel⟩ := hrel
  generalize hm : m_demand_sound lacquer climate = r at hrel
  obtain ⟨hne, hret, hex⟩ := res0_ne hrel
  clear hrel
  obtain ⟨E1, rfl, hini1⟩ := ini_k hini
  obtain ⟨E2, rfl, hini2⟩ := ini_k hini1
  obtain ⟨rfl, rfl⟩ := ini_nil hini2
  have hfall := fun y_ h_ => hfall _ (hret y_ h_)
  have hret := fun y_ h_ => (hret y_ h_ ▸ hrt : DRt g B D.rt _)
  have hex := fun c_ d_ h_ => hx c_ d_ (hex c_ d_ h_)
  unfold m_demand_sound at hm
  show Sx g B [.kp (lacquer : O_Lacquer), .kp (climate : O_Climate), .un] _ _
  obtain ⟨t1, h2, hm⟩ := ob_ne hm hne
  refine sx_seq (sx_asg (i := 2) ((px_call (x := t1) (outs := []) (X := X) (pa_k ((px_v (i := 0) (by exact rfl))) (pa_k ((px_v (i := 1) (by exact rfl))) pa_n)) (.k (.k .nil)) (.k (.k .nil)) (by decide) ⟨lacquer, climate, rfl, by rw [(opt_ok h2)]; rfl⟩)) (nx_of ?_))
  obtain ⟨g3, hm⟩ := gd_ne hm hne
  refine sx_if (pt_test (px_neLG (pl_k (px_v (i := 2) (by exact rfl))) (pl_k ((PxN.pxA (T3 Int Int Tx) (pn_lst (xs := ([] : (List (T3 Int Int Tx)))) ps_nil (by decide))))) trivial trivial (by decide) g3)) (fun e4 => ?_) (fun e4 => ?_)
  · have hm := (if_pos e4).symm.trans hm
    obtain ⟨t5, h6, hm⟩ := ob_ne hm hne
    obtain ⟨t7, h8, hm⟩ := ob_ne hm hne
    exact sx_raiseP (c := Str.ofString "Unsound") (fl := Str.ofString "kind") (f := ([107, 105, 110, 100] : Tx)) rfl ((px_tup2 ((px_t30 (px_idx (pl_k (px_v (i := 2) (by exact rfl))) (px_int (n := 0)) trivial h6))) ((px_t31 (px_idx (pl_k (px_v (i := 2) (by exact rfl))) (px_int (n := 0)) trivial h8))))) (hex _ _ hm.symm)
  · have hm := (if_neg (fun z_ => Bool.false_ne_true (e4.symm.trans z_))).symm.trans hm
    exact sx_next (sx_fall' hps .nil (hfall _ hm.symm))

def N_saver_sight : List Str := ["lacquer", "climate"]
theorem sc_saver_sight : FnScope N_saver_sight ["lacquer", "climate"] (defScope s_saver_sight) := ⟨rfl, rfl, rfl, by decide +kernel, rfl, by decide +kernel, by decide +kernel⟩
def rel_saver_sight (cs : List Ca) (o : Out) : Prop := ∃ (lacquer : O_Lacquer) (climate : O_Climate), cs = [.k lacquer, .k climate] ∧ res0 (m_saver_sight lacquer climate) o
theorem ok_saver_sight {g : Gx} {P : Program} {w : World} {mg : Str → Option Value} {base : Heap} {A : Ad} (T : Txt P g mg A) : FnOk P w g.K mg base (L2.CX P w) 9 A.f_saver_sight A.d_saver_sight ["lacquer", "climate"] (spOf g rel_saver_sight) := by
  refine fn_go T.F_saver_sight sc_saver_sight (fun cs o h => by obtain ⟨_, _, rfl, _⟩ := h; rfl) (by decide) (fun cdv A_ outer s H X hr => ⟨_, (pss_cons (ps_expr (pe_call (ok_demand_sound T) (hr.mono (by decide)) (by rfl) T.mg_demand_sound T.kp_demand_sound T.b_demand_sound .nil (passes_call (takes_of rfl rfl rfl rfl) (fun _ _ _ _ h_ => h_)) (pa_cons (pv 0) (pa_cons (pv 1) pa_nil))))
 (pss_one (ps_ret (pe_op op_add (pe_op op_add (pe_prop (pv 0) T.c_Lacquer T.pr_Lacquer_slack.choose_spec (ok_Lacquer_slack T) (hr.mono (by decide)) T.b_Lacquer_slack .nil passL rfl) (pe_call (ok_lead_of T) (hr.mono (by decide)) (by rfl) T.mg_lead_of T.kp_lead_of T.b_lead_of .nil (passes_call (takes_of rfl rfl rfl rfl) (fun _ _ _ _ h_ => h_)) (pa_cons (pv 0) (pa_cons (pv 1) pa_nil)))) (pe_prop (pv 1) T.c_Climate T.pr_Climate_peak.choose_spec (ok_Climate_peak T) (hr.mono (by decide)) T.b_Climate_peak .nil passL rfl))))), fun B qs cs o E D hps hrel hini hrt hx hfall => ?_⟩)
  obtain ⟨lacquer, climate, rfl, hrel⟩ := hrel
  generalize hm : m_saver_sight lacquer climate = r at hrel
  obtain ⟨hne, hret, hex⟩ := res0_ne hrel
  clear hrel
  obtain ⟨E1, rfl, hini1⟩ := ini_k hini
  obtain ⟨E2, rfl, hini2⟩ := ini_k hini1
  obtain ⟨rfl, rfl⟩ := ini_nil hini2
  have hret := fun y_ h_ => (hret y_ h_ ▸ hrt : DRt g B D.rt _)
  have hex := fun c_ d_ h_ => hx c_ d_ (hex c_ d_ h_)
  unfold m_saver_sight at hm
  show Sx g B [.kp (lacquer : O_Lacquer), .kp (climate : O_Climate)] _ _
  rcases bind_cases hm with ⟨t1, h2, hm⟩ | ⟨c3, d4, h2, h5⟩ | h5
  rotate_left
  · exact sx_seq (sx_dropE (pe_callX (pa_k ((px_v (i := 0) (by exact rfl))) (pa_k ((px_v (i := 1) (by exact rfl))) pa_n)) (.k (.k .nil)) (.k (.k .nil)) ⟨lacquer, climate, rfl, by rw [h2]; rfl⟩ (hex _ _ h5)))
  · exact absurd h5 hne
  refine sx_seq (sx_drop ((px_call (x := t1) (outs := []) (X := X) (pa_k ((px_v (i := 0) (by exact rfl))) (pa_k ((px_v (i := 1) (by exact rfl))) pa_n)) (.k (.k .nil)) (.k (.k .nil)) (by decide) ⟨lacquer, climate, rfl, by rw [h2]; rfl⟩)) (nx_of ?_))
  obtain ⟨t6, h7, hm⟩ := ob_ne hm hne
  obtain ⟨t8, h9, hm⟩ := ob_ne hm hne
  obtain ⟨t10, h11, hm⟩ := ob_ne hm hne
  exact sx_ret' ((px_op (px_op (px_prop (X := E0) (fr_Lacquer (m := Str.ofString "slack") (by decide)) ((px_v (i := 0) (by exact rfl))) ⟨lacquer, rfl, by rw [(opt_ok h7)]; rfl⟩) (px_call (x := t8) (outs := []) (X := X) (pa_k ((px_v (i := 0) (by exact rfl))) (pa_k ((px_v (i := 1) (by exact rfl))) pa_n)) (.k (.k .nil)) (.k (.k .nil)) (by decide) ⟨lacquer, climate, rfl, by rw [(opt_ok h9)]; rfl⟩) r2_add) (px_prop (X := E0) (fr_Climate (m := Str.ofString "peak") (by decide)) ((px_v (i := 1) (by exact rfl))) ⟨climate, rfl, by rw [(opt_ok h11)]; rfl⟩) r2_add)) hps .nil (hret _ hm.symm)

def N_Weather___init__ : List Str := ["self", "lengths", "at", "length"]
theorem sc_Weather___init__ : FnScope N_Weather___init__ ["self", "lengths"] (defScope s_Weather___init__) := ⟨rfl, rfl, rfl, by decide +kernel, rfl, by decide +kernel, by decide +kernel⟩
def rel_Weather___init__ (cs : List Ca) (r : R O_Weather) : Prop := ∃ (lengths : (List Int)), cs = [.k lengths] ∧ r = m_Weather__init lengths
theorem ok_Weather___init__ {g : Gx} {P : Program} {w : World} {mg : Str → Option Value} {base : Heap} {A : Ad} (T : Txt P g mg A) : FnOk P w g.K mg base (L2.CX P w) 1 A.f_Weather___init__ A.d_Weather___init__ ["self", "lengths"] (spIni g O_Weather rel_Weather___init__) := by
  refine fn_ini T.F_Weather___init__ sc_Weather___init__ (fun cs o h => by obtain ⟨_, rfl, _⟩ := h; rfl) (by decide) (fun cdv A_ outer s H X hr => ⟨_, (pss_cons (ps_if (PW.pt (pw_or (L2.pt_not (pt_truthK (K := g.K) rfl (pv 1) (by intro _; rfl))) (pw_or (pt_cmpR op_lt (pe_callB (cr_minK (K := g.K) rfl rfl) (by rfl) T.no_min (by decide +kernel) (pa_cons (pv 1) pa_nil)) pe_int (nomark _)) (pw_or1 (pt_cmpR op_gt (pe_callB (cr_sumK (K := g.K) rfl rfl) (by rfl) T.no_sum (by decide +kernel) (pa_cons (pv 1) pa_nil)) (pe_gc (by rfl) T.mg_MOST_HOURS) (nomark _)))))) (pss_one (ps_raise rfl (takes_of rfl rfl rfl rfl) (pmk_own PySem.F.excBase_ValueError T.x_BadWeather T.mg_BadWeather T.kp_BadWeather (raises_own T.s_BadWeather T.t_BadWeather) (by rfl)))) pss_nil)
 (pss_cons (ps_fldK (K := g.K) rfl (pv 0) (pe_callTy (call_tuple_ofK (K := g.K) rfl) (by rfl) T.no_tuple (by decide +kernel) (pa_cons (pv 1) pa_nil)) rfl)
 (pss_one (ps_fldK (K := g.K) rfl (pv 0) (pe_bmK (K := g.K) rfl (pe_bm PySem.F.plainAttrs_str PySem.F.slot_str_join PySem.F.type_str_join (mt_joinK (K := g.K) rfl) pe_str (pa_cons (pe_lc (own := [("at", 2), ("length", 3)]) (by rfl) sc_Weather___init__.nd (pi_enum (by rfl) T.no_enumerate (pa_cons (pv 1) pa_nil)) (blkOk_by (own := [("at", 2), ("length", 3)]) (N := N_Weather___init__) (sc := defScope s_Weather___init__) (by decide +kernel)) (fun _ _ _ _ _ => (pg_tupK (K := g.K) (n := 2) rfl rfl (pgs_cons (pg_name (i := 2) sc_Weather___init__.nd rfl (by first | exact Or.inl rfl | exact Or.inr rfl)) (pgs_cons (pg_name (i := 3) sc_Weather___init__.nd rfl (by first | exact Or.inl rfl | exact Or.inr rfl)) pgs_nil)))) (fun _ _ _ _ _ => pts_nil) (fun _ _ _ _ _ => (pe_op op_repS (pe_ix ix_str (pe_gc (by rfl) T.mg_BOTH_SIGNS) (pe_op op_mod (pv 2) pe_int) (fun _ _ => rfl)) (pv 3)))) pa_nil))) rfl)))), fun B x_ dx_ cs r E D hP hrel hne hini hx hok => ?_⟩)
  obtain ⟨lengths, rfl, hr_⟩ := hrel
  obtain ⟨E1, rfl, hini1⟩ := ini_k hini
  obtain ⟨-, rfl⟩ := ini_nil hini1
  have hm := hr_.symm
  clear hr_
  have hex := hx
  unfold m_Weather__init at hm
  show Sx g B [.kp ((Adr.mk x_) : Adr), .kp (lengths : (List Int)), .un, .un] _ _
  obtain ⟨c3, h4, hm⟩ := ob_ne hm hne
  refine sx_seq (sx_if (pt_orR (c := c3) (pt_not (pt_tru (pl_k (px_v (i := 1) (by exact rfl))) trivial)) (fun e5_ => by
    have e5 := (if_neg (fun z_ => Bool.false_ne_true (e5_.symm.trans z_))).symm.trans (opt_ok h4)
    obtain ⟨t1, h2, e5⟩ := ob_ne e5 ok_ne
    have e5 := R.ok.inj e5
    subst e5
    exact (pt_or (pt_test (px_op ((px_min (pl_k (px_v (i := 1) (by exact rfl))) trivial h2)) ((px_int (n := 1))) r2_lt)) (fun _ => (pt_test (px_op ((px_sum (pl_k (px_v (i := 1) (by exact rfl))) trivial)) ((px_int (n := 200))) r2_gt))) (fun _ => rfl))) (fun e5_ => by
    have e5 := (if_pos e5_).symm.trans (opt_ok h4)
    have e5 := R.ok.inj e5
    subst e5
    exact ⟨rfl, rfl⟩)) (fun e6 => ?_) (fun e6 => ?_))
  · have hm := (if_pos e6).symm.trans hm
    exact sx_raise0 (c := Str.ofString "BadWeather") (hex _ _ hm.symm)
  · have hm := (if_neg (fun z_ => Bool.false_ne_true (e6.symm.trans z_))).symm.trans hm
    refine sx_next (nx_of ?_)
    refine sx_seq (sx_fld (x := x_) (C := (g.ca (Str.ofString "Weather"))) (f := Str.ofString "lengths") rfl hP ((px_tuple (pl_k (px_v (i := 1) (by exact rfl))) trivial)) T.c_Weather T.na_Weather_f_lengths (by first | decide | simp [putF]) (fun w1 F1 B r1 hP un1 => nx_of ?_))
    obtain ⟨g12, hm⟩ := gd_ne hm hne
    obtain ⟨ys13, h14, hm⟩ := ob_ne hm hne
    obtain ⟨g17, hm⟩ := gd_ne hm hne
    refine sx_fld (x := x_) (C := (g.ca (Str.ofString "Weather"))) (f := Str.ofString "_signs") rfl hP ((px_join (px_str (t := ([] : Tx)) rfl) (pl_k ((PxN.pxA Tx (pn_map (sr_enum ((px_v (i := 1) (by exact rfl)))) (tc_p (by decide) (by decide)) (opt_ok h14) g12 (by exact nowns2 (nown rfl (fun z_ => z_)) (nown rfl (fun z_ => z_))) (fun x_ => LeE.trans (leE_set rfl) (leE_set rfl)) (fun B_ x7 y15 n_ hx_ e16 => by
        obtain ⟨g8, e16⟩ := gd_ne e16 ok_ne
        obtain ⟨t9, h10, e16⟩ := ob_ne e16 ok_ne
        obtain ⟨g11, e16⟩ := gd_ne e16 ok_ne
        have e16 := R.ok.inj e16
        subst e16
        exact (px_repS (px_idxS (px_str (t := ([46, 35] : Tx)) rfl) (px_op (px_v (i := 2) (by exact rfl)) (px_int (n := 2)) (r2_mod (by decide))) g8 h10) (px_v (i := 3) (by exact rfl)) g11)))))) trivial g17)) T.c_Weather T.na_Weather_f_signs (by first | decide | simp [putF]) (fun w2 F2 B r2 hP un2 σ_ H_ ⟨F_, A_, s_⟩ => ?_)
    obtain ⟨q2, z2⟩ := un2 _ _ _ _ _ _ s_
    obtain ⟨q1, z1⟩ := un1 _ _ _ _ _ _ q2
    obtain ⟨p1_, p2_, _⟩ := s_.pr x_ _ hP
    exact hok _ hm.symm F_ A_ _ σ_ H_ _ q1 p1_ (s_.fa.free p2_) ⟨w1, w2, rfl, Rp.mono z1 r1, Rp.mono z2 r2⟩

def N_Weather_hours : List Str := ["self"]
theorem sc_Weather_hours : FnScope N_Weather_hours ["self"] (defScope s_Weather_hours) := ⟨rfl, rfl, rfl, by decide +kernel, rfl, by decide +kernel, by decide +kernel⟩
def rel_Weather_hours (cs : List Ca) (o : Out) : Prop := ∃ (self : O_Weather), cs = [.k self] ∧ res0 (m_Weather_hours self) o
theorem ok_Weather_hours {g : Gx} {P : Program} {w : World} {mg : Str → Option Value} {base : Heap} {A : Ad} (T : Txt P g mg A) : FnOk P w g.K mg base (L2.CX P w) 1 A.f_Weather_hours A.d_Weather_hours ["self"] (spOf g rel_Weather_hours) := by
  refine fn_go T.F_Weather_hours sc_Weather_hours (fun cs o h => by obtain ⟨_, rfl, _⟩ := h; rfl) (by decide) (fun cdv A_ outer s H X hr => ⟨_, (pss_one (ps_ret (pe_callB call_len_str (by rfl) T.no_len (by decide +kernel) (pa_cons (pe_fldK (K := g.K) rfl (pv 0) rfl) pa_nil)))), fun B qs cs o E D hps hrel hini hrt hx hfall => ?_⟩)
  obtain ⟨self, rfl, hrel⟩ := hrel
  generalize hm : m_Weather_hours self = r at hrel
  obtain ⟨hne, hret, hex⟩ := res0_ne hrel
  clear hrel
  obtain ⟨E1, rfl, hini1⟩ := ini_k hini
  obtain ⟨rfl, rfl⟩ := ini_nil hini1
  have hret := fun y_ h_ => (hret y_ h_ ▸ hrt : DRt g B D.rt _)
  have hex := fun c_ d_ h_ => hx c_ d_ (hex c_ d_ h_)
  unfold m_Weather_hours at hm
  show Sx g B [.kp (self : O_Weather)] _ _
  obtain ⟨g1, hm⟩ := gd_ne hm hne
  exact sx_ret' ((px_lenS (px_fld (has_Weather_f_signs T.c_Weather T.na_Weather_f_signs) ((px_v (i := 0) (by exact rfl)))) g1)) hps .nil (hret _ hm.symm)

def N_Weather_signs : List Str := ["self"]
theorem sc_Weather_signs : FnScope N_Weather_signs ["self"] (defScope s_Weather_signs) := ⟨rfl, rfl, rfl, by decide +kernel, rfl, by decide +kernel, by decide +kernel⟩
def rel_Weather_signs (cs : List Ca) (o : Out) : Prop := ∃ (self : O_Weather), cs = [.k self] ∧ res0 (m_Weather_signs self) o
theorem ok_Weather_signs {g : Gx} {P : Program} {w : World} {mg : Str → Option Value} {base : Heap} {A : Ad} (T : Txt P g mg A) : FnOk P w g.K mg base (L2.CX P w) 1 A.f_Weather_signs A.d_Weather_signs ["self"] (spOf g rel_Weather_signs) := by
  refine fn_go T.F_Weather_signs sc_Weather_signs (fun cs o h => by obtain ⟨_, rfl, _⟩ := h; rfl) (by decide) (fun cdv A_ outer s H X hr => ⟨_, (pss_one (ps_ret (pe_fldK (K := g.K) rfl (pv 0) rfl))), fun B qs cs o E D hps hrel hini hrt hx hfall => ?_⟩)
  obtain ⟨self, rfl, hrel⟩ := hrel
  generalize hm : m_Weather_signs self = r at hrel
  obtain ⟨hne, hret, hex⟩ := res0_ne hrel
  clear hrel
  obtain ⟨E1, rfl, hini1⟩ := ini_k hini
  obtain ⟨rfl, rfl⟩ := ini_nil hini1
  have hret := fun y_ h_ => (hret y_ h_ ▸ hrt : DRt g B D.rt _)
  have hex := fun c_ d_ h_ => hx c_ d_ (hex c_ d_ h_)
  unfold m_Weather_signs at hm
  show Sx g B [.kp (self : O_Weather)] _ _
  exact sx_ret' ((px_fld (has_Weather_f_signs T.c_Weather T.na_Weather_f_signs) ((px_v (i := 0) (by exact rfl))))) hps .nil (hret _ hm.symm)

def N_Weather_of_signs : List Str := ["signs", "lengths", "length", "at", "sign"]
theorem sc_Weather_of_signs : FnScope N_Weather_of_signs ["signs"] (defScope s_Weather_of_signs) := ⟨rfl, rfl, rfl, by decide +kernel, rfl, by decide +kernel, by decide +kernel⟩
def rel_Weather_of_signs (cs : List Ca) (o : Out) : Prop := ∃ (signs : Tx), cs = [.k signs] ∧ res0 (m_Weather_of_signs signs) o
theorem ok_Weather_of_signs {g : Gx} {P : Program} {w : World} {mg : Str → Option Value} {base : Heap} {A : Ad} (T : Txt P g mg A) : FnOk P w g.K mg base (L2.CX P w) 3 A.f_Weather_of_signs A.d_Weather_of_signs ["signs"] (spOf g rel_Weather_of_signs) := by
  refine fn_go T.F_Weather_of_signs sc_Weather_of_signs (fun cs o h => by obtain ⟨_, rfl, _⟩ := h; rfl) (by decide) (fun cdv A_ outer s H X hr => ⟨_, (pss_cons (ps_if (PW.pt (pw_or (L2.pt_not (pt_chain op_le op_le pe_int (pe_callB call_len_str (by rfl) T.no_len (by decide +kernel) (pa_cons (pv 0) pa_nil)) (pe_gc (by rfl) T.mg_MOST_HOURS))) (pw_or1 (pt_cmpR op_ne (pe_ix ix_str (pv 0) pe_int (fun _ _ => rfl)) pe_str (nomark _))))) (pss_one (ps_raise rfl (takes_of rfl rfl rfl rfl) (pmk_own PySem.F.excBase_ValueError T.x_BadWeather T.mg_BadWeather T.kp_BadWeather (raises_own T.s_BadWeather T.t_BadWeather) (by rfl)))) pss_nil)
 (pss_cons (ps_set (i := 1) sc_Weather_of_signs.nd rfl (by first | exact Or.inl rfl | exact Or.inr rfl) (pe_lst pa_nil))
 (pss_cons (ps_set (i := 2) sc_Weather_of_signs.nd rfl (by first | exact Or.inl rfl | exact Or.inr rfl) pe_int)
 (pss_cons (ps_for (passes_of rfl) rfl (pi_enumS (by rfl) T.no_enumerate (pa_cons (pv 0) pa_nil)) (pg_tupK (K := g.K) (n := 2) rfl rfl (pgs_cons (pg_name (i := 3) sc_Weather_of_signs.nd rfl (by first | exact Or.inl rfl | exact Or.inr rfl)) (pgs_cons (pg_name (i := 4) sc_Weather_of_signs.nd rfl (by first | exact Or.inl rfl | exact Or.inr rfl)) pgs_nil))) (pss_cons (ps_if (pt_cmpR op_notIn_sign (pv 4) (pe_gc (by rfl) T.mg_BOTH_SIGNS) (by rfl)) (pss_one (ps_raise rfl (takes_of rfl rfl rfl rfl) (pmk_own PySem.F.excBase_ValueError T.x_BadWeather T.mg_BadWeather T.kp_BadWeather (raises_own T.s_BadWeather T.t_BadWeather) (by rfl)))) pss_nil)
 (Evl.pss_cut (ps_if (PW.pt (pw_and (pt_cmpR op_gt (pv 3) pe_int (nomark _)) (pw_and1 (pt_cmpR op_ne (pv 4) (pe_ix ix_str (pv 0) (pe_op op_sub (pv 3) pe_int) (fun _ _ => rfl)) (nomark _))))) (pss_cons (ps_expr (pe_bm PySem.F.plainAttrs_list PySem.F.slot_list_append PySem.F.type_list_append mt_append (pv 1) (pa_cons (pv 2) pa_nil)))
 (pss_one (ps_set (i := 2) sc_Weather_of_signs.nd rfl (by first | exact Or.inl rfl | exact Or.inr rfl) pe_int))) pss_nil)
 (pss_one (ps_aug (i := 2) sc_Weather_of_signs.nd rfl (by first | exact Or.inl rfl | exact Or.inr rfl) pe_int ip_add)))))
 (pss_cons (ps_expr (pe_bm PySem.F.plainAttrs_list PySem.F.slot_list_append PySem.F.type_list_append mt_append (pv 1) (pa_cons (pv 2) pa_nil)))
 (pss_one (ps_ret (pe_make T.mk_Weather (ok_Weather___init__ T) (hr.mono (by decide)) (by rfl) T.mg_Weather T.b_Weather___init__ .nil (passes_call (takes_of rfl rfl rfl rfl) (fun _ _ _ _ h_ => h_)) (pa_cons (pv 1) pa_nil))))))))), fun B qs cs o E D hps hrel hini hrt hx hfall => ?_⟩)
  obtain ⟨signs, rfl, hrel⟩ := hrel
  generalize hm : m_Weather_of_signs signs = r at hrel
  obtain ⟨hne, hret, hex⟩ := res0_ne hrel
  clear hrel
  obtain ⟨E1, rfl, hini1⟩ := ini_k hini
  obtain ⟨rfl, rfl⟩ := ini_nil hini1
  have hret := fun y_ h_ => (hret y_ h_ ▸ hrt : DRt g B D.rt _)
  have hex := fun c_ d_ h_ => hx c_ d_ (hex c_ d_ h_)
  unfold m_Weather_of_signs at hm
  show Sx g B [.kp (signs : Tx), .un, .un, .un, .un] _ _
  obtain ⟨g1, hm⟩ := gd_ne hm hne
  obtain ⟨c5, h6, hm⟩ := ob_ne hm hne
  refine sx_seq (sx_if (pt_orR (c := c5) (pt_not (pt_test (px_chain (px_int (n := 1)) (px_lenS (px_v (i := 0) (by exact rfl)) g1) r2_le (fun _ => (px_int (n := 200))) (fun _ => r2_le) (fun _ => rfl)))) (fun e7_ => by
    have e7 := (if_neg (fun z_ => Bool.false_ne_true (e7_.symm.trans z_))).symm.trans (opt_ok h6)
    obtain ⟨g2, e7⟩ := gd_ne e7 ok_ne
    obtain ⟨t3, h4, e7⟩ := ob_ne e7 ok_ne
    have e7 := R.ok.inj e7
    subst e7
    exact (pt_test (px_op ((px_idxS (px_v (i := 0) (by exact rfl)) (px_int (n := 0)) g2 h4)) ((px_str (t := ([46] : Tx)) rfl)) r2_ne))) (fun e7_ => by
    have e7 := (if_pos e7_).symm.trans (opt_ok h6)
    have e7 := R.ok.inj e7
    subst e7
    exact ⟨rfl, rfl⟩)) (fun e8 => ?_) (fun e8 => ?_))
  · have hm := (if_pos e8).symm.trans hm
    exact sx_raise0 (c := Str.ofString "BadWeather") (hex _ _ hm.symm)
  · have hm := (if_neg (fun z_ => Bool.false_ne_true (e8.symm.trans z_))).symm.trans hm
    refine sx_next (nx_of ?_)
    obtain ⟨lengths9, h10, hm⟩ := elet_eq (v := ([] : (List Int))) hm
    refine sx_seq (sx_asgO (i := 1) (pn_eq (pn_lst (xs := ([] : (List Int))) ps_nil (by decide)) h10) (nx_of ?_))
    refine sx_seq (sx_asg (i := 2) ((px_int (n := 0))) (nx_of ?_))
    obtain ⟨out_, hL_, hno_, hm⟩ := bind_split hm hne
    refine sx_seq (sx_fold (s0 := (lengths9, (0 : Int))) (X := fun B_ c_ d_ => XkOk g B_ X c_ d_) (Ei := (fun ((lengths12, length13) : (List Int) × Int) => [.kp (signs : Tx), .ow (lengths12 : (List Int)), .kp (length13 : Int), .un, .un])) (fun _ _ _ _ n_ h_ => h_.nest n_) (sr_enumS (px_v (i := 0) (by exact rfl))) (tg_p) (by exact (LeE.cons .refl (LeE.cons .refl (LeE.cons .refl (LeE.cons .un (LeE.cons .un LeE.nil)))))) hL_ hno_ (fun c_ d_ h_ => hex c_ d_ (by rw [h_] at hm; exact hm.symm)) (fun B x11 s_ r_ D hB_ hx_ hm hne hnx hct hex => ?_) (fun s_ hs_ => ?_))
    · obtain ⟨lengths12, length13⟩ := s_
      have hps := hB_.1.trans hps
      show Sx g B [.kp (signs : Tx), .ow (lengths12 : (List Int)), .kp (length13 : Int), .kp (x11.1 : Int), .kp (x11.2 : Tx)] _ _
      obtain ⟨g14, hm⟩ := gd_ne hm hne
      refine sx_seq (sx_if (pt_test (px_op (px_v (i := 4) (by exact rfl)) (px_str (t := ([46, 35] : Tx)) rfl) (r2_ninS g14))) (fun e15 => ?_) (fun e15 => ?_))
      · have hm := (if_pos e15).symm.trans hm
        exact sx_raise0 (c := Str.ofString "BadWeather") (hex _ _ hm.symm)
      · have hm := (if_neg (fun z_ => Bool.false_ne_true (e15.symm.trans z_))).symm.trans hm
        refine sx_next (nx_of ?_)
        obtain ⟨c19, h20, hm⟩ := ob_ne hm hne
        obtain ⟨⟨lengths23, length24⟩, h27, hm⟩ := ob_ne hm hne
        refine sx_cut (E' := [.kp (signs : Tx), .ow (lengths23 : (List Int)), .kp (length24 : Int), .kp (x11.1 : Int), .kp (x11.2 : Tx)]) (fun M_ hM25 => ?_) ?_
        · clear hm
          refine sx_if (pt_andR (c := c19) (pt_test (px_op ((px_v (i := 3) (by exact rfl))) ((px_int (n := 0))) r2_gt)) (fun e21_ => by
            have e21 := (if_pos e21_).symm.trans (opt_ok h20)
            obtain ⟨g16, e21⟩ := gd_ne e21 ok_ne
            obtain ⟨t17, h18, e21⟩ := ob_ne e21 ok_ne
            have e21 := R.ok.inj e21
            subst e21
            exact (pt_test (px_op ((px_v (i := 4) (by exact rfl))) ((px_idxS (px_v (i := 0) (by exact rfl)) (px_op (px_v (i := 3) (by exact rfl)) (px_int (n := 1)) r2_sub) g16 h18)) r2_ne))) (fun e21_ => by
            have e21 := (if_neg (fun z_ => Bool.false_ne_true (e21_.symm.trans z_))).symm.trans (opt_ok h20)
            have e21 := R.ok.inj e21
            subst e21
            exact ⟨rfl, rfl⟩)) (fun e22 => ?_) (fun e22 => ?_)
          · have hm := (if_pos e22).symm.trans (opt_ok h27)
            obtain ⟨g26, hm⟩ := gd_ne hm ok_ne
            refine sx_seq (sx_append (i := 1) rfl ((px_v (i := 2) (by exact rfl))) rfl trivial RdL.ow g26 (nx_of ?_))
            try first | have hm := try_ok hm hT_ | have hm := tryD_ok hm hT_
            have hm := R.ok.inj hm
            obtain ⟨hm_a0, hm_b0⟩ := Prod.mk.inj hm
            subst hm_a0
            subst hm_b0
            exact sx_asg (i := 2) ((px_int (n := 0))) (nx_le (LeE.cons .refl (LeE.cons .refl (LeE.cons .refl (LeE.cons .refl (LeE.cons .refl LeE.nil))))) hM25)
          · have hm := (if_neg (fun z_ => Bool.false_ne_true (e22.symm.trans z_))).symm.trans (opt_ok h27)
            try first | have hm := try_ok hm hT_ | have hm := tryD_ok hm hT_
            have hm := R.ok.inj hm
            obtain ⟨hm_a0, hm_b0⟩ := Prod.mk.inj hm
            subst hm_a0
            subst hm_b0
            exact sx_next (nx_le (LeE.cons .refl (LeE.cons .refl (LeE.cons .refl (LeE.cons .refl (LeE.cons .refl LeE.nil))))) hM25)
        · exact sx_aug (i := 2) rfl (px_int (n := 1)) rfl (nx_le (LeE.cons .refl (LeE.cons .refl (LeE.cons .refl (LeE.cons .un (LeE.cons .un LeE.nil))))) (hnx _ hm.symm))
    · rw [hs_] at hm
      clear hs_ hL_ hno_
      obtain ⟨lengths28, length29⟩ := s_
      replace hm := rbind_ok hm
      refine nx_of ?_
      show Sx g B [.kp (signs : Tx), .ow (lengths28 : (List Int)), .kp (length29 : Int), .un, .un] _ _
      obtain ⟨g30, hm⟩ := gd_ne hm hne
      refine sx_seq (sx_append (i := 1) rfl ((px_v (i := 2) (by exact rfl))) rfl trivial RdL.ow g30 (nx_of ?_))
      refine sx_freeze (i := 1) rfl (.inl hps) ?_
      rcases bind_cases hm with ⟨t31, h32, hm⟩ | ⟨c33, d34, h32, h35⟩ | h35
      rotate_left
      · exact sx_retE (pe_makeX rfl (pa_k ((px_v (i := 1) (by exact rfl))) pa_n) (.k .nil) (.k .nil) ⟨(lengths28 ++ [length29]), rfl, h32.symm⟩ (hex _ _ h35))
      · exact absurd h35 hne
      exact sx_ret' ((px_make (x := t31) (X := X) rfl (pa_k ((px_v (i := 1) (by exact rfl))) pa_n) (.k .nil) (.k .nil) ⟨(lengths28 ++ [length29]), rfl, h32.symm⟩)) hps .nil (hret _ hm.symm)

def N_dry_flags : List Str := ["signs", "sign"]
theorem sc_dry_flags : FnScope N_dry_flags ["signs"] (defScope s_dry_flags) := ⟨rfl, rfl, rfl, by decide +kernel, rfl, by decide +kernel, by decide +kernel⟩
def rel_dry_flags (cs : List Ca) (o : Out) : Prop := ∃ (signs : Tx), cs = [.k signs] ∧ resN (m_dry_flags signs) o
theorem ok_dry_flags {g : Gx} {P : Program} {w : World} {mg : Str → Option Value} {base : Heap} {A : Ad} (T : Txt P g mg A) : FnOk P w g.K mg base (L2.CX P w) 1 A.f_dry_flags A.d_dry_flags ["signs"] (spOf g rel_dry_flags) := by
  refine fn_go T.F_dry_flags sc_dry_flags (fun cs o h => by obtain ⟨_, rfl, _⟩ := h; rfl) (by decide) (fun cdv A_ outer s H X hr => ⟨_, (pss_one (ps_ret (pe_op op_cat (pe_lst (pa_cons pe_bl pa_nil)) (pe_lc (own := [("sign", 1)]) (by rfl) sc_dry_flags.nd (pi_str (pv 0)) (blkOk_by (own := [("sign", 1)]) (N := N_dry_flags) (sc := defScope s_dry_flags) (by decide +kernel)) (fun _ _ _ _ _ => (pg_name (i := 1) sc_dry_flags.nd rfl (by first | exact Or.inl rfl | exact Or.inr rfl))) (fun _ _ _ _ _ => pts_nil) (fun _ _ _ _ _ => (pe_cmpR op_eq (pv 1) pe_str (nomark _))))))), fun B qs cs o E D hps hrel hini hrt hx hfall => ?_⟩)
  obtain ⟨signs, rfl, hrel⟩ := hrel
  generalize hm : m_dry_flags signs = r at hrel
  obtain ⟨hne, hret, hex⟩ := resN_ne hrel
  clear hrel
  obtain ⟨E1, rfl, hini1⟩ := ini_k hini
  obtain ⟨rfl, rfl⟩ := ini_nil hini1
  have hret := fun y_ h_ => (hret y_ h_ ▸ hrt : DRt g B D.rt _)
  have hex := fun c_ d_ h_ => hx c_ d_ (hex c_ d_ h_)
  unfold m_dry_flags at hm
  show Sx g B [.kp (signs : Tx), .un] _ _
  obtain ⟨g2, hm⟩ := gd_ne hm hne
  obtain ⟨ys3, h4, hm⟩ := ob_ne hm hne
  obtain ⟨g7, hm⟩ := gd_ne hm hne
  exact sx_retW (pn_cat (pl_k ((PxN.pxA Bool (pn_lst (ps_cons (px_bl) ps_nil) (by simp only [List.length_cons, List.length_nil]; decide))))) (pl_k ((PxN.pxA Bool (pn_map (sr_str (px_v (i := 0) (by exact rfl))) (tc_n (by decide)) (opt_ok h4) g2 (by exact nowns1 (nown rfl (fun z_ => z_))) (fun x_ => leE_set rfl) (fun B_ x1 y5 n_ hx_ e6 => by
      have e6 := R.ok.inj e6
      subst e6
      exact (px_op ((px_v (i := 1) (by exact rfl))) ((px_str (t := ([46] : Tx)) rfl)) r2_eq)))))) trivial trivial g7) hps .nil (hret _ hm.symm)

def N_flagged : List Str := ["flags", "hour"]
theorem sc_flagged : FnScope N_flagged ["flags"] (defScope s_flagged) := ⟨rfl, rfl, rfl, by decide +kernel, rfl, by decide +kernel, by decide +kernel⟩
def rel_flagged (cs : List Ca) (o : Out) : Prop := ∃ (flags : (List Bool)), cs = [.k flags] ∧ res0 (m_flagged flags) o
theorem ok_flagged {g : Gx} {P : Program} {w : World} {mg : Str → Option Value} {base : Heap} {A : Ad} (T : Txt P g mg A) : FnOk P w g.K mg base (L2.CX P w) 1 A.f_flagged A.d_flagged ["flags"] (spOf g rel_flagged) := by
  refine fn_go T.F_flagged sc_flagged (fun cs o h => by obtain ⟨_, rfl, _⟩ := h; rfl) (by decide) (fun cdv A_ outer s H X hr => ⟨_, (pss_one (ps_ret (pe_lc (own := [("hour", 1)]) (by rfl) sc_flagged.nd (pi_range1 (by rfl) T.no_range (pa_cons (pe_callB (call_len_seqK (K := g.K) rfl) (by rfl) T.no_len (by decide +kernel) (pa_cons (pv 0) pa_nil)) pa_nil)) (blkOk_by (own := [("hour", 1)]) (N := N_flagged) (sc := defScope s_flagged) (by decide +kernel)) (fun _ _ _ _ _ => (pg_name (i := 1) sc_flagged.nd rfl (by first | exact Or.inl rfl | exact Or.inr rfl))) (fun _ _ _ _ _ => pts_one (pt_val (pe_ix (ix_listK (K := g.K) rfl) (pv 0) (pv 1) (fun _ _ => rfl)))) (fun _ _ _ _ _ => (pv 1))))), fun B qs cs o E D hps hrel hini hrt hx hfall => ?_⟩)
  obtain ⟨flags, rfl, hrel⟩ := hrel
  generalize hm : m_flagged flags = r at hrel
  obtain ⟨hne, hret, hex⟩ := res0_ne hrel
  clear hrel
  obtain ⟨E1, rfl, hini1⟩ := ini_k hini
  obtain ⟨rfl, rfl⟩ := ini_nil hini1
  have hret := fun y_ h_ => (hret y_ h_ ▸ hrt : DRt g B D.rt _)
  have hex := fun c_ d_ h_ => hx c_ d_ (hex c_ d_ h_)
  unfold m_flagged at hm
  show Sx g B [.kp (flags : (List Bool)), .un] _ _
  obtain ⟨g1, hm⟩ := gd_ne hm hne
  obtain ⟨g5, hm⟩ := gd_ne hm hne
  obtain ⟨ys6, h7, hm⟩ := ob_ne hm hne
  exact sx_ret' ((PxN.pxA Int (pn_fil (sr_r1 (px_len (pl_k (px_v (i := 0) (by exact rfl))) trivial) g1) (tc_n (by decide)) (opt_ok h7) g5 (by exact nowns1 (nown rfl (fun z_ => z_))) (fun x_ => leE_set rfl) (fun B_ x2 r8 n_ hx_ e9 => by
      obtain ⟨t3, h4, e9⟩ := ob_ne e9 ok_ne
      refine ⟨_, (pt_B (px_idx (pl_k (px_v (i := 0) (by exact rfl))) (px_v (i := 1) (by exact rfl)) trivial h4)), fun e10 => ?_, fun e10 => ?_⟩
      · have e9 := (if_pos e10).symm.trans e9
        have e9 := R.ok.inj e9
        subst e9
        exact ⟨_, rfl, (px_v (i := 1) (by exact rfl))⟩
      · have e9 := (if_neg (fun z_ => Bool.false_ne_true (e10.symm.trans z_))).symm.trans e9
        have e9 := R.ok.inj e9
        exact e9.symm)))) hps .nil (hret _ hm.symm)

def N_reach_flags : List Str := ["lacquer", "dry", "flags", "hour"]
theorem sc_reach_flags : FnScope N_reach_flags ["lacquer", "dry"] (defScope s_reach_flags) := ⟨rfl, rfl, rfl, by decide +kernel, rfl, by decide +kernel, by decide +kernel⟩
def rel_reach_flags (cs : List Ca) (o : Out) : Prop := ∃ (lacquer : O_Lacquer) (dry : (List Bool)), cs = [.k lacquer, .k dry] ∧ res0 (m_reach_flags lacquer dry) o
theorem ok_reach_flags {g : Gx} {P : Program} {w : World} {mg : Str → Option Value} {base : Heap} {A : Ad} (T : Txt P g mg A) : FnOk P w g.K mg base (L2.CX P w) 1 A.f_reach_flags A.d_reach_flags ["lacquer", "dry"] (spOf g rel_reach_flags) := by
  refine fn_go T.F_reach_flags sc_reach_flags (fun cs o h => by obtain ⟨_, _, rfl, _⟩ := h; rfl) (by decide) (fun cdv A_ outer s H X hr => ⟨_, (pss_cons (ps_set (i := 2) sc_reach_flags.nd rfl (by first | exact Or.inl rfl | exact Or.inr rfl) (pe_op op_rep (pe_lst (pa_cons pe_bl pa_nil)) (pe_callB (call_len_seqK (K := g.K) rfl) (by rfl) T.no_len (by decide +kernel) (pa_cons (pv 1) pa_nil))))
 (pss_cons (ps_asg pe_bl (pg_sub (pv 2) pe_int set_list))
 (pss_cons (ps_for (passes_of rfl) rfl (pi_range2 (by rfl) T.no_range (pa_cons pe_int (pa_cons (pe_callB (call_len_seqK (K := g.K) rfl) (by rfl) T.no_len (by decide +kernel) (pa_cons (pv 1) pa_nil)) pa_nil))) (pg_name (i := 3) sc_reach_flags.nd rfl (by first | exact Or.inl rfl | exact Or.inr rfl)) (pss_one (ps_if (pt_val (pe_ix (ix_listK (K := g.K) rfl) (pv 1) (pv 3) (fun _ _ => rfl))) (pss_one (ps_asg (pe_callB (cr_anyK (K := g.K) rfl rfl) (by rfl) T.no_any (by decide +kernel) (pa_cons (pe_slice (sl_listK (K := g.K) rfl) (pv 2) (po_some (pe_callB (call_max2 rfl) (by rfl) T.no_max (by decide +kernel) (pa_cons (pe_op op_sub (pv 3) (pe_fldK (K := g.K) rfl (pv 0) rfl)) (pa_cons pe_int pa_nil)))) (po_some (pe_callB (call_max2 rfl) (by rfl) T.no_max (by decide +kernel) (pa_cons (pe_op op_add (pe_op op_sub (pv 3) (pe_fldK (K := g.K) rfl (pv 0) rfl)) pe_int) (pa_cons pe_int pa_nil))))) pa_nil)) (pg_sub (pv 2) (pv 3) set_list))) pss_nil)))
 (pss_one (ps_ret (pv 2)))))), fun B qs cs o E D hps hrel hini hrt hx hfall => ?_⟩)
  obtain ⟨lacquer, dry, rfl, hrel⟩ := hrel
  generalize hm : m_reach_flags lacquer dry = r at hrel
  obtain ⟨hne, hret, hex⟩ := res0_ne hrel
  clear hrel
  obtain ⟨E1, rfl, hini1⟩ := ini_k hini
  obtain ⟨E2, rfl, hini2⟩ := ini_k hini1
  obtain ⟨rfl, rfl⟩ := ini_nil hini2
  have hret := fun y_ h_ => (hret y_ h_ ▸ hrt : DRt g B D.rt _)
  have hex := fun c_ d_ h_ => hx c_ d_ (hex c_ d_ h_)
  unfold m_reach_flags at hm
  show Sx g B [.kp (lacquer : O_Lacquer), .kp (dry : (List Bool)), .un, .un] _ _
  obtain ⟨g1, hm⟩ := gd_ne hm hne
  obtain ⟨flags2, h3, hm⟩ := elet_eq (v := ((repL ([false]) (dry.length : Int)) : (List Bool))) hm
  refine sx_seq (sx_asgO (i := 2) (pn_eq (pn_rep (pl_k ((PxN.pxA Bool (pn_lst (ps_cons (px_bl) ps_nil) (by simp only [List.length_cons, List.length_nil]; decide))))) (px_len (pl_k (px_v (i := 1) (by exact rfl))) trivial) trivial g1) h3) (nx_of ?_))
  obtain ⟨flags4, h5, hm⟩ := ob_ne hm hne
  refine sx_seq (sx_setitem (i := 2) (px_bl) rfl (px_int (n := 1)) rfl trivial RdL.ow h5 (nx_of ?_))
  obtain ⟨g6, hm⟩ := gd_ne hm hne
  obtain ⟨out_, hL_, hno_, hm⟩ := bind_split hm hne
  refine sx_seq (sx_fold (s0 := flags4) (X := fun B_ c_ d_ => XkOk g B_ X c_ d_) (Ei := (fun (flags8 : (List Bool)) => [.kp (lacquer : O_Lacquer), .kp (dry : (List Bool)), .ow (flags8 : (List Bool)), .un])) (fun _ _ _ _ n_ h_ => h_.nest n_) (sr_r2 (px_int (n := 2)) (px_len (pl_k (px_v (i := 1) (by exact rfl))) trivial) (by decide) g6) (tg_n) (by exact (LeE.cons .refl (LeE.cons .refl (LeE.cons .refl (LeE.cons .un LeE.nil))))) hL_ hno_ (fun c_ d_ h_ => hex c_ d_ (by rw [h_] at hm; exact hm.symm)) (fun B x7 flags8 r_ D hB_ hx_ hm hne hnx hct hex => ?_) (fun flags14 hs_ => ?_))
  · have hps := hB_.1.trans hps
    show Sx g B [.kp (lacquer : O_Lacquer), .kp (dry : (List Bool)), .ow (flags8 : (List Bool)), .kp (x7 : Int)] _ _
    obtain ⟨t9, h10, hm⟩ := ob_ne hm hne
    refine sx_if (pt_B (px_idx (pl_k (px_v (i := 1) (by exact rfl))) (px_v (i := 3) (by exact rfl)) trivial h10)) (fun e11 => ?_) (fun e11 => ?_)
    · have hm := (if_pos e11).symm.trans hm
      obtain ⟨flags12, h13, hm⟩ := ob_ne hm hne
      exact sx_setitem (i := 2) ((px_any (pl_k ((PxN.pxA Bool (pn_sl (pl_s (i := 2) (by exact rfl) RdL.ow) (po_yes (px_max2 (px_op (px_v (i := 3) (by exact rfl)) (px_fld (has_Lacquer_f_b T.c_Lacquer T.na_Lacquer_f_b) ((px_v (i := 0) (by exact rfl)))) r2_sub) (px_int (n := 0)))) (po_yes (px_max2 (px_op (px_op (px_v (i := 3) (by exact rfl)) (px_fld (has_Lacquer_f_a T.c_Lacquer T.na_Lacquer_f_a) ((px_v (i := 0) (by exact rfl)))) r2_sub) (px_int (n := 1)) r2_add) (px_int (n := 0)))) rfl)))) trivial)) rfl (px_v (i := 3) (by exact rfl)) rfl trivial RdL.ow h13 (nx_le (LeE.cons .refl (LeE.cons .refl (LeE.cons .refl (LeE.cons .un LeE.nil)))) (hnx _ hm.symm))
    · have hm := (if_neg (fun z_ => Bool.false_ne_true (e11.symm.trans z_))).symm.trans hm
      exact sx_next (nx_le (LeE.cons .refl (LeE.cons .refl (LeE.cons .refl (LeE.cons .un LeE.nil)))) (hnx _ hm.symm))
  · rw [hs_] at hm
    clear hs_ hL_ hno_
    replace hm := rbind_ok hm
    refine nx_of ?_
    show Sx g B [.kp (lacquer : O_Lacquer), .kp (dry : (List Bool)), .ow (flags14 : (List Bool)), .un] _ _
    refine sx_freeze (i := 2) rfl (.inl hps) ?_
    exact sx_ret' ((px_v (i := 2) (by exact rfl))) hps .nil (hret _ hm.symm)

def N_end_flags : List Str := ["lacquer", "dry", "hour"]
theorem sc_end_flags : FnScope N_end_flags ["lacquer", "dry"] (defScope s_end_flags) := ⟨rfl, rfl, rfl, by decide +kernel, rfl, by decide +kernel, by decide +kernel⟩
def rel_end_flags (cs : List Ca) (o : Out) : Prop := ∃ (lacquer : O_Lacquer) (dry : (List Bool)), cs = [.k lacquer, .k dry] ∧ resN (m_end_flags lacquer dry) o
theorem ok_end_flags {g : Gx} {P : Program} {w : World} {mg : Str → Option Value} {base : Heap} {A : Ad} (T : Txt P g mg A) : FnOk P w g.K mg base (L2.CX P w) 1 A.f_end_flags A.d_end_flags ["lacquer", "dry"] (spOf g rel_end_flags) := by
  refine fn_go T.F_end_flags sc_end_flags (fun cs o h => by obtain ⟨_, _, rfl, _⟩ := h; rfl) (by decide) (fun cdv A_ outer s H X hr => ⟨_, (pss_one (ps_ret (pe_lc (own := [("hour", 2)]) (by rfl) sc_end_flags.nd (pi_range1 (by rfl) T.no_range (pa_cons (pe_callB (call_len_seqK (K := g.K) rfl) (by rfl) T.no_len (by decide +kernel) (pa_cons (pv 1) pa_nil)) pa_nil)) (blkOk_by (own := [("hour", 2)]) (N := N_end_flags) (sc := defScope s_end_flags) (by decide +kernel)) (fun _ _ _ _ _ => (pg_name (i := 2) sc_end_flags.nd rfl (by first | exact Or.inl rfl | exact Or.inr rfl))) (fun _ _ _ _ _ => pts_nil) (fun _ _ _ _ _ => (pe_and (pe_ix (ix_listK (K := g.K) rfl) (pv 1) (pv 2) (fun _ _ => rfl)) (pe_one (pe_cmpR op_ge (pe_op op_add (pv 2) (pe_fldK (K := g.K) rfl (pv 0) rfl)) (pe_callB (call_len_seqK (K := g.K) rfl) (by rfl) T.no_len (by decide +kernel) (pa_cons (pv 1) pa_nil)) (nomark _)))))))), fun B qs cs o E D hps hrel hini hrt hx hfall => ?_⟩)
  obtain ⟨lacquer, dry, rfl, hrel⟩ := hrel
  generalize hm : m_end_flags lacquer dry = r at hrel
  obtain ⟨hne, hret, hex⟩ := resN_ne hrel
  clear hrel
  obtain ⟨E1, rfl, hini1⟩ := ini_k hini
  obtain ⟨E2, rfl, hini2⟩ := ini_k hini1
  obtain ⟨rfl, rfl⟩ := ini_nil hini2
  have hret := fun y_ h_ => (hret y_ h_ ▸ hrt : DRt g B D.rt _)
  have hex := fun c_ d_ h_ => hx c_ d_ (hex c_ d_ h_)
  unfold m_end_flags at hm
  show Sx g B [.kp (lacquer : O_Lacquer), .kp (dry : (List Bool)), .un] _ _
  obtain ⟨g1, hm⟩ := gd_ne hm hne
  obtain ⟨g5, hm⟩ := gd_ne hm hne
  obtain ⟨ys6, h7, hm⟩ := ob_ne hm hne
  exact sx_retW (pn_map (sr_r1 (px_len (pl_k (px_v (i := 1) (by exact rfl))) trivial) g1) (tc_n (by decide)) (opt_ok h7) g5 (by exact nowns1 (nown rfl (fun z_ => z_))) (fun x_ => leE_set rfl) (fun B_ x2 y8 n_ hx_ e9 => by
      obtain ⟨t3, h4, e9⟩ := ob_ne e9 ok_ne
      have e9 := R.ok.inj e9
      subst e9
      exact (px_and (px_idx (pl_k (px_v (i := 1) (by exact rfl))) (px_v (i := 2) (by exact rfl)) trivial h4) (fun _ => (px_op ((px_op (px_v (i := 2) (by exact rfl)) (px_fld (has_Lacquer_f_b T.c_Lacquer T.na_Lacquer_f_b) ((px_v (i := 0) (by exact rfl)))) r2_add)) ((px_len (pl_k (px_v (i := 1) (by exact rfl))) trivial)) r2_ge)) (fun _ => rfl)))) hps .nil (hret _ hm.symm)

def N_onward_flags : List Str := ["lacquer", "dry", "flags", "hour"]
theorem sc_onward_flags : FnScope N_onward_flags ["lacquer", "dry"] (defScope s_onward_flags) := ⟨rfl, rfl, rfl, by decide +kernel, rfl, by decide +kernel, by decide +kernel⟩
def rel_onward_flags (cs : List Ca) (o : Out) : Prop := ∃ (lacquer : O_Lacquer) (dry : (List Bool)), cs = [.k lacquer, .k dry] ∧ res0 (m_onward_flags lacquer dry) o
theorem ok_onward_flags {g : Gx} {P : Program} {w : World} {mg : Str → Option Value} {base : Heap} {A : Ad} (T : Txt P g mg A) : FnOk P w g.K mg base (L2.CX P w) 2 A.f_onward_flags A.d_onward_flags ["lacquer", "dry"] (spOf g rel_onward_flags) := by
  refine fn_go T.F_onward_flags sc_onward_flags (fun cs o h => by obtain ⟨_, _, rfl, _⟩ := h; rfl) (by decide) (fun cdv A_ outer s H X hr => ⟨_, (pss_cons (ps_set (i := 2) sc_onward_flags.nd rfl (by first | exact Or.inl rfl | exact Or.inr rfl) (pe_call (ok_end_flags T) (hr.mono (by decide)) (by rfl) T.mg_end_flags T.kp_end_flags T.b_end_flags .nil (passes_call (takes_of rfl rfl rfl rfl) (fun _ _ _ _ h_ => h_)) (pa_cons (pv 0) (pa_cons (pv 1) pa_nil))))
 (pss_cons (ps_for (passes_of rfl) rfl (pi_range3 (by rfl) T.no_range (pa_cons (pe_op op_sub (pe_callB (call_len_seqK (K := g.K) rfl) (by rfl) T.no_len (by decide +kernel) (pa_cons (pv 1) pa_nil)) pe_int) (pa_cons pe_int (pa_cons (pe_un un_neg pe_int) pa_nil)))) (pg_name (i := 3) sc_onward_flags.nd rfl (by first | exact Or.inl rfl | exact Or.inr rfl)) (pss_one (ps_if (PW.pt (pw_and (pt_val (pe_ix (ix_listK (K := g.K) rfl) (pv 1) (pv 3) (fun _ _ => rfl))) (pw_and1 (pt_val (pe_callB (cr_anyK (K := g.K) rfl rfl) (by rfl) T.no_any (by decide +kernel) (pa_cons (pe_slice (sl_listK (K := g.K) rfl) (pv 2) (po_some (pe_op op_add (pv 3) (pe_fldK (K := g.K) rfl (pv 0) rfl))) (po_some (pe_op op_add (pe_op op_add (pv 3) (pe_fldK (K := g.K) rfl (pv 0) rfl)) pe_int))) pa_nil)))))) (pss_one (ps_asg pe_bl (pg_sub (pv 2) (pv 3) set_list))) pss_nil)))
 (pss_one (ps_ret (pv 2))))), fun B qs cs o E D hps hrel hini hrt hx hfall => ?_⟩)
  obtain ⟨lacquer, dry, rfl, hrel⟩ := hrel
  generalize hm : m_onward_flags lacquer dry = r at hrel
  obtain ⟨hne, hret, hex⟩ := res0_ne hrel
  clear hrel
  obtain ⟨E1, rfl, hini1⟩ := ini_k hini
  obtain ⟨E2, rfl, hini2⟩ := ini_k hini1
  obtain ⟨rfl, rfl⟩ := ini_nil hini2
  have hret := fun y_ h_ => (hret y_ h_ ▸ hrt : DRt g B D.rt _)
  have hex := fun c_ d_ h_ => hx c_ d_ (hex c_ d_ h_)
  unfold m_onward_flags at hm
  show Sx g B [.kp (lacquer : O_Lacquer), .kp (dry : (List Bool)), .un, .un] _ _
  obtain ⟨t1, h2, hm⟩ := ob_ne hm hne
  refine sx_seq (sx_asgO (i := 2) (px_callN (xs := t1) (outs := []) (X := X) (pa_k ((px_v (i := 0) (by exact rfl))) (pa_k ((px_v (i := 1) (by exact rfl))) pa_n)) (.k (.k .nil)) (.k (.k .nil)) (by decide) ⟨lacquer, dry, rfl, by rw [(opt_ok h2)]; rfl⟩) (nx_of ?_))
  obtain ⟨g3, hm⟩ := gd_ne hm hne
  obtain ⟨out_, hL_, hno_, hm⟩ := bind_split hm hne
  refine sx_seq (sx_fold (s0 := t1) (X := fun B_ c_ d_ => XkOk g B_ X c_ d_) (Ei := (fun (flags5 : (List Bool)) => [.kp (lacquer : O_Lacquer), .kp (dry : (List Bool)), .ow (flags5 : (List Bool)), .un])) (fun _ _ _ _ n_ h_ => h_.nest n_) (sr_rD (px_op (px_len (pl_k (px_v (i := 1) (by exact rfl))) trivial) (px_int (n := 1)) r2_sub) (px_int (n := 0)) (px_un (px_int (n := 1)) r1_neg) g3 (by decide)) (tg_n) (by exact (LeE.cons .refl (LeE.cons .refl (LeE.cons .refl (LeE.cons .un LeE.nil))))) hL_ hno_ (fun c_ d_ h_ => hex c_ d_ (by rw [h_] at hm; exact hm.symm)) (fun B x4 flags5 r_ D hB_ hx_ hm hne hnx hct hex => ?_) (fun flags11 hs_ => ?_))
  · have hps := hB_.1.trans hps
    show Sx g B [.kp (lacquer : O_Lacquer), .kp (dry : (List Bool)), .ow (flags5 : (List Bool)), .kp (x4 : Int)] _ _
    obtain ⟨t6, h7, hm⟩ := ob_ne hm hne
    refine sx_if (pt_and (pt_B (px_idx (pl_k (px_v (i := 1) (by exact rfl))) (px_v (i := 3) (by exact rfl)) trivial h7)) (fun _ => (pt_B (px_any (pl_k ((PxN.pxA Bool (pn_sl (pl_s (i := 2) (by exact rfl) RdL.ow) (po_yes (px_op (px_v (i := 3) (by exact rfl)) (px_fld (has_Lacquer_f_a T.c_Lacquer T.na_Lacquer_f_a) ((px_v (i := 0) (by exact rfl)))) r2_add)) (po_yes (px_op (px_op (px_v (i := 3) (by exact rfl)) (px_fld (has_Lacquer_f_b T.c_Lacquer T.na_Lacquer_f_b) ((px_v (i := 0) (by exact rfl)))) r2_add) (px_int (n := 1)) r2_add)) rfl)))) trivial))) (fun _ => rfl)) (fun e8 => ?_) (fun e8 => ?_)
    · have hm := (if_pos e8).symm.trans hm
      obtain ⟨flags9, h10, hm⟩ := ob_ne hm hne
      exact sx_setitem (i := 2) (px_bl) rfl (px_v (i := 3) (by exact rfl)) rfl trivial RdL.ow h10 (nx_le (LeE.cons .refl (LeE.cons .refl (LeE.cons .refl (LeE.cons .un LeE.nil)))) (hnx _ hm.symm))
    · have hm := (if_neg (fun z_ => Bool.false_ne_true (e8.symm.trans z_))).symm.trans hm
      exact sx_next (nx_le (LeE.cons .refl (LeE.cons .refl (LeE.cons .refl (LeE.cons .un LeE.nil)))) (hnx _ hm.symm))
  · rw [hs_] at hm
    clear hs_ hL_ hno_
    replace hm := rbind_ok hm
    refine nx_of ?_
    show Sx g B [.kp (lacquer : O_Lacquer), .kp (dry : (List Bool)), .ow (flags11 : (List Bool)), .un] _ _
    refine sx_freeze (i := 2) rfl (.inl hps) ?_
    exact sx_ret' ((px_v (i := 2) (by exact rfl))) hps .nil (hret _ hm.symm)

def N_reached : List Str := ["lacquer", "weather"]
theorem sc_reached : FnScope N_reached ["lacquer", "weather"] (defScope s_reached) := ⟨rfl, rfl, rfl, by decide +kernel, rfl, by decide +kernel, by decide +kernel⟩
def rel_reached (cs : List Ca) (o : Out) : Prop := ∃ (lacquer : O_Lacquer) (weather : O_Weather), cs = [.k lacquer, .k weather] ∧ res0 (m_reached lacquer weather) o
theorem ok_reached {g : Gx} {P : Program} {w : World} {mg : Str → Option Value} {base : Heap} {A : Ad} (T : Txt P g mg A) : FnOk P w g.K mg base (L2.CX P w) 2 A.f_reached A.d_reached ["lacquer", "weather"] (spOf g rel_reached) := by
  refine fn_go T.F_reached sc_reached (fun cs o h => by obtain ⟨_, _, rfl, _⟩ := h; rfl) (by decide) (fun cdv A_ outer s H X hr => ⟨_, (pss_one (ps_ret (pe_call (ok_flagged T) (hr.mono (by decide)) (by rfl) T.mg_flagged T.kp_flagged T.b_flagged .nil (passes_call (takes_of rfl rfl rfl rfl) (fun _ _ _ _ h_ => h_)) (pa_cons (pe_call (ok_reach_flags T) (hr.mono (by decide)) (by rfl) T.mg_reach_flags T.kp_reach_flags T.b_reach_flags .nil (passes_call (takes_of rfl rfl rfl rfl) (fun _ _ _ _ h_ => h_)) (pa_cons (pv 0) (pa_cons (pe_call (ok_dry_flags T) (hr.mono (by decide)) (by rfl) T.mg_dry_flags T.kp_dry_flags T.b_dry_flags .nil (passes_call (takes_of rfl rfl rfl rfl) (fun _ _ _ _ h_ => h_)) (pa_cons (pe_meth0 (pv 1) T.c_Weather T.me_Weather_signs (ok_Weather_signs T) (hr.mono (by decide)) T.b_Weather_signs .nil (passes_call (takes_of rfl rfl rfl rfl) (fun _ _ _ _ h_ => h_)) ) pa_nil)) pa_nil))) pa_nil)))), fun B qs cs o E D hps hrel hini hrt hx hfall => ?_⟩)
  obtain ⟨lacquer, weather, rfl, hrel⟩ := hrel
  generalize hm : m_reached lacquer weather = r at hrel
  obtain ⟨hne, hret, hex⟩ := res0_ne hrel
  clear hrel
  obtain ⟨E1, rfl, hini1⟩ := ini_k hini
  obtain ⟨E2, rfl, hini2⟩ := ini_k hini1
  obtain ⟨rfl, rfl⟩ := ini_nil hini2
  have hret := fun y_ h_ => (hret y_ h_ ▸ hrt : DRt g B D.rt _)
  have hex := fun c_ d_ h_ => hx c_ d_ (hex c_ d_ h_)
  unfold m_reached at hm
  show Sx g B [.kp (lacquer : O_Lacquer), .kp (weather : O_Weather)] _ _
  obtain ⟨t1, h2, hm⟩ := ob_ne hm hne
  obtain ⟨t3, h4, hm⟩ := ob_ne hm hne
  obtain ⟨t5, h6, hm⟩ := ob_ne hm hne
  obtain ⟨t7, h8, hm⟩ := ob_ne hm hne
  exact sx_ret' ((px_call (x := t7) (outs := []) (X := X) (pa_k ((px_call (x := t5) (outs := []) (X := X) (pa_k ((px_v (i := 0) (by exact rfl))) (pa_k ((PxN.pxA Bool (px_callN (xs := t3) (outs := []) (X := X) (pa_k ((px_meth (x := t1) (outs := []) (X := X) (pa_m (fr_Weather (m := Str.ofString "signs") (by decide)) ((px_v (i := 1) (by exact rfl))) pa_n) (.k .nil) (.k .nil) (by decide) ⟨weather, rfl, by rw [(opt_ok h2)]; rfl⟩)) pa_n) (.k .nil) (.k .nil) (by decide) ⟨t1, rfl, by rw [(opt_ok h4)]; rfl⟩))) pa_n)) (.k (.k .nil)) (.k (.k .nil)) (by decide) ⟨lacquer, t3, rfl, by rw [(opt_ok h6)]; rfl⟩)) pa_n) (.k .nil) (.k .nil) (by decide) ⟨t5, rfl, by rw [(opt_ok h8)]; rfl⟩)) hps .nil (hret _ hm.symm)

def N_spoilt_hour : List Str := ["lacquer", "weather", "end"]
theorem sc_spoilt_hour : FnScope N_spoilt_hour ["lacquer", "weather"] (defScope s_spoilt_hour) := ⟨rfl, rfl, rfl, by decide +kernel, rfl, by decide +kernel, by decide +kernel⟩
def rel_spoilt_hour (cs : List Ca) (o : Out) : Prop := ∃ (lacquer : O_Lacquer) (weather : O_Weather), cs = [.k lacquer, .k weather] ∧ res0 (m_spoilt_hour lacquer weather) o
theorem ok_spoilt_hour {g : Gx} {P : Program} {w : World} {mg : Str → Option Value} {base : Heap} {A : Ad} (T : Txt P g mg A) : FnOk P w g.K mg base (L2.CX P w) 4 A.f_spoilt_hour A.d_spoilt_hour ["lacquer", "weather"] (spOf g rel_spoilt_hour) := by
  refine fn_go T.F_spoilt_hour sc_spoilt_hour (fun cs o h => by obtain ⟨_, _, rfl, _⟩ := h; rfl) (by decide) (fun cdv A_ outer s H X hr => ⟨_, (pss_cons (ps_set (i := 2) sc_spoilt_hour.nd rfl (by first | exact Or.inl rfl | exact Or.inr rfl) (pe_op op_add (pe_ix (ix_listK (K := g.K) rfl) (pe_call (ok_reached T) (hr.mono (by decide)) (by rfl) T.mg_reached T.kp_reached T.b_reached .nil (passes_call (takes_of rfl rfl rfl rfl) (fun _ _ _ _ h_ => h_)) (pa_cons (pv 0) (pa_cons (pv 1) pa_nil))) (pe_un un_neg pe_int) (fun _ _ => rfl)) (pe_fldK (K := g.K) rfl (pv 0) rfl)))
 (pss_cons (ps_if (pt_cmpR op_gt (pv 2) (pe_prop (pv 1) T.c_Weather T.pr_Weather_hours.choose_spec (ok_Weather_hours T) (hr.mono (by decide)) T.b_Weather_hours .nil passL rfl) (nomark _)) (pss_one (ps_ret pe_non)) pss_nil)
 (pss_one (ps_ret (pv 2))))), fun B qs cs o E D hps hrel hini hrt hx hfall => ?_⟩)
  obtain ⟨lacquer, weather, rfl, hrel⟩ := hrel
  generalize hm : m_spoilt_hour lacquer weather = r at hrel
  obtain ⟨hne, hret, hex⟩ := res0_ne hrel
  clear hrel
  obtain ⟨E1, rfl, hini1⟩ := ini_k hini
  obtain ⟨E2, rfl, hini2⟩ := ini_k hini1
  obtain ⟨rfl, rfl⟩ := ini_nil hini2
  have hret := fun y_ h_ => (hret y_ h_ ▸ hrt : DRt g B D.rt _)
  have hex := fun c_ d_ h_ => hx c_ d_ (hex c_ d_ h_)
  unfold m_spoilt_hour at hm
  show Sx g B [.kp (lacquer : O_Lacquer), .kp (weather : O_Weather), .un] _ _
  obtain ⟨t1, h2, hm⟩ := ob_ne hm hne
  obtain ⟨t3, h4, hm⟩ := ob_ne hm hne
  obtain ⟨end5, h6, hm⟩ := elet_eq (v := ((t3 + lacquer.f_b) : Int)) hm
  refine sx_seq (sx_asg (i := 2) (px_eq ((px_op (px_idx (pl_k ((px_call (x := t1) (outs := []) (X := X) (pa_k ((px_v (i := 0) (by exact rfl))) (pa_k ((px_v (i := 1) (by exact rfl))) pa_n)) (.k (.k .nil)) (.k (.k .nil)) (by decide) ⟨lacquer, weather, rfl, by rw [(opt_ok h2)]; rfl⟩))) (px_un (px_int (n := 1)) r1_neg) trivial h4) (px_fld (has_Lacquer_f_b T.c_Lacquer T.na_Lacquer_f_b) ((px_v (i := 0) (by exact rfl)))) r2_add)) h6) (nx_of ?_))
  obtain ⟨t7, h8, hm⟩ := ob_ne hm hne
  refine sx_seq (sx_if (pt_test (px_op ((px_v (i := 2) (by exact rfl))) ((px_prop (X := E0) (fr_Weather (m := Str.ofString "hours") (by decide)) ((px_v (i := 1) (by exact rfl))) ⟨weather, rfl, by rw [(opt_ok h8)]; rfl⟩)) r2_gt)) (fun e9 => ?_) (fun e9 => ?_))
  · have hm := (if_pos e9).symm.trans hm
    exact sx_ret' (px_none (px_non)) hps .nil (hret _ hm.symm)
  · have hm := (if_neg (fun z_ => Bool.false_ne_true (e9.symm.trans z_))).symm.trans hm
    refine sx_next (nx_of ?_)
    exact sx_ret' (px_some ((px_v (i := 2) (by exact rfl)))) hps .nil (hret _ hm.symm)

theorem ok_Spoilt___init__ {g : Gx} {P : Program} {w : World} {mg : Str → Option Value} {base : Heap} {A : Ad} (T : Txt P g mg A) : FnOk P w g.K mg base (L2.CX P w) 1 A.f_Spoilt___init__ A.d_Spoilt___init__ ["self", "hour"] (spOex (g.ca (Str.ofString "Spoilt")) (Str.ofString "hour")) := fn_super T.no_super T.sup_Spoilt
def N__demand_kept : List Str := ["lacquer", "weather", "hour"]
theorem sc__demand_kept : FnScope N__demand_kept ["lacquer", "weather"] (defScope s__demand_kept) := ⟨rfl, rfl, rfl, by decide +kernel, rfl, by decide +kernel, by decide +kernel⟩
def rel__demand_kept (cs : List Ca) (o : Out) : Prop := ∃ (lacquer : O_Lacquer) (weather : O_Weather), cs = [.k lacquer, .k weather] ∧ res0 (m_demand_kept lacquer weather) o
theorem ok__demand_kept {g : Gx} {P : Program} {w : World} {mg : Str → Option Value} {base : Heap} {A : Ad} (T : Txt P g mg A) : FnOk P w g.K mg base (L2.CX P w) 6 A.f__demand_kept A.d__demand_kept ["lacquer", "weather"] (spOf g rel__demand_kept) := by
  refine fn_go T.F__demand_kept sc__demand_kept (fun cs o h => by obtain ⟨_, _, rfl, _⟩ := h; rfl) (by decide) (fun cdv A_ outer s H X hr => ⟨_, (pss_cons (ps_set (i := 2) sc__demand_kept.nd rfl (by first | exact Or.inl rfl | exact Or.inr rfl) (pe_call (ok_spoilt_hour T) (hr.mono (by decide)) (by rfl) T.mg_spoilt_hour T.kp_spoilt_hour T.b_spoilt_hour .nil (passes_call (takes_of rfl rfl rfl rfl) (fun _ _ _ _ h_ => h_)) (pa_cons (pv 0) (pa_cons (pv 1) pa_nil))))
 (pss_one (ps_if (pt_cmp (pc_notN (pv 2)) (by rfl)) (pss_one (ps_raise rfl (takes_of rfl rfl rfl rfl) (pmk_oex T.sup_Spoilt.oex T.in_Spoilt T.ti_Spoilt (ok_Spoilt___init__ T) (hr.mono (by decide)) T.b_Spoilt___init__ .nil passL (by rfl) T.mg_Spoilt (pa_cons (pv 2) pa_nil)))) pss_nil))), fun B qs cs o E D hps hrel hini hrt hx hfall => ?_⟩)
  obtain ⟨lacquer, weather, rfl, hrel⟩ := hrel
  generalize hm : m_demand_kept lacquer weather = r at hrel
  obtain ⟨hne, hret, hex⟩ := res0_ne hrel
  clear hrel
  obtain ⟨E1, rfl, hini1⟩ := ini_k hini
  obtain ⟨E2, rfl, hini2⟩ := ini_k hini1
  obtain ⟨rfl, rfl⟩ := ini_nil hini2
  have hfall := fun y_ h_ => hfall _ (hret y_ h_)
  have hret := fun y_ h_ => (hret y_ h_ ▸ hrt : DRt g B D.rt _)
  have hex := fun c_ d_ h_ => hx c_ d_ (hex c_ d_ h_)
  unfold m_demand_kept at hm
  show Sx g B [.kp (lacquer : O_Lacquer), .kp (weather : O_Weather), .un] _ _
  obtain ⟨t1, h2, hm⟩ := ob_ne hm hne
  refine sx_seq (sx_asg (i := 2) ((px_call (x := t1) (outs := []) (X := X) (pa_k ((px_v (i := 0) (by exact rfl))) (pa_k ((px_v (i := 1) (by exact rfl))) pa_n)) (.k (.k .nil)) (.k (.k .nil)) (by decide) ⟨lacquer, weather, rfl, by rw [(opt_ok h2)]; rfl⟩)) (nx_of ?_))
  refine sx_if (pt_B (px_notN nn_int (px_v (i := 2) (by exact rfl)))) (fun e3 => ?_) (fun e3 => ?_)
  · have hm := (if_pos e3).symm.trans hm
    obtain ⟨hour4, h5, hm⟩ := ob_ne hm hne
    refine sx_some (i := 2) rfl h5 ?_
    show Sx g B [.kp (lacquer : O_Lacquer), .kp (weather : O_Weather), .kp (hour4 : Int)] _ _
    exact sx_raiseP (c := Str.ofString "Spoilt") (fl := Str.ofString "hour") (f := ([104, 111, 117, 114] : Tx)) rfl ((px_v (i := 2) (by exact rfl))) (hex _ _ hm.symm)
  · have hm := (if_neg (fun z_ => Bool.false_ne_true (e3.symm.trans z_))).symm.trans hm
    exact sx_next (sx_fall' hps .nil (hfall _ hm.symm))

def N__step_hours : List Str := ["lacquer", "hour", "flags", "last", "later"]
theorem sc__step_hours : FnScope N__step_hours ["lacquer", "hour", "flags"] (defScope s__step_hours) := ⟨rfl, rfl, rfl, by decide +kernel, rfl, by decide +kernel, by decide +kernel⟩
def rel__step_hours (cs : List Ca) (o : Out) : Prop := ∃ (lacquer : O_Lacquer) (hour : Int) (flags : (List Bool)), cs = [.k lacquer, .k hour, .k flags] ∧ res0 (m_step_hours lacquer hour flags) o
theorem ok__step_hours {g : Gx} {P : Program} {w : World} {mg : Str → Option Value} {base : Heap} {A : Ad} (T : Txt P g mg A) : FnOk P w g.K mg base (L2.CX P w) 1 A.f__step_hours A.d__step_hours ["lacquer", "hour", "flags"] (spOf g rel__step_hours) := by
  refine fn_go T.F__step_hours sc__step_hours (fun cs o h => by obtain ⟨_, _, _, rfl, _⟩ := h; rfl) (by decide) (fun cdv A_ outer s H X hr => ⟨_, (pss_cons (ps_set (i := 3) sc__step_hours.nd rfl (by first | exact Or.inl rfl | exact Or.inr rfl) (pe_callB (call_min2 rfl) (by rfl) T.no_min (by decide +kernel) (pa_cons (pe_op op_add (pv 1) (pe_fldK (K := g.K) rfl (pv 0) rfl)) (pa_cons (pe_op op_sub (pe_callB (call_len_seqK (K := g.K) rfl) (by rfl) T.no_len (by decide +kernel) (pa_cons (pv 2) pa_nil)) pe_int) pa_nil))))
 (pss_one (ps_ret (pe_lc (own := [("later", 4)]) (by rfl) sc__step_hours.nd (pi_range2 (by rfl) T.no_range (pa_cons (pe_op op_add (pv 1) (pe_fldK (K := g.K) rfl (pv 0) rfl)) (pa_cons (pe_op op_add (pv 3) pe_int) pa_nil))) (blkOk_by (own := [("later", 4)]) (N := N__step_hours) (sc := defScope s__step_hours) (by decide +kernel)) (fun _ _ _ _ _ => (pg_name (i := 4) sc__step_hours.nd rfl (by first | exact Or.inl rfl | exact Or.inr rfl))) (fun _ _ _ _ _ => pts_one (pt_val (pe_ix (ix_listK (K := g.K) rfl) (pv 2) (pv 4) (fun _ _ => rfl)))) (fun _ _ _ _ _ => (pv 4)))))), fun B qs cs o E D hps hrel hini hrt hx hfall => ?_⟩)
  obtain ⟨lacquer, hour, flags, rfl, hrel⟩ := hrel
  generalize hm : m_step_hours lacquer hour flags = r at hrel
  obtain ⟨hne, hret, hex⟩ := res0_ne hrel
  clear hrel
  obtain ⟨E1, rfl, hini1⟩ := ini_k hini
  obtain ⟨E2, rfl, hini2⟩ := ini_k hini1
  obtain ⟨E3, rfl, hini3⟩ := ini_k hini2
  obtain ⟨rfl, rfl⟩ := ini_nil hini3
  have hret := fun y_ h_ => (hret y_ h_ ▸ hrt : DRt g B D.rt _)
  have hex := fun c_ d_ h_ => hx c_ d_ (hex c_ d_ h_)
  unfold m_step_hours at hm
  show Sx g B [.kp (lacquer : O_Lacquer), .kp (hour : Int), .kp (flags : (List Bool)), .un, .un] _ _
  obtain ⟨last1, h2, hm⟩ := elet_eq (v := ((min (hour + lacquer.f_b) ((flags.length : Int) - (1 : Int))) : Int)) hm
  refine sx_seq (sx_asg (i := 3) (px_eq ((px_min2 (px_op (px_v (i := 1) (by exact rfl)) (px_fld (has_Lacquer_f_b T.c_Lacquer T.na_Lacquer_f_b) ((px_v (i := 0) (by exact rfl)))) r2_add) (px_op (px_len (pl_k (px_v (i := 2) (by exact rfl))) trivial) (px_int (n := 1)) r2_sub))) h2) (nx_of ?_))
  obtain ⟨g3, hm⟩ := gd_ne hm hne
  obtain ⟨g4, hm⟩ := gd_ne hm hne
  obtain ⟨g8, hm⟩ := gd_ne hm hne
  obtain ⟨ys9, h10, hm⟩ := ob_ne hm hne
  exact sx_ret' ((PxN.pxA Int (pn_fil (sr_r2 (px_op (px_v (i := 1) (by exact rfl)) (px_fld (has_Lacquer_f_a T.c_Lacquer T.na_Lacquer_f_a) ((px_v (i := 0) (by exact rfl)))) r2_add) (px_op (px_v (i := 3) (by exact rfl)) (px_int (n := 1)) r2_add) g3 g4) (tc_n (by decide)) (opt_ok h10) g8 (by exact nowns1 (nown rfl (fun z_ => z_))) (fun x_ => leE_set rfl) (fun B_ x5 r11 n_ hx_ e12 => by
      obtain ⟨t6, h7, e12⟩ := ob_ne e12 ok_ne
      refine ⟨_, (pt_B (px_idx (pl_k (px_v (i := 2) (by exact rfl))) (px_v (i := 4) (by exact rfl)) trivial h7)), fun e13 => ?_, fun e13 => ?_⟩
      · have e12 := (if_pos e13).symm.trans e12
        have e12 := R.ok.inj e12
        subst e12
        exact ⟨_, rfl, (px_v (i := 4) (by exact rfl))⟩
      · have e12 := (if_neg (fun z_ => Bool.false_ne_true (e13.symm.trans z_))).symm.trans e12
        have e12 := R.ok.inj e12
        exact e12.symm)))) hps .nil (hret _ hm.symm)

def N_latest : List Str := ["lacquer", "weather", "onward", "row", "_"]
theorem sc_latest : FnScope N_latest ["lacquer", "weather"] (defScope s_latest) := ⟨rfl, rfl, rfl, by decide +kernel, rfl, by decide +kernel, by decide +kernel⟩
def rel_latest (cs : List Ca) (o : Out) : Prop := ∃ (lacquer : O_Lacquer) (weather : O_Weather), cs = [.k lacquer, .k weather] ∧ resN (m_latest lacquer weather) o
theorem ok_latest {g : Gx} {P : Program} {w : World} {mg : Str → Option Value} {base : Heap} {A : Ad} (T : Txt P g mg A) : FnOk P w g.K mg base (L2.CX P w) 8 A.f_latest A.d_latest ["lacquer", "weather"] (spOf g rel_latest) := by
  refine fn_go T.F_latest sc_latest (fun cs o h => by obtain ⟨_, _, rfl, _⟩ := h; rfl) (by decide) (fun cdv A_ outer s H X hr => ⟨_, (pss_cons (ps_expr (pe_call (ok__demand_kept T) (hr.mono (by decide)) (by rfl) T.mg__demand_kept T.kp__demand_kept T.b__demand_kept .nil (passes_call (takes_of rfl rfl rfl rfl) (fun _ _ _ _ h_ => h_)) (pa_cons (pv 0) (pa_cons (pv 1) pa_nil))))
 (pss_cons (ps_set (i := 2) sc_latest.nd rfl (by first | exact Or.inl rfl | exact Or.inr rfl) (pe_call (ok_onward_flags T) (hr.mono (by decide)) (by rfl) T.mg_onward_flags T.kp_onward_flags T.b_onward_flags .nil (passes_call (takes_of rfl rfl rfl rfl) (fun _ _ _ _ h_ => h_)) (pa_cons (pv 0) (pa_cons (pe_call (ok_dry_flags T) (hr.mono (by decide)) (by rfl) T.mg_dry_flags T.kp_dry_flags T.b_dry_flags .nil (passes_call (takes_of rfl rfl rfl rfl) (fun _ _ _ _ h_ => h_)) (pa_cons (pe_meth0 (pv 1) T.c_Weather T.me_Weather_signs (ok_Weather_signs T) (hr.mono (by decide)) T.b_Weather_signs .nil (passes_call (takes_of rfl rfl rfl rfl) (fun _ _ _ _ h_ => h_)) ) pa_nil)) pa_nil))))
 (pss_cons (ps_set (i := 3) sc_latest.nd rfl (by first | exact Or.inl rfl | exact Or.inr rfl) (pe_lst (pa_cons pe_int pa_nil)))
 (pss_cons (ps_for (passes_of rfl) rfl (pi_range1 (by rfl) T.no_range (pa_cons (pe_prop (pv 1) T.c_Weather T.pr_Weather_hours.choose_spec (ok_Weather_hours T) (hr.mono (by decide)) T.b_Weather_hours .nil passL rfl) pa_nil)) (pg_name (i := 4) sc_latest.nd rfl (by first | exact Or.inl rfl | exact Or.inr rfl)) (pss_cons (ps_if (pt_cmpR op_gt (pe_op op_add (pe_ix (ix_listK (K := g.K) rfl) (pv 3) (pe_un un_neg pe_int) (fun _ _ => rfl)) (pe_fldK (K := g.K) rfl (pv 0) rfl)) (pe_prop (pv 1) T.c_Weather T.pr_Weather_hours.choose_spec (ok_Weather_hours T) (hr.mono (by decide)) T.b_Weather_hours .nil passL rfl) (nomark _)) (pss_one ps_break) pss_nil)
 (pss_one (ps_expr (pe_bm PySem.F.plainAttrs_list PySem.F.slot_list_append PySem.F.type_list_append mt_append (pv 3) (pa_cons (pe_ix (ix_listK (K := g.K) rfl) (pe_call (ok__step_hours T) (hr.mono (by decide)) (by rfl) T.mg__step_hours T.kp__step_hours T.b__step_hours .nil (passes_call (takes_of rfl rfl rfl rfl) (fun _ _ _ _ h_ => h_)) (pa_cons (pv 0) (pa_cons (pe_ix (ix_listK (K := g.K) rfl) (pv 3) (pe_un un_neg pe_int) (fun _ _ => rfl)) (pa_cons (pv 2) pa_nil)))) (pe_un un_neg pe_int) (fun _ _ => rfl)) pa_nil))))))
 (pss_one (ps_ret (pv 3))))))), fun B qs cs o E D hps hrel hini hrt hx hfall => ?_⟩)
  obtain ⟨lacquer, weather, rfl, hrel⟩ := hrel
  generalize hm : m_latest lacquer weather = r at hrel
  obtain ⟨hne, hret, hex⟩ := resN_ne hrel
  clear hrel
  obtain ⟨E1, rfl, hini1⟩ := ini_k hini
  obtain ⟨E2, rfl, hini2⟩ := ini_k hini1
  obtain ⟨rfl, rfl⟩ := ini_nil hini2
  have hret := fun y_ h_ => (hret y_ h_ ▸ hrt : DRt g B D.rt _)
  have hex := fun c_ d_ h_ => hx c_ d_ (hex c_ d_ h_)
  unfold m_latest at hm
  show Sx g B [.kp (lacquer : O_Lacquer), .kp (weather : O_Weather), .un, .un, .un] _ _
  rcases bind_cases hm with ⟨t1, h2, hm⟩ | ⟨c3, d4, h2, h5⟩ | h5
  rotate_left
  · exact sx_seq (sx_dropE (pe_callX (pa_k ((px_v (i := 0) (by exact rfl))) (pa_k ((px_v (i := 1) (by exact rfl))) pa_n)) (.k (.k .nil)) (.k (.k .nil)) ⟨lacquer, weather, rfl, by rw [h2]; rfl⟩ (hex _ _ h5)))
  · exact absurd h5 hne
  refine sx_seq (sx_drop ((px_call (x := t1) (outs := []) (X := X) (pa_k ((px_v (i := 0) (by exact rfl))) (pa_k ((px_v (i := 1) (by exact rfl))) pa_n)) (.k (.k .nil)) (.k (.k .nil)) (by decide) ⟨lacquer, weather, rfl, by rw [h2]; rfl⟩)) (nx_of ?_))
  obtain ⟨t6, h7, hm⟩ := ob_ne hm hne
  obtain ⟨t8, h9, hm⟩ := ob_ne hm hne
  obtain ⟨t10, h11, hm⟩ := ob_ne hm hne
  refine sx_seq (sx_asg (i := 2) ((px_call (x := t10) (outs := []) (X := X) (pa_k ((px_v (i := 0) (by exact rfl))) (pa_k ((PxN.pxA Bool (px_callN (xs := t8) (outs := []) (X := X) (pa_k ((px_meth (x := t6) (outs := []) (X := X) (pa_m (fr_Weather (m := Str.ofString "signs") (by decide)) ((px_v (i := 1) (by exact rfl))) pa_n) (.k .nil) (.k .nil) (by decide) ⟨weather, rfl, by rw [(opt_ok h7)]; rfl⟩)) pa_n) (.k .nil) (.k .nil) (by decide) ⟨t6, rfl, by rw [(opt_ok h9)]; rfl⟩))) pa_n)) (.k (.k .nil)) (.k (.k .nil)) (by decide) ⟨lacquer, t8, rfl, by rw [(opt_ok h11)]; rfl⟩)) (nx_of ?_))
  obtain ⟨row12, h13, hm⟩ := elet_eq (v := ([(1 : Int)] : (List Int))) hm
  refine sx_seq (sx_asgO (i := 3) (pn_eq (pn_lst (ps_cons ((px_int (n := 1))) ps_nil) (by simp only [List.length_cons, List.length_nil]; decide)) h13) (nx_of ?_))
  obtain ⟨t14, h15, hm⟩ := ob_ne hm hne
  obtain ⟨g16, hm⟩ := gd_ne hm hne
  obtain ⟨out_, hL_, hno_, hm⟩ := bind_split hm hne
  refine sx_seq (sx_for (s0 := row12) (X := fun B_ c_ d_ => XkOk g B_ X c_ d_) (fin := (fun y_ => Out.new y_ [])) (Ei := (fun (row18 : (List Int)) => [.kp (lacquer : O_Lacquer), .kp (weather : O_Weather), .kp (t10 : (List Bool)), .ow (row18 : (List Int)), .un])) (fun _ _ _ _ n_ h_ => h_.nest n_) (sr_r1 (px_prop (X := E0) (fr_Weather (m := Str.ofString "hours") (by decide)) ((px_v (i := 1) (by exact rfl))) ⟨weather, rfl, by rw [(opt_ok h15)]; rfl⟩) g16) (tg_n) (by exact (LeE.cons .refl (LeE.cons .refl (LeE.cons .refl (LeE.cons .refl (LeE.cons .un LeE.nil)))))) hL_ hno_ (fun y_ h_ => hret _ (loop_ret h_ hm).symm) (fun c_ d_ h_ => hex c_ d_ (by rw [h_] at hm; exact hm.symm)) (fun B x17 row18 r_ D hB_ hx_ hm hne hnx hct hbk hret hex => ?_) (fun row31 hs_ => ?_))
  · have hps := hB_.1.trans hps
    show Sx g B [.kp (lacquer : O_Lacquer), .kp (weather : O_Weather), .kp (t10 : (List Bool)), .ow (row18 : (List Int)), .kp (x17 : Int)] _ _
    obtain ⟨t19, h20, hm⟩ := ob_ne hm hne
    obtain ⟨t21, h22, hm⟩ := ob_ne hm hne
    refine sx_seq (sx_if (pt_test (px_op ((px_op (px_idx (pl_s (i := 3) (by exact rfl) RdL.ow) (px_un (px_int (n := 1)) r1_neg) rfl h20) (px_fld (has_Lacquer_f_b T.c_Lacquer T.na_Lacquer_f_b) ((px_v (i := 0) (by exact rfl)))) r2_add)) ((px_prop (X := E0) (fr_Weather (m := Str.ofString "hours") (by decide)) ((px_v (i := 1) (by exact rfl))) ⟨weather, rfl, by rw [(opt_ok h22)]; rfl⟩)) r2_gt)) (fun e23 => ?_) (fun e23 => ?_))
    · have hm := (if_pos e23).symm.trans hm
      exact sx_brk (nx_le (LeE.cons .refl (LeE.cons .refl (LeE.cons .refl (LeE.cons .refl (LeE.cons .un LeE.nil))))) (hbk _ hm.symm))
    · have hm := (if_neg (fun z_ => Bool.false_ne_true (e23.symm.trans z_))).symm.trans hm
      refine sx_next (nx_of ?_)
      obtain ⟨t24, h25, hm⟩ := ob_ne hm hne
      obtain ⟨t26, h27, hm⟩ := ob_ne hm hne
      obtain ⟨t28, h29, hm⟩ := ob_ne hm hne
      obtain ⟨g30, hm⟩ := gd_ne hm hne
      exact sx_append (i := 3) rfl ((px_idx (pl_k ((px_call (x := t26) (outs := []) (X := X) (pa_k ((px_v (i := 0) (by exact rfl))) (pa_k ((px_idx (pl_s (i := 3) (by exact rfl) RdL.ow) (px_un (px_int (n := 1)) r1_neg) rfl h25)) (pa_k ((px_v (i := 2) (by exact rfl))) pa_n))) (.k (.k (.k .nil))) (.k (.k (.k .nil))) (by decide) ⟨lacquer, t24, t10, rfl, by rw [(opt_ok h27)]; rfl⟩))) (px_un (px_int (n := 1)) r1_neg) trivial h29)) rfl trivial RdL.ow g30 (nx_le (LeE.cons .refl (LeE.cons .refl (LeE.cons .refl (LeE.cons .refl (LeE.cons .un LeE.nil))))) (hnx _ hm.symm))
  · have hm := loop_go hs_ hm
    clear hs_ hL_ hno_
    refine nx_of ?_
    show Sx g B [.kp (lacquer : O_Lacquer), .kp (weather : O_Weather), .kp (t10 : (List Bool)), .ow (row31 : (List Int)), .un] _ _
    exact sx_retW (pn_own (i := 3) rfl (.inl hps)) hps .nil (hret _ hm.symm)

def N__law_cell : List Str := ["script", "k"]
theorem sc__law_cell : FnScope N__law_cell ["script", "k"] (defScope s__law_cell) := ⟨rfl, rfl, rfl, by decide +kernel, rfl, by decide +kernel, by decide +kernel⟩
def rel__law_cell (cs : List Ca) (o : Out) : Prop := ∃ (script : Sc) (k : Int), cs = [.k script, .k k] ∧ res0 (m_law_cell script k) o
theorem ok__law_cell {g : Gx} {P : Program} {w : World} {mg : Str → Option Value} {base : Heap} {A : Ad} (T : Txt P g mg A) : FnOk P w g.K mg base (L2.CX P w) 1 A.f__law_cell A.d__law_cell ["script", "k"] (spOf g rel__law_cell) := by
  refine fn_go T.F__law_cell sc__law_cell (fun cs o h => by obtain ⟨_, _, rfl, _⟩ := h; rfl) (by decide) (fun cdv A_ outer s H X hr => ⟨_, (pss_cons (ps_if (pt_cmpR op_lt (pv 1) (pe_callB (call_len_seqK (K := g.K) rfl) (by rfl) T.no_len (by decide +kernel) (pa_cons (pv 0) pa_nil)) (nomark _)) (pss_one (ps_ret (pe_ix (ix_listK (K := g.K) rfl) (pv 0) (pv 1) (fun _ _ => rfl)))) pss_nil)
 (pss_one (ps_ret (pe_op op_add (pe_op op_mul pe_int (pv 1)) pe_int)))), fun B qs cs o E D hps hrel hini hrt hx hfall => ?_⟩)
  obtain ⟨script, k, rfl, hrel⟩ := hrel
  generalize hm : m_law_cell script k = r at hrel
  obtain ⟨hne, hret, hex⟩ := res0_ne hrel
  clear hrel
  obtain ⟨E1, rfl, hini1⟩ := ini_k hini
  obtain ⟨E2, rfl, hini2⟩ := ini_k hini1
  obtain ⟨rfl, rfl⟩ := ini_nil hini2
  have hret := fun y_ h_ => (hret y_ h_ ▸ hrt : DRt g B D.rt _)
  have hex := fun c_ d_ h_ => hx c_ d_ (hex c_ d_ h_)
  unfold m_law_cell at hm
  show Sx g B [.kp (script : Sc), .kp (k : Int)] _ _
  refine sx_seq (sx_if (pt_test (px_op ((px_v (i := 1) (by exact rfl))) ((px_lenSc ((px_v (i := 0) (by exact rfl))))) r2_lt)) (fun e1 => ?_) (fun e1 => ?_))
  · have hm := (if_pos e1).symm.trans hm
    obtain ⟨t2, h3, hm⟩ := ob_ne hm hne
    exact sx_ret' ((px_idxSc ((px_v (i := 0) (by exact rfl))) (px_v (i := 1) (by exact rfl)) h3)) hps .nil (hret _ hm.symm)
  · have hm := (if_neg (fun z_ => Bool.false_ne_true (e1.symm.trans z_))).symm.trans hm
    refine sx_next (nx_of ?_)
    exact sx_ret' ((px_op (px_op (px_int (n := 977)) (px_v (i := 1) (by exact rfl)) (r2_mul (mulOk_l (by decide)))) (px_int (n := 31)) r2_add)) hps .nil (hret _ hm.symm)

def N__law_pool : List Str := ["cell"]
theorem sc__law_pool : FnScope N__law_pool ["cell"] (defScope s__law_pool) := ⟨rfl, rfl, rfl, by decide +kernel, rfl, by decide +kernel, by decide +kernel⟩
def rel__law_pool (cs : List Ca) (o : Out) : Prop := ∃ (cell : Int), cs = [.k cell] ∧ resN (m_law_pool cell) o
theorem ok__law_pool {g : Gx} {P : Program} {w : World} {mg : Str → Option Value} {base : Heap} {A : Ad} (T : Txt P g mg A) : FnOk P w g.K mg base (L2.CX P w) 1 A.f__law_pool A.d__law_pool ["cell"] (spOf g rel__law_pool) := by
  refine fn_go T.F__law_pool sc__law_pool (fun cs o h => by obtain ⟨_, rfl, _⟩ := h; rfl) (by decide) (fun cdv A_ outer s H X hr => ⟨_, (pss_cons (ps_if (pt_cmpR op_ge (pv 0) (pe_op op_pow pe_int pe_int) (nomark _)) (pss_one (ps_ret (pe_lst (pa_cons (pe_op op_sub (pv 0) (pe_op op_pow pe_int pe_int)) (pa_cons (pe_op op_mod (pe_callTy call_int1 (by rfl) T.no_int (by decide +kernel) (pa_cons (pv 0) pa_nil)) pe_int) (pa_cons pe_int pa_nil)))))) pss_nil)
 (pss_cons (ps_if (pt_cmpR op_lt (pv 0) pe_int (nomark _)) (pss_one (ps_ret (pe_lst (pa_cons pe_int (pa_cons (pe_op op_mod (pe_callTy call_int1 (by rfl) T.no_int (by decide +kernel) (pa_cons (pe_op op_sub pe_int (pe_op op_mul pe_int (pv 0))) pa_nil)) pe_int) (pa_cons pe_int pa_nil)))))) pss_nil)
 (pss_one (ps_ret (pe_lst (pa_cons pe_int (pa_cons (pe_op op_mod (pe_callTy call_int1 (by rfl) T.no_int (by decide +kernel) (pa_cons (pe_op op_mul pe_int (pv 0)) pa_nil)) pe_int) (pa_cons pe_int pa_nil)))))))), fun B qs cs o E D hps hrel hini hrt hx hfall => ?_⟩)
  obtain ⟨cell, rfl, hrel⟩ := hrel
  generalize hm : m_law_pool cell = r at hrel
  obtain ⟨hne, hret, hex⟩ := resN_ne hrel
  clear hrel
  obtain ⟨E1, rfl, hini1⟩ := ini_k hini
  obtain ⟨rfl, rfl⟩ := ini_nil hini1
  have hret := fun y_ h_ => (hret y_ h_ ▸ hrt : DRt g B D.rt _)
  have hex := fun c_ d_ h_ => hx c_ d_ (hex c_ d_ h_)
  unfold m_law_pool at hm
  show Sx g B [.kp (cell : Int)] _ _
  refine sx_seq (sx_if (pt_test (px_op ((px_v (i := 0) (by exact rfl))) ((px_op (px_int (n := 10)) (px_int (n := 18)) (r2_pow (by decide)))) r2_ge)) (fun e1 => ?_) (fun e1 => ?_))
  · have hm := (if_pos e1).symm.trans hm
    exact sx_retW (pn_lst (ps_cons ((px_op (px_v (i := 0) (by exact rfl)) (px_op (px_int (n := 10)) (px_int (n := 18)) (r2_pow (by decide))) r2_sub)) (ps_cons ((px_op (px_intI (px_v (i := 0) (by exact rfl))) (px_int (n := 1000000007)) (r2_mod (by decide)))) (ps_cons ((px_int (n := 0))) ps_nil))) (by simp only [List.length_cons, List.length_nil]; decide)) hps .nil (hret _ hm.symm)
  · have hm := (if_neg (fun z_ => Bool.false_ne_true (e1.symm.trans z_))).symm.trans hm
    refine sx_next (nx_of ?_)
    refine sx_seq (sx_if (pt_test (px_op ((px_v (i := 0) (by exact rfl))) ((px_int (n := 0))) r2_lt)) (fun e2 => ?_) (fun e2 => ?_))
    · have hm := (if_pos e2).symm.trans hm
      exact sx_retW (pn_lst (ps_cons ((px_int (n := 0))) (ps_cons ((px_op (px_intI (px_op (px_int (n := 1)) (px_op (px_int (n := 2)) (px_v (i := 0) (by exact rfl)) (r2_mul (mulOk_l (by decide)))) r2_sub)) (px_int (n := 1000000007)) (r2_mod (by decide)))) (ps_cons ((px_int (n := 0))) ps_nil))) (by simp only [List.length_cons, List.length_nil]; decide)) hps .nil (hret _ hm.symm)
    · have hm := (if_neg (fun z_ => Bool.false_ne_true (e2.symm.trans z_))).symm.trans hm
      refine sx_next (nx_of ?_)
      exact sx_retW (pn_lst (ps_cons ((px_int (n := 0))) (ps_cons ((px_op (px_intI (px_op (px_int (n := 2)) (px_v (i := 0) (by exact rfl)) (r2_mul (mulOk_l (by decide))))) (px_int (n := 1000000007)) (r2_mod (by decide)))) (ps_cons ((px_int (n := 0))) ps_nil))) (by simp only [List.length_cons, List.length_nil]; decide)) hps .nil (hret _ hm.symm)

def N__law_take : List Str := ["pool", "size", "digit", "x"]
theorem sc__law_take : FnScope N__law_take ["pool", "size"] (defScope s__law_take) := ⟨rfl, rfl, rfl, by decide +kernel, rfl, by decide +kernel, by decide +kernel⟩
def rel__law_take (cs : List Ca) (o : Out) : Prop := ∃ (pool : (List Int)) (size : Int), cs = [.m pool, .k size] ∧ res1 (m_law_take pool size) o
theorem ok__law_take {g : Gx} {P : Program} {w : World} {mg : Str → Option Value} {base : Heap} {A : Ad} (T : Txt P g mg A) : FnOk P w g.K mg base (L2.CX P w) 1 A.f__law_take A.d__law_take ["pool", "size"] (spOf g rel__law_take) := by
  refine fn_go T.F__law_take sc__law_take (fun cs o h => by obtain ⟨_, _, rfl, _⟩ := h; rfl) (by decide) (fun cdv A_ outer s H X hr => ⟨_, (pss_cons (ps_asg (pe_op op_add (pe_ix (ix_listK (K := g.K) rfl) (pv 0) pe_int (fun _ _ => rfl)) pe_int) (pg_sub (pv 0) pe_int set_list))
 (pss_cons (ps_if (pt_cmpR op_gt (pe_ix (ix_listK (K := g.K) rfl) (pv 0) pe_int (fun _ _ => rfl)) pe_int (nomark _)) (pss_cons (ps_set (i := 2) sc__law_take.nd rfl (by first | exact Or.inl rfl | exact Or.inr rfl) (pe_op op_mod (pe_callTy call_int1 (by rfl) T.no_int (by decide +kernel) (pa_cons (pe_ix (ix_listK (K := g.K) rfl) (pv 0) pe_int (fun _ _ => rfl)) pa_nil)) (pv 1)))
 (pss_cons (ps_asg (pe_op op_fdiv (pe_ix (ix_listK (K := g.K) rfl) (pv 0) pe_int (fun _ _ => rfl)) (pv 1)) (pg_sub (pv 0) pe_int set_list))
 (pss_one (ps_ret (pv 2))))) pss_nil)
 (pss_cons (ps_set (i := 3) sc__law_take.nd rfl (by first | exact Or.inl rfl | exact Or.inr rfl) (pe_op op_mod (pe_callTy call_int1 (by rfl) T.no_int (by decide +kernel) (pa_cons (pe_op op_add (pe_op op_add (pe_ix (ix_listK (K := g.K) rfl) (pv 0) pe_int (fun _ _ => rfl)) (pe_op op_mul pe_int (pe_ix (ix_listK (K := g.K) rfl) (pv 0) pe_int (fun _ _ => rfl)))) pe_int) pa_nil)) pe_int))
 (pss_cons (ps_set (i := 3) sc__law_take.nd rfl (by first | exact Or.inl rfl | exact Or.inr rfl) (pe_op op_mod (pe_callTy call_int1 (by rfl) T.no_int (by decide +kernel) (pa_cons (pe_op op_add (pe_op op_add (pe_op op_mul (pv 3) (pv 3)) (pe_op op_mul pe_int (pe_ix (ix_listK (K := g.K) rfl) (pv 0) pe_int (fun _ _ => rfl)))) pe_int) pa_nil)) pe_int))
 (pss_cons (ps_set (i := 3) sc__law_take.nd rfl (by first | exact Or.inl rfl | exact Or.inr rfl) (pe_op op_mod (pe_callTy call_int1 (by rfl) T.no_int (by decide +kernel) (pa_cons (pe_op op_add (pe_op op_add (pe_op op_mul (pv 3) (pv 3)) (pe_op op_mul pe_int (pe_ix (ix_listK (K := g.K) rfl) (pv 0) pe_int (fun _ _ => rfl)))) pe_int) pa_nil)) pe_int))
 (pss_one (ps_ret (pe_op op_mod (pe_callTy call_int1 (by rfl) T.no_int (by decide +kernel) (pa_cons (pe_op op_fdiv (pv 3) pe_int) pa_nil)) (pv 1))))))))), fun B qs cs o E D hps hrel hini hrt hx hfall => ?_⟩)
  obtain ⟨pool, size, rfl, hrel⟩ := hrel
  generalize hm : m_law_take pool size = r at hrel
  obtain ⟨hne, hret, hex⟩ := res1_ne hrel
  clear hrel
  obtain ⟨q_pool, qs1, E1, rfl, rfl, hini1⟩ := ini_m hini
  obtain ⟨E2, rfl, hini2⟩ := ini_k hini1
  obtain ⟨rfl, rfl⟩ := ini_nil hini2
  have hret := fun y_ h_ => (hret y_ h_ ▸ hrt : DRt g B D.rt _)
  have hex := fun c_ d_ h_ => hx c_ d_ (hex c_ d_ h_)
  unfold m_law_take at hm
  show Sx g B [.io q_pool (pool : (List Int)), .kp (size : Int), .un, .un] _ _
  obtain ⟨t1, h2, hm⟩ := ob_ne hm hne
  obtain ⟨pool3, h4, hm⟩ := ob_ne hm hne
  refine sx_seq (sx_setitem (i := 0) ((px_op (px_idx (pl_s (i := 0) (by exact rfl) RdL.io) (px_int (n := 2)) rfl h2) (px_int (n := 1)) r2_add)) rfl (px_int (n := 2)) rfl trivial RdL.io h4 (nx_of ?_))
  obtain ⟨t5, h6, hm⟩ := ob_ne hm hne
  refine sx_seq (sx_if (pt_test (px_op ((px_idx (pl_s (i := 0) (by exact rfl) RdL.io) (px_int (n := 0)) rfl h6)) ((px_int (n := 1))) r2_gt)) (fun e7 => ?_) (fun e7 => ?_))
  · have hm := (if_pos e7).symm.trans hm
    obtain ⟨t8, h9, hm⟩ := ob_ne hm hne
    obtain ⟨g10, hm⟩ := gd_ne hm hne
    obtain ⟨digit11, h12, hm⟩ := elet_eq (v := ((t8 % size) : Int)) hm
    refine sx_seq (sx_asg (i := 2) (px_eq ((px_op (px_intI (px_idx (pl_s (i := 0) (by exact rfl) RdL.io) (px_int (n := 0)) rfl h9)) (px_v (i := 1) (by exact rfl)) (r2_mod g10))) h12) (nx_of ?_))
    obtain ⟨t13, h14, hm⟩ := ob_ne hm hne
    obtain ⟨g15, hm⟩ := gd_ne hm hne
    obtain ⟨pool16, h17, hm⟩ := ob_ne hm hne
    refine sx_seq (sx_setitem (i := 0) ((px_op (px_idx (pl_s (i := 0) (by exact rfl) RdL.io) (px_int (n := 0)) rfl h14) (px_v (i := 1) (by exact rfl)) (r2_div g15))) rfl (px_int (n := 0)) rfl trivial RdL.io h17 (nx_of ?_))
    exact sx_ret' ((px_v (i := 2) (by exact rfl))) hps (.cons (i := 0) rfl .nil) (hret _ hm.symm)
  · have hm := (if_neg (fun z_ => Bool.false_ne_true (e7.symm.trans z_))).symm.trans hm
    refine sx_next (nx_of ?_)
    obtain ⟨t18, h19, hm⟩ := ob_ne hm hne
    obtain ⟨t20, h21, hm⟩ := ob_ne hm hne
    obtain ⟨x22, h23, hm⟩ := elet_eq (v := ((((t18 + ((48271 : Int) * t20)) + (12345 : Int)) % (2147483647 : Int)) : Int)) hm
    refine sx_seq (sx_asg (i := 3) (px_eq ((px_op (px_intI (px_op (px_op (px_idx (pl_s (i := 0) (by exact rfl) RdL.io) (px_int (n := 1)) rfl h19) (px_op (px_int (n := 48271)) (px_idx (pl_s (i := 0) (by exact rfl) RdL.io) (px_int (n := 2)) rfl h21) (r2_mul (mulOk_l (by decide)))) r2_add) (px_int (n := 12345)) r2_add)) (px_int (n := 2147483647)) (r2_mod (by decide)))) h23) (nx_of ?_))
    obtain ⟨g24, hm⟩ := gd_ne hm hne
    obtain ⟨t25, h26, hm⟩ := ob_ne hm hne
    obtain ⟨x27, h28, hm⟩ := elet_eq (v := (((((x22 * x22) + ((16807 : Int) * t25)) + (7 : Int)) % (2147483629 : Int)) : Int)) hm
    refine sx_seq (sx_asg (i := 3) (px_eq ((px_op (px_intI (px_op (px_op (px_op (px_v (i := 3) (by exact rfl)) (px_v (i := 3) (by exact rfl)) (r2_mul g24)) (px_op (px_int (n := 16807)) (px_idx (pl_s (i := 0) (by exact rfl) RdL.io) (px_int (n := 2)) rfl h26) (r2_mul (mulOk_l (by decide)))) r2_add) (px_int (n := 7)) r2_add)) (px_int (n := 2147483629)) (r2_mod (by decide)))) h28) (nx_of ?_))
    obtain ⟨g29, hm⟩ := gd_ne hm hne
    obtain ⟨t30, h31, hm⟩ := ob_ne hm hne
    obtain ⟨x32, h33, hm⟩ := elet_eq (v := (((((x27 * x27) + ((69621 : Int) * t30)) + (3 : Int)) % (2147483587 : Int)) : Int)) hm
    refine sx_seq (sx_asg (i := 3) (px_eq ((px_op (px_intI (px_op (px_op (px_op (px_v (i := 3) (by exact rfl)) (px_v (i := 3) (by exact rfl)) (r2_mul g29)) (px_op (px_int (n := 69621)) (px_idx (pl_s (i := 0) (by exact rfl) RdL.io) (px_int (n := 2)) rfl h31) (r2_mul (mulOk_l (by decide)))) r2_add) (px_int (n := 3)) r2_add)) (px_int (n := 2147483587)) (r2_mod (by decide)))) h33) (nx_of ?_))
    obtain ⟨g34, hm⟩ := gd_ne hm hne
    exact sx_ret' ((px_op (px_intI (px_op (px_v (i := 3) (by exact rfl)) (px_int (n := 7)) (r2_div (by decide)))) (px_v (i := 1) (by exact rfl)) (r2_mod g34))) hps (.cons (i := 0) rfl .nil) (hret _ hm.symm)

def N__law_same : List Str := ["actual", "due", "k"]
theorem sc__law_same : FnScope N__law_same ["actual", "due"] (defScope s__law_same) := ⟨rfl, rfl, rfl, by decide +kernel, rfl, by decide +kernel, by decide +kernel⟩
def rel__law_same (cs : List Ca) (o : Out) : Prop := ∃ (actual : Gn.D) (due : Gn.D), cs = [.k actual, .k due] ∧ res0 (m_law_same actual due) o
def relR__law_same (rec_ : Gn.D → Gn.D → R (Bool)) (cs : List Ca) (o : Out) : Prop := ∃ (actual : Gn.D) (due : Gn.D), cs = [.k actual, .k due] ∧ res0 (rec_ actual due) o
theorem step__law_same {g : Gx} {P : Program} {w : World} {mg : Str → Option Value} {base : Heap} {A : Ad} (T : Txt P g mg A) (n_ : Nat) (rec_ : Gn.D → Gn.D → R (Bool)) (F0 : FnOk P w g.K mg base (L2.CX P w) n_ A.f__law_same A.d__law_same ["actual", "due"] (spOf g (relR__law_same rec_))) : FnOk P w g.K mg base (L2.CX P w) (n_ + 1) A.f__law_same A.d__law_same ["actual", "due"] (spOf g (relR__law_same (bm_law_same rec_))) := by
  refine fn_go T.F__law_same sc__law_same (fun cs o h => by obtain ⟨_, _, rfl, _⟩ := h; rfl) (by decide) (fun cdv A_ outer s H X hr => ⟨_, (pss_cons (ps_if (pt_cmp (pc_isN (pv 1)) (by rfl)) (pss_one (ps_ret (pe_cmp (pc_isN (pv 0)) (by rfl)))) pss_nil)
 (pss_cons (ps_if (pt_val (pe_callB (call_isiK (K := g.K) rfl) (by rfl) T.no_isinstance (by decide +kernel) (pa_cons (pv 1) (pa_cons (pe_bltn (v := .ty "bool") (by rfl) T.no_bool (by decide +kernel) rfl) pa_nil)))) (pss_one (ps_ret (pe_and (pe_callB (call_isiK (K := g.K) rfl) (by rfl) T.no_isinstance (by decide +kernel) (pa_cons (pv 0) (pa_cons (pe_bltn (v := .ty "bool") (by rfl) T.no_bool (by decide +kernel) rfl) pa_nil))) (pe_one (pe_cmpR op_eq (pv 0) (pv 1) (nomark _)))))) pss_nil)
 (pss_cons (ps_if (pt_val (pe_callB (call_isiK (K := g.K) rfl) (by rfl) T.no_isinstance (by decide +kernel) (pa_cons (pv 1) (pa_cons (pe_bltn (v := .ty "int") (by rfl) T.no_int (by decide +kernel) rfl) pa_nil)))) (pss_one (ps_ret (pe_and (pe_callB (call_isiK (K := g.K) rfl) (by rfl) T.no_isinstance (by decide +kernel) (pa_cons (pv 0) (pa_cons (pe_bltn (v := .ty "int") (by rfl) T.no_int (by decide +kernel) rfl) pa_nil))) (pe_and (pe_not (pe_callB (call_isiK (K := g.K) rfl) (by rfl) T.no_isinstance (by decide +kernel) (pa_cons (pv 0) (pa_cons (pe_bltn (v := .ty "bool") (by rfl) T.no_bool (by decide +kernel) rfl) pa_nil)))) (pe_one (pe_cmpR op_eq (pv 0) (pv 1) (nomark _))))))) pss_nil)
 (pss_cons (ps_if (pt_val (pe_callB (call_isiK (K := g.K) rfl) (by rfl) T.no_isinstance (by decide +kernel) (pa_cons (pv 1) (pa_cons (pe_bltn (v := .ty "str") (by rfl) T.no_str (by decide +kernel) rfl) pa_nil)))) (pss_one (ps_ret (pe_and (pe_callB (call_isiK (K := g.K) rfl) (by rfl) T.no_isinstance (by decide +kernel) (pa_cons (pv 0) (pa_cons (pe_bltn (v := .ty "str") (by rfl) T.no_str (by decide +kernel) rfl) pa_nil))) (pe_one (pe_cmpR op_eq (pv 0) (pv 1) (nomark _)))))) pss_nil)
 (pss_cons (ps_if (PW.pt (pw_and (pt_val (pe_callB (call_isiK (K := g.K) rfl) (by rfl) T.no_isinstance (by decide +kernel) (pa_cons (pv 1) (pa_cons (pe_bltn (v := .ty "tuple") (by rfl) T.no_tuple (by decide +kernel) rfl) pa_nil)))) (pw_and1 (L2.pt_not (pt_val (pe_callB (call_isiK (K := g.K) rfl) (by rfl) T.no_isinstance (by decide +kernel) (pa_cons (pv 0) (pa_cons (pe_bltn (v := .ty "tuple") (by rfl) T.no_tuple (by decide +kernel) rfl) pa_nil)))))))) (pss_one (ps_ret pe_bl)) pss_nil)
 (pss_cons (ps_if (PW.pt (pw_and (pt_val (pe_callB (call_isiK (K := g.K) rfl) (by rfl) T.no_isinstance (by decide +kernel) (pa_cons (pv 1) (pa_cons (pe_bltn (v := .ty "list") (by rfl) T.no_list (by decide +kernel) rfl) pa_nil)))) (pw_and1 (L2.pt_not (pt_val (pe_callB (call_isiK (K := g.K) rfl) (by rfl) T.no_isinstance (by decide +kernel) (pa_cons (pv 0) (pa_cons (pe_bltn (v := .ty "list") (by rfl) T.no_list (by decide +kernel) rfl) pa_nil)))))))) (pss_one (ps_ret pe_bl)) pss_nil)
 (pss_cons (ps_if (pt_cmpR op_ne (pe_callB (call_lenD (K := g.K) rfl) (by rfl) T.no_len (by decide +kernel) (pa_cons (pv 0) pa_nil)) (pe_callB (call_lenD (K := g.K) rfl) (by rfl) T.no_len (by decide +kernel) (pa_cons (pv 1) pa_nil)) (nomark _)) (pss_one (ps_ret pe_bl)) pss_nil)
 (pss_cons (ps_for (passes_of rfl) rfl (pi_range1 (by rfl) T.no_range (pa_cons (pe_callB (call_lenD (K := g.K) rfl) (by rfl) T.no_len (by decide +kernel) (pa_cons (pv 1) pa_nil)) pa_nil)) (pg_name (i := 2) sc__law_same.nd rfl (by first | exact Or.inl rfl | exact Or.inr rfl)) (pss_one (ps_if (L2.pt_not (pt_val (pe_call F0 (hr.mono (Nat.le_refl _)) (by rfl) T.mg__law_same T.kp__law_same T.b__law_same .nil (passes_call (takes_of rfl rfl rfl rfl) (fun _ _ _ _ h_ => h_)) (pa_cons (pe_ix (ix_LTK (K := g.K) rfl) (pv 0) (pv 2) (fun _ _ => rfl)) (pa_cons (pe_ix (ix_LTK (K := g.K) rfl) (pv 1) (pv 2) (fun _ _ => rfl)) pa_nil))))) (pss_one (ps_ret pe_bl)) pss_nil)))
 (pss_one (ps_ret pe_bl)))))))))), fun B qs cs o E D hps hrel hini hrt hx hfall => ?_⟩)
  obtain ⟨actual, due, rfl, hrel⟩ := hrel
  generalize hm : bm_law_same rec_ actual due = r at hrel
  obtain ⟨hne, hret, hex⟩ := res0_ne hrel
  clear hrel
  obtain ⟨E1, rfl, hini1⟩ := ini_k hini
  obtain ⟨E2, rfl, hini2⟩ := ini_k hini1
  obtain ⟨rfl, rfl⟩ := ini_nil hini2
  have hret := fun y_ h_ => (hret y_ h_ ▸ hrt : DRt g B D.rt _)
  have hex := fun c_ d_ h_ => hx c_ d_ (hex c_ d_ h_)
  unfold bm_law_same at hm
  show Sx g B [.kp (actual : Gn.D), .kp (due : Gn.D), .un] _ _
  refine sx_seq (sx_if (pt_B (px_isND ((px_v (i := 1) (by exact rfl))))) (fun e1 => ?_) (fun e1 => ?_))
  · have hm := (if_pos e1).symm.trans hm
    exact sx_ret' ((px_isND ((px_v (i := 0) (by exact rfl))))) hps .nil (hret _ hm.symm)
  · have hm := (if_neg (fun z_ => Bool.false_ne_true (e1.symm.trans z_))).symm.trans hm
    refine sx_next (nx_of ?_)
    refine sx_seq (sx_if (pt_B (px_isi ((px_v (i := 1) (by exact rfl))) (kit_bool _))) (fun e2 => ?_) (fun e2 => ?_))
    · have hm := (if_pos e2).symm.trans hm
      obtain ⟨c4, h5, hm⟩ := ob_ne hm hne
      exact sx_ret' ((px_andR (c := c4) (px_isi ((px_v (i := 0) (by exact rfl))) (kit_bool _)) (fun e6_ => by
        have e6 := (if_pos e6_).symm.trans (opt_ok h5)
        obtain ⟨g3, e6⟩ := gd_ne e6 ok_ne
        have e6 := R.ok.inj e6
        subst e6
        exact (px_op ((px_v (i := 0) (by exact rfl))) ((px_v (i := 1) (by exact rfl))) (r2_eqD g3))) (fun e6_ => by
        have e6 := (if_neg (fun z_ => Bool.false_ne_true (e6_.symm.trans z_))).symm.trans (opt_ok h5)
        have e6 := R.ok.inj e6
        subst e6
        exact ⟨rfl, rfl⟩))) hps .nil (hret _ hm.symm)
    · have hm := (if_neg (fun z_ => Bool.false_ne_true (e2.symm.trans z_))).symm.trans hm
      refine sx_next (nx_of ?_)
      refine sx_seq (sx_if (pt_B (px_isi ((px_v (i := 1) (by exact rfl))) (kit_int _))) (fun e7 => ?_) (fun e7 => ?_))
      · have hm := (if_pos e7).symm.trans hm
        obtain ⟨c12, h13, hm⟩ := ob_ne hm hne
        exact sx_ret' ((px_andR (c := c12) (px_isi ((px_v (i := 0) (by exact rfl))) (kit_int _)) (fun e14_ => by
          have e14 := (if_pos e14_).symm.trans (opt_ok h13)
          obtain ⟨c9, h10, e14⟩ := ob_ne e14 ok_ne
          have e14 := R.ok.inj e14
          subst e14
          exact (px_andR (c := c9) (px_not (px_isi ((px_v (i := 0) (by exact rfl))) (kit_bool _))) (fun e11_ => by
            have e11 := (if_pos e11_).symm.trans (opt_ok h10)
            obtain ⟨g8, e11⟩ := gd_ne e11 ok_ne
            have e11 := R.ok.inj e11
            subst e11
            exact (px_op ((px_v (i := 0) (by exact rfl))) ((px_v (i := 1) (by exact rfl))) (r2_eqD g8))) (fun e11_ => by
            have e11 := (if_neg (fun z_ => Bool.false_ne_true (e11_.symm.trans z_))).symm.trans (opt_ok h10)
            have e11 := R.ok.inj e11
            subst e11
            exact ⟨rfl, rfl⟩))) (fun e14_ => by
          have e14 := (if_neg (fun z_ => Bool.false_ne_true (e14_.symm.trans z_))).symm.trans (opt_ok h13)
          have e14 := R.ok.inj e14
          subst e14
          exact ⟨rfl, rfl⟩))) hps .nil (hret _ hm.symm)
      · have hm := (if_neg (fun z_ => Bool.false_ne_true (e7.symm.trans z_))).symm.trans hm
        refine sx_next (nx_of ?_)
        refine sx_seq (sx_if (pt_B (px_isi ((px_v (i := 1) (by exact rfl))) (kit_str _))) (fun e15 => ?_) (fun e15 => ?_))
        · have hm := (if_pos e15).symm.trans hm
          obtain ⟨c17, h18, hm⟩ := ob_ne hm hne
          exact sx_ret' ((px_andR (c := c17) (px_isi ((px_v (i := 0) (by exact rfl))) (kit_str _)) (fun e19_ => by
            have e19 := (if_pos e19_).symm.trans (opt_ok h18)
            obtain ⟨g16, e19⟩ := gd_ne e19 ok_ne
            have e19 := R.ok.inj e19
            subst e19
            exact (px_op ((px_v (i := 0) (by exact rfl))) ((px_v (i := 1) (by exact rfl))) (r2_eqD g16))) (fun e19_ => by
            have e19 := (if_neg (fun z_ => Bool.false_ne_true (e19_.symm.trans z_))).symm.trans (opt_ok h18)
            have e19 := R.ok.inj e19
            subst e19
            exact ⟨rfl, rfl⟩))) hps .nil (hret _ hm.symm)
        · have hm := (if_neg (fun z_ => Bool.false_ne_true (e15.symm.trans z_))).symm.trans hm
          refine sx_next (nx_of ?_)
          refine sx_seq (sx_if (pt_and (pt_B (px_isi ((px_v (i := 1) (by exact rfl))) (kit_tuple _))) (fun _ => (pt_not (pt_B (px_isi ((px_v (i := 0) (by exact rfl))) (kit_tuple _))))) (fun _ => rfl)) (fun e20 => ?_) (fun e20 => ?_))
          · have hm := (if_pos e20).symm.trans hm
            exact sx_ret' (px_bl) hps .nil (hret _ hm.symm)
          · have hm := (if_neg (fun z_ => Bool.false_ne_true (e20.symm.trans z_))).symm.trans hm
            refine sx_next (nx_of ?_)
            refine sx_seq (sx_if (pt_and (pt_B (px_isi ((px_v (i := 1) (by exact rfl))) (kit_list _))) (fun _ => (pt_not (pt_B (px_isi ((px_v (i := 0) (by exact rfl))) (kit_list _))))) (fun _ => rfl)) (fun e21 => ?_) (fun e21 => ?_))
            · have hm := (if_pos e21).symm.trans hm
              exact sx_ret' (px_bl) hps .nil (hret _ hm.symm)
            · have hm := (if_neg (fun z_ => Bool.false_ne_true (e21.symm.trans z_))).symm.trans hm
              refine sx_next (nx_of ?_)
              obtain ⟨t22, h23, hm⟩ := ob_ne hm hne
              obtain ⟨t24, h25, hm⟩ := ob_ne hm hne
              refine sx_seq (sx_if (pt_test (px_op ((px_lenD ((px_v (i := 0) (by exact rfl))) h23)) ((px_lenD ((px_v (i := 1) (by exact rfl))) h25)) r2_ne)) (fun e26 => ?_) (fun e26 => ?_))
              · have hm := (if_pos e26).symm.trans hm
                exact sx_ret' (px_bl) hps .nil (hret _ hm.symm)
              · have hm := (if_neg (fun z_ => Bool.false_ne_true (e26.symm.trans z_))).symm.trans hm
                refine sx_next (nx_of ?_)
                obtain ⟨t27, h28, hm⟩ := ob_ne hm hne
                obtain ⟨g29, hm⟩ := gd_ne hm hne
                obtain ⟨out_, hL_, hno_, hm⟩ := bind_split hm hne
                refine sx_seq (sx_for (s0 := ()) (X := fun B_ c_ d_ => XkOk g B_ X c_ d_) (fin := (fun y_ => Out.ret y_ [])) (Ei := (fun (_ : Unit) => [.kp (actual : Gn.D), .kp (due : Gn.D), .un])) (fun _ _ _ _ n_ h_ => h_.nest n_) (sr_r1 (px_lenD ((px_v (i := 1) (by exact rfl))) h28) g29) (tg_n) (by exact (LeE.cons .refl (LeE.cons .refl (LeE.cons .un LeE.nil)))) hL_ hno_ (fun y_ h_ => hret _ (loop_ret h_ hm).symm) (fun c_ d_ h_ => hex c_ d_ (by rw [h_] at hm; exact hm.symm)) (fun B x30 s_ r_ D hB_ hx_ hm hne hnx hct hbk hret hex => ?_) (fun s_ hs_ => ?_))
                · have hps := hB_.1.trans hps
                  show Sx g B [.kp (actual : Gn.D), .kp (due : Gn.D), .kp (x30 : Int)] _ _
                  obtain ⟨t31, h32, hm⟩ := ob_ne hm hne
                  obtain ⟨t33, h34, hm⟩ := ob_ne hm hne
                  obtain ⟨t35, h36, hm⟩ := ob_ne hm hne
                  refine sx_if (pt_not (pt_B (px_call (x := t35) (outs := []) (X := X) (pa_k ((px_atD ((px_v (i := 0) (by exact rfl))) (px_v (i := 2) (by exact rfl)) h32)) (pa_k ((px_atD ((px_v (i := 1) (by exact rfl))) (px_v (i := 2) (by exact rfl)) h34)) pa_n)) (.k (.k .nil)) (.k (.k .nil)) (by decide) ⟨t31, t33, rfl, by rw [(opt_ok h36)]; rfl⟩))) (fun e37 => ?_) (fun e37 => ?_)
                  · have hm := (if_pos e37).symm.trans hm
                    exact sx_ret' (px_bl) hps .nil (hret _ hm.symm)
                  · have hm := (if_neg (fun z_ => Bool.false_ne_true (e37.symm.trans z_))).symm.trans hm
                    exact sx_next (nx_le (LeE.cons .refl (LeE.cons .refl (LeE.cons .un LeE.nil))) (hnx _ hm.symm))
                · have hm := loop_go hs_ hm
                  clear hs_ hL_ hno_
                  obtain _ := s_
                  refine nx_of ?_
                  show Sx g B [.kp (actual : Gn.D), .kp (due : Gn.D), .un] _ _
                  exact sx_ret' (px_bl) hps .nil (hret _ hm.symm)
theorem deep__law_same {g : Gx} {P : Program} {w : World} {mg : Str → Option Value} {base : Heap} {A : Ad} (T : Txt P g mg A) : ∀ n_, FnOk P w g.K mg base (L2.CX P w) n_ A.f__law_same A.d__law_same ["actual", "due"] (spOf g (relR__law_same (nm_law_same n_)))
  | 0 => fn_void fun vs H Q X ⟨_, _, _, _, _, _, _, h, _⟩ => by
    obtain ⟨_, _, _, h⟩ := h
    exact h.elim
  | n_ + 1 => step__law_same T n_ _ (deep__law_same T n_)
theorem ok__law_same {g : Gx} {P : Program} {w : World} {mg : Str → Option Value} {base : Heap} {A : Ad} (T : Txt P g mg A) : FnOk P w g.K mg base (L2.CX P w) 8 A.f__law_same A.d__law_same ["actual", "due"] (spOf g rel__law_same) := deep__law_same T 8

def N__law_ab : List Str := ["pool", "most", "a"]
theorem sc__law_ab : FnScope N__law_ab ["pool", "most"] (defScope s__law_ab) := ⟨rfl, rfl, rfl, by decide +kernel, rfl, by decide +kernel, by decide +kernel⟩
def rel__law_ab (cs : List Ca) (o : Out) : Prop := ∃ (pool : (List Int)) (most : Int), cs = [.m pool, .k most] ∧ res1 (m_law_ab pool most) o
theorem ok__law_ab {g : Gx} {P : Program} {w : World} {mg : Str → Option Value} {base : Heap} {A : Ad} (T : Txt P g mg A) : FnOk P w g.K mg base (L2.CX P w) 2 A.f__law_ab A.d__law_ab ["pool", "most"] (spOf g rel__law_ab) := by
  refine fn_go T.F__law_ab sc__law_ab (fun cs o h => by obtain ⟨_, _, rfl, _⟩ := h; rfl) (by decide) (fun cdv A_ outer s H X hr => ⟨_, (pss_cons (ps_set (i := 2) sc__law_ab.nd rfl (by first | exact Or.inl rfl | exact Or.inr rfl) (pe_op op_add pe_int (pe_call (ok__law_take T) (hr.mono (by decide)) (by rfl) T.mg__law_take T.kp__law_take T.b__law_take .nil (passes_call (takes_of rfl rfl rfl rfl) (fun _ _ _ _ h_ => h_)) (pa_cons (pv 0) (pa_cons (pe_op op_sub (pv 1) pe_int) pa_nil)))))
 (pss_one (ps_ret (pe_tup (pa_cons (pv 2) (pa_cons (pe_op op_add (pe_op op_add (pv 2) pe_int) (pe_call (ok__law_take T) (hr.mono (by decide)) (by rfl) T.mg__law_take T.kp__law_take T.b__law_take .nil (passes_call (takes_of rfl rfl rfl rfl) (fun _ _ _ _ h_ => h_)) (pa_cons (pv 0) (pa_cons (pe_op op_sub (pv 1) (pv 2)) pa_nil)))) pa_nil)))))), fun B qs cs o E D hps hrel hini hrt hx hfall => ?_⟩)
  obtain ⟨pool, most, rfl, hrel⟩ := hrel
  generalize hm : m_law_ab pool most = r at hrel
  obtain ⟨hne, hret, hex⟩ := res1_ne hrel
  clear hrel
  obtain ⟨q_pool, qs1, E1, rfl, rfl, hini1⟩ := ini_m hini
  obtain ⟨E2, rfl, hini2⟩ := ini_k hini1
  obtain ⟨rfl, rfl⟩ := ini_nil hini2
  have hret := fun y_ h_ => (hret y_ h_ ▸ hrt : DRt g B D.rt _)
  have hex := fun c_ d_ h_ => hx c_ d_ (hex c_ d_ h_)
  unfold m_law_ab at hm
  show Sx g B [.io q_pool (pool : (List Int)), .kp (most : Int), .un] _ _
  obtain ⟨⟨t1, pool2⟩, h3, hm⟩ := ob_ne hm hne
  obtain ⟨a4, h5, hm⟩ := elet_eq (v := (((1 : Int) + t1) : Int)) hm
  refine sx_seq (sx_asg (i := 2) (px_eq ((px_op (px_int (n := 1)) (px_call (x := t1) (outs := [.mk pool2]) (X := X) (pa_s (i := 0) rfl (by intro h_; cases h_) (pa_k ((px_op (px_v (i := 1) (by exact rfl)) (px_int (n := 1)) r2_sub)) pa_n)) (.m (by exact rfl) (by exact trivial) RdL.io (.k .nil)) (.m (.k .nil)) (by decide) ⟨pool, (most - (1 : Int)), rfl, by rw [(opt_ok h3)]; rfl⟩) r2_add)) h5) (nx_of ?_))
  obtain ⟨⟨t6, pool7⟩, h8, hm⟩ := ob_ne hm hne
  exact sx_ret' ((px_tup2 ((px_v (i := 2) (by exact rfl))) ((px_op (px_op (px_v (i := 2) (by exact rfl)) (px_int (n := 1)) r2_add) (px_call (x := t6) (outs := [.mk pool7]) (X := X) (pa_s (i := 0) rfl (by intro h_; cases h_) (pa_k ((px_op (px_v (i := 1) (by exact rfl)) (px_v (i := 2) (by exact rfl)) r2_sub)) pa_n)) (.m (by exact rfl) (by exact trivial) RdL.io (.k .nil)) (.m (.k .nil)) (by decide) ⟨pool2, (most - a4), rfl, by rw [(opt_ok h8)]; rfl⟩) r2_add)))) hps (.cons (i := 0) rfl .nil) (hret _ hm.symm)

def N__law_up : List Str := ["x", "y"]
theorem sc__law_up : FnScope N__law_up ["x", "y"] (defScope s__law_up) := ⟨rfl, rfl, rfl, by decide +kernel, rfl, by decide +kernel, by decide +kernel⟩
def rel__law_up (cs : List Ca) (o : Out) : Prop := ∃ (x : Int) (y : Int), cs = [.k x, .k y] ∧ res0 (m_law_up x y) o
theorem ok__law_up {g : Gx} {P : Program} {w : World} {mg : Str → Option Value} {base : Heap} {A : Ad} (T : Txt P g mg A) : FnOk P w g.K mg base (L2.CX P w) 1 A.f__law_up A.d__law_up ["x", "y"] (spOf g rel__law_up) := by
  refine fn_go T.F__law_up sc__law_up (fun cs o h => by obtain ⟨_, _, rfl, _⟩ := h; rfl) (by decide) (fun cdv A_ outer s H X hr => ⟨_, (pss_one (ps_ret (pe_op op_fdiv (pe_op op_sub (pe_op op_add (pv 0) (pv 1)) pe_int) (pv 1)))), fun B qs cs o E D hps hrel hini hrt hx hfall => ?_⟩)
  obtain ⟨x, y, rfl, hrel⟩ := hrel
  generalize hm : m_law_up x y = r at hrel
  obtain ⟨hne, hret, hex⟩ := res0_ne hrel
  clear hrel
  obtain ⟨E1, rfl, hini1⟩ := ini_k hini
  obtain ⟨E2, rfl, hini2⟩ := ini_k hini1
  obtain ⟨rfl, rfl⟩ := ini_nil hini2
  have hret := fun y_ h_ => (hret y_ h_ ▸ hrt : DRt g B D.rt _)
  have hex := fun c_ d_ h_ => hx c_ d_ (hex c_ d_ h_)
  unfold m_law_up at hm
  show Sx g B [.kp (x : Int), .kp (y : Int)] _ _
  obtain ⟨g1, hm⟩ := gd_ne hm hne
  exact sx_ret' ((px_op (px_op (px_op (px_v (i := 0) (by exact rfl)) (px_v (i := 1) (by exact rfl)) r2_add) (px_int (n := 1)) r2_sub) (px_v (i := 1) (by exact rfl)) (r2_div g1))) hps .nil (hret _ hm.symm)

def N__law_lead : List Str := ["ab", "w"]
theorem sc__law_lead : FnScope N__law_lead ["ab", "w"] (defScope s__law_lead) := ⟨rfl, rfl, rfl, by decide +kernel, rfl, by decide +kernel, by decide +kernel⟩
def rel__law_lead (cs : List Ca) (o : Out) : Prop := ∃ (ab : (Int × Int)) (w_p : Int), cs = [.k ab, .k w_p] ∧ res0 (m_law_lead ab w_p) o
theorem ok__law_lead {g : Gx} {P : Program} {w : World} {mg : Str → Option Value} {base : Heap} {A : Ad} (T : Txt P g mg A) : FnOk P w g.K mg base (L2.CX P w) 2 A.f__law_lead A.d__law_lead ["ab", "w"] (spOf g rel__law_lead) := by
  refine fn_go T.F__law_lead sc__law_lead (fun cs o h => by obtain ⟨_, _, rfl, _⟩ := h; rfl) (by decide) (fun cdv A_ outer s H X hr => ⟨_, (pss_one (ps_ret (pe_op op_mul (pe_op op_sub (pe_call (ok__law_up T) (hr.mono (by decide)) (by rfl) T.mg__law_up T.kp__law_up T.b__law_up .nil (passes_call (takes_of rfl rfl rfl rfl) (fun _ _ _ _ h_ => h_)) (pa_cons (pv 1) (pa_cons (pe_op op_sub (pe_ix (ix_tupK (K := g.K) rfl) (pv 0) pe_int (fun _ _ => rfl)) (pe_ix (ix_tupK (K := g.K) rfl) (pv 0) pe_int (fun _ _ => rfl))) pa_nil))) pe_int) (pe_ix (ix_tupK (K := g.K) rfl) (pv 0) pe_int (fun _ _ => rfl))))), fun B qs cs o E D hps hrel hini hrt hx hfall => ?_⟩)
  obtain ⟨ab, w_p, rfl, hrel⟩ := hrel
  generalize hm : m_law_lead ab w_p = r at hrel
  obtain ⟨hne, hret, hex⟩ := res0_ne hrel
  clear hrel
  obtain ⟨E1, rfl, hini1⟩ := ini_k hini
  obtain ⟨E2, rfl, hini2⟩ := ini_k hini1
  obtain ⟨rfl, rfl⟩ := ini_nil hini2
  have hret := fun y_ h_ => (hret y_ h_ ▸ hrt : DRt g B D.rt _)
  have hex := fun c_ d_ h_ => hx c_ d_ (hex c_ d_ h_)
  unfold m_law_lead at hm
  show Sx g B [.kp (ab : (Int × Int)), .kp (w_p : Int)] _ _
  obtain ⟨t1, h2, hm⟩ := ob_ne hm hne
  obtain ⟨g3, hm⟩ := gd_ne hm hne
  exact sx_ret' ((px_op (px_op (px_call (x := t1) (outs := []) (X := X) (pa_k ((px_v (i := 1) (by exact rfl))) (pa_k ((px_op (px_t1 (px_v (i := 0) (by exact rfl))) (px_t0 (px_v (i := 0) (by exact rfl))) r2_sub)) pa_n)) (.k (.k .nil)) (.k (.k .nil)) (by decide) ⟨w_p, (ab.2 - ab.1), rfl, by rw [(opt_ok h2)]; rfl⟩) (px_int (n := 1)) r2_sub) (px_t0 (px_v (i := 0) (by exact rfl))) (r2_mul g3))) hps .nil (hret _ hm.symm)

def N__law_sound_pairs : List Str := ["pool", "ab", "need", "many", "longest", "kinds", "k", "w", "near"]
theorem sc__law_sound_pairs : FnScope N__law_sound_pairs ["pool", "ab", "need", "many"] (defScope s__law_sound_pairs) := ⟨rfl, rfl, rfl, by decide +kernel, rfl, by decide +kernel, by decide +kernel⟩
def rel__law_sound_pairs (cs : List Ca) (o : Out) : Prop := ∃ (pool : (List Int)) (ab : (Int × Int)) (need : Int) (many : Int), cs = [.m pool, .k ab, .k need, .k many] ∧ res1 (m_law_sound_pairs pool ab need many) o
theorem ok__law_sound_pairs {g : Gx} {P : Program} {w : World} {mg : Str → Option Value} {base : Heap} {A : Ad} (T : Txt P g mg A) : FnOk P w g.K mg base (L2.CX P w) 3 A.f__law_sound_pairs A.d__law_sound_pairs ["pool", "ab", "need", "many"] (spOf g rel__law_sound_pairs) := by
  refine fn_go T.F__law_sound_pairs sc__law_sound_pairs (fun cs o h => by obtain ⟨_, _, _, _, rfl, _⟩ := h; rfl) (by decide) (fun cdv A_ outer s H X hr => ⟨_, (pss_cons (ps_set (i := 4) sc__law_sound_pairs.nd rfl (by first | exact Or.inl rfl | exact Or.inr rfl) (pe_callB (call_min2 rfl) (by rfl) T.no_min (by decide +kernel) (pa_cons (pe_op op_sub (pe_ix (ix_tupK (K := g.K) rfl) (pv 1) pe_int (fun _ _ => rfl)) pe_int) (pa_cons (pe_op op_mul (pe_op op_add (pe_op op_fdiv (pe_op op_sub (pv 2) pe_int) (pe_ix (ix_tupK (K := g.K) rfl) (pv 1) pe_int (fun _ _ => rfl))) pe_int) (pe_op op_sub (pe_ix (ix_tupK (K := g.K) rfl) (pv 1) pe_int (fun _ _ => rfl)) (pe_ix (ix_tupK (K := g.K) rfl) (pv 1) pe_int (fun _ _ => rfl)))) pa_nil))))
 (pss_cons (ps_set (i := 5) sc__law_sound_pairs.nd rfl (by first | exact Or.inl rfl | exact Or.inr rfl) (pe_lst pa_nil))
 (pss_cons (ps_for (passes_of rfl) rfl (pi_range1 (by rfl) T.no_range (pa_cons (pv 3) pa_nil)) (pg_name (i := 6) sc__law_sound_pairs.nd rfl (by first | exact Or.inl rfl | exact Or.inr rfl)) (pss_cons (ps_set (i := 7) sc__law_sound_pairs.nd rfl (by first | exact Or.inl rfl | exact Or.inr rfl) (pe_op op_add pe_int (pe_call (ok__law_take T) (hr.mono (by decide)) (by rfl) T.mg__law_take T.kp__law_take T.b__law_take .nil (passes_call (takes_of rfl rfl rfl rfl) (fun _ _ _ _ h_ => h_)) (pa_cons (pv 0) (pa_cons (pv 4) pa_nil)))))
 (pss_cons (ps_set (i := 8) sc__law_sound_pairs.nd rfl (by first | exact Or.inl rfl | exact Or.inr rfl) (pe_op op_sub (pv 2) (pe_call (ok__law_lead T) (hr.mono (by decide)) (by rfl) T.mg__law_lead T.kp__law_lead T.b__law_lead .nil (passes_call (takes_of rfl rfl rfl rfl) (fun _ _ _ _ h_ => h_)) (pa_cons (pv 1) (pa_cons (pv 7) pa_nil)))))
 (Evl.pss_cut (ps_if (pt_cmpR op_eq (pe_call (ok__law_take T) (hr.mono (by decide)) (by rfl) T.mg__law_take T.kp__law_take T.b__law_take .nil (passes_call (takes_of rfl rfl rfl rfl) (fun _ _ _ _ h_ => h_)) (pa_cons (pv 0) (pa_cons pe_int pa_nil))) pe_int (nomark _)) (pss_one (ps_set (i := 8) sc__law_sound_pairs.nd rfl (by first | exact Or.inl rfl | exact Or.inr rfl) (pe_callB (call_min2 rfl) (by rfl) T.no_min (by decide +kernel) (pa_cons pe_int (pa_cons (pv 8) pa_nil))))) pss_nil)
 (pss_one (ps_expr (pe_bm PySem.F.plainAttrs_list PySem.F.slot_list_append PySem.F.type_list_append mt_append (pv 5) (pa_cons (pe_tup (pa_cons (pv 7) (pa_cons (pe_op op_add (pe_op op_add (pe_call (ok__law_lead T) (hr.mono (by decide)) (by rfl) T.mg__law_lead T.kp__law_lead T.b__law_lead .nil (passes_call (takes_of rfl rfl rfl rfl) (fun _ _ _ _ h_ => h_)) (pa_cons (pv 1) (pa_cons (pv 7) pa_nil))) pe_int) (pe_call (ok__law_take T) (hr.mono (by decide)) (by rfl) T.mg__law_take T.kp__law_take T.b__law_take .nil (passes_call (takes_of rfl rfl rfl rfl) (fun _ _ _ _ h_ => h_)) (pa_cons (pv 0) (pa_cons (pv 8) pa_nil)))) pa_nil))) pa_nil))))))))
 (pss_one (ps_ret (pv 5)))))), fun B qs cs o E D hps hrel hini hrt hx hfall => ?_⟩)
  obtain ⟨pool, ab, need, many, rfl, hrel⟩ := hrel
  generalize hm : m_law_sound_pairs pool ab need many = r at hrel
  obtain ⟨hne, hret, hex⟩ := res1_ne hrel
  clear hrel
  obtain ⟨q_pool, qs1, E1, rfl, rfl, hini1⟩ := ini_m hini
  obtain ⟨E2, rfl, hini2⟩ := ini_k hini1
  obtain ⟨E3, rfl, hini3⟩ := ini_k hini2
  obtain ⟨E4, rfl, hini4⟩ := ini_k hini3
  obtain ⟨rfl, rfl⟩ := ini_nil hini4
  have hret := fun y_ h_ => (hret y_ h_ ▸ hrt : DRt g B D.rt _)
  have hex := fun c_ d_ h_ => hx c_ d_ (hex c_ d_ h_)
  unfold m_law_sound_pairs at hm
  show Sx g B [.io q_pool (pool : (List Int)), .kp (ab : (Int × Int)), .kp (need : Int), .kp (many : Int), .un, .un, .un, .un, .un] _ _
  obtain ⟨g1, hm⟩ := gd_ne hm hne
  obtain ⟨g2, hm⟩ := gd_ne hm hne
  obtain ⟨longest3, h4, hm⟩ := elet_eq (v := ((min (ab.2 - (1 : Int)) ((((need - (1 : Int)) / ab.1) + (1 : Int)) * (ab.2 - ab.1))) : Int)) hm
  refine sx_seq (sx_asg (i := 4) (px_eq ((px_min2 (px_op (px_t1 (px_v (i := 1) (by exact rfl))) (px_int (n := 1)) r2_sub) (px_op (px_op (px_op (px_op (px_v (i := 2) (by exact rfl)) (px_int (n := 1)) r2_sub) (px_t0 (px_v (i := 1) (by exact rfl))) (r2_div g1)) (px_int (n := 1)) r2_add) (px_op (px_t1 (px_v (i := 1) (by exact rfl))) (px_t0 (px_v (i := 1) (by exact rfl))) r2_sub) (r2_mul g2)))) h4) (nx_of ?_))
  obtain ⟨kinds5, h6, hm⟩ := elet_eq (v := ([] : (List (Int × Int)))) hm
  refine sx_seq (sx_asgO (i := 5) (pn_eq (pn_lst (xs := ([] : (List (Int × Int)))) ps_nil (by decide)) h6) (nx_of ?_))
  obtain ⟨g7, hm⟩ := gd_ne hm hne
  obtain ⟨out_, hL_, hno_, hm⟩ := bind_split hm hne
  refine sx_seq (sx_fold (s0 := (pool, kinds5)) (X := fun B_ c_ d_ => XkOk g B_ X c_ d_) (Ei := (fun ((pool9, kinds10) : (List Int) × (List (Int × Int))) => [.io q_pool (pool9 : (List Int)), .kp (ab : (Int × Int)), .kp (need : Int), .kp (many : Int), .kp (longest3 : Int), .ow (kinds10 : (List (Int × Int))), .un, .un, .un])) (fun _ _ _ _ n_ h_ => h_.nest n_) (sr_r1 (px_v (i := 3) (by exact rfl)) g7) (tg_n) (by exact (LeE.cons .refl (LeE.cons .refl (LeE.cons .refl (LeE.cons .refl (LeE.cons .refl (LeE.cons .refl (LeE.cons .un (LeE.cons .un (LeE.cons .un LeE.nil)))))))))) hL_ hno_ (fun c_ d_ h_ => hex c_ d_ (by rw [h_] at hm; exact hm.symm)) (fun B x8 s_ r_ D hB_ hx_ hm hne hnx hct hex => ?_) (fun s_ hs_ => ?_))
  · obtain ⟨pool9, kinds10⟩ := s_
    have hps := hB_.1.trans hps
    show Sx g B [.io q_pool (pool9 : (List Int)), .kp (ab : (Int × Int)), .kp (need : Int), .kp (many : Int), .kp (longest3 : Int), .ow (kinds10 : (List (Int × Int))), .kp (x8 : Int), .un, .un] _ _
    obtain ⟨⟨t11, pool12⟩, h13, hm⟩ := ob_ne hm hne
    obtain ⟨w14, h15, hm⟩ := elet_eq (v := (((1 : Int) + t11) : Int)) hm
    refine sx_seq (sx_asg (i := 7) (px_eq ((px_op (px_int (n := 1)) (px_call (x := t11) (outs := [.mk pool12]) (X := X) (pa_s (i := 0) rfl (by intro h_; cases h_) (pa_k ((px_v (i := 4) (by exact rfl))) pa_n)) (.m (by exact rfl) (by exact trivial) RdL.io (.k .nil)) (.m (.k .nil)) (by decide) ⟨pool9, longest3, rfl, by rw [(opt_ok h13)]; rfl⟩) r2_add)) h15) (nx_of ?_))
    obtain ⟨t16, h17, hm⟩ := ob_ne hm hne
    obtain ⟨near18, h19, hm⟩ := elet_eq (v := ((need - t16) : Int)) hm
    refine sx_seq (sx_asg (i := 8) (px_eq ((px_op (px_v (i := 2) (by exact rfl)) (px_call (x := t16) (outs := []) (X := X) (pa_k ((px_v (i := 1) (by exact rfl))) (pa_k ((px_v (i := 7) (by exact rfl))) pa_n)) (.k (.k .nil)) (.k (.k .nil)) (by decide) ⟨ab, w14, rfl, by rw [(opt_ok h17)]; rfl⟩) r2_sub)) h19) (nx_of ?_))
    obtain ⟨⟨t20, pool21⟩, h22, hm⟩ := ob_ne hm hne
    obtain ⟨near24, h28, hm⟩ := ob_ne hm hne
    refine sx_cut (E' := [.io q_pool (pool21 : (List Int)), .kp (ab : (Int × Int)), .kp (need : Int), .kp (many : Int), .kp (longest3 : Int), .ow (kinds10 : (List (Int × Int))), .kp (x8 : Int), .kp (w14 : Int), .kp (near24 : Int)]) (fun M_ hM25 => ?_) ?_
    · clear hm
      refine sx_if (pt_test (px_op ((px_call (x := t20) (outs := [.mk pool21]) (X := X) (pa_s (i := 0) rfl (by intro h_; cases h_) (pa_k ((px_int (n := 2))) pa_n)) (.m (by exact rfl) (by exact trivial) RdL.io (.k .nil)) (.m (.k .nil)) (by decide) ⟨pool12, (2 : Int), rfl, by rw [(opt_ok h22)]; rfl⟩)) ((px_int (n := 1))) r2_eq)) (fun e23 => ?_) (fun e23 => ?_)
      · have hm := (if_pos e23).symm.trans (opt_ok h28)
        obtain ⟨near26, h27, hm⟩ := elet_eq (v := ((min (4 : Int) near18) : Int)) hm
        try first | have hm := try_ok hm hT_ | have hm := tryD_ok hm hT_
        have hm := R.ok.inj hm
        subst hm
        exact sx_asg (i := 8) (px_eq ((px_min2 (px_int (n := 4)) (px_v (i := 8) (by exact rfl)))) h27) (nx_le (LeE.cons .refl (LeE.cons .refl (LeE.cons .refl (LeE.cons .refl (LeE.cons .refl (LeE.cons .refl (LeE.cons .refl (LeE.cons .refl (LeE.cons .refl LeE.nil))))))))) hM25)
      · have hm := (if_neg (fun z_ => Bool.false_ne_true (e23.symm.trans z_))).symm.trans (opt_ok h28)
        try first | have hm := try_ok hm hT_ | have hm := tryD_ok hm hT_
        have hm := R.ok.inj hm
        subst hm
        exact sx_next (nx_le (LeE.cons .refl (LeE.cons .refl (LeE.cons .refl (LeE.cons .refl (LeE.cons .refl (LeE.cons .refl (LeE.cons .refl (LeE.cons .refl (LeE.cons .refl LeE.nil))))))))) hM25)
    · obtain ⟨t29, h30, hm⟩ := ob_ne hm hne
      obtain ⟨⟨t31, pool32⟩, h33, hm⟩ := ob_ne hm hne
      obtain ⟨g34, hm⟩ := gd_ne hm hne
      exact sx_append (i := 5) rfl ((px_tup2 ((px_v (i := 7) (by exact rfl))) ((px_op (px_op (px_call (x := t29) (outs := []) (X := X) (pa_k ((px_v (i := 1) (by exact rfl))) (pa_k ((px_v (i := 7) (by exact rfl))) pa_n)) (.k (.k .nil)) (.k (.k .nil)) (by decide) ⟨ab, w14, rfl, by rw [(opt_ok h30)]; rfl⟩) (px_int (n := 1)) r2_add) (px_call (x := t31) (outs := [.mk pool32]) (X := X) (pa_s (i := 0) rfl (by intro h_; cases h_) (pa_k ((px_v (i := 8) (by exact rfl))) pa_n)) (.m (by exact rfl) (by exact trivial) RdL.io (.k .nil)) (.m (.k .nil)) (by decide) ⟨pool21, near24, rfl, by rw [(opt_ok h33)]; rfl⟩) r2_add)))) rfl trivial RdL.ow g34 (nx_le (LeE.cons .refl (LeE.cons .refl (LeE.cons .refl (LeE.cons .refl (LeE.cons .refl (LeE.cons .refl (LeE.cons .un (LeE.cons .un (LeE.cons .un LeE.nil))))))))) (hnx _ hm.symm))
  · rw [hs_] at hm
    clear hs_ hL_ hno_
    obtain ⟨pool35, kinds36⟩ := s_
    replace hm := rbind_ok hm
    refine nx_of ?_
    show Sx g B [.io q_pool (pool35 : (List Int)), .kp (ab : (Int × Int)), .kp (need : Int), .kp (many : Int), .kp (longest3 : Int), .ow (kinds36 : (List (Int × Int))), .un, .un, .un] _ _
    refine sx_freeze (i := 5) rfl (.inr ⟨0, (by decide), _, _, _, _, hps, rfl⟩) ?_
    exact sx_ret' ((px_v (i := 5) (by exact rfl))) hps (.cons (i := 0) rfl .nil) (hret _ hm.symm)

def N__law_peak : List Str := ["kinds", "kind"]
theorem sc__law_peak : FnScope N__law_peak ["kinds"] (defScope s__law_peak) := ⟨rfl, rfl, rfl, by decide +kernel, rfl, by decide +kernel, by decide +kernel⟩
def rel__law_peak (cs : List Ca) (o : Out) : Prop := ∃ (kinds : (List (Int × Int))), cs = [.k kinds] ∧ res0 (m_law_peak kinds) o
theorem ok__law_peak {g : Gx} {P : Program} {w : World} {mg : Str → Option Value} {base : Heap} {A : Ad} (T : Txt P g mg A) : FnOk P w g.K mg base (L2.CX P w) 1 A.f__law_peak A.d__law_peak ["kinds"] (spOf g rel__law_peak) := by
  refine fn_go T.F__law_peak sc__law_peak (fun cs o h => by obtain ⟨_, rfl, _⟩ := h; rfl) (by decide) (fun cdv A_ outer s H X hr => ⟨_, (pss_one (ps_ret (pe_callB (cr_maxK (K := g.K) rfl rfl) (by rfl) T.no_max (by decide +kernel) (pa_cons (pe_op op_cat (pe_lst (pa_cons pe_int pa_nil)) (pe_lc (own := [("kind", 1)]) (by rfl) sc__law_peak.nd (pi_listK (K := g.K) rfl (pv 0)) (blkOk_by (own := [("kind", 1)]) (N := N__law_peak) (sc := defScope s__law_peak) (by decide +kernel)) (fun _ _ _ _ _ => (pg_name (i := 1) sc__law_peak.nd rfl (by first | exact Or.inl rfl | exact Or.inr rfl))) (fun _ _ _ _ _ => pts_nil) (fun _ _ _ _ _ => (pe_ix (ix_tupK (K := g.K) rfl) (pv 1) pe_int (fun _ _ => rfl))))) pa_nil)))), fun B qs cs o E D hps hrel hini hrt hx hfall => ?_⟩)
  obtain ⟨kinds, rfl, hrel⟩ := hrel
  generalize hm : m_law_peak kinds = r at hrel
  obtain ⟨hne, hret, hex⟩ := res0_ne hrel
  clear hrel
  obtain ⟨E1, rfl, hini1⟩ := ini_k hini
  obtain ⟨rfl, rfl⟩ := ini_nil hini1
  have hret := fun y_ h_ => (hret y_ h_ ▸ hrt : DRt g B D.rt _)
  have hex := fun c_ d_ h_ => hx c_ d_ (hex c_ d_ h_)
  unfold m_law_peak at hm
  show Sx g B [.kp (kinds : (List (Int × Int))), .un] _ _
  obtain ⟨g2, hm⟩ := gd_ne hm hne
  obtain ⟨ys3, h4, hm⟩ := ob_ne hm hne
  obtain ⟨g7, hm⟩ := gd_ne hm hne
  obtain ⟨t8, h9, hm⟩ := ob_ne hm hne
  exact sx_ret' ((px_max (pl_k ((PxN.pxA Int (pn_cat (pl_k ((PxN.pxA Int (pn_lst (ps_cons ((px_int (n := 0))) ps_nil) (by simp only [List.length_cons, List.length_nil]; decide))))) (pl_k ((PxN.pxA Int (pn_map (sr_list ((px_v (i := 0) (by exact rfl)))) (tc_n (by decide)) (opt_ok h4) g2 (by exact nowns1 (nown rfl (fun z_ => z_))) (fun x_ => leE_set rfl) (fun B_ x1 y5 n_ hx_ e6 => by
      have e6 := R.ok.inj e6
      subst e6
      exact (px_t0 (px_v (i := 1) (by exact rfl)))))))) trivial trivial g7)))) trivial h9)) hps .nil (hret _ hm.symm)

def N__law_live : List Str := ["ab", "signs", "n", "alive", "back", "h", "later", "k"]
theorem sc__law_live : FnScope N__law_live ["ab", "signs"] (defScope s__law_live) := ⟨rfl, rfl, rfl, by decide +kernel, rfl, by decide +kernel, by decide +kernel⟩
def rel__law_live (cs : List Ca) (o : Out) : Prop := ∃ (ab : (Int × Int)) (signs : Tx), cs = [.k ab, .k signs] ∧ res0 (m_law_live ab signs) o
theorem ok__law_live {g : Gx} {P : Program} {w : World} {mg : Str → Option Value} {base : Heap} {A : Ad} (T : Txt P g mg A) : FnOk P w g.K mg base (L2.CX P w) 1 A.f__law_live A.d__law_live ["ab", "signs"] (spOf g rel__law_live) := by
  refine fn_go T.F__law_live sc__law_live (fun cs o h => by obtain ⟨_, _, rfl, _⟩ := h; rfl) (by decide) (fun cdv A_ outer s H X hr => ⟨_, (pss_cons (ps_set (i := 2) sc__law_live.nd rfl (by first | exact Or.inl rfl | exact Or.inr rfl) (pe_callB call_len_str (by rfl) T.no_len (by decide +kernel) (pa_cons (pv 1) pa_nil)))
 (pss_cons (ps_setLc (i := 3) (own := [("k", 7)]) (by rfl) sc__law_live.nd rfl rfl (sw_true rfl rfl rfl (by decide +kernel)) (pi_range1 (by rfl) T.no_range (pa_cons (pe_op op_add (pv 2) pe_int) pa_nil)) (blkOk_by (own := [("k", 7)]) (N := N__law_live) (sc := defScope s__law_live) (by decide +kernel)) (fun _ _ _ _ _ => (pg_name (i := 7) sc__law_live.nd rfl (by first | exact Or.inl rfl | exact Or.inr rfl))) (fun _ _ _ _ _ => pts_nil) (fun _ _ _ _ _ => pe_bl))
 (pss_cons (ps_for (passes_of rfl) rfl (pi_range1 (by rfl) T.no_range (pa_cons (pv 2) pa_nil)) (pg_name (i := 4) sc__law_live.nd rfl (by first | exact Or.inl rfl | exact Or.inr rfl)) (pss_cons (ps_set (i := 5) sc__law_live.nd rfl (by first | exact Or.inl rfl | exact Or.inr rfl) (pe_op op_sub (pv 2) (pv 4)))
 (pss_one (ps_if (PW.pt (pw_and (pt_cmpR op_eq (pe_ix ix_str (pv 1) (pe_op op_sub (pv 5) pe_int) (fun _ _ => rfl)) pe_str (nomark _)) (pw_and1 (pt_cmpR op_gt (pe_op op_add (pv 5) (pe_ix (ix_tupK (K := g.K) rfl) (pv 0) pe_int (fun _ _ => rfl))) (pv 2) (nomark _))))) (pss_one (ps_asg pe_bl (pg_sub (pv 3) (pv 5) set_list))) (pss_one (ps_if (pt_cmpR op_eq (pe_ix ix_str (pv 1) (pe_op op_sub (pv 5) pe_int) (fun _ _ => rfl)) pe_str (nomark _)) (pss_one (ps_for (passes_of rfl) rfl (pi_range2 (by rfl) T.no_range (pa_cons (pe_op op_add (pv 5) (pe_ix (ix_tupK (K := g.K) rfl) (pv 0) pe_int (fun _ _ => rfl))) (pa_cons (pe_op op_add (pe_op op_add (pv 5) (pe_ix (ix_tupK (K := g.K) rfl) (pv 0) pe_int (fun _ _ => rfl))) pe_int) pa_nil))) (pg_name (i := 6) sc__law_live.nd rfl (by first | exact Or.inl rfl | exact Or.inr rfl)) (pss_one (ps_if (pt_val (pe_ix (ix_listK (K := g.K) rfl) (pv 3) (pv 6) (fun _ _ => rfl))) (pss_one (ps_asg pe_bl (pg_sub (pv 3) (pv 5) set_list))) pss_nil)))) pss_nil))))))
 (pss_one (ps_ret (pv 3)))))), fun B qs cs o E D hps hrel hini hrt hx hfall => ?_⟩)
  obtain ⟨ab, signs, rfl, hrel⟩ := hrel
  generalize hm : m_law_live ab signs = r at hrel
  obtain ⟨hne, hret, hex⟩ := res0_ne hrel
  clear hrel
  obtain ⟨E1, rfl, hini1⟩ := ini_k hini
  obtain ⟨E2, rfl, hini2⟩ := ini_k hini1
  obtain ⟨rfl, rfl⟩ := ini_nil hini2
  have hret := fun y_ h_ => (hret y_ h_ ▸ hrt : DRt g B D.rt _)
  have hex := fun c_ d_ h_ => hx c_ d_ (hex c_ d_ h_)
  unfold m_law_live at hm
  show Sx g B [.kp (ab : (Int × Int)), .kp (signs : Tx), .un, .un, .un, .un, .un, .un] _ _
  obtain ⟨g1, hm⟩ := gd_ne hm hne
  obtain ⟨n2, h3, hm⟩ := elet_eq (v := ((signs.length : Int) : Int)) hm
  refine sx_seq (sx_asg (i := 2) (px_eq ((px_lenS (px_v (i := 1) (by exact rfl)) g1)) h3) (nx_of ?_))
  obtain ⟨g4, hm⟩ := gd_ne hm hne
  obtain ⟨g6, hm⟩ := gd_ne hm hne
  obtain ⟨ys7, h8, hm⟩ := ob_ne hm hne
  refine sx_seq (sx_asgO (i := 3) (pn_map (sr_r1 (px_op (px_v (i := 2) (by exact rfl)) (px_int (n := 1)) r2_add) g4) (tc_n (by decide)) (opt_ok h8) g6 (by exact nowns1 (nown rfl (fun z_ => z_))) (fun x_ => leE_set rfl) (fun B_ x5 y9 n_ hx_ e10 => by
      have e10 := R.ok.inj e10
      subst e10
      exact px_bl)) (nx_of ?_))
  obtain ⟨g11, hm⟩ := gd_ne hm hne
  obtain ⟨out_, hL_, hno_, hm⟩ := bind_split hm hne
  refine sx_seq (sx_fold (s0 := ys7) (X := fun B_ c_ d_ => XkOk g B_ X c_ d_) (Ei := (fun (alive13 : (List Bool)) => [.kp (ab : (Int × Int)), .kp (signs : Tx), .kp (n2 : Int), .ow (alive13 : (List Bool)), .un, .un, .un, .un])) (fun _ _ _ _ n_ h_ => h_.nest n_) (sr_r1 (px_v (i := 2) (by exact rfl)) g11) (tg_n) (by exact (LeE.cons .refl (LeE.cons .refl (LeE.cons .refl (LeE.cons .refl (LeE.cons .un (LeE.cons .un (LeE.cons .un (LeE.cons .un LeE.nil))))))))) hL_ hno_ (fun c_ d_ h_ => hex c_ d_ (by rw [h_] at hm; exact hm.symm)) (fun B x12 alive13 r_ D hB_ hx_ hm hne hnx hct hex => ?_) (fun alive36 hs_ => ?_))
  · have hps := hB_.1.trans hps
    show Sx g B [.kp (ab : (Int × Int)), .kp (signs : Tx), .kp (n2 : Int), .ow (alive13 : (List Bool)), .kp (x12 : Int), .un, .un, .un] _ _
    obtain ⟨h14, h15, hm⟩ := elet_eq (v := ((n2 - x12) : Int)) hm
    refine sx_seq (sx_asg (i := 5) (px_eq ((px_op (px_v (i := 2) (by exact rfl)) (px_v (i := 4) (by exact rfl)) r2_sub)) h15) (nx_of ?_))
    obtain ⟨g16, hm⟩ := gd_ne hm hne
    obtain ⟨t17, h18, hm⟩ := ob_ne hm hne
    refine sx_if (pt_and (pt_test (px_op ((px_idxS (px_v (i := 1) (by exact rfl)) (px_op (px_v (i := 5) (by exact rfl)) (px_int (n := 1)) r2_sub) g16 h18)) ((px_str (t := ([46] : Tx)) rfl)) r2_eq)) (fun _ => (pt_test (px_op ((px_op (px_v (i := 5) (by exact rfl)) (px_t1 (px_v (i := 0) (by exact rfl))) r2_add)) ((px_v (i := 2) (by exact rfl))) r2_gt))) (fun _ => rfl)) (fun e19 => ?_) (fun e19 => ?_)
    · have hm := (if_pos e19).symm.trans hm
      obtain ⟨alive20, h21, hm⟩ := ob_ne hm hne
      exact sx_setitem (i := 3) (px_bl) rfl (px_v (i := 5) (by exact rfl)) rfl trivial RdL.ow h21 (nx_le (LeE.cons .refl (LeE.cons .refl (LeE.cons .refl (LeE.cons .refl (LeE.cons .un (LeE.cons .un (LeE.cons .un (LeE.cons .un LeE.nil)))))))) (hnx _ hm.symm))
    · have hm := (if_neg (fun z_ => Bool.false_ne_true (e19.symm.trans z_))).symm.trans hm
      obtain ⟨g22, hm⟩ := gd_ne hm hne
      obtain ⟨t23, h24, hm⟩ := ob_ne hm hne
      refine sx_if (pt_test (px_op ((px_idxS (px_v (i := 1) (by exact rfl)) (px_op (px_v (i := 5) (by exact rfl)) (px_int (n := 1)) r2_sub) g22 h24)) ((px_str (t := ([46] : Tx)) rfl)) r2_eq)) (fun e25 => ?_) (fun e25 => ?_)
      · have hm := (if_pos e25).symm.trans hm
        obtain ⟨g26, hm⟩ := gd_ne hm hne
        obtain ⟨g27, hm⟩ := gd_ne hm hne
        obtain ⟨out_, hL_, hno_, hm⟩ := bind_split hm hne
        refine sx_fold (s0 := alive13) (X := fun B_ c_ d_ => XkOk g B_ X c_ d_) (Ei := (fun (alive29 : (List Bool)) => [.kp (ab : (Int × Int)), .kp (signs : Tx), .kp (n2 : Int), .ow (alive29 : (List Bool)), .kp (x12 : Int), .kp (h14 : Int), .un, .un])) (fun _ _ _ _ n_ h_ => h_.nest n_) (sr_r2 (px_op (px_v (i := 5) (by exact rfl)) (px_t0 (px_v (i := 0) (by exact rfl))) r2_add) (px_op (px_op (px_v (i := 5) (by exact rfl)) (px_t1 (px_v (i := 0) (by exact rfl))) r2_add) (px_int (n := 1)) r2_add) g26 g27) (tg_n) (by exact (LeE.cons .refl (LeE.cons .refl (LeE.cons .refl (LeE.cons .refl (LeE.cons .refl (LeE.cons .refl (LeE.cons .un (LeE.cons .un LeE.nil))))))))) hL_ hno_ (fun c_ d_ h_ => hex c_ d_ (by rw [h_] at hm; exact hm.symm)) (fun B x28 alive29 r_ D hB_ hx_ hm hne hnx hct hex => ?_) (fun alive35 hs_ => ?_)
        · have hps := hB_.1.trans hps
          show Sx g B [.kp (ab : (Int × Int)), .kp (signs : Tx), .kp (n2 : Int), .ow (alive29 : (List Bool)), .kp (x12 : Int), .kp (h14 : Int), .kp (x28 : Int), .un] _ _
          obtain ⟨t30, h31, hm⟩ := ob_ne hm hne
          refine sx_if (pt_B (px_idx (pl_s (i := 3) (by exact rfl) RdL.ow) (px_v (i := 6) (by exact rfl)) rfl h31)) (fun e32 => ?_) (fun e32 => ?_)
          · have hm := (if_pos e32).symm.trans hm
            obtain ⟨alive33, h34, hm⟩ := ob_ne hm hne
            exact sx_setitem (i := 3) (px_bl) rfl (px_v (i := 5) (by exact rfl)) rfl trivial RdL.ow h34 (nx_le (LeE.cons .refl (LeE.cons .refl (LeE.cons .refl (LeE.cons .refl (LeE.cons .refl (LeE.cons .refl (LeE.cons .un (LeE.cons .un LeE.nil)))))))) (hnx _ hm.symm))
          · have hm := (if_neg (fun z_ => Bool.false_ne_true (e32.symm.trans z_))).symm.trans hm
            exact sx_next (nx_le (LeE.cons .refl (LeE.cons .refl (LeE.cons .refl (LeE.cons .refl (LeE.cons .refl (LeE.cons .refl (LeE.cons .un (LeE.cons .un LeE.nil)))))))) (hnx _ hm.symm))
        · rw [hs_] at hm
          clear hs_ hL_ hno_
          replace hm := rbind_ok hm
          exact (nx_le (LeE.cons .refl (LeE.cons .refl (LeE.cons .refl (LeE.cons .refl (LeE.cons .un (LeE.cons .un (LeE.cons .un (LeE.cons .un LeE.nil)))))))) (hnx _ hm.symm))
      · have hm := (if_neg (fun z_ => Bool.false_ne_true (e25.symm.trans z_))).symm.trans hm
        exact sx_next (nx_le (LeE.cons .refl (LeE.cons .refl (LeE.cons .refl (LeE.cons .refl (LeE.cons .un (LeE.cons .un (LeE.cons .un (LeE.cons .un LeE.nil)))))))) (hnx _ hm.symm))
  · rw [hs_] at hm
    clear hs_ hL_ hno_
    replace hm := rbind_ok hm
    refine nx_of ?_
    show Sx g B [.kp (ab : (Int × Int)), .kp (signs : Tx), .kp (n2 : Int), .ow (alive36 : (List Bool)), .un, .un, .un, .un] _ _
    refine sx_freeze (i := 3) rfl (.inl hps) ?_
    exact sx_ret' ((px_v (i := 3) (by exact rfl))) hps .nil (hret _ hm.symm)

def N__law_last_row : List Str := ["ab", "signs", "alive", "row", "k", "h"]
theorem sc__law_last_row : FnScope N__law_last_row ["ab", "signs"] (defScope s__law_last_row) := ⟨rfl, rfl, rfl, by decide +kernel, rfl, by decide +kernel, by decide +kernel⟩
def rel__law_last_row (cs : List Ca) (o : Out) : Prop := ∃ (ab : (Int × Int)) (signs : Tx), cs = [.k ab, .k signs] ∧ res0 (m_law_last_row ab signs) o
theorem ok__law_last_row {g : Gx} {P : Program} {w : World} {mg : Str → Option Value} {base : Heap} {A : Ad} (T : Txt P g mg A) : FnOk P w g.K mg base (L2.CX P w) 2 A.f__law_last_row A.d__law_last_row ["ab", "signs"] (spOf g rel__law_last_row) := by
  refine fn_go T.F__law_last_row sc__law_last_row (fun cs o h => by obtain ⟨_, _, rfl, _⟩ := h; rfl) (by decide) (fun cdv A_ outer s H X hr => ⟨_, (pss_cons (ps_set (i := 2) sc__law_last_row.nd rfl (by first | exact Or.inl rfl | exact Or.inr rfl) (pe_call (ok__law_live T) (hr.mono (by decide)) (by rfl) T.mg__law_live T.kp__law_live T.b__law_live .nil (passes_call (takes_of rfl rfl rfl rfl) (fun _ _ _ _ h_ => h_)) (pa_cons (pv 0) (pa_cons (pv 1) pa_nil))))
 (pss_cons (ps_set (i := 3) sc__law_last_row.nd rfl (by first | exact Or.inl rfl | exact Or.inr rfl) (pe_lst (pa_cons pe_int pa_nil)))
 (pss_cons (ps_for (passes_of rfl) rfl (pi_range1 (by rfl) T.no_range (pa_cons (pe_callB call_len_str (by rfl) T.no_len (by decide +kernel) (pa_cons (pv 1) pa_nil)) pa_nil)) (pg_name (i := 4) sc__law_last_row.nd rfl (by first | exact Or.inl rfl | exact Or.inr rfl)) (pss_cons (ps_if (PW.pt (pw_or (pt_cmpR op_gt (pe_op op_add (pe_ix (ix_listK (K := g.K) rfl) (pv 3) (pe_un un_neg pe_int) (fun _ _ => rfl)) (pe_ix (ix_tupK (K := g.K) rfl) (pv 0) pe_int (fun _ _ => rfl))) (pe_callB call_len_str (by rfl) T.no_len (by decide +kernel) (pa_cons (pv 1) pa_nil)) (nomark _)) (pw_or1 (L2.pt_not (pt_val (pe_ix (ix_listK (K := g.K) rfl) (pv 2) (pe_ix (ix_listK (K := g.K) rfl) (pv 3) (pe_un un_neg pe_int) (fun _ _ => rfl)) (fun _ _ => rfl))))))) (pss_one ps_break) pss_nil)
 (pss_one (ps_expr (pe_bm PySem.F.plainAttrs_list PySem.F.slot_list_append PySem.F.type_list_append mt_append (pv 3) (pa_cons (pe_callB (cr_maxK (K := g.K) rfl rfl) (by rfl) T.no_max (by decide +kernel) (pa_cons (pe_lc (own := [("h", 5)]) (by rfl) sc__law_last_row.nd (pi_range2 (by rfl) T.no_range (pa_cons (pe_op op_add (pe_ix (ix_listK (K := g.K) rfl) (pv 3) (pe_un un_neg pe_int) (fun _ _ => rfl)) (pe_ix (ix_tupK (K := g.K) rfl) (pv 0) pe_int (fun _ _ => rfl))) (pa_cons (pe_op op_add (pe_op op_add (pe_ix (ix_listK (K := g.K) rfl) (pv 3) (pe_un un_neg pe_int) (fun _ _ => rfl)) (pe_ix (ix_tupK (K := g.K) rfl) (pv 0) pe_int (fun _ _ => rfl))) pe_int) pa_nil))) (blkOk_by (own := [("h", 5)]) (N := N__law_last_row) (sc := defScope s__law_last_row) (by decide +kernel)) (fun _ _ _ _ _ => (pg_name (i := 5) sc__law_last_row.nd rfl (by first | exact Or.inl rfl | exact Or.inr rfl))) (fun _ _ _ _ _ => pts_one (pt_val (pe_ix (ix_listK (K := g.K) rfl) (pv 2) (pv 5) (fun _ _ => rfl)))) (fun _ _ _ _ _ => (pv 5))) pa_nil)) pa_nil))))))
 (pss_one (ps_ret (pv 3)))))), fun B qs cs o E D hps hrel hini hrt hx hfall => ?_⟩)
  obtain ⟨ab, signs, rfl, hrel⟩ := hrel
  generalize hm : m_law_last_row ab signs = r at hrel
  obtain ⟨hne, hret, hex⟩ := res0_ne hrel
  clear hrel
  obtain ⟨E1, rfl, hini1⟩ := ini_k hini
  obtain ⟨E2, rfl, hini2⟩ := ini_k hini1
  obtain ⟨rfl, rfl⟩ := ini_nil hini2
  have hret := fun y_ h_ => (hret y_ h_ ▸ hrt : DRt g B D.rt _)
  have hex := fun c_ d_ h_ => hx c_ d_ (hex c_ d_ h_)
  unfold m_law_last_row at hm
  show Sx g B [.kp (ab : (Int × Int)), .kp (signs : Tx), .un, .un, .un, .un] _ _
  obtain ⟨t1, h2, hm⟩ := ob_ne hm hne
  refine sx_seq (sx_asg (i := 2) ((px_call (x := t1) (outs := []) (X := X) (pa_k ((px_v (i := 0) (by exact rfl))) (pa_k ((px_v (i := 1) (by exact rfl))) pa_n)) (.k (.k .nil)) (.k (.k .nil)) (by decide) ⟨ab, signs, rfl, by rw [(opt_ok h2)]; rfl⟩)) (nx_of ?_))
  obtain ⟨row3, h4, hm⟩ := elet_eq (v := ([(1 : Int)] : (List Int))) hm
  refine sx_seq (sx_asgO (i := 3) (pn_eq (pn_lst (ps_cons ((px_int (n := 1))) ps_nil) (by simp only [List.length_cons, List.length_nil]; decide)) h4) (nx_of ?_))
  obtain ⟨g5, hm⟩ := gd_ne hm hne
  obtain ⟨g6, hm⟩ := gd_ne hm hne
  obtain ⟨out_, hL_, hno_, hm⟩ := bind_split hm hne
  refine sx_seq (sx_for (s0 := row3) (X := fun B_ c_ d_ => XkOk g B_ X c_ d_) (fin := (fun y_ => Out.ret y_ [])) (Ei := (fun (row8 : (List Int)) => [.kp (ab : (Int × Int)), .kp (signs : Tx), .kp (t1 : (List Bool)), .ow (row8 : (List Int)), .un, .un])) (fun _ _ _ _ n_ h_ => h_.nest n_) (sr_r1 (px_lenS (px_v (i := 1) (by exact rfl)) g5) g6) (tg_n) (by exact (LeE.cons .refl (LeE.cons .refl (LeE.cons .refl (LeE.cons .refl (LeE.cons .un (LeE.cons .un LeE.nil))))))) hL_ hno_ (fun y_ h_ => hret _ (loop_ret h_ hm).symm) (fun c_ d_ h_ => hex c_ d_ (by rw [h_] at hm; exact hm.symm)) (fun B x7 row8 r_ D hB_ hx_ hm hne hnx hct hbk hret hex => ?_) (fun row38 hs_ => ?_))
  · have hps := hB_.1.trans hps
    show Sx g B [.kp (ab : (Int × Int)), .kp (signs : Tx), .kp (t1 : (List Bool)), .ow (row8 : (List Int)), .kp (x7 : Int), .un] _ _
    obtain ⟨t9, h10, hm⟩ := ob_ne hm hne
    obtain ⟨g11, hm⟩ := gd_ne hm hne
    obtain ⟨c16, h17, hm⟩ := ob_ne hm hne
    refine sx_seq (sx_if (pt_orR (c := c16) (pt_test (px_op ((px_op (px_idx (pl_s (i := 3) (by exact rfl) RdL.ow) (px_un (px_int (n := 1)) r1_neg) rfl h10) (px_t1 (px_v (i := 0) (by exact rfl))) r2_add)) ((px_lenS (px_v (i := 1) (by exact rfl)) g11)) r2_gt)) (fun e18_ => by
      have e18 := (if_neg (fun z_ => Bool.false_ne_true (e18_.symm.trans z_))).symm.trans (opt_ok h17)
      obtain ⟨t12, h13, e18⟩ := ob_ne e18 ok_ne
      obtain ⟨t14, h15, e18⟩ := ob_ne e18 ok_ne
      have e18 := R.ok.inj e18
      subst e18
      exact (pt_not (pt_B (px_idx (pl_k (px_v (i := 2) (by exact rfl))) (px_idx (pl_s (i := 3) (by exact rfl) RdL.ow) (px_un (px_int (n := 1)) r1_neg) rfl h13) trivial h15)))) (fun e18_ => by
      have e18 := (if_pos e18_).symm.trans (opt_ok h17)
      have e18 := R.ok.inj e18
      subst e18
      exact ⟨rfl, rfl⟩)) (fun e19 => ?_) (fun e19 => ?_))
    · have hm := (if_pos e19).symm.trans hm
      exact sx_brk (nx_le (LeE.cons .refl (LeE.cons .refl (LeE.cons .refl (LeE.cons .refl (LeE.cons .un (LeE.cons .un LeE.nil)))))) (hbk _ hm.symm))
    · have hm := (if_neg (fun z_ => Bool.false_ne_true (e19.symm.trans z_))).symm.trans hm
      refine sx_next (nx_of ?_)
      obtain ⟨t20, h21, hm⟩ := ob_ne hm hne
      obtain ⟨t22, h23, hm⟩ := ob_ne hm hne
      obtain ⟨g24, hm⟩ := gd_ne hm hne
      obtain ⟨g25, hm⟩ := gd_ne hm hne
      obtain ⟨g29, hm⟩ := gd_ne hm hne
      obtain ⟨ys30, h31, hm⟩ := ob_ne hm hne
      obtain ⟨t35, h36, hm⟩ := ob_ne hm hne
      obtain ⟨g37, hm⟩ := gd_ne hm hne
      exact sx_append (i := 3) rfl ((px_max (pl_k ((PxN.pxA Int (pn_fil (sr_r2 (px_op (px_idx (pl_s (i := 3) (by exact rfl) RdL.ow) (px_un (px_int (n := 1)) r1_neg) rfl h21) (px_t0 (px_v (i := 0) (by exact rfl))) r2_add) (px_op (px_op (px_idx (pl_s (i := 3) (by exact rfl) RdL.ow) (px_un (px_int (n := 1)) r1_neg) rfl h23) (px_t1 (px_v (i := 0) (by exact rfl))) r2_add) (px_int (n := 1)) r2_add) g24 g25) (tc_n (by decide)) (opt_ok h31) g29 (by exact nowns1 (nown rfl (fun z_ => z_))) (fun x_ => leE_set rfl) (fun B_ x26 r32 n_ hx_ e33 => by
          obtain ⟨t27, h28, e33⟩ := ob_ne e33 ok_ne
          refine ⟨_, (pt_B (px_idx (pl_k (px_v (i := 2) (by exact rfl))) (px_v (i := 5) (by exact rfl)) trivial h28)), fun e34 => ?_, fun e34 => ?_⟩
          · have e33 := (if_pos e34).symm.trans e33
            have e33 := R.ok.inj e33
            subst e33
            exact ⟨_, rfl, (px_v (i := 5) (by exact rfl))⟩
          · have e33 := (if_neg (fun z_ => Bool.false_ne_true (e34.symm.trans z_))).symm.trans e33
            have e33 := R.ok.inj e33
            exact e33.symm))))) trivial h36)) rfl trivial RdL.ow g37 (nx_le (LeE.cons .refl (LeE.cons .refl (LeE.cons .refl (LeE.cons .refl (LeE.cons .un (LeE.cons .un LeE.nil)))))) (hnx _ hm.symm))
  · have hm := loop_go hs_ hm
    clear hs_ hL_ hno_
    refine nx_of ?_
    show Sx g B [.kp (ab : (Int × Int)), .kp (signs : Tx), .kp (t1 : (List Bool)), .ow (row38 : (List Int)), .un, .un] _ _
    refine sx_freeze (i := 3) rfl (.inl hps) ?_
    exact sx_ret' ((px_v (i := 3) (by exact rfl))) hps .nil (hret _ hm.symm)

def N__law_longest : List Str := ["kinds", "stretch", "best", "kind"]
theorem sc__law_longest : FnScope N__law_longest ["kinds", "stretch"] (defScope s__law_longest) := ⟨rfl, rfl, rfl, by decide +kernel, rfl, by decide +kernel, by decide +kernel⟩
def rel__law_longest (cs : List Ca) (o : Out) : Prop := ∃ (kinds : (List (Int × Int))) (stretch : Int), cs = [.k kinds, .k stretch] ∧ res0 (m_law_longest kinds stretch) o
theorem ok__law_longest {g : Gx} {P : Program} {w : World} {mg : Str → Option Value} {base : Heap} {A : Ad} (T : Txt P g mg A) : FnOk P w g.K mg base (L2.CX P w) 1 A.f__law_longest A.d__law_longest ["kinds", "stretch"] (spOf g rel__law_longest) := by
  refine fn_go T.F__law_longest sc__law_longest (fun cs o h => by obtain ⟨_, _, rfl, _⟩ := h; rfl) (by decide) (fun cdv A_ outer s H X hr => ⟨_, (pss_cons (ps_set (i := 2) sc__law_longest.nd rfl (by first | exact Or.inl rfl | exact Or.inr rfl) pe_int)
 (pss_cons (ps_for (passes_of rfl) rfl (pi_listK (K := g.K) rfl (pv 0)) (pg_name (i := 3) sc__law_longest.nd rfl (by first | exact Or.inl rfl | exact Or.inr rfl)) (pss_one (ps_if (PW.pt (pw_and (pt_cmpR op_le (pe_ix (ix_tupK (K := g.K) rfl) (pv 3) pe_int (fun _ _ => rfl)) (pv 1) (nomark _)) (pw_and1 (pt_cmpR op_gt (pe_ix (ix_tupK (K := g.K) rfl) (pv 3) pe_int (fun _ _ => rfl)) (pv 2) (nomark _))))) (pss_one (ps_set (i := 2) sc__law_longest.nd rfl (by first | exact Or.inl rfl | exact Or.inr rfl) (pe_ix (ix_tupK (K := g.K) rfl) (pv 3) pe_int (fun _ _ => rfl)))) pss_nil)))
 (pss_one (ps_ret (pv 2))))), fun B qs cs o E D hps hrel hini hrt hx hfall => ?_⟩)
  obtain ⟨kinds, stretch, rfl, hrel⟩ := hrel
  generalize hm : m_law_longest kinds stretch = r at hrel
  obtain ⟨hne, hret, hex⟩ := res0_ne hrel
  clear hrel
  obtain ⟨E1, rfl, hini1⟩ := ini_k hini
  obtain ⟨E2, rfl, hini2⟩ := ini_k hini1
  obtain ⟨rfl, rfl⟩ := ini_nil hini2
  have hret := fun y_ h_ => (hret y_ h_ ▸ hrt : DRt g B D.rt _)
  have hex := fun c_ d_ h_ => hx c_ d_ (hex c_ d_ h_)
  unfold m_law_longest at hm
  show Sx g B [.kp (kinds : (List (Int × Int))), .kp (stretch : Int), .un, .un] _ _
  refine sx_seq (sx_asg (i := 2) ((px_int (n := 0))) (nx_of ?_))
  obtain ⟨out_, hL_, hno_, hm⟩ := bind_split hm hne
  refine sx_seq (sx_fold (s0 := (0 : Int)) (X := fun B_ c_ d_ => XkOk g B_ X c_ d_) (Ei := (fun (best2 : Int) => [.kp (kinds : (List (Int × Int))), .kp (stretch : Int), .kp (best2 : Int), .un])) (fun _ _ _ _ n_ h_ => h_.nest n_) (sr_list ((px_v (i := 0) (by exact rfl)))) (tg_n) (by exact (LeE.cons .refl (LeE.cons .refl (LeE.cons .refl (LeE.cons .un LeE.nil))))) hL_ hno_ (fun c_ d_ h_ => hex c_ d_ (by rw [h_] at hm; exact hm.symm)) (fun B x1 best2 r_ D hB_ hx_ hm hne hnx hct hex => ?_) (fun best4 hs_ => ?_))
  · have hps := hB_.1.trans hps
    show Sx g B [.kp (kinds : (List (Int × Int))), .kp (stretch : Int), .kp (best2 : Int), .kp (x1 : (Int × Int))] _ _
    refine sx_if (pt_and (pt_test (px_op ((px_t1 (px_v (i := 3) (by exact rfl)))) ((px_v (i := 1) (by exact rfl))) r2_le)) (fun _ => (pt_test (px_op ((px_t0 (px_v (i := 3) (by exact rfl)))) ((px_v (i := 2) (by exact rfl))) r2_gt))) (fun _ => rfl)) (fun e3 => ?_) (fun e3 => ?_)
    · have hm := (if_pos e3).symm.trans hm
      exact sx_asg (i := 2) ((px_t0 (px_v (i := 3) (by exact rfl)))) (nx_le (LeE.cons .refl (LeE.cons .refl (LeE.cons .refl (LeE.cons .un LeE.nil)))) (hnx _ hm.symm))
    · have hm := (if_neg (fun z_ => Bool.false_ne_true (e3.symm.trans z_))).symm.trans hm
      exact sx_next (nx_le (LeE.cons .refl (LeE.cons .refl (LeE.cons .refl (LeE.cons .un LeE.nil)))) (hnx _ hm.symm))
  · rw [hs_] at hm
    clear hs_ hL_ hno_
    replace hm := rbind_ok hm
    refine nx_of ?_
    show Sx g B [.kp (kinds : (List (Int × Int))), .kp (stretch : Int), .kp (best4 : Int), .un] _ _
    exact sx_ret' ((px_v (i := 2) (by exact rfl))) hps .nil (hret _ hm.symm)

def N__law_longer_signs : List Str := ["pool", "kinds", "signs", "hours", "thick", "stretch", "spell", "start", "sign", "text", "k", "room"]
theorem sc__law_longer_signs : FnScope N__law_longer_signs ["pool", "kinds", "signs", "hours", "thick"] (defScope s__law_longer_signs) := ⟨rfl, rfl, rfl, by decide +kernel, rfl, by decide +kernel, by decide +kernel⟩
def rel__law_longer_signs (cs : List Ca) (o : Out) : Prop := ∃ (pool : (List Int)) (kinds : (List (Int × Int))) (signs : Tx) (hours : Int) (thick : Int), cs = [.m pool, .k kinds, .k signs, .k hours, .k thick] ∧ res1 (m_law_longer_signs pool kinds signs hours thick) o
theorem ok__law_longer_signs {g : Gx} {P : Program} {w : World} {mg : Str → Option Value} {base : Heap} {A : Ad} (T : Txt P g mg A) : FnOk P w g.K mg base (L2.CX P w) 2 A.f__law_longer_signs A.d__law_longer_signs ["pool", "kinds", "signs", "hours", "thick"] (spOf g rel__law_longer_signs) := by
  refine fn_go T.F__law_longer_signs sc__law_longer_signs (fun cs o h => by obtain ⟨_, _, _, _, _, rfl, _⟩ := h; rfl) (by decide) (fun cdv A_ outer s H X hr => ⟨_, (pss_cons (ps_set (i := 5) sc__law_longer_signs.nd rfl (by first | exact Or.inl rfl | exact Or.inr rfl) pe_int)
 (pss_cons (ps_set (i := 6) sc__law_longer_signs.nd rfl (by first | exact Or.inl rfl | exact Or.inr rfl) pe_int)
 (pss_cons (ps_set (i := 7) sc__law_longer_signs.nd rfl (by first | exact Or.inl rfl | exact Or.inr rfl) pe_int)
 (pss_cons (ps_for (passes_of rfl) rfl (pi_str (pv 2)) (pg_name (i := 8) sc__law_longer_signs.nd rfl (by first | exact Or.inl rfl | exact Or.inr rfl)) (pss_one (ps_if (PW.pt (pw_and (pt_cmpR op_eq (pv 8) pe_str (nomark _)) (pw_and1 (pt_cmpR op_gt (pv 6) pe_int (nomark _))))) (pss_cons (ps_set (i := 5) sc__law_longer_signs.nd rfl (by first | exact Or.inl rfl | exact Or.inr rfl) pe_int)
 (pss_one (ps_set (i := 6) sc__law_longer_signs.nd rfl (by first | exact Or.inl rfl | exact Or.inr rfl) pe_int))) (pss_one (ps_if (pt_cmpR op_eq (pv 8) pe_str (nomark _)) (pss_one (ps_set (i := 5) sc__law_longer_signs.nd rfl (by first | exact Or.inl rfl | exact Or.inr rfl) (pe_op op_add (pv 5) pe_int))) (pss_cons (ps_set (i := 6) sc__law_longer_signs.nd rfl (by first | exact Or.inl rfl | exact Or.inr rfl) (pe_op op_add (pv 6) pe_int))
 (pss_one (ps_set (i := 7) sc__law_longer_signs.nd rfl (by first | exact Or.inl rfl | exact Or.inr rfl) (pv 5)))))))))
 (pss_cons (ps_set (i := 9) sc__law_longer_signs.nd rfl (by first | exact Or.inl rfl | exact Or.inr rfl) (pv 2))
 (pss_cons (ps_for (passes_of rfl) rfl (pi_range1 (by rfl) T.no_range (pa_cons (pe_op op_sub (pv 3) (pe_callB call_len_str (by rfl) T.no_len (by decide +kernel) (pa_cons (pv 2) pa_nil))) pa_nil)) (pg_name (i := 10) sc__law_longer_signs.nd rfl (by first | exact Or.inl rfl | exact Or.inr rfl)) (Evl.pss_cut (ps_if (pt_cmpR op_gt (pv 6) pe_int (nomark _)) (pss_one (ps_set (i := 11) sc__law_longer_signs.nd rfl (by first | exact Or.inl rfl | exact Or.inr rfl) (pe_op op_sub (pe_call (ok__law_longest T) (hr.mono (by decide)) (by rfl) T.mg__law_longest T.kp__law_longest T.b__law_longest .nil (passes_call (takes_of rfl rfl rfl rfl) (fun _ _ _ _ h_ => h_)) (pa_cons (pv 1) (pa_cons (pv 7) pa_nil))) (pv 6)))) (pss_one (ps_set (i := 11) sc__law_longer_signs.nd rfl (by first | exact Or.inl rfl | exact Or.inr rfl) (pe_call (ok__law_longest T) (hr.mono (by decide)) (by rfl) T.mg__law_longest T.kp__law_longest T.b__law_longest .nil (passes_call (takes_of rfl rfl rfl rfl) (fun _ _ _ _ h_ => h_)) (pa_cons (pv 1) (pa_cons (pv 5) pa_nil))))))
 (pss_one (ps_if (PW.pt (pw_and (pt_cmpR op_gt (pv 11) pe_int (nomark _)) (pw_and1 (pt_cmpR op_gt (pe_call (ok__law_take T) (hr.mono (by decide)) (by rfl) T.mg__law_take T.kp__law_take T.b__law_take .nil (passes_call (takes_of rfl rfl rfl rfl) (fun _ _ _ _ h_ => h_)) (pa_cons (pv 0) (pa_cons (pv 4) pa_nil))) pe_int (nomark _))))) (pss_cons (ps_set (i := 9) sc__law_longer_signs.nd rfl (by first | exact Or.inl rfl | exact Or.inr rfl) (pe_op op_add_str (pv 9) pe_str))
 (pss_cons (ps_set (i := 6) sc__law_longer_signs.nd rfl (by first | exact Or.inl rfl | exact Or.inr rfl) (pe_op op_add (pv 6) pe_int))
 (pss_one (ps_set (i := 7) sc__law_longer_signs.nd rfl (by first | exact Or.inl rfl | exact Or.inr rfl) (pv 5))))) (pss_cons (ps_set (i := 9) sc__law_longer_signs.nd rfl (by first | exact Or.inl rfl | exact Or.inr rfl) (pe_op op_add_str (pv 9) pe_str))
 (Evl.pss_cut (ps_if (pt_cmpR op_gt (pv 6) pe_int (nomark _)) (pss_one (ps_set (i := 5) sc__law_longer_signs.nd rfl (by first | exact Or.inl rfl | exact Or.inr rfl) pe_int)) pss_nil)
 (pss_cons (ps_set (i := 6) sc__law_longer_signs.nd rfl (by first | exact Or.inl rfl | exact Or.inr rfl) pe_int)
 (pss_one (ps_set (i := 5) sc__law_longer_signs.nd rfl (by first | exact Or.inl rfl | exact Or.inr rfl) (pe_op op_add (pv 5) pe_int))))))))))
 (pss_one (ps_ret (pv 9))))))))), fun B qs cs o E D hps hrel hini hrt hx hfall => ?_⟩)
  obtain ⟨pool, kinds, signs, hours, thick, rfl, hrel⟩ := hrel
  generalize hm : m_law_longer_signs pool kinds signs hours thick = r at hrel
  obtain ⟨hne, hret, hex⟩ := res1_ne hrel
  clear hrel
  obtain ⟨q_pool, qs1, E1, rfl, rfl, hini1⟩ := ini_m hini
  obtain ⟨E2, rfl, hini2⟩ := ini_k hini1
  obtain ⟨E3, rfl, hini3⟩ := ini_k hini2
  obtain ⟨E4, rfl, hini4⟩ := ini_k hini3
  obtain ⟨E5, rfl, hini5⟩ := ini_k hini4
  obtain ⟨rfl, rfl⟩ := ini_nil hini5
  have hret := fun y_ h_ => (hret y_ h_ ▸ hrt : DRt g B D.rt _)
  have hex := fun c_ d_ h_ => hx c_ d_ (hex c_ d_ h_)
  unfold m_law_longer_signs at hm
  show Sx g B [.io q_pool (pool : (List Int)), .kp (kinds : (List (Int × Int))), .kp (signs : Tx), .kp (hours : Int), .kp (thick : Int), .un, .un, .un, .un, .un, .un, .un] _ _
  refine sx_seq (sx_asg (i := 5) ((px_int (n := 0))) (nx_of ?_))
  refine sx_seq (sx_asg (i := 6) ((px_int (n := 0))) (nx_of ?_))
  refine sx_seq (sx_asg (i := 7) ((px_int (n := 0))) (nx_of ?_))
  obtain ⟨out_, hL_, hno_, hm⟩ := bind_split hm hne
  refine sx_seq (sx_fold (s0 := ((0 : Int), (0 : Int), (0 : Int))) (X := fun B_ c_ d_ => XkOk g B_ X c_ d_) (Ei := (fun ((stretch2, spell3, start4) : Int × Int × Int) => [.io q_pool (pool : (List Int)), .kp (kinds : (List (Int × Int))), .kp (signs : Tx), .kp (hours : Int), .kp (thick : Int), .kp (stretch2 : Int), .kp (spell3 : Int), .kp (start4 : Int), .un, .un, .un, .un])) (fun _ _ _ _ n_ h_ => h_.nest n_) (sr_str (px_v (i := 2) (by exact rfl))) (tg_n) (by exact (LeE.cons .refl (LeE.cons .refl (LeE.cons .refl (LeE.cons .refl (LeE.cons .refl (LeE.cons .refl (LeE.cons .refl (LeE.cons .refl (LeE.cons .un (LeE.cons .un (LeE.cons .un (LeE.cons .un LeE.nil))))))))))))) hL_ hno_ (fun c_ d_ h_ => hex c_ d_ (by rw [h_] at hm; exact hm.symm)) (fun B x1 s_ r_ D hB_ hx_ hm hne hnx hct hex => ?_) (fun s_ hs_ => ?_))
  · obtain ⟨stretch2, spell3, start4⟩ := s_
    have hps := hB_.1.trans hps
    show Sx g B [.io q_pool (pool : (List Int)), .kp (kinds : (List (Int × Int))), .kp (signs : Tx), .kp (hours : Int), .kp (thick : Int), .kp (stretch2 : Int), .kp (spell3 : Int), .kp (start4 : Int), .kp (x1 : Tx), .un, .un, .un] _ _
    refine sx_if (pt_and (pt_test (px_op ((px_v (i := 8) (by exact rfl))) ((px_str (t := ([46] : Tx)) rfl)) r2_eq)) (fun _ => (pt_test (px_op ((px_v (i := 6) (by exact rfl))) ((px_int (n := 0))) r2_gt))) (fun _ => rfl)) (fun e5 => ?_) (fun e5 => ?_)
    · have hm := (if_pos e5).symm.trans hm
      refine sx_seq (sx_asg (i := 5) ((px_int (n := 1))) (nx_of ?_))
      exact sx_asg (i := 6) ((px_int (n := 0))) (nx_le (LeE.cons .refl (LeE.cons .refl (LeE.cons .refl (LeE.cons .refl (LeE.cons .refl (LeE.cons .refl (LeE.cons .refl (LeE.cons .refl (LeE.cons .un (LeE.cons .un (LeE.cons .un (LeE.cons .un LeE.nil)))))))))))) (hnx _ hm.symm))
    · have hm := (if_neg (fun z_ => Bool.false_ne_true (e5.symm.trans z_))).symm.trans hm
      refine sx_if (pt_test (px_op ((px_v (i := 8) (by exact rfl))) ((px_str (t := ([46] : Tx)) rfl)) r2_eq)) (fun e6 => ?_) (fun e6 => ?_)
      · have hm := (if_pos e6).symm.trans hm
        obtain ⟨stretch7, h8, hm⟩ := elet_eq (v := ((stretch2 + (1 : Int)) : Int)) hm
        exact sx_asg (i := 5) (px_eq ((px_op (px_v (i := 5) (by exact rfl)) (px_int (n := 1)) r2_add)) h8) (nx_le (LeE.cons .refl (LeE.cons .refl (LeE.cons .refl (LeE.cons .refl (LeE.cons .refl (LeE.cons .refl (LeE.cons .refl (LeE.cons .refl (LeE.cons .un (LeE.cons .un (LeE.cons .un (LeE.cons .un LeE.nil)))))))))))) (hnx _ hm.symm))
      · have hm := (if_neg (fun z_ => Bool.false_ne_true (e6.symm.trans z_))).symm.trans hm
        obtain ⟨spell9, h10, hm⟩ := elet_eq (v := ((spell3 + (1 : Int)) : Int)) hm
        refine sx_seq (sx_asg (i := 6) (px_eq ((px_op (px_v (i := 6) (by exact rfl)) (px_int (n := 1)) r2_add)) h10) (nx_of ?_))
        exact sx_asg (i := 7) ((px_v (i := 5) (by exact rfl))) (nx_le (LeE.cons .refl (LeE.cons .refl (LeE.cons .refl (LeE.cons .refl (LeE.cons .refl (LeE.cons .refl (LeE.cons .refl (LeE.cons .refl (LeE.cons .un (LeE.cons .un (LeE.cons .un (LeE.cons .un LeE.nil)))))))))))) (hnx _ hm.symm))
  · rw [hs_] at hm
    clear hs_ hL_ hno_
    obtain ⟨stretch11, spell12, start13⟩ := s_
    replace hm := rbind_ok hm
    refine nx_of ?_
    show Sx g B [.io q_pool (pool : (List Int)), .kp (kinds : (List (Int × Int))), .kp (signs : Tx), .kp (hours : Int), .kp (thick : Int), .kp (stretch11 : Int), .kp (spell12 : Int), .kp (start13 : Int), .un, .un, .un, .un] _ _
    refine sx_seq (sx_asg (i := 9) ((px_v (i := 2) (by exact rfl))) (nx_of ?_))
    obtain ⟨g14, hm⟩ := gd_ne hm hne
    obtain ⟨g15, hm⟩ := gd_ne hm hne
    obtain ⟨out_, hL_, hno_, hm⟩ := bind_split hm hne
    refine sx_seq (sx_fold (s0 := (pool, stretch11, spell12, start13, signs)) (X := fun B_ c_ d_ => XkOk g B_ X c_ d_) (Ei := (fun ((pool17, stretch18, spell19, start20, text21) : (List Int) × Int × Int × Int × Tx) => [.io q_pool (pool17 : (List Int)), .kp (kinds : (List (Int × Int))), .kp (signs : Tx), .kp (hours : Int), .kp (thick : Int), .kp (stretch18 : Int), .kp (spell19 : Int), .kp (start20 : Int), .un, .kp (text21 : Tx), .un, .un])) (fun _ _ _ _ n_ h_ => h_.nest n_) (sr_r1 (px_op (px_v (i := 3) (by exact rfl)) (px_lenS (px_v (i := 2) (by exact rfl)) g14) r2_sub) g15) (tg_n) (by exact (LeE.cons .refl (LeE.cons .refl (LeE.cons .refl (LeE.cons .refl (LeE.cons .refl (LeE.cons .refl (LeE.cons .refl (LeE.cons .refl (LeE.cons .un (LeE.cons .refl (LeE.cons .un (LeE.cons .un LeE.nil))))))))))))) hL_ hno_ (fun c_ d_ h_ => hex c_ d_ (by rw [h_] at hm; exact hm.symm)) (fun B x16 s_ r_ D hB_ hx_ hm hne hnx hct hex => ?_) (fun s_ hs_ => ?_))
    · obtain ⟨pool17, stretch18, spell19, start20, text21⟩ := s_
      have hps := hB_.1.trans hps
      show Sx g B [.io q_pool (pool17 : (List Int)), .kp (kinds : (List (Int × Int))), .kp (signs : Tx), .kp (hours : Int), .kp (thick : Int), .kp (stretch18 : Int), .kp (spell19 : Int), .kp (start20 : Int), .un, .kp (text21 : Tx), .kp (x16 : Int), .un] _ _
      obtain ⟨room23, h31, hm⟩ := ob_ne hm hne
      refine sx_cut (E' := [.io q_pool (pool17 : (List Int)), .kp (kinds : (List (Int × Int))), .kp (signs : Tx), .kp (hours : Int), .kp (thick : Int), .kp (stretch18 : Int), .kp (spell19 : Int), .kp (start20 : Int), .un, .kp (text21 : Tx), .kp (x16 : Int), .kp (room23 : Int)]) (fun M_ hM24 => ?_) ?_
      · clear hm
        refine sx_if (pt_test (px_op ((px_v (i := 6) (by exact rfl))) ((px_int (n := 0))) r2_gt)) (fun e22 => ?_) (fun e22 => ?_)
        · have hm := (if_pos e22).symm.trans (opt_ok h31)
          obtain ⟨t25, h26, hm⟩ := ob_ne hm ok_ne
          obtain ⟨room27, h28, hm⟩ := elet_eq (v := ((t25 - spell19) : Int)) hm
          try first | have hm := try_ok hm hT_ | have hm := tryD_ok hm hT_
          have hm := R.ok.inj hm
          subst hm
          exact sx_asg (i := 11) (px_eq ((px_op (px_call (x := t25) (outs := []) (X := X) (pa_k ((px_v (i := 1) (by exact rfl))) (pa_k ((px_v (i := 7) (by exact rfl))) pa_n)) (.k (.k .nil)) (.k (.k .nil)) (by decide) ⟨kinds, start20, rfl, by rw [(opt_ok h26)]; rfl⟩) (px_v (i := 6) (by exact rfl)) r2_sub)) h28) (nx_le (LeE.cons .refl (LeE.cons .refl (LeE.cons .refl (LeE.cons .refl (LeE.cons .refl (LeE.cons .refl (LeE.cons .refl (LeE.cons .refl (LeE.cons .un (LeE.cons .refl (LeE.cons .refl (LeE.cons .refl LeE.nil)))))))))))) hM24)
        · have hm := (if_neg (fun z_ => Bool.false_ne_true (e22.symm.trans z_))).symm.trans (opt_ok h31)
          obtain ⟨t29, h30, hm⟩ := ob_ne hm ok_ne
          try first | have hm := try_ok hm hT_ | have hm := tryD_ok hm hT_
          have hm := R.ok.inj hm
          subst hm
          exact sx_asg (i := 11) ((px_call (x := t29) (outs := []) (X := X) (pa_k ((px_v (i := 1) (by exact rfl))) (pa_k ((px_v (i := 5) (by exact rfl))) pa_n)) (.k (.k .nil)) (.k (.k .nil)) (by decide) ⟨kinds, stretch18, rfl, by rw [(opt_ok h30)]; rfl⟩)) (nx_le (LeE.cons .refl (LeE.cons .refl (LeE.cons .refl (LeE.cons .refl (LeE.cons .refl (LeE.cons .refl (LeE.cons .refl (LeE.cons .refl (LeE.cons .un (LeE.cons .refl (LeE.cons .refl (LeE.cons .refl LeE.nil)))))))))))) hM24)
      · obtain ⟨⟨c35, pool36⟩, h37, hm⟩ := ob_ne hm hne
        refine sx_if (pt_andR (c := c35) (pt_test (px_op ((px_v (i := 11) (by exact rfl))) ((px_int (n := 0))) r2_gt)) (fun e38_ => by
          have e38 := (if_pos e38_).symm.trans (opt_ok h37)
          obtain ⟨⟨t32, pool33⟩, h34, e38⟩ := ob_ne e38 ok_ne
          have e38 := R.ok.inj e38
          obtain ⟨e38_a0, e38_b0⟩ := Prod.mk.inj e38
          subst e38_a0
          subst e38_b0
          exact (pt_test (px_op ((px_call (x := t32) (outs := [.mk pool33]) (X := X) (pa_s (i := 0) rfl (by intro h_; cases h_) (pa_k ((px_v (i := 4) (by exact rfl))) pa_n)) (.m (by exact rfl) (by exact trivial) RdL.io (.k .nil)) (.m (.k .nil)) (by decide) ⟨pool17, thick, rfl, by rw [(opt_ok h34)]; rfl⟩)) ((px_int (n := 0))) r2_gt))) (fun e38_ => by
          have e38 := (if_neg (fun z_ => Bool.false_ne_true (e38_.symm.trans z_))).symm.trans (opt_ok h37)
          have e38 := R.ok.inj e38
          obtain ⟨e38_a0, e38_b0⟩ := Prod.mk.inj e38
          subst e38_a0
          subst e38_b0
          exact ⟨rfl, rfl⟩)) (fun e39 => ?_) (fun e39 => ?_)
        · have hm := (if_pos e39).symm.trans hm
          obtain ⟨g40, hm⟩ := gd_ne hm hne
          obtain ⟨text41, h42, hm⟩ := elet_eq (v := ((text21 ++ ([35] : Tx)) : Tx)) hm
          refine sx_seq (sx_asg (i := 9) (px_eq ((px_addS (px_v (i := 9) (by exact rfl)) (px_str (t := ([35] : Tx)) rfl) g40)) h42) (nx_of ?_))
          obtain ⟨spell43, h44, hm⟩ := elet_eq (v := ((spell19 + (1 : Int)) : Int)) hm
          refine sx_seq (sx_asg (i := 6) (px_eq ((px_op (px_v (i := 6) (by exact rfl)) (px_int (n := 1)) r2_add)) h44) (nx_of ?_))
          exact sx_asg (i := 7) ((px_v (i := 5) (by exact rfl))) (nx_le (LeE.cons .refl (LeE.cons .refl (LeE.cons .refl (LeE.cons .refl (LeE.cons .refl (LeE.cons .refl (LeE.cons .refl (LeE.cons .refl (LeE.cons .un (LeE.cons .refl (LeE.cons .un (LeE.cons .un LeE.nil)))))))))))) (hnx _ hm.symm))
        · have hm := (if_neg (fun z_ => Bool.false_ne_true (e39.symm.trans z_))).symm.trans hm
          obtain ⟨g45, hm⟩ := gd_ne hm hne
          obtain ⟨text46, h47, hm⟩ := elet_eq (v := ((text21 ++ ([46] : Tx)) : Tx)) hm
          refine sx_seq (sx_asg (i := 9) (px_eq ((px_addS (px_v (i := 9) (by exact rfl)) (px_str (t := ([46] : Tx)) rfl) g45)) h47) (nx_of ?_))
          obtain ⟨stretch49, h51, hm⟩ := ob_ne hm hne
          refine sx_cut (E' := [.io q_pool (pool36 : (List Int)), .kp (kinds : (List (Int × Int))), .kp (signs : Tx), .kp (hours : Int), .kp (thick : Int), .kp (stretch49 : Int), .kp (spell19 : Int), .kp (start20 : Int), .un, .kp (text46 : Tx), .kp (x16 : Int), .kp (room23 : Int)]) (fun M_ hM50 => ?_) ?_
          · clear hm
            refine sx_if (pt_test (px_op ((px_v (i := 6) (by exact rfl))) ((px_int (n := 0))) r2_gt)) (fun e48 => ?_) (fun e48 => ?_)
            · have hm := (if_pos e48).symm.trans (opt_ok h51)
              try first | have hm := try_ok hm hT_ | have hm := tryD_ok hm hT_
              have hm := R.ok.inj hm
              subst hm
              exact sx_asg (i := 5) ((px_int (n := 0))) (nx_le (LeE.cons .refl (LeE.cons .refl (LeE.cons .refl (LeE.cons .refl (LeE.cons .refl (LeE.cons .refl (LeE.cons .refl (LeE.cons .refl (LeE.cons .un (LeE.cons .refl (LeE.cons .refl (LeE.cons .refl LeE.nil)))))))))))) hM50)
            · have hm := (if_neg (fun z_ => Bool.false_ne_true (e48.symm.trans z_))).symm.trans (opt_ok h51)
              try first | have hm := try_ok hm hT_ | have hm := tryD_ok hm hT_
              have hm := R.ok.inj hm
              subst hm
              exact sx_next (nx_le (LeE.cons .refl (LeE.cons .refl (LeE.cons .refl (LeE.cons .refl (LeE.cons .refl (LeE.cons .refl (LeE.cons .refl (LeE.cons .refl (LeE.cons .un (LeE.cons .refl (LeE.cons .refl (LeE.cons .refl LeE.nil)))))))))))) hM50)
          · refine sx_seq (sx_asg (i := 6) ((px_int (n := 0))) (nx_of ?_))
            obtain ⟨stretch52, h53, hm⟩ := elet_eq (v := ((stretch49 + (1 : Int)) : Int)) hm
            exact sx_asg (i := 5) (px_eq ((px_op (px_v (i := 5) (by exact rfl)) (px_int (n := 1)) r2_add)) h53) (nx_le (LeE.cons .refl (LeE.cons .refl (LeE.cons .refl (LeE.cons .refl (LeE.cons .refl (LeE.cons .refl (LeE.cons .refl (LeE.cons .refl (LeE.cons .un (LeE.cons .refl (LeE.cons .un (LeE.cons .un LeE.nil)))))))))))) (hnx _ hm.symm))
    · rw [hs_] at hm
      clear hs_ hL_ hno_
      obtain ⟨pool54, stretch55, spell56, start57, text58⟩ := s_
      replace hm := rbind_ok hm
      refine nx_of ?_
      show Sx g B [.io q_pool (pool54 : (List Int)), .kp (kinds : (List (Int × Int))), .kp (signs : Tx), .kp (hours : Int), .kp (thick : Int), .kp (stretch55 : Int), .kp (spell56 : Int), .kp (start57 : Int), .un, .kp (text58 : Tx), .un, .un] _ _
      exact sx_ret' ((px_v (i := 9) (by exact rfl))) hps (.cons (i := 0) rfl .nil) (hret _ hm.symm)

def N__law_drawn : List Str := ["script", "pool", "most", "need", "ab", "kinds", "sight", "other", "q", "thick", "common", "texts", "k", "more", "far", "kind"]
theorem sc__law_drawn : FnScope N__law_drawn ["script"] (defScope s__law_drawn) := ⟨rfl, rfl, rfl, by decide +kernel, rfl, by decide +kernel, by decide +kernel⟩
def rel__law_drawn (cs : List Ca) (o : Out) : Prop := ∃ (script : Sc), cs = [.k script] ∧ res0 (m_law_drawn script) o
theorem ok__law_drawn {g : Gx} {P : Program} {w : World} {mg : Str → Option Value} {base : Heap} {A : Ad} (T : Txt P g mg A) : FnOk P w g.K mg base (L2.CX P w) 4 A.f__law_drawn A.d__law_drawn ["script"] (spOf g rel__law_drawn) := by
  refine fn_go T.F__law_drawn sc__law_drawn (fun cs o h => by obtain ⟨_, rfl, _⟩ := h; rfl) (by decide) (fun cdv A_ outer s H X hr => ⟨_, (pss_cons (ps_set (i := 1) sc__law_drawn.nd rfl (by first | exact Or.inl rfl | exact Or.inr rfl) (pe_call (ok__law_pool T) (hr.mono (by decide)) (by rfl) T.mg__law_pool T.kp__law_pool T.b__law_pool .nil (passes_call (takes_of rfl rfl rfl rfl) (fun _ _ _ _ h_ => h_)) (pa_cons (pe_call (ok__law_cell T) (hr.mono (by decide)) (by rfl) T.mg__law_cell T.kp__law_cell T.b__law_cell .nil (passes_call (takes_of rfl rfl rfl rfl) (fun _ _ _ _ h_ => h_)) (pa_cons (pv 0) (pa_cons pe_int pa_nil))) pa_nil)))
 (pss_cons (ps_set (i := 2) sc__law_drawn.nd rfl (by first | exact Or.inl rfl | exact Or.inr rfl) pe_int)
 (pss_cons (ps_set (i := 3) sc__law_drawn.nd rfl (by first | exact Or.inl rfl | exact Or.inr rfl) pe_int)
 (Evl.pss_cut (ps_if (pt_cmpR op_eq (pe_call (ok__law_take T) (hr.mono (by decide)) (by rfl) T.mg__law_take T.kp__law_take T.b__law_take .nil (passes_call (takes_of rfl rfl rfl rfl) (fun _ _ _ _ h_ => h_)) (pa_cons (pv 1) (pa_cons pe_int pa_nil))) pe_int (nomark _)) (pss_cons (ps_set (i := 2) sc__law_drawn.nd rfl (by first | exact Or.inl rfl | exact Or.inr rfl) pe_int)
 (pss_one (ps_set (i := 3) sc__law_drawn.nd rfl (by first | exact Or.inl rfl | exact Or.inr rfl) pe_int))) pss_nil)
 (pss_cons (ps_set (i := 4) sc__law_drawn.nd rfl (by first | exact Or.inl rfl | exact Or.inr rfl) (pe_call (ok__law_ab T) (hr.mono (by decide)) (by rfl) T.mg__law_ab T.kp__law_ab T.b__law_ab .nil (passes_call (takes_of rfl rfl rfl rfl) (fun _ _ _ _ h_ => h_)) (pa_cons (pv 1) (pa_cons (pv 2) pa_nil))))
 (pss_cons (ps_set (i := 5) sc__law_drawn.nd rfl (by first | exact Or.inl rfl | exact Or.inr rfl) (pe_call (ok__law_sound_pairs T) (hr.mono (by decide)) (by rfl) T.mg__law_sound_pairs T.kp__law_sound_pairs T.b__law_sound_pairs .nil (passes_call (takes_of rfl rfl rfl rfl) (fun _ _ _ _ h_ => h_)) (pa_cons (pv 1) (pa_cons (pv 4) (pa_cons (pv 3) (pa_cons (pe_ix (ix_listK (K := g.K) rfl) (pe_lst (pa_cons pe_int (pa_cons pe_int (pa_cons pe_int (pa_cons pe_int (pa_cons pe_int (pa_cons pe_int (pa_cons pe_int (pa_cons pe_int pa_nil))))))))) (pe_call (ok__law_take T) (hr.mono (by decide)) (by rfl) T.mg__law_take T.kp__law_take T.b__law_take .nil (passes_call (takes_of rfl rfl rfl rfl) (fun _ _ _ _ h_ => h_)) (pa_cons (pv 1) (pa_cons pe_int pa_nil))) (fun _ _ => rfl)) pa_nil))))))
 (pss_cons (ps_set (i := 6) sc__law_drawn.nd rfl (by first | exact Or.inl rfl | exact Or.inr rfl) (pe_op op_add (pe_op op_add (pe_op op_sub (pe_ix (ix_tupK (K := g.K) rfl) (pv 4) pe_int (fun _ _ => rfl)) (pe_ix (ix_tupK (K := g.K) rfl) (pv 4) pe_int (fun _ _ => rfl))) (pe_callB (cr_maxK (K := g.K) rfl rfl) (by rfl) T.no_max (by decide +kernel) (pa_cons (pe_op op_cat (pe_lst (pa_cons pe_int pa_nil)) (pe_lc (own := [("kind", 15)]) (by rfl) sc__law_drawn.nd (pi_listK (K := g.K) rfl (pv 5)) (blkOk_by (own := [("kind", 15)]) (N := N__law_drawn) (sc := defScope s__law_drawn) (by decide +kernel)) (fun _ _ _ _ _ => (pg_name (i := 15) sc__law_drawn.nd rfl (by first | exact Or.inl rfl | exact Or.inr rfl))) (fun _ _ _ _ _ => pts_nil) (fun _ _ _ _ _ => (pe_call (ok__law_lead T) (hr.mono (by decide)) (by rfl) T.mg__law_lead T.kp__law_lead T.b__law_lead .nil passL (pa_cons (pv 4) (pa_cons (pe_ix (ix_tupK (K := g.K) rfl) (pv 15) pe_int (fun _ _ => rfl)) pa_nil)))))) pa_nil))) (pe_call (ok__law_peak T) (hr.mono (by decide)) (by rfl) T.mg__law_peak T.kp__law_peak T.b__law_peak .nil (passes_call (takes_of rfl rfl rfl rfl) (fun _ _ _ _ h_ => h_)) (pa_cons (pv 5) pa_nil))))
 (pss_cons (ps_set (i := 7) sc__law_drawn.nd rfl (by first | exact Or.inl rfl | exact Or.inr rfl) (pe_call (ok__law_pool T) (hr.mono (by decide)) (by rfl) T.mg__law_pool T.kp__law_pool T.b__law_pool .nil (passes_call (takes_of rfl rfl rfl rfl) (fun _ _ _ _ h_ => h_)) (pa_cons (pe_call (ok__law_cell T) (hr.mono (by decide)) (by rfl) T.mg__law_cell T.kp__law_cell T.b__law_cell .nil (passes_call (takes_of rfl rfl rfl rfl) (fun _ _ _ _ h_ => h_)) (pa_cons (pv 0) (pa_cons pe_int pa_nil))) pa_nil)))
 (pss_cons (ps_set (i := 8) sc__law_drawn.nd rfl (by first | exact Or.inl rfl | exact Or.inr rfl) (pe_op op_add pe_int (pe_call (ok__law_take T) (hr.mono (by decide)) (by rfl) T.mg__law_take T.kp__law_take T.b__law_take .nil (passes_call (takes_of rfl rfl rfl rfl) (fun _ _ _ _ h_ => h_)) (pa_cons (pv 7) (pa_cons pe_int pa_nil)))))
 (pss_cons (ps_set (i := 9) sc__law_drawn.nd rfl (by first | exact Or.inl rfl | exact Or.inr rfl) (pe_op op_add pe_int (pe_call (ok__law_take T) (hr.mono (by decide)) (by rfl) T.mg__law_take T.kp__law_take T.b__law_take .nil (passes_call (takes_of rfl rfl rfl rfl) (fun _ _ _ _ h_ => h_)) (pa_cons (pv 7) (pa_cons pe_int pa_nil)))))
 (pss_cons (ps_set (i := 10) sc__law_drawn.nd rfl (by first | exact Or.inl rfl | exact Or.inr rfl) (pe_call (ok__law_longer_signs T) (hr.mono (by decide)) (by rfl) T.mg__law_longer_signs T.kp__law_longer_signs T.b__law_longer_signs .nil (passes_call (takes_of rfl rfl rfl rfl) (fun _ _ _ _ h_ => h_)) (pa_cons (pv 7) (pa_cons (pv 5) (pa_cons pe_str (pa_cons (pe_callB (call_min2 rfl) (by rfl) T.no_min (by decide +kernel) (pa_cons pe_int (pa_cons (pe_op op_add (pv 8) (pv 6)) pa_nil))) (pa_cons (pv 9) pa_nil)))))))
 (pss_cons (ps_set (i := 11) sc__law_drawn.nd rfl (by first | exact Or.inl rfl | exact Or.inr rfl) (pe_lst pa_nil))
 (pss_cons (ps_for (passes_of rfl) rfl (pi_range1 (by rfl) T.no_range (pa_cons pe_int pa_nil)) (pg_name (i := 12) sc__law_drawn.nd rfl (by first | exact Or.inl rfl | exact Or.inr rfl)) (pss_cons (ps_set (i := 13) sc__law_drawn.nd rfl (by first | exact Or.inl rfl | exact Or.inr rfl) (pe_call (ok__law_take T) (hr.mono (by decide)) (by rfl) T.mg__law_take T.kp__law_take T.b__law_take .nil (passes_call (takes_of rfl rfl rfl rfl) (fun _ _ _ _ h_ => h_)) (pa_cons (pv 7) (pa_cons pe_int pa_nil))))
 (Evl.pss_cut (ps_if (PW.pt (pw_and (pt_cmpR op_eq (pv 12) pe_int (nomark _)) (pw_and1 (pt_cmpR op_eq (pe_call (ok__law_take T) (hr.mono (by decide)) (by rfl) T.mg__law_take T.kp__law_take T.b__law_take .nil (passes_call (takes_of rfl rfl rfl rfl) (fun _ _ _ _ h_ => h_)) (pa_cons (pv 7) (pa_cons pe_int pa_nil))) pe_int (nomark _))))) (pss_one (ps_set (i := 13) sc__law_drawn.nd rfl (by first | exact Or.inl rfl | exact Or.inr rfl) pe_int)) pss_nil)
 (pss_cons (ps_set (i := 14) sc__law_drawn.nd rfl (by first | exact Or.inl rfl | exact Or.inr rfl) (pe_call (ok__law_pool T) (hr.mono (by decide)) (by rfl) T.mg__law_pool T.kp__law_pool T.b__law_pool .nil (passes_call (takes_of rfl rfl rfl rfl) (fun _ _ _ _ h_ => h_)) (pa_cons (pe_call (ok__law_cell T) (hr.mono (by decide)) (by rfl) T.mg__law_cell T.kp__law_cell T.b__law_cell .nil (passes_call (takes_of rfl rfl rfl rfl) (fun _ _ _ _ h_ => h_)) (pa_cons (pv 0) (pa_cons (pe_op op_add pe_int (pv 12)) pa_nil))) pa_nil)))
 (pss_one (ps_expr (pe_bm PySem.F.plainAttrs_list PySem.F.slot_list_append PySem.F.type_list_append mt_append (pv 11) (pa_cons (pe_call (ok__law_longer_signs T) (hr.mono (by decide)) (by rfl) T.mg__law_longer_signs T.kp__law_longer_signs T.b__law_longer_signs .nil (passes_call (takes_of rfl rfl rfl rfl) (fun _ _ _ _ h_ => h_)) (pa_cons (pv 14) (pa_cons (pv 5) (pa_cons (pv 10) (pa_cons (pe_op op_add (pe_callB call_len_str (by rfl) T.no_len (by decide +kernel) (pa_cons (pv 10) pa_nil)) (pv 13)) (pa_cons (pe_op op_add pe_int (pe_call (ok__law_take T) (hr.mono (by decide)) (by rfl) T.mg__law_take T.kp__law_take T.b__law_take .nil (passes_call (takes_of rfl rfl rfl rfl) (fun _ _ _ _ h_ => h_)) (pa_cons (pv 14) (pa_cons pe_int pa_nil)))) pa_nil)))))) pa_nil))))))))
 (pss_one (ps_ret (pe_tup (pa_cons (pv 4) (pa_cons (pv 5) (pa_cons (pv 6) (pa_cons (pe_callB (call_max2 rfl) (by rfl) T.no_max (by decide +kernel) (pa_cons pe_int (pa_cons (pe_op op_sub (pe_callB call_len_str (by rfl) T.no_len (by decide +kernel) (pa_cons (pv 10) pa_nil)) (pv 6)) pa_nil))) (pa_cons (pe_op op_cat (pv 11) (pe_lst (pa_cons (pv 10) pa_nil))) pa_nil))))))))))))))))))))), fun B qs cs o E D hps hrel hini hrt hx hfall => ?_⟩)
  obtain ⟨script, rfl, hrel⟩ := hrel
  generalize hm : m_law_drawn script = r at hrel
  obtain ⟨hne, hret, hex⟩ := res0_ne hrel
  clear hrel
  obtain ⟨E1, rfl, hini1⟩ := ini_k hini
  obtain ⟨rfl, rfl⟩ := ini_nil hini1
  have hret := fun y_ h_ => (hret y_ h_ ▸ hrt : DRt g B D.rt _)
  have hex := fun c_ d_ h_ => hx c_ d_ (hex c_ d_ h_)
  unfold m_law_drawn at hm
  show Sx g B [.kp (script : Sc), .un, .un, .un, .un, .un, .un, .un, .un, .un, .un, .un, .un, .un, .un, .un] _ _
  obtain ⟨t1, h2, hm⟩ := ob_ne hm hne
  obtain ⟨t3, h4, hm⟩ := ob_ne hm hne
  refine sx_seq (sx_asgO (i := 1) (px_callN (xs := t3) (outs := []) (X := X) (pa_k ((px_call (x := t1) (outs := []) (X := X) (pa_k ((px_v (i := 0) (by exact rfl))) (pa_k ((px_int (n := 0))) pa_n)) (.k (.k .nil)) (.k (.k .nil)) (by decide) ⟨script, (0 : Int), rfl, by rw [(opt_ok h2)]; rfl⟩)) pa_n) (.k .nil) (.k .nil) (by decide) ⟨t1, rfl, by rw [(opt_ok h4)]; rfl⟩) (nx_of ?_))
  refine sx_seq (sx_asg (i := 2) ((px_int (n := 6))) (nx_of ?_))
  refine sx_seq (sx_asg (i := 3) ((px_int (n := 12))) (nx_of ?_))
  obtain ⟨⟨t5, pool6⟩, h7, hm⟩ := ob_ne hm hne
  obtain ⟨⟨most9, need10⟩, h12, hm⟩ := ob_ne hm hne
  refine sx_cut (E' := [.kp (script : Sc), .ow (pool6 : (List Int)), .kp (most9 : Int), .kp (need10 : Int), .un, .un, .un, .un, .un, .un, .un, .un, .un, .un, .un, .un]) (fun M_ hM11 => ?_) ?_
  · clear hm
    refine sx_if (pt_test (px_op ((px_call (x := t5) (outs := [.mk pool6]) (X := X) (pa_s (i := 1) rfl (by intro h_; cases h_) (pa_k ((px_int (n := 8))) pa_n)) (.m (by exact rfl) (by exact trivial) RdL.ow (.k .nil)) (.m (.k .nil)) (by decide) ⟨t3, (8 : Int), rfl, by rw [(opt_ok h7)]; rfl⟩)) ((px_int (n := 5))) r2_eq)) (fun e8 => ?_) (fun e8 => ?_)
    · have hm := (if_pos e8).symm.trans (opt_ok h12)
      refine sx_seq (sx_asg (i := 2) ((px_int (n := 12))) (nx_of ?_))
      try first | have hm := try_ok hm hT_ | have hm := tryD_ok hm hT_
      have hm := R.ok.inj hm
      obtain ⟨hm_a0, hm_b0⟩ := Prod.mk.inj hm
      subst hm_a0
      subst hm_b0
      exact sx_asg (i := 3) ((px_int (n := 40))) (nx_le (LeE.cons .refl (LeE.cons .refl (LeE.cons .refl (LeE.cons .refl (LeE.cons .un (LeE.cons .un (LeE.cons .un (LeE.cons .un (LeE.cons .un (LeE.cons .un (LeE.cons .un (LeE.cons .un (LeE.cons .un (LeE.cons .un (LeE.cons .un (LeE.cons .un LeE.nil)))))))))))))))) hM11)
    · have hm := (if_neg (fun z_ => Bool.false_ne_true (e8.symm.trans z_))).symm.trans (opt_ok h12)
      try first | have hm := try_ok hm hT_ | have hm := tryD_ok hm hT_
      have hm := R.ok.inj hm
      obtain ⟨hm_a0, hm_b0⟩ := Prod.mk.inj hm
      subst hm_a0
      subst hm_b0
      exact sx_next (nx_le (LeE.cons .refl (LeE.cons .refl (LeE.cons .refl (LeE.cons .refl (LeE.cons .un (LeE.cons .un (LeE.cons .un (LeE.cons .un (LeE.cons .un (LeE.cons .un (LeE.cons .un (LeE.cons .un (LeE.cons .un (LeE.cons .un (LeE.cons .un (LeE.cons .un LeE.nil)))))))))))))))) hM11)
  · obtain ⟨⟨t13, pool14⟩, h15, hm⟩ := ob_ne hm hne
    refine sx_seq (sx_asg (i := 4) ((px_call (x := t13) (outs := [.mk pool14]) (X := X) (pa_s (i := 1) rfl (by intro h_; cases h_) (pa_k ((px_v (i := 2) (by exact rfl))) pa_n)) (.m (by exact rfl) (by exact trivial) RdL.ow (.k .nil)) (.m (.k .nil)) (by decide) ⟨pool6, most9, rfl, by rw [(opt_ok h15)]; rfl⟩)) (nx_of ?_))
    obtain ⟨⟨t16, pool17⟩, h18, hm⟩ := ob_ne hm hne
    obtain ⟨t19, h20, hm⟩ := ob_ne hm hne
    obtain ⟨⟨t21, pool22⟩, h23, hm⟩ := ob_ne hm hne
    refine sx_seq (sx_asg (i := 5) ((px_call (x := t21) (outs := [.mk pool22]) (X := X) (pa_s (i := 1) rfl (by intro h_; cases h_) (pa_k ((px_v (i := 4) (by exact rfl))) (pa_k ((px_v (i := 3) (by exact rfl))) (pa_k ((px_idx (pl_k ((PxN.pxA Int (pn_lst (ps_cons ((px_int (n := 1))) (ps_cons ((px_int (n := 2))) (ps_cons ((px_int (n := 3))) (ps_cons ((px_int (n := 1))) (ps_cons ((px_int (n := 2))) (ps_cons ((px_int (n := 0))) (ps_cons ((px_int (n := 1))) (ps_cons ((px_int (n := 2))) ps_nil)))))))) (by simp only [List.length_cons, List.length_nil]; decide))))) (px_call (x := t16) (outs := [.mk pool17]) (X := X) (pa_s (i := 1) rfl (by intro h_; cases h_) (pa_k ((px_int (n := 8))) pa_n)) (.m (by exact rfl) (by exact trivial) RdL.ow (.k .nil)) (.m (.k .nil)) (by decide) ⟨pool14, (8 : Int), rfl, by rw [(opt_ok h18)]; rfl⟩) trivial h20)) pa_n)))) (.m (by exact rfl) (by exact trivial) RdL.ow (.k (.k (.k .nil)))) (.m (.k (.k (.k .nil)))) (by decide) ⟨pool17, t13, need10, t19, rfl, by rw [(opt_ok h23)]; rfl⟩)) (nx_of ?_))
    obtain ⟨g27, hm⟩ := gd_ne hm hne
    obtain ⟨ys28, h29, hm⟩ := ob_ne hm hne
    obtain ⟨g32, hm⟩ := gd_ne hm hne
    obtain ⟨t33, h34, hm⟩ := ob_ne hm hne
    obtain ⟨t35, h36, hm⟩ := ob_ne hm hne
    obtain ⟨sight37, h38, hm⟩ := elet_eq (v := ((((t13.2 - t13.1) + t33) + t35) : Int)) hm
    refine sx_seq (sx_asg (i := 6) (px_eq ((px_op (px_op (px_op (px_t1 (px_v (i := 4) (by exact rfl))) (px_t0 (px_v (i := 4) (by exact rfl))) r2_sub) (px_max (pl_k ((PxN.pxA Int (pn_cat (pl_k ((PxN.pxA Int (pn_lst (ps_cons ((px_int (n := 0))) ps_nil) (by simp only [List.length_cons, List.length_nil]; decide))))) (pl_k ((PxN.pxA Int (pn_map (sr_list ((px_v (i := 5) (by exact rfl)))) (tc_n (by decide)) (opt_ok h29) g27 (by exact nowns1 (nown rfl (fun z_ => z_))) (fun x_ => leE_set rfl) (fun B_ x24 y30 n_ hx_ e31 => by
        obtain ⟨t25, h26, e31⟩ := ob_ne e31 ok_ne
        have e31 := R.ok.inj e31
        subst e31
        exact (px_call (x := t25) (outs := []) (X := E0) (pa_k ((px_v (i := 4) (by exact rfl))) (pa_k ((px_t0 (px_v (i := 15) (by exact rfl)))) pa_n)) (.k (.k .nil)) (.k (.k .nil)) (by decide) ⟨t13, x24.1, rfl, by rw [(opt_ok h26)]; rfl⟩)))))) trivial trivial g32)))) trivial h34) r2_add) (px_call (x := t35) (outs := []) (X := X) (pa_k ((px_v (i := 5) (by exact rfl))) pa_n) (.k .nil) (.k .nil) (by decide) ⟨t21, rfl, by rw [(opt_ok h36)]; rfl⟩) r2_add)) h38) (nx_of ?_))
    obtain ⟨t39, h40, hm⟩ := ob_ne hm hne
    obtain ⟨t41, h42, hm⟩ := ob_ne hm hne
    refine sx_seq (sx_asgO (i := 7) (px_callN (xs := t41) (outs := []) (X := X) (pa_k ((px_call (x := t39) (outs := []) (X := X) (pa_k ((px_v (i := 0) (by exact rfl))) (pa_k ((px_int (n := 1))) pa_n)) (.k (.k .nil)) (.k (.k .nil)) (by decide) ⟨script, (1 : Int), rfl, by rw [(opt_ok h40)]; rfl⟩)) pa_n) (.k .nil) (.k .nil) (by decide) ⟨t39, rfl, by rw [(opt_ok h42)]; rfl⟩) (nx_of ?_))
    obtain ⟨⟨t43, other44⟩, h45, hm⟩ := ob_ne hm hne
    obtain ⟨q46, h47, hm⟩ := elet_eq (v := (((1 : Int) + t43) : Int)) hm
    refine sx_seq (sx_asg (i := 8) (px_eq ((px_op (px_int (n := 1)) (px_call (x := t43) (outs := [.mk other44]) (X := X) (pa_s (i := 7) rfl (by intro h_; cases h_) (pa_k ((px_int (n := 24))) pa_n)) (.m (by exact rfl) (by exact trivial) RdL.ow (.k .nil)) (.m (.k .nil)) (by decide) ⟨t41, (24 : Int), rfl, by rw [(opt_ok h45)]; rfl⟩) r2_add)) h47) (nx_of ?_))
    obtain ⟨⟨t48, other49⟩, h50, hm⟩ := ob_ne hm hne
    obtain ⟨thick51, h52, hm⟩ := elet_eq (v := (((2 : Int) + t48) : Int)) hm
    refine sx_seq (sx_asg (i := 9) (px_eq ((px_op (px_int (n := 2)) (px_call (x := t48) (outs := [.mk other49]) (X := X) (pa_s (i := 7) rfl (by intro h_; cases h_) (pa_k ((px_int (n := 4))) pa_n)) (.m (by exact rfl) (by exact trivial) RdL.ow (.k .nil)) (.m (.k .nil)) (by decide) ⟨other44, (4 : Int), rfl, by rw [(opt_ok h50)]; rfl⟩) r2_add)) h52) (nx_of ?_))
    obtain ⟨⟨t53, other54⟩, h55, hm⟩ := ob_ne hm hne
    refine sx_seq (sx_asg (i := 10) ((px_call (x := t53) (outs := [.mk other54]) (X := X) (pa_s (i := 7) rfl (by intro h_; cases h_) (pa_k ((px_v (i := 5) (by exact rfl))) (pa_k ((px_str (t := ([46] : Tx)) rfl)) (pa_k ((px_min2 (px_int (n := 180)) (px_op (px_v (i := 8) (by exact rfl)) (px_v (i := 6) (by exact rfl)) r2_add))) (pa_k ((px_v (i := 9) (by exact rfl))) pa_n))))) (.m (by exact rfl) (by exact trivial) RdL.ow (.k (.k (.k (.k .nil))))) (.m (.k (.k (.k (.k .nil))))) (by decide) ⟨other49, t21, ([46] : Tx), (min (180 : Int) (q46 + sight37)), thick51, rfl, by rw [(opt_ok h55)]; rfl⟩)) (nx_of ?_))
    obtain ⟨texts56, h57, hm⟩ := elet_eq (v := ([] : (List Tx))) hm
    refine sx_seq (sx_asgO (i := 11) (pn_eq (pn_lst (xs := ([] : (List Tx))) ps_nil (by decide)) h57) (nx_of ?_))
    obtain ⟨out_, hL_, hno_, hm⟩ := bind_split hm hne
    refine sx_seq (sx_fold (s0 := (other54, texts56)) (X := fun B_ c_ d_ => XkOk g B_ X c_ d_) (Ei := (fun ((other59, texts60) : (List Int) × (List Tx)) => [.kp (script : Sc), .ow (pool22 : (List Int)), .kp (most9 : Int), .kp (need10 : Int), .kp (t13 : (Int × Int)), .kp (t21 : (List (Int × Int))), .kp (sight37 : Int), .ow (other59 : (List Int)), .kp (q46 : Int), .kp (thick51 : Int), .kp (t53 : Tx), .ow (texts60 : (List Tx)), .un, .un, .un, .un])) (fun _ _ _ _ n_ h_ => h_.nest n_) (sr_r1 (px_int (n := 3)) (by decide)) (tg_n) (by exact (LeE.cons .refl (LeE.cons .refl (LeE.cons .refl (LeE.cons .refl (LeE.cons .refl (LeE.cons .refl (LeE.cons .refl (LeE.cons .refl (LeE.cons .refl (LeE.cons .refl (LeE.cons .refl (LeE.cons .refl (LeE.cons .un (LeE.cons .un (LeE.cons .un (LeE.cons .un LeE.nil))))))))))))))))) hL_ hno_ (fun c_ d_ h_ => hex c_ d_ (by rw [h_] at hm; exact hm.symm)) (fun B x58 s_ r_ D hB_ hx_ hm hne hnx hct hex => ?_) (fun s_ hs_ => ?_))
    · obtain ⟨other59, texts60⟩ := s_
      have hps := hB_.1.trans hps
      show Sx g B [.kp (script : Sc), .ow (pool22 : (List Int)), .kp (most9 : Int), .kp (need10 : Int), .kp (t13 : (Int × Int)), .kp (t21 : (List (Int × Int))), .kp (sight37 : Int), .ow (other59 : (List Int)), .kp (q46 : Int), .kp (thick51 : Int), .kp (t53 : Tx), .ow (texts60 : (List Tx)), .kp (x58 : Int), .un, .un, .un] _ _
      obtain ⟨⟨t61, other62⟩, h63, hm⟩ := ob_ne hm hne
      refine sx_seq (sx_asg (i := 13) ((px_call (x := t61) (outs := [.mk other62]) (X := X) (pa_s (i := 7) rfl (by intro h_; cases h_) (pa_k ((px_int (n := 21))) pa_n)) (.m (by exact rfl) (by exact trivial) RdL.ow (.k .nil)) (.m (.k .nil)) (by decide) ⟨other59, (21 : Int), rfl, by rw [(opt_ok h63)]; rfl⟩)) (nx_of ?_))
      obtain ⟨⟨c67, other68⟩, h69, hm⟩ := ob_ne hm hne
      obtain ⟨more72, h74, hm⟩ := ob_ne hm hne
      refine sx_cut (E' := [.kp (script : Sc), .ow (pool22 : (List Int)), .kp (most9 : Int), .kp (need10 : Int), .kp (t13 : (Int × Int)), .kp (t21 : (List (Int × Int))), .kp (sight37 : Int), .ow (other68 : (List Int)), .kp (q46 : Int), .kp (thick51 : Int), .kp (t53 : Tx), .ow (texts60 : (List Tx)), .kp (x58 : Int), .kp (more72 : Int), .un, .un]) (fun M_ hM73 => ?_) ?_
      · clear hm
        refine sx_if (pt_andR (c := c67) (pt_test (px_op ((px_v (i := 12) (by exact rfl))) ((px_int (n := 0))) r2_eq)) (fun e70_ => by
          have e70 := (if_pos e70_).symm.trans (opt_ok h69)
          obtain ⟨⟨t64, other65⟩, h66, e70⟩ := ob_ne e70 ok_ne
          have e70 := R.ok.inj e70
          obtain ⟨e70_a0, e70_b0⟩ := Prod.mk.inj e70
          subst e70_a0
          subst e70_b0
          exact (pt_test (px_op ((px_call (x := t64) (outs := [.mk other65]) (X := X) (pa_s (i := 7) rfl (by intro h_; cases h_) (pa_k ((px_int (n := 2))) pa_n)) (.m (by exact rfl) (by exact trivial) RdL.ow (.k .nil)) (.m (.k .nil)) (by decide) ⟨other62, (2 : Int), rfl, by rw [(opt_ok h66)]; rfl⟩)) ((px_int (n := 1))) r2_eq))) (fun e70_ => by
          have e70 := (if_neg (fun z_ => Bool.false_ne_true (e70_.symm.trans z_))).symm.trans (opt_ok h69)
          have e70 := R.ok.inj e70
          obtain ⟨e70_a0, e70_b0⟩ := Prod.mk.inj e70
          subst e70_a0
          subst e70_b0
          exact ⟨rfl, rfl⟩)) (fun e71 => ?_) (fun e71 => ?_)
        · have hm := (if_pos e71).symm.trans (opt_ok h74)
          try first | have hm := try_ok hm hT_ | have hm := tryD_ok hm hT_
          have hm := R.ok.inj hm
          subst hm
          exact sx_asg (i := 13) ((px_int (n := 0))) (nx_le (LeE.cons .refl (LeE.cons .refl (LeE.cons .refl (LeE.cons .refl (LeE.cons .refl (LeE.cons .refl (LeE.cons .refl (LeE.cons .refl (LeE.cons .refl (LeE.cons .refl (LeE.cons .refl (LeE.cons .refl (LeE.cons .refl (LeE.cons .refl (LeE.cons .un (LeE.cons .un LeE.nil)))))))))))))))) hM73)
        · have hm := (if_neg (fun z_ => Bool.false_ne_true (e71.symm.trans z_))).symm.trans (opt_ok h74)
          try first | have hm := try_ok hm hT_ | have hm := tryD_ok hm hT_
          have hm := R.ok.inj hm
          subst hm
          exact sx_next (nx_le (LeE.cons .refl (LeE.cons .refl (LeE.cons .refl (LeE.cons .refl (LeE.cons .refl (LeE.cons .refl (LeE.cons .refl (LeE.cons .refl (LeE.cons .refl (LeE.cons .refl (LeE.cons .refl (LeE.cons .refl (LeE.cons .refl (LeE.cons .refl (LeE.cons .un (LeE.cons .un LeE.nil)))))))))))))))) hM73)
      · obtain ⟨t75, h76, hm⟩ := ob_ne hm hne
        obtain ⟨t77, h78, hm⟩ := ob_ne hm hne
        refine sx_seq (sx_asgO (i := 14) (px_callN (xs := t77) (outs := []) (X := X) (pa_k ((px_call (x := t75) (outs := []) (X := X) (pa_k ((px_v (i := 0) (by exact rfl))) (pa_k ((px_op (px_int (n := 2)) (px_v (i := 12) (by exact rfl)) r2_add)) pa_n)) (.k (.k .nil)) (.k (.k .nil)) (by decide) ⟨script, ((2 : Int) + x58), rfl, by rw [(opt_ok h76)]; rfl⟩)) pa_n) (.k .nil) (.k .nil) (by decide) ⟨t75, rfl, by rw [(opt_ok h78)]; rfl⟩) (nx_of ?_))
        obtain ⟨g79, hm⟩ := gd_ne hm hne
        obtain ⟨⟨t80, far81⟩, h82, hm⟩ := ob_ne hm hne
        obtain ⟨⟨t83, far84⟩, h85, hm⟩ := ob_ne hm hne
        obtain ⟨g86, hm⟩ := gd_ne hm hne
        exact sx_append (i := 11) rfl ((px_call (x := t83) (outs := [.mk far84]) (X := X) (pa_s (i := 14) rfl (by intro h_; cases h_) (pa_k ((px_v (i := 5) (by exact rfl))) (pa_k ((px_v (i := 10) (by exact rfl))) (pa_k ((px_op (px_lenS (px_v (i := 10) (by exact rfl)) g79) (px_v (i := 13) (by exact rfl)) r2_add)) (pa_k ((px_op (px_int (n := 2)) (px_call (x := t80) (outs := [.mk far81]) (X := X) (pa_s (i := 14) rfl (by intro h_; cases h_) (pa_k ((px_int (n := 4))) pa_n)) (.m (by exact rfl) (by exact trivial) RdL.ow (.k .nil)) (.m (.k .nil)) (by decide) ⟨t77, (4 : Int), rfl, by rw [(opt_ok h82)]; rfl⟩) r2_add)) pa_n))))) (.m (by exact rfl) (by exact trivial) RdL.ow (.k (.k (.k (.k .nil))))) (.m (.k (.k (.k (.k .nil))))) (by decide) ⟨far81, t21, t53, ((t53.length : Int) + more72), ((2 : Int) + t80), rfl, by rw [(opt_ok h85)]; rfl⟩)) rfl trivial RdL.ow g86 (nx_le (LeE.cons .refl (LeE.cons .refl (LeE.cons .refl (LeE.cons .refl (LeE.cons .refl (LeE.cons .refl (LeE.cons .refl (LeE.cons .refl (LeE.cons .refl (LeE.cons .refl (LeE.cons .refl (LeE.cons .refl (LeE.cons .un (LeE.cons .un (LeE.cons .un (LeE.cons .un LeE.nil)))))))))))))))) (hnx _ hm.symm))
    · rw [hs_] at hm
      clear hs_ hL_ hno_
      obtain ⟨other87, texts88⟩ := s_
      replace hm := rbind_ok hm
      refine nx_of ?_
      show Sx g B [.kp (script : Sc), .ow (pool22 : (List Int)), .kp (most9 : Int), .kp (need10 : Int), .kp (t13 : (Int × Int)), .kp (t21 : (List (Int × Int))), .kp (sight37 : Int), .ow (other87 : (List Int)), .kp (q46 : Int), .kp (thick51 : Int), .kp (t53 : Tx), .ow (texts88 : (List Tx)), .un, .un, .un, .un] _ _
      obtain ⟨g89, hm⟩ := gd_ne hm hne
      obtain ⟨g90, hm⟩ := gd_ne hm hne
      exact sx_ret' ((px_tup5 ((px_v (i := 4) (by exact rfl))) ((px_v (i := 5) (by exact rfl))) ((px_v (i := 6) (by exact rfl))) ((px_max2 (px_int (n := 1)) (px_op (px_lenS (px_v (i := 10) (by exact rfl)) g89) (px_v (i := 6) (by exact rfl)) r2_sub))) ((PxN.pxA Tx (pn_cat (pl_s (i := 11) (by exact rfl) RdL.ow) (pl_k ((PxN.pxA Tx (pn_lst (ps_cons ((px_v (i := 10) (by exact rfl))) ps_nil) (by simp only [List.length_cons, List.length_nil]; decide))))) rfl trivial g90))))) hps .nil (hret _ hm.symm)

def N__law_until : List Str := ["row", "q", "hour"]
theorem sc__law_until : FnScope N__law_until ["row", "q"] (defScope s__law_until) := ⟨rfl, rfl, rfl, by decide +kernel, rfl, by decide +kernel, by decide +kernel⟩
def rel__law_until (cs : List Ca) (o : Out) : Prop := ∃ (row : (List Int)) (q : Int), cs = [.b row, .k q] ∧ resN (m_law_until row q) o
theorem ok__law_until {g : Gx} {P : Program} {w : World} {mg : Str → Option Value} {base : Heap} {A : Ad} (T : Txt P g mg A) : FnOk P w g.K mg base (L2.CX P w) 1 A.f__law_until A.d__law_until ["row", "q"] (spOf g rel__law_until) := by
  refine fn_go T.F__law_until sc__law_until (fun cs o h => by obtain ⟨_, _, rfl, _⟩ := h; rfl) (by decide) (fun cdv A_ outer s H X hr => ⟨_, (pss_one (ps_ret (pe_lc (own := [("hour", 2)]) (by rfl) sc__law_until.nd (pi_listK (K := g.K) rfl (pv 0)) (blkOk_by (own := [("hour", 2)]) (N := N__law_until) (sc := defScope s__law_until) (by decide +kernel)) (fun _ _ _ _ _ => (pg_name (i := 2) sc__law_until.nd rfl (by first | exact Or.inl rfl | exact Or.inr rfl))) (fun _ _ _ _ _ => pts_one (pt_cmpR op_le (pv 2) (pv 1) (nomark _))) (fun _ _ _ _ _ => (pv 2))))), fun B qs cs o E D hps hrel hini hrt hx hfall => ?_⟩)
  obtain ⟨row, q, rfl, hrel⟩ := hrel
  generalize hm : m_law_until row q = r at hrel
  obtain ⟨hne, hret, hex⟩ := resN_ne hrel
  clear hrel
  obtain ⟨E1, rfl, hini1⟩ := ini_b hini
  obtain ⟨E2, rfl, hini2⟩ := ini_k hini1
  obtain ⟨rfl, rfl⟩ := ini_nil hini2
  have hret := fun y_ h_ => (hret y_ h_ ▸ hrt : DRt g B D.rt _)
  have hex := fun c_ d_ h_ => hx c_ d_ (hex c_ d_ h_)
  unfold m_law_until at hm
  show Sx g B [.bo (row : (List Int)), .kp (q : Int), .un] _ _
  obtain ⟨g2, hm⟩ := gd_ne hm hne
  obtain ⟨ys3, h4, hm⟩ := ob_ne hm hne
  exact sx_retW (pn_fil (sr_listb (i := 0) rfl) (tc_n (by decide)) (opt_ok h4) g2 (by exact nowns1 (nown rfl (fun z_ => z_))) (fun x_ => leE_set rfl) (fun B_ x1 r5 n_ hx_ e6 => by
      refine ⟨_, (pt_test (px_op ((px_v (i := 2) (by exact rfl))) ((px_v (i := 1) (by exact rfl))) r2_le)), fun e7 => ?_, fun e7 => ?_⟩
      · have e6 := (if_pos e7).symm.trans e6
        have e6 := R.ok.inj e6
        subst e6
        exact ⟨_, rfl, (px_v (i := 2) (by exact rfl))⟩
      · have e6 := (if_neg (fun z_ => Bool.false_ne_true (e7.symm.trans z_))).symm.trans e6
        have e6 := R.ok.inj e6
        exact e6.symm)) hps .nil (hret _ hm.symm)

def N_law : List Str := ["script", "ab", "kinds", "sight", "q", "texts", "lacquer", "climate", "weathers", "dues", "again", "coats", "k", "row", "signs"]
theorem sc_law : FnScope N_law ["script"] (defScope s_law) := ⟨rfl, rfl, rfl, by decide +kernel, rfl, by decide +kernel, by decide +kernel⟩
def rel_law (cs : List Ca) (o : Out) : Prop := ∃ (script : Sc), cs = [.k script] ∧ res0 (m_law script) o
theorem ok_law {g : Gx} {P : Program} {w : World} {mg : Str → Option Value} {base : Heap} {A : Ad} (T : Txt P g mg A) : FnOk P w g.K mg base (L2.CX P w) 11 A.f_law A.d_law ["script"] (spOf g rel_law) := by
  refine fn_go T.F_law sc_law (fun cs o h => by obtain ⟨_, rfl, _⟩ := h; rfl) (by decide) (fun cdv A_ outer s H X hr => ⟨_, (pss_cons (ps_asg (pe_call (ok__law_drawn T) (hr.mono (by decide)) (by rfl) T.mg__law_drawn T.kp__law_drawn T.b__law_drawn .nil (passes_call (takes_of rfl rfl rfl rfl) (fun _ _ _ _ h_ => h_)) (pa_cons (pv 0) pa_nil)) (pg_tupK (K := g.K) (n := 5) rfl rfl (pgs_cons (pg_name (i := 1) sc_law.nd rfl (by first | exact Or.inl rfl | exact Or.inr rfl)) (pgs_cons (pg_name (i := 2) sc_law.nd rfl (by first | exact Or.inl rfl | exact Or.inr rfl)) (pgs_cons (pg_name (i := 3) sc_law.nd rfl (by first | exact Or.inl rfl | exact Or.inr rfl)) (pgs_cons (pg_name (i := 4) sc_law.nd rfl (by first | exact Or.inl rfl | exact Or.inr rfl)) (pgs_cons (pg_name (i := 5) sc_law.nd rfl (by first | exact Or.inl rfl | exact Or.inr rfl)) pgs_nil)))))))
 (pss_cons (ps_set (i := 6) sc_law.nd rfl (by first | exact Or.inl rfl | exact Or.inr rfl) (pe_make T.mk_Lacquer (ok_Lacquer___init__ T) (hr.mono (by decide)) (by rfl) T.mg_Lacquer T.b_Lacquer___init__ .nil (passes_call (takes_of rfl rfl rfl rfl) (fun _ _ _ _ h_ => h_)) (pa_cons (pe_ix (ix_tupK (K := g.K) rfl) (pv 1) pe_int (fun _ _ => rfl)) (pa_cons (pe_ix (ix_tupK (K := g.K) rfl) (pv 1) pe_int (fun _ _ => rfl)) pa_nil))))
 (pss_cons (ps_set (i := 7) sc_law.nd rfl (by first | exact Or.inl rfl | exact Or.inr rfl) (pe_make T.mk_Climate (ok_Climate___init__ T) (hr.mono (by decide)) (by rfl) T.mg_Climate T.b_Climate___init__ .nil (passes_call (takes_of rfl rfl rfl rfl) (fun _ _ _ _ h_ => h_)) (pa_cons (pe_callTy (call_list_ofK (K := g.K) rfl) (by rfl) T.no_list (by decide +kernel) (pa_cons (pv 2) pa_nil)) pa_nil)))
 (pss_cons (ps_setLc (i := 8) (own := [("signs", 14)]) (by rfl) sc_law.nd rfl rfl (sw_true rfl rfl rfl (by decide +kernel)) (pi_listK (K := g.K) rfl (pv 5)) (blkOk_by (own := [("signs", 14)]) (N := N_law) (sc := defScope s_law) (by decide +kernel)) (fun _ _ _ _ _ => (pg_name (i := 14) sc_law.nd rfl (by first | exact Or.inl rfl | exact Or.inr rfl))) (fun _ _ _ _ _ => pts_nil) (fun _ _ _ _ _ => (pe_smeth (pe_glob (v := .ref (g.ca (Str.ofString "Weather"))) (by rfl) T.mg_Weather rfl) T.sm_Weather_of_signs.choose_spec (ok_Weather_of_signs T) (hr.mono (by decide)) T.b_Weather_of_signs passL (pa_cons (pv 14) pa_nil))))
 (pss_cons (ps_setLc (i := 9) (own := [("signs", 14)]) (by rfl) sc_law.nd rfl rfl (sw_true rfl rfl rfl (by decide +kernel)) (pi_listK (K := g.K) rfl (pv 5)) (blkOk_by (own := [("signs", 14)]) (N := N_law) (sc := defScope s_law) (by decide +kernel)) (fun _ _ _ _ _ => (pg_name (i := 14) sc_law.nd rfl (by first | exact Or.inl rfl | exact Or.inr rfl))) (fun _ _ _ _ _ => pts_nil) (fun _ _ _ _ _ => (pe_call (ok__law_last_row T) (hr.mono (by decide)) (by rfl) T.mg__law_last_row T.kp__law_last_row T.b__law_last_row .nil passL (pa_cons (pv 1) (pa_cons (pv 14) pa_nil)))))
 (pss_cons (ps_if (L2.pt_not (pt_val (pe_call (ok__law_same T) (hr.mono (by decide)) (by rfl) T.mg__law_same T.kp__law_same T.b__law_same .nil (passes_call (takes_of rfl rfl rfl rfl) (fun _ _ _ _ h_ => h_)) (pa_cons (pe_call (ok_saver_sight T) (hr.mono (by decide)) (by rfl) T.mg_saver_sight T.kp_saver_sight T.b_saver_sight .nil (passes_call (takes_of rfl rfl rfl rfl) (fun _ _ _ _ h_ => h_)) (pa_cons (pv 6) (pa_cons (pv 7) pa_nil))) (pa_cons (pv 3) pa_nil))))) (pss_one (ps_ret pe_bl)) pss_nil)
 (pss_cons (ps_for (passes_of rfl) rfl (pi_range1 (by rfl) T.no_range (pa_cons pe_int pa_nil)) (pg_name (i := 10) sc_law.nd rfl (by first | exact Or.inl rfl | exact Or.inr rfl)) (pss_cons (ps_set (i := 11) sc_law.nd rfl (by first | exact Or.inl rfl | exact Or.inr rfl) (pe_lst pa_nil))
 (pss_cons (ps_for (passes_of rfl) rfl (pi_range1 (by rfl) T.no_range (pa_cons (pe_callB (call_len_seqK (K := g.K) rfl) (by rfl) T.no_len (by decide +kernel) (pa_cons (pv 5) pa_nil)) pa_nil)) (pg_name (i := 12) sc_law.nd rfl (by first | exact Or.inl rfl | exact Or.inr rfl)) (pss_cons (ps_set (i := 13) sc_law.nd rfl (by first | exact Or.inl rfl | exact Or.inr rfl) (pe_call (ok_latest T) (hr.mono (by decide)) (by rfl) T.mg_latest T.kp_latest T.b_latest .nil (passes_call (takes_of rfl rfl rfl rfl) (fun _ _ _ _ h_ => h_)) (pa_cons (pv 6) (pa_cons (pe_ix (ix_listK (K := g.K) rfl) (pv 8) (pv 12) (fun _ _ => rfl)) pa_nil))))
 (pss_cons (ps_if (L2.pt_not (pt_val (pe_call (ok__law_same T) (hr.mono (by decide)) (by rfl) T.mg__law_same T.kp__law_same T.b__law_same .nil (passes_call (takes_of rfl rfl rfl rfl) (fun _ _ _ _ h_ => h_)) (pa_cons (pv 13) (pa_cons (pe_ix (ix_listK (K := g.K) rfl) (pv 9) (pv 12) (fun _ _ => rfl)) pa_nil))))) (pss_one (ps_ret pe_bl)) pss_nil)
 (pss_cons (ps_expr (pe_bm PySem.F.plainAttrs_list PySem.F.slot_list_append PySem.F.type_list_append mt_append (pv 11) (pa_cons (pe_call (ok__law_until T) (hr.mono (by decide)) (by rfl) T.mg__law_until T.kp__law_until T.b__law_until .nil (passes_call (takes_of rfl rfl rfl rfl) (fun _ _ _ _ h_ => h_)) (pa_cons (pv 13) (pa_cons (pv 4) pa_nil))) pa_nil)))
 (pss_cons (ps_asg pe_int (pg_sub (pv 13) pe_int set_list))
 (pss_one (ps_expr (pe_bm PySem.F.plainAttrs_list PySem.F.slot_list_append PySem.F.type_list_append mt_append (pv 13) (pa_cons (pv 4) pa_nil)))))))))
 (pss_one (ps_for (passes_of rfl) rfl (pi_range2 (by rfl) T.no_range (pa_cons pe_int (pa_cons (pe_callB (call_len_seqK (K := g.K) rfl) (by rfl) T.no_len (by decide +kernel) (pa_cons (pv 11) pa_nil)) pa_nil))) (pg_name (i := 12) sc_law.nd rfl (by first | exact Or.inl rfl | exact Or.inr rfl)) (pss_one (ps_if (PW.pt (pw_and (pt_cmpR op_ge (pe_callB call_len_str (by rfl) T.no_len (by decide +kernel) (pa_cons (pe_ix (ix_listK (K := g.K) rfl) (pv 5) (pe_un un_neg pe_int) (fun _ _ => rfl)) pa_nil)) (pe_op op_add (pv 4) (pv 3)) (nomark _)) (pw_and1 (L2.pt_not (pt_val (pe_call (ok__law_same T) (hr.mono (by decide)) (by rfl) T.mg__law_same T.kp__law_same T.b__law_same .nil (passes_call (takes_of rfl rfl rfl rfl) (fun _ _ _ _ h_ => h_)) (pa_cons (pe_ix (ix_listK (K := g.K) rfl) (pv 11) (pv 12) (fun _ _ => rfl)) (pa_cons (pe_ix (ix_listK (K := g.K) rfl) (pv 11) pe_int (fun _ _ => rfl)) pa_nil)))))))) (pss_one (ps_ret pe_bl)) pss_nil)))))))
 (pss_one (ps_ret (pe_call (ok__law_same T) (hr.mono (by decide)) (by rfl) T.mg__law_same T.kp__law_same T.b__law_same .nil (passes_call (takes_of rfl rfl rfl rfl) (fun _ _ _ _ h_ => h_)) (pa_cons (pe_call (ok_saver_sight T) (hr.mono (by decide)) (by rfl) T.mg_saver_sight T.kp_saver_sight T.b_saver_sight .nil (passes_call (takes_of rfl rfl rfl rfl) (fun _ _ _ _ h_ => h_)) (pa_cons (pv 6) (pa_cons (pv 7) pa_nil))) (pa_cons (pv 3) pa_nil)))))))))))), fun B qs cs o E D hps hrel hini hrt hx hfall => ?_⟩)
  obtain ⟨script, rfl, hrel⟩ := hrel
  generalize hm : m_law script = r at hrel
  obtain ⟨hne, hret, hex⟩ := res0_ne hrel
  clear hrel
  obtain ⟨E1, rfl, hini1⟩ := ini_k hini
  obtain ⟨rfl, rfl⟩ := ini_nil hini1
  have hret := fun y_ h_ => (hret y_ h_ ▸ hrt : DRt g B D.rt _)
  have hex := fun c_ d_ h_ => hx c_ d_ (hex c_ d_ h_)
  unfold m_law at hm
  show Sx g B [.kp (script : Sc), .un, .un, .un, .un, .un, .un, .un, .un, .un, .un, .un, .un, .un, .un] _ _
  obtain ⟨t1, h2, hm⟩ := ob_ne hm hne
  refine sx_seq (sx_asgT ((px_call (x := t1) (outs := []) (X := X) (pa_k ((px_v (i := 0) (by exact rfl))) pa_n) (.k .nil) (.k .nil) (by decide) ⟨script, rfl, by rw [(opt_ok h2)]; rfl⟩)) (tg_5) (nx_of ?_))
  rcases bind_cases hm with ⟨t3, h4, hm⟩ | ⟨c5, d6, h4, h7⟩ | h7
  rotate_left
  · exact sx_seq (sx_exprE (pe_makeX rfl (pa_k ((px_t0 (px_v (i := 1) (by exact rfl)))) (pa_k ((px_t1 (px_v (i := 1) (by exact rfl)))) pa_n)) (.k (.k .nil)) (.k (.k .nil)) ⟨t1.a.1, t1.a.2, rfl, h4.symm⟩ (hex _ _ h7)))
  · exact absurd h7 hne
  refine sx_seq (sx_asg (i := 6) ((px_make (x := t3) (X := X) rfl (pa_k ((px_t0 (px_v (i := 1) (by exact rfl)))) (pa_k ((px_t1 (px_v (i := 1) (by exact rfl)))) pa_n)) (.k (.k .nil)) (.k (.k .nil)) ⟨t1.a.1, t1.a.2, rfl, h4.symm⟩)) (nx_of ?_))
  rcases bind_cases hm with ⟨t8, h9, hm⟩ | ⟨c10, d11, h9, h12⟩ | h12
  rotate_left
  · exact sx_seq (sx_exprE (pe_makeX rfl (pa_k ((PxN.pxA (Int × Int) (pn_list (pl_k (px_v (i := 2) (by exact rfl))) trivial))) pa_n) (.k .nil) (.k .nil) ⟨t1.b, rfl, h9.symm⟩ (hex _ _ h12)))
  · exact absurd h12 hne
  refine sx_seq (sx_asg (i := 7) ((px_make (x := t8) (X := X) rfl (pa_k ((PxN.pxA (Int × Int) (pn_list (pl_k (px_v (i := 2) (by exact rfl))) trivial))) pa_n) (.k .nil) (.k .nil) ⟨t1.b, rfl, h9.symm⟩)) (nx_of ?_))
  obtain ⟨g16, hm⟩ := gd_ne hm hne
  obtain ⟨ys17, h18, hm⟩ := ob_ne hm hne
  refine sx_seq (sx_asg (i := 8) ((PxN.pxA O_Weather (pn_map (sr_list ((px_v (i := 5) (by exact rfl)))) (tc_n (by decide)) (opt_ok h18) g16 (by exact nowns1 (nown rfl (fun z_ => z_))) (fun x_ => leE_set rfl) (fun B_ x13 y19 n_ hx_ e20 => by
      obtain ⟨t14, h15, e20⟩ := ob_ne e20 ok_ne
      have e20 := R.ok.inj e20
      subst e20
      exact (px_smeth (x := t14) (outs := []) (X := E0) (pa_k ((px_v (i := 14) (by exact rfl))) pa_n) (.k .nil) (.k .nil) (by decide) ⟨x13, rfl, by rw [(opt_ok h15)]; rfl⟩))))) (nx_of ?_))
  obtain ⟨g24, hm⟩ := gd_ne hm hne
  obtain ⟨ys25, h26, hm⟩ := ob_ne hm hne
  refine sx_seq (sx_asg (i := 9) ((PxN.pxA (List Int) (pn_map (sr_list ((px_v (i := 5) (by exact rfl)))) (tc_n (by decide)) (opt_ok h26) g24 (by exact nowns1 (nown rfl (fun z_ => z_))) (fun x_ => leE_set rfl) (fun B_ x21 y27 n_ hx_ e28 => by
      obtain ⟨t22, h23, e28⟩ := ob_ne e28 ok_ne
      have e28 := R.ok.inj e28
      subst e28
      exact (px_call (x := t22) (outs := []) (X := E0) (pa_k ((px_v (i := 1) (by exact rfl))) (pa_k ((px_v (i := 14) (by exact rfl))) pa_n)) (.k (.k .nil)) (.k (.k .nil)) (by decide) ⟨t1.a, x21, rfl, by rw [(opt_ok h23)]; rfl⟩))))) (nx_of ?_))
  obtain ⟨t29, h30, hm⟩ := ob_ne hm hne
  obtain ⟨t31, h32, hm⟩ := ob_ne hm hne
  refine sx_seq (sx_if (pt_not (pt_B (px_call (x := t31) (outs := []) (X := X) (pa_k (px_d ((px_call (x := t29) (outs := []) (X := X) (pa_k ((px_v (i := 6) (by exact rfl))) (pa_k ((px_v (i := 7) (by exact rfl))) pa_n)) (.k (.k .nil)) (.k (.k .nil)) (by decide) ⟨t3, t8, rfl, by rw [(opt_ok h30)]; rfl⟩))) (pa_k (px_d ((px_v (i := 3) (by exact rfl)))) pa_n)) (.k (.k .nil)) (.k (.k .nil)) (by decide) ⟨(ToD.d t29), (ToD.d t1.c), rfl, by rw [(opt_ok h32)]; rfl⟩))) (fun e33 => ?_) (fun e33 => ?_))
  · have hm := (if_pos e33).symm.trans hm
    exact sx_ret' (px_bl) hps .nil (hret _ hm.symm)
  · have hm := (if_neg (fun z_ => Bool.false_ne_true (e33.symm.trans z_))).symm.trans hm
    refine sx_next (nx_of ?_)
    obtain ⟨out_, hL_, hno_, hm⟩ := bind_split hm hne
    refine sx_seq (sx_for (s0 := ()) (X := fun B_ c_ d_ => XkOk g B_ X c_ d_) (fin := (fun y_ => Out.ret y_ [])) (Ei := (fun (_ : Unit) => [.kp (script : Sc), .kp (t1.a : (Int × Int)), .kp (t1.b : (List (Int × Int))), .kp (t1.c : Int), .kp (t1.d : Int), .kp (t1.e : (List Tx)), .kp (t3 : O_Lacquer), .kp (t8 : O_Climate), .kp (ys17 : (List O_Weather)), .kp (ys25 : (List (List Int))), .un, .un, .un, .un, .un])) (fun _ _ _ _ n_ h_ => h_.nest n_) (sr_r1 (px_int (n := 2)) (by decide)) (tg_n) (by exact (LeE.cons .refl (LeE.cons .refl (LeE.cons .refl (LeE.cons .refl (LeE.cons .refl (LeE.cons .refl (LeE.cons .refl (LeE.cons .refl (LeE.cons .refl (LeE.cons .refl (LeE.cons .un (LeE.cons .un (LeE.cons .un (LeE.cons .un (LeE.cons .un LeE.nil)))))))))))))))) hL_ hno_ (fun y_ h_ => hret _ (loop_ret h_ hm).symm) (fun c_ d_ h_ => hex c_ d_ (by rw [h_] at hm; exact hm.symm)) (fun B x34 s_ r_ D hB_ hx_ hm hne hnx hct hbk hret hex => ?_) (fun s_ hs_ => ?_))
    · have hps := hB_.1.trans hps
      show Sx g B [.kp (script : Sc), .kp (t1.a : (Int × Int)), .kp (t1.b : (List (Int × Int))), .kp (t1.c : Int), .kp (t1.d : Int), .kp (t1.e : (List Tx)), .kp (t3 : O_Lacquer), .kp (t8 : O_Climate), .kp (ys17 : (List O_Weather)), .kp (ys25 : (List (List Int))), .kp (x34 : Int), .un, .un, .un, .un] _ _
      obtain ⟨coats35, h36, hm⟩ := elet_eq (v := ([] : (List (List Int)))) hm
      refine sx_seq (sx_asgO (i := 11) (pn_eq (pn_lst (xs := ([] : (List (List Int)))) ps_nil (by decide)) h36) (nx_of ?_))
      obtain ⟨g37, hm⟩ := gd_ne hm hne
      obtain ⟨out_, hL_, hno_, hm⟩ := bind_split hm hne
      refine sx_seq (sx_for (s0 := coats35) (X := fun B_ c_ d_ => XkOk g B_ X c_ d_) (fin := (fun y_ => Out.ret y_ [])) (Ei := (fun (coats39 : (List (List Int))) => [.kp (script : Sc), .kp (t1.a : (Int × Int)), .kp (t1.b : (List (Int × Int))), .kp (t1.c : Int), .kp (t1.d : Int), .kp (t1.e : (List Tx)), .kp (t3 : O_Lacquer), .kp (t8 : O_Climate), .kp (ys17 : (List O_Weather)), .kp (ys25 : (List (List Int))), .kp (x34 : Int), .ow (coats39 : (List (List Int))), .un, .un, .un])) (fun _ _ _ _ n_ h_ => h_.nest n_) (sr_r1 (px_len (pl_k (px_v (i := 5) (by exact rfl))) trivial) g37) (tg_n) (by exact (LeE.cons .refl (LeE.cons .refl (LeE.cons .refl (LeE.cons .refl (LeE.cons .refl (LeE.cons .refl (LeE.cons .refl (LeE.cons .refl (LeE.cons .refl (LeE.cons .refl (LeE.cons .refl (LeE.cons .refl (LeE.cons .un (LeE.cons .un (LeE.cons .un LeE.nil)))))))))))))))) hL_ hno_ (fun y_ h_ => hret _ (loop_ret h_ hm).symm) (fun c_ d_ h_ => hex c_ d_ (by rw [h_] at hm; exact hm.symm)) (fun B x38 coats39 r_ D hB_ hx_ hm hne hnx hct hbk hret hex => ?_) (fun coats55 hs_ => ?_))
      · have hps := hB_.1.trans hps
        show Sx g B [.kp (script : Sc), .kp (t1.a : (Int × Int)), .kp (t1.b : (List (Int × Int))), .kp (t1.c : Int), .kp (t1.d : Int), .kp (t1.e : (List Tx)), .kp (t3 : O_Lacquer), .kp (t8 : O_Climate), .kp (ys17 : (List O_Weather)), .kp (ys25 : (List (List Int))), .kp (x34 : Int), .ow (coats39 : (List (List Int))), .kp (x38 : Int), .un, .un] _ _
        obtain ⟨t40, h41, hm⟩ := ob_ne hm hne
        obtain ⟨t42, h43, hm⟩ := ob_ne hm hne
        refine sx_seq (sx_asgO (i := 13) (px_callN (xs := t42) (outs := []) (X := X) (pa_k ((px_v (i := 6) (by exact rfl))) (pa_k ((px_idx (pl_k (px_v (i := 8) (by exact rfl))) (px_v (i := 12) (by exact rfl)) trivial h41)) pa_n)) (.k (.k .nil)) (.k (.k .nil)) (by decide) ⟨t3, t40, rfl, by rw [(opt_ok h43)]; rfl⟩) (nx_of ?_))
        obtain ⟨t44, h45, hm⟩ := ob_ne hm hne
        obtain ⟨t46, h47, hm⟩ := ob_ne hm hne
        refine sx_seq (sx_if (pt_not (pt_B (px_lend (i := 13) (j := 11) rfl rfl (by decide) hps (.kp (.kp (.kp (.kp (.kp (.kp (.kp (.kp (.kp (.kp (.kp (.un (.kp (.un (.un .nil))))))))))))))) (fun B_ n_ => (px_call (x := t46) (outs := []) (X := X) (pa_k (px_d ((px_v (i := 13) (by exact rfl)))) (pa_k (px_d ((px_idx (pl_k (px_v (i := 9) (by exact rfl))) (px_v (i := 12) (by exact rfl)) trivial h45))) pa_n)) (.k (.k .nil)) (.k (.k .nil)) (by decide) ⟨(ToD.d t42), (ToD.d t44), rfl, by rw [(opt_ok h47)]; rfl⟩))))) (fun e48 => ?_) (fun e48 => ?_))
        · have hm := (if_pos e48).symm.trans hm
          exact sx_ret' (px_bl) hps .nil (hret _ hm.symm)
        · have hm := (if_neg (fun z_ => Bool.false_ne_true (e48.symm.trans z_))).symm.trans hm
          refine sx_next (nx_of ?_)
          obtain ⟨t49, h50, hm⟩ := ob_ne hm hne
          obtain ⟨g51, hm⟩ := gd_ne hm hne
          refine sx_seq (sx_append (i := 11) rfl ((PxN.pxA Int (px_callN (xs := t49) (outs := []) (X := X) (pa_s (i := 13) rfl (by intro h_; cases h_) (pa_k ((px_v (i := 4) (by exact rfl))) pa_n)) (.sb (by exact rfl) Rd1.ow (.k .nil)) (.sb (by decide) (.k .nil)) (by decide) ⟨t42, t1.d, rfl, by rw [(opt_ok h50)]; rfl⟩))) rfl trivial RdL.ow g51 (nx_of ?_))
          obtain ⟨row52, h53, hm⟩ := ob_ne hm hne
          refine sx_seq (sx_setitem (i := 13) ((px_int (n := 0))) rfl (px_int (n := 0)) rfl trivial RdL.ow h53 (nx_of ?_))
          obtain ⟨g54, hm⟩ := gd_ne hm hne
          exact sx_append (i := 13) rfl ((px_v (i := 4) (by exact rfl))) rfl trivial RdL.ow g54 (nx_le (LeE.cons .refl (LeE.cons .refl (LeE.cons .refl (LeE.cons .refl (LeE.cons .refl (LeE.cons .refl (LeE.cons .refl (LeE.cons .refl (LeE.cons .refl (LeE.cons .refl (LeE.cons .refl (LeE.cons .refl (LeE.cons .un (LeE.cons .un (LeE.cons .un LeE.nil))))))))))))))) (hnx _ hm.symm))
      · have hm := loop_go hs_ hm
        clear hs_ hL_ hno_
        refine nx_of ?_
        show Sx g B [.kp (script : Sc), .kp (t1.a : (Int × Int)), .kp (t1.b : (List (Int × Int))), .kp (t1.c : Int), .kp (t1.d : Int), .kp (t1.e : (List Tx)), .kp (t3 : O_Lacquer), .kp (t8 : O_Climate), .kp (ys17 : (List O_Weather)), .kp (ys25 : (List (List Int))), .kp (x34 : Int), .ow (coats55 : (List (List Int))), .un, .un, .un] _ _
        obtain ⟨g56, hm⟩ := gd_ne hm hne
        obtain ⟨out_, hL_, hno_, hm⟩ := bind_split hm hne
        refine sx_for (s0 := ()) (X := fun B_ c_ d_ => XkOk g B_ X c_ d_) (fin := (fun y_ => Out.ret y_ [])) (Ei := (fun (_ : Unit) => [.kp (script : Sc), .kp (t1.a : (Int × Int)), .kp (t1.b : (List (Int × Int))), .kp (t1.c : Int), .kp (t1.d : Int), .kp (t1.e : (List Tx)), .kp (t3 : O_Lacquer), .kp (t8 : O_Climate), .kp (ys17 : (List O_Weather)), .kp (ys25 : (List (List Int))), .kp (x34 : Int), .ow (coats55 : (List (List Int))), .un, .un, .un])) (fun _ _ _ _ n_ h_ => h_.nest n_) (sr_r2 (px_int (n := 1)) (px_len (pl_s (i := 11) (by exact rfl) RdL.ow) rfl) (by decide) g56) (tg_n) (by exact (LeE.cons .refl (LeE.cons .refl (LeE.cons .refl (LeE.cons .refl (LeE.cons .refl (LeE.cons .refl (LeE.cons .refl (LeE.cons .refl (LeE.cons .refl (LeE.cons .refl (LeE.cons .refl (LeE.cons .refl (LeE.cons .un (LeE.cons .un (LeE.cons .un LeE.nil)))))))))))))))) hL_ hno_ (fun y_ h_ => hret _ (loop_ret h_ hm).symm) (fun c_ d_ h_ => hex c_ d_ (by rw [h_] at hm; exact hm.symm)) (fun B x57 s_ r_ D hB_ hx_ hm hne hnx hct hbk hret hex => ?_) (fun s_ hs_ => ?_)
        · have hps := hB_.1.trans hps
          show Sx g B [.kp (script : Sc), .kp (t1.a : (Int × Int)), .kp (t1.b : (List (Int × Int))), .kp (t1.c : Int), .kp (t1.d : Int), .kp (t1.e : (List Tx)), .kp (t3 : O_Lacquer), .kp (t8 : O_Climate), .kp (ys17 : (List O_Weather)), .kp (ys25 : (List (List Int))), .kp (x34 : Int), .ow (coats55 : (List (List Int))), .kp (x57 : Int), .un, .un] _ _
          obtain ⟨t58, h59, hm⟩ := ob_ne hm hne
          obtain ⟨g60, hm⟩ := gd_ne hm hne
          obtain ⟨c67, h68, hm⟩ := ob_ne hm hne
          refine sx_if (pt_andR (c := c67) (pt_test (px_op ((px_lenS (px_idx (pl_k (px_v (i := 5) (by exact rfl))) (px_un (px_int (n := 1)) r1_neg) trivial h59) g60)) ((px_op (px_v (i := 4) (by exact rfl)) (px_v (i := 3) (by exact rfl)) r2_add)) r2_ge)) (fun e69_ => by
            have e69 := (if_pos e69_).symm.trans (opt_ok h68)
            obtain ⟨t61, h62, e69⟩ := ob_ne e69 ok_ne
            obtain ⟨t63, h64, e69⟩ := ob_ne e69 ok_ne
            obtain ⟨t65, h66, e69⟩ := ob_ne e69 ok_ne
            have e69 := R.ok.inj e69
            subst e69
            exact (pt_not (pt_B (px_call (x := t65) (outs := []) (X := X) (pa_k (px_d ((px_idx (pl_s (i := 11) (by exact rfl) RdL.ow) (px_v (i := 12) (by exact rfl)) rfl h62))) (pa_k (px_d ((px_idx (pl_s (i := 11) (by exact rfl) RdL.ow) (px_int (n := 0)) rfl h64))) pa_n)) (.k (.k .nil)) (.k (.k .nil)) (by decide) ⟨(ToD.d t61), (ToD.d t63), rfl, by rw [(opt_ok h66)]; rfl⟩)))) (fun e69_ => by
            have e69 := (if_neg (fun z_ => Bool.false_ne_true (e69_.symm.trans z_))).symm.trans (opt_ok h68)
            have e69 := R.ok.inj e69
            subst e69
            exact ⟨rfl, rfl⟩)) (fun e70 => ?_) (fun e70 => ?_)
          · have hm := (if_pos e70).symm.trans hm
            exact sx_ret' (px_bl) hps .nil (hret _ hm.symm)
          · have hm := (if_neg (fun z_ => Bool.false_ne_true (e70.symm.trans z_))).symm.trans hm
            exact sx_next (nx_le (LeE.cons .refl (LeE.cons .refl (LeE.cons .refl (LeE.cons .refl (LeE.cons .refl (LeE.cons .refl (LeE.cons .refl (LeE.cons .refl (LeE.cons .refl (LeE.cons .refl (LeE.cons .refl (LeE.cons .refl (LeE.cons .un (LeE.cons .un (LeE.cons .un LeE.nil))))))))))))))) (hnx _ hm.symm))
        · have hm := loop_go hs_ hm
          clear hs_ hL_ hno_
          obtain _ := s_
          exact (nx_le (LeE.cons .refl (LeE.cons .refl (LeE.cons .refl (LeE.cons .refl (LeE.cons .refl (LeE.cons .refl (LeE.cons .refl (LeE.cons .refl (LeE.cons .refl (LeE.cons .refl (LeE.cons .un (LeE.cons .un (LeE.cons .un (LeE.cons .un (LeE.cons .un LeE.nil))))))))))))))) (hnx _ hm.symm))
    · have hm := loop_go hs_ hm
      clear hs_ hL_ hno_
      obtain _ := s_
      refine nx_of ?_
      show Sx g B [.kp (script : Sc), .kp (t1.a : (Int × Int)), .kp (t1.b : (List (Int × Int))), .kp (t1.c : Int), .kp (t1.d : Int), .kp (t1.e : (List Tx)), .kp (t3 : O_Lacquer), .kp (t8 : O_Climate), .kp (ys17 : (List O_Weather)), .kp (ys25 : (List (List Int))), .un, .un, .un, .un, .un] _ _
      obtain ⟨t71, h72, hm⟩ := ob_ne hm hne
      obtain ⟨t73, h74, hm⟩ := ob_ne hm hne
      exact sx_ret' ((px_call (x := t73) (outs := []) (X := X) (pa_k (px_d ((px_call (x := t71) (outs := []) (X := X) (pa_k ((px_v (i := 6) (by exact rfl))) (pa_k ((px_v (i := 7) (by exact rfl))) pa_n)) (.k (.k .nil)) (.k (.k .nil)) (by decide) ⟨t3, t8, rfl, by rw [(opt_ok h72)]; rfl⟩))) (pa_k (px_d ((px_v (i := 3) (by exact rfl)))) pa_n)) (.k (.k .nil)) (.k (.k .nil)) (by decide) ⟨(ToD.d t71), (ToD.d t1.c), rfl, by rw [(opt_ok h74)]; rfl⟩)) hps .nil (hret _ hm.symm)

end Gn
namespace Gn
open PySem L2
/-! ### weakest preconditions of outcomes -/
def W {α : Type} (m : R α) (Q : α → Prop) : Prop := ∃ a, m = .ok a ∧ Q a
/-- what is asked of a turn's end -/
inductive SP {S ρ : Type} (I J : S → Prop) (E : ρ → Prop) : Stp S ρ → Prop
  | go {s : S} : I s → SP I J E (.go s)
  | brk {s : S} : J s → SP I J E (.brk s)
  | ret {y : ρ} : E y → SP I J E (.ret y)
section
variable {α β γ S ρ : Type}
theorem W.eq {m : R α} {a : α} (h : W m (· = a)) : m = .ok a := by obtain ⟨b, e, rfl⟩ := h; exact e
theorem W.of {m : R α} {a : α} (h : m = .ok a) : W m (· = a) := ⟨a, h, rfl⟩
theorem W.mono {m : R α} {P Q : α → Prop} (h : W m P) (k : ∀ a, P a → Q a) : W m Q := by obtain ⟨a, e, p⟩ := h; exact ⟨a, e, k a p⟩
theorem w_ok {a : α} {Q : α → Prop} (h : Q a) : W (.ok a) Q := ⟨a, rfl, h⟩
theorem w_ob {o : Option α} {x : α} {f : α → R β} {Q : β → Prop} (e : o = some x) (h : W (f x) Q) : W (ob o f) Q := by subst e; exact h
theorem w_call {m : R α} {P : α → Prop} {f : α → R β} {Q : β → Prop} (hm : W m P) (h : ∀ a, P a → W (f a) Q) : W (ob m.opt f) Q := by obtain ⟨a, rfl, p⟩ := hm; exact h a p
theorem w_call2 {m : R (α × γ)} {P : α × γ → Prop} {f : α × γ → R β} {Q : β → Prop} (hm : W m P) (h : ∀ a b, P (a, b) → W (f (a, b)) Q) : W (ob m.opt f) Q := by obtain ⟨⟨a, b⟩, rfl, p⟩ := hm; exact h a b p
theorem w_bind {m : R α} {P : α → Prop} {f : α → R β} {Q : β → Prop} (hm : W m P) (h : ∀ a, P a → W (f a) Q) : W (m.bind f) Q := by obtain ⟨a, rfl, p⟩ := hm; exact h a p
theorem w_bind2 {m : R (α × γ)} {P : α × γ → Prop} {f : α × γ → R β} {Q : β → Prop} (hm : W m P) (h : ∀ a b, P (a, b) → W (f (a, b)) Q) : W (m.bind f) Q := by obtain ⟨⟨a, b⟩, rfl, p⟩ := hm; exact h a b p
theorem w_gd {c : Bool} {m : R β} {Q : β → Prop} (hc : c = true) (h : W m Q) : W (gd c m) Q := by subst hc; exact h
theorem w_elet {a : α} {f : α → R β} {Q : β → Prop} (h : W (f a) Q) : W (elet a f) Q := h
/-- .. the value forgotten but for what is said of it -/
theorem w_eletP {a : α} (P : α → Prop) {f : α → R β} {Q : β → Prop} (p : P a) (h : ∀ a, P a → W (f a) Q) : W (elet a f) Q := h a p
theorem w_ite {c : Bool} {x y : R β} {Q : β → Prop} (h1 : c = true → W x Q) (h2 : c = false → W y Q) : W (if c = true then x else y) Q := by
  cases c with
  | true => exact h1 rfl
  | false => exact h2 rfl
theorem w_ifd {p : Prop} [Decidable p] {x y : R β} {Q : β → Prop} (h1 : p → W x Q) (h2 : ¬ p → W y Q) : W (if decide p = true then x else y) Q := by
  by_cases h : p
  · rw [if_pos (decide_eq_true h)]; exact h1 h
  · rw [if_neg (by rw [decide_eq_false h]; exact Bool.false_ne_true)]; exact h2 h
theorem w_ift {c : Bool} {x y : R β} {Q : β → Prop} (h : c = true) (h1 : W x Q) : W (if c = true then x else y) Q := by subst h; exact h1
theorem w_iff {c : Bool} {x y : R β} {Q : β → Prop} (h : c = false) (h1 : W y Q) : W (if c = true then x else y) Q := by subst h; exact h1
theorem w_go {I J : S → Prop} {E : ρ → Prop} {s : S} (h : I s) : W (.ok (.go s)) (SP I J E) := w_ok (.go h)
theorem w_brk {I J : S → Prop} {E : ρ → Prop} {s : S} (h : J s) : W (.ok (.brk s)) (SP I J E) := w_ok (.brk h)
theorem w_ret {I J : S → Prop} {E : ρ → Prop} {y : ρ} (h : E y) : W (.ok (.ret y) : R (Stp S ρ)) (SP I J E) := w_ok (.ret h)
theorem w_fin {I J : S → Prop} {E : ρ → Prop} {m : R (Stp S ρ)} {fr : ρ → R β} {fs : S → R β} {Q : β → Prop} (hm : W m (SP I J E)) (hE : ∀ y, E y → W (fr y) Q) (hI : ∀ s, I s → W (fs s) Q) (hJ : ∀ s, J s → W (fs s) Q) : W (m.bind fun o => o.fin fr fs) Q := by
  obtain ⟨o, rfl, h⟩ := hm
  cases h with
  | go h => exact hI _ h
  | brk h => exact hJ _ h
  | ret h => exact hE _ h
/-! lists walked -/
theorem w_foldL {f : α → S → R S} (I : List α → S → Prop) : ∀ {done xs : List α} {s0 : S}, I done s0 → (∀ d x r s, xs = d ++ x :: r → I (done ++ d) s → W (f x s) (I (done ++ d ++ [x]))) → W (foldR xs s0 f) (I (done ++ xs))
  | done, [], s0, h0, _ => w_ok (by rw [List.append_nil]; exact h0)
  | done, x :: xs, s0, h0, step => by
    refine w_bind (step [] x xs s0 rfl (by rw [List.append_nil]; exact h0)) fun s h => ?_
    rw [List.append_nil] at h
    have := w_foldL (f := f) I (done := done ++ [x]) (xs := xs) (s0 := s) h fun d y r s' e h' => by
      have := step (x :: d) y r s' (by rw [e]; rfl) (by simpa using h')
      simpa using this
    simpa using this
theorem w_fold {f : α → S → R S} (I : List α → S → Prop) {xs : List α} {s0 : S} (h0 : I [] s0) (step : ∀ d x r s, xs = d ++ x :: r → I d s → W (f x s) (I (d ++ [x]))) : W (foldR xs s0 f) (I xs) :=
  w_foldL I (done := []) h0 step
theorem w_foldM {f : α → S → R S} (I : S → Prop) {xs : List α} {s0 : S} (h0 : I s0) (step : ∀ x ∈ xs, ∀ s, I s → W (f x s) I) : W (foldR xs s0 f) I :=
  w_fold (fun _ => I) h0 fun d x r s e h => step x (by rw [e]; simp) s h
theorem rng_nil {lo hi : Int} (h : hi ≤ lo) : rng lo hi = [] := by
  unfold rng
  have : (hi - lo).toNat = 0 := by omega
  rw [this]; rfl
theorem rng_cons {lo hi : Int} (h : lo < hi) : rng lo hi = lo :: rng (lo + 1) hi := by
  unfold rng
  have e : (hi - lo).toNat = (hi - (lo + 1)).toNat + 1 := by omega
  rw [e, List.range_succ_eq_map, List.map_cons, List.map_map]
  congr 1
  · simp
  · apply List.map_congr_left
    intro i _
    show lo + ((i + 1 : Nat) : Int) = lo + 1 + (i : Int)
    omega
@[grind =] theorem mem_rng {lo hi x : Int} : x ∈ rng lo hi ↔ lo ≤ x ∧ x < hi := by
  unfold rng
  rw [List.mem_map]
  constructor
  · rintro ⟨i, hi', rfl⟩
    have := List.mem_range.mp hi'
    omega
  · rintro ⟨h1, h2⟩
    exact ⟨(x - lo).toNat, List.mem_range.mpr (by omega), by omega⟩
@[grind =] theorem rng_len' {lo hi : Int} : (rng lo hi).length = (hi - lo).toNat := rng_len
theorem w_rngN {f : Int → S → R S} (I : Int → S → Prop) {hi : Int} : ∀ {n : Nat} {lo : Int} {s0 : S}, (hi - lo).toNat = n → lo ≤ hi → I lo s0 → (∀ x s, lo ≤ x → x < hi → I x s → W (f x s) (I (x + 1))) → W (foldR (rng lo hi) s0 f) (I hi)
  | 0, lo, s0, hn, h, h0, step => by
    have : hi = lo := by omega
    subst this
    rw [rng_nil (Int.le_refl _)]
    exact w_ok h0
  | n + 1, lo, s0, hn, h, h0, step => by
    rw [rng_cons (show lo < hi by omega)]
    exact w_bind (step lo s0 (Int.le_refl _) (by omega) h0) fun s h1 => w_rngN I (n := n) (lo := lo + 1) (s0 := s) (by omega) (by omega) h1 fun x s hx hx2 h => step x s (by omega) hx2 h
theorem w_rng {f : Int → S → R S} (I : Int → S → Prop) {lo hi : Int} {s0 : S} (hle : lo ≤ hi) (h0 : I lo s0) (step : ∀ x s, lo ≤ x → x < hi → I x s → W (f x s) (I (x + 1))) : W (foldR (rng lo hi) s0 f) (I hi) := w_rngN I rfl hle h0 step
/-- an open range -/
theorem w_rngX {f : Int → S → R S} (I : Int → S → Prop) {lo hi : Int} {s0 : S} (h0 : I lo s0) (step : ∀ x s, lo ≤ x → x < hi → I x s → W (f x s) (I (x + 1))) : W (foldR (rng lo hi) s0 f) (I (max lo hi)) := by
  by_cases h : lo ≤ hi
  · rw [show max lo hi = hi by omega]; exact w_rng I h h0 step
  · rw [show max lo hi = lo by omega, rng_nil (by omega)]; exact w_ok h0
theorem w_loopL {f : α → S → R (Stp S ρ)} (I : List α → S → Prop) {J : S → Prop} {E : ρ → Prop} : ∀ {done xs : List α} {s0 : S}, I done s0 → (∀ d x r s, xs = d ++ x :: r → I (done ++ d) s → W (f x s) (SP (I (done ++ d ++ [x])) J E)) → W (loopR xs s0 f) (SP (I (done ++ xs)) J E)
  | done, [], s0, h0, _ => w_go (by rw [List.append_nil]; exact h0)
  | done, x :: xs, s0, h0, step => by
    obtain ⟨o, e, h⟩ := step [] x xs s0 rfl (by rw [List.append_nil]; exact h0)
    rw [List.append_nil] at h
    unfold loopR
    rw [e]
    cases h with
    | go h =>
      rename_i s
      have := w_loopL (f := f) I (J := J) (E := E) (done := done ++ [x]) (xs := xs) (s0 := s) h fun d y r s' e h' => by
        have := step (x :: d) y r s' (by rw [e]; rfl) (by simpa using h')
        simpa using this
      simpa using this
    | brk h => exact w_brk h
    | ret h => exact w_ret h
theorem w_loop {f : α → S → R (Stp S ρ)} (I : List α → S → Prop) (J : S → Prop) (E : ρ → Prop) {xs : List α} {s0 : S} (h0 : I [] s0) (step : ∀ d x r s, xs = d ++ x :: r → I d s → W (f x s) (SP (I (d ++ [x])) J E)) : W (loopR xs s0 f) (SP (I xs) J E) :=
  w_loopL I (done := []) h0 step
theorem w_loopM {f : α → S → R (Stp S ρ)} (I : S → Prop) (J : S → Prop) (E : ρ → Prop) {xs : List α} {s0 : S} (h0 : I s0) (step : ∀ x ∈ xs, ∀ s, I s → W (f x s) (SP I J E)) : W (loopR xs s0 f) (SP I J E) :=
  w_loop (fun _ => I) J E h0 fun d x r s e h => step x (by rw [e]; simp) s h
theorem w_lrngN {f : Int → S → R (Stp S ρ)} (I : Int → S → Prop) (J : S → Prop) (E : ρ → Prop) {hi : Int} : ∀ {n : Nat} {lo : Int} {s0 : S}, (hi - lo).toNat = n → lo ≤ hi → I lo s0 → (∀ x s, lo ≤ x → x < hi → I x s → W (f x s) (SP (I (x + 1)) J E)) → W (loopR (rng lo hi) s0 f) (SP (I hi) J E)
  | 0, lo, s0, hn, h, h0, step => by
    have : hi = lo := by omega
    subst this
    rw [rng_nil (Int.le_refl _)]
    exact w_go h0
  | n + 1, lo, s0, hn, h, h0, step => by
    rw [rng_cons (show lo < hi by omega)]
    obtain ⟨o, e, k⟩ := step lo s0 (Int.le_refl _) (by omega) h0
    unfold loopR
    rw [e]
    cases k with
    | go h1 => exact w_lrngN I J E (n := n) (lo := lo + 1) (by omega) (by omega) h1 fun x s hx hx2 h => step x s (by omega) hx2 h
    | brk h => exact w_brk h
    | ret h => exact w_ret h
theorem w_lrng {f : Int → S → R (Stp S ρ)} (I : Int → S → Prop) (J : S → Prop) (E : ρ → Prop) {lo hi : Int} {s0 : S} (hle : lo ≤ hi) (h0 : I lo s0) (step : ∀ x s, lo ≤ x → x < hi → I x s → W (f x s) (SP (I (x + 1)) J E)) : W (loopR (rng lo hi) s0 f) (SP (I hi) J E) := w_lrngN I J E rfl hle h0 step
theorem w_lrngX {f : Int → S → R (Stp S ρ)} (I : Int → S → Prop) (J : S → Prop) (E : ρ → Prop) {lo hi : Int} {s0 : S} (h0 : I lo s0) (step : ∀ x s, lo ≤ x → x < hi → I x s → W (f x s) (SP (I (x + 1)) J E)) : W (loopR (rng lo hi) s0 f) (SP (I (max lo hi)) J E) := by
  by_cases h : lo ≤ hi
  · rw [show max lo hi = hi by omega]; exact w_lrng I J E h h0 step
  · rw [show max lo hi = lo by omega, rng_nil (by omega)]; exact w_go h0
/-- a search: the first item that stops it -/
theorem w_any {f : α → Unit → R (Stp Unit ρ)} {c : α → Prop} {y : ρ} {xs : List α} {fr : ρ → R β} {fs : Unit → R β} {Q : β → Prop}
    (step : ∀ x ∈ xs, W (f x ()) (SP (fun _ => ¬ c x) (fun _ => False) (fun z => z = y ∧ c x))) (h1 : (∃ x ∈ xs, c x) → W (fr y) Q) (h0 : (∀ x ∈ xs, ¬ c x) → W (fs ()) Q) : W ((loopR xs () f).bind fun o => o.fin fr fs) Q := by
  refine w_fin (w_loop (fun d _ => ∀ x ∈ d, ¬ c x) (fun _ => False) (fun z => z = y ∧ ∃ x ∈ xs, c x) (fun x h => nomatch h) fun d x r s e h => ?_) (fun z h => ?_) (fun s h => h0 h) (fun s h => h.elim)
  · have hx : x ∈ xs := by rw [e]; simp
    refine (step x hx).mono fun o h' => ?_
    cases h' with
    | go h2 =>
      refine .go fun y hy => ?_
      rcases List.mem_append.mp hy with hy | hy
      · exact h y hy
      · rw [List.mem_singleton.mp hy]; exact h2
    | brk h2 => exact h2.elim
    | ret h2 => exact .ret ⟨h2.1, x, hx, h2.2⟩
  · obtain ⟨rfl, h⟩ := h
    exact h1 h
theorem w_map {f : α → R β} (g : α → β) {xs : List α} (h : ∀ x ∈ xs, W (f x) (· = g x)) : W (mapR xs f) (· = xs.map g) := by
  induction xs with
  | nil => exact w_ok rfl
  | cons x xs ih =>
    refine w_bind (h x List.mem_cons_self) fun a e => w_bind (ih fun y hy => h y (List.mem_cons_of_mem _ hy)) fun as es => w_ok ?_
    rw [e, es]; rfl
theorem w_mapP {f : α → R β} (P : α → β → Prop) : ∀ {xs : List α}, (∀ x ∈ xs, W (f x) (P x)) → W (mapR xs f) fun ys => ys.length = xs.length ∧ ∀ (i : Nat) x y, xs[i]? = some x → ys[i]? = some y → P x y
  | [], _ => w_ok ⟨rfl, fun i x y h => by simp at h⟩
  | x :: xs, h => by
    refine w_bind (h x List.mem_cons_self) fun a e => w_bind (w_mapP (f := f) P (xs := xs) fun y hy => h y (List.mem_cons_of_mem _ hy)) fun as es => w_ok ⟨by simp [es.1], fun i u v h1 h2 => ?_⟩
    cases i with
    | zero => simp at h1 h2; subst h1; subst h2; exact e
    | succ i => exact es.2 i u v (by simpa using h1) (by simpa using h2)
theorem w_fil {f : α → R (Option β)} (g : α → Option β) {xs : List α} (h : ∀ x ∈ xs, W (f x) (· = g x)) : W (filR xs f) (· = xs.filterMap g) := by
  induction xs with
  | nil => exact w_ok rfl
  | cons x xs ih =>
    refine w_bind (h x List.mem_cons_self) fun a e => w_bind (ih fun y hy => h y (List.mem_cons_of_mem _ hy)) fun as es => w_ok ?_
    rw [List.filterMap_cons, ← e, es]
    cases a <;> rfl
/-- a comprehension that carries S: all of its items are P -/
theorem w_comp {f : α → S → R (Option β × S)} (I : S → Prop) (P : β → Prop) : ∀ {xs : List α} {s : S}, I s → (∀ x ∈ xs, ∀ s, I s → W (f x s) fun o => I o.2 ∧ ∀ y, o.1 = some y → P y) → W (compR xs s f) fun o => I o.2 ∧ o.1.length ≤ xs.length ∧ ∀ y ∈ o.1, P y
  | [], s, h, _ => w_ok ⟨h, Nat.le_refl _, fun y hy => nomatch hy⟩
  | x :: xs, s, hs, h => by
    refine w_bind (h x List.mem_cons_self s hs) fun ⟨o, s1⟩ ⟨h1, h2⟩ => w_bind (w_comp (f := f) I P (xs := xs) (s := s1) h1 fun y hy => h y (List.mem_cons_of_mem _ hy)) fun q hq => w_ok ?_
    obtain ⟨q1, q2, q3⟩ := hq
    cases o with
    | none => exact ⟨q1, by simp only [List.length_cons]; omega, q3⟩
    | some y =>
      refine ⟨q1, by simp only [List.length_cons]; omega, fun z hz => ?_⟩
      rcases List.mem_cons.mp hz with hz | hz
      · rw [hz]; exact h2 y rfl
      · exact q3 z hz
/-- .. each turn gives one -/
theorem w_comp1 {f : α → S → R (Option β × S)} (I : S → Prop) (P : β → Prop) : ∀ {xs : List α} {s : S}, I s → (∀ x ∈ xs, ∀ s, I s → W (f x s) fun o => I o.2 ∧ ∃ y, o.1 = some y ∧ P y) → W (compR xs s f) fun o => I o.2 ∧ o.1.length = xs.length ∧ ∀ y ∈ o.1, P y
  | [], s, h, _ => w_ok ⟨h, rfl, fun y hy => nomatch hy⟩
  | x :: xs, s, hs, h => by
    refine w_bind (h x List.mem_cons_self s hs) fun ⟨o, s1⟩ ⟨h1, y, h2, h3⟩ => w_bind (w_comp1 (f := f) I P (xs := xs) (s := s1) h1 fun y hy => h y (List.mem_cons_of_mem _ hy)) fun q hq => w_ok ?_
    obtain ⟨q1, q2, q3⟩ := hq
    have h2 : o = some y := h2
    subst h2
    exact ⟨q1, by simp only [List.length_cons]; omega, fun z hz => by
        rcases List.mem_cons.mp hz with hz | hz
        · rw [hz]; exact h3
        · exact q3 z hz⟩
theorem w_while {c : S → R Bool} {f : S → R (Stp S ρ)} (I J : S → Prop) (E : ρ → Prop) (K : S → Prop) (μ : S → Nat)
    (step : ∀ s, I s → W (c s) fun b => (b = true → W (f s) (SP (fun s' => I s' ∧ μ s' < μ s) J E)) ∧ (b = false → K s)) : ∀ {n : Nat} {s : S}, I s → μ s < n → W (whileR c f n s) (SP K J E)
  | 0, s, h, hn => absurd hn (Nat.not_lt_zero _)
  | n + 1, s, h, hn => by
    refine w_bind (step s h) fun b hb => ?_
    cases b with
    | true =>
      obtain ⟨o, e, k⟩ := hb.1 rfl
      rw [if_pos rfl, e]
      cases k with
      | go k => exact w_while I J E K μ step k.1 (by omega)
      | brk k => exact w_brk k
      | ret k => exact w_ret k
    | false => rw [if_neg Bool.false_ne_true]; exact w_go (hb.2 rfl)
end
/-! ### what is asked on the way -/
theorem sz_le {n : Nat} (h : n ≤ 16777216) : sz n = true := decide_eq_true h
theorem rg_le {n : Int} (h0 : -1000000000 ≤ n) (h : n ≤ 1000000000) : rgOk n = true := by
  unfold rgOk
  rw [Bool.and_eq_true]
  exact ⟨decide_eq_true (Int.le_trans (by decide) h0), decide_eq_true (Int.lt_of_le_of_lt h (by decide))⟩
theorem div_le {n : Int} (h0 : 0 < n) (h : n ≤ 1000000000) : divOk n = true := by
  unfold divOk
  rw [decide_eq_true h0, decide_eq_true (show n < 1073741824 by omega)]; rfl
theorem mul_le1 {i j : Int} (h0 : -1000000000000 ≤ i) (h1 : i ≤ 1000000000000) : mulOk i j = true := by
  unfold mulOk
  rw [decide_eq_true (show -(2 ^ 64) < i by omega), decide_eq_true (show i < 2 ^ 64 by omega)]; rfl
theorem mul_le2 {i j : Int} (h0 : -1000000000000 ≤ j) (h1 : j ≤ 1000000000000) : mulOk i j = true := by
  unfold mulOk
  rw [decide_eq_true (show -(2 ^ 64) < j by omega), decide_eq_true (show j < 2 ^ 64 by omega), Bool.or_comm]; rfl
theorem rep_le {n : Nat} {k : Int} (h0 : -1000000 ≤ k) (h1 : k ≤ 1000000) (h : n * k.toNat ≤ 16777216) : repOk n k = true := by
  unfold repOk sz
  rw [decide_eq_true (show -(2 ^ 63) ≤ k by omega), decide_eq_true (show k < 2 ^ 63 by omega), decide_eq_true h]; rfl
theorem rep_le1 {k : Int} (h0 : -1000000 ≤ k) (h1 : k ≤ 1000000) : repOk 1 k = true := rep_le h0 h1 (by omega)
/-! ### lists by place -/
def gi {α : Type} [Inhabited α] (xs : List α) (i : Int) : α := xs.getD i.toNat default
section
variable {α β : Type}
theorem atI_gi [Inhabited α] {xs : List α} {i : Int} (h0 : 0 ≤ i) (h : i < xs.length) : atI xs i = some (gi xs i) := by
  have hl : i.toNat < xs.length := by omega
  unfold atI ixN gi
  rw [if_pos h0, if_pos h, Option.bind_some, List.getD_eq_getElem?_getD, List.getElem?_eq_getElem hl]; rfl
theorem atI_neg [Inhabited α] {xs : List α} {i : Int} (h0 : i < 0) (h : 0 ≤ i + xs.length) : atI xs i = some (gi xs (i + xs.length)) := by
  have hl : (i + xs.length).toNat < xs.length := by omega
  unfold atI ixN gi
  rw [if_neg (by omega), if_pos (by omega), Option.bind_some, List.getD_eq_getElem?_getD, List.getElem?_eq_getElem hl]; rfl
theorem setI_gi {xs : List α} {i : Int} {y : α} (h0 : 0 ≤ i) (h : i < xs.length) : setI xs i y = some (xs.set i.toNat y) := by
  unfold setI ixN
  rw [if_pos h0, if_pos h]; rfl
theorem setI_neg {xs : List α} {i : Int} {y : α} (h0 : i < 0) (h : 0 ≤ i + xs.length) : setI xs i y = some (xs.set (i + xs.length).toNat y) := by
  unfold setI ixN
  rw [if_neg (by omega), if_pos (by omega)]; rfl
@[grind =] theorem gi_set [Inhabited α] {xs : List α} {i j : Int} {y : α} (h0 : 0 ≤ i) (h : i < xs.length) (j0 : 0 ≤ j) : gi (xs.set i.toNat y) j = if j = i then y else gi xs j := by
  unfold gi
  grind
@[grind =] theorem gi_map [Inhabited α] [Inhabited β] {xs : List α} {f : α → β} {i : Int} (h0 : 0 ≤ i) (h : i < xs.length) : gi (xs.map f) i = f (gi xs i) := by
  unfold gi
  grind
@[grind =] theorem gi_rng {lo hi i : Int} (h0 : 0 ≤ i) (h : i < hi - lo) : gi (rng lo hi) i = lo + i := by
  unfold gi rng
  grind
@[grind =] theorem gi_app [Inhabited α] {xs ys : List α} {i : Int} (h0 : 0 ≤ i) : gi (xs ++ ys) i = if i < xs.length then gi xs i else gi ys (i - xs.length) := by
  unfold gi
  grind
@[grind =] theorem gi_cons [Inhabited α] {x : α} {xs : List α} {i : Int} (h0 : 0 ≤ i) : gi (x :: xs) i = if i = 0 then x else gi xs (i - 1) := by
  unfold gi
  by_cases h : i = 0
  · subst h; rfl
  · rw [if_neg h, show i.toNat = (i - 1).toNat + 1 by omega, List.getD_cons_succ]
@[grind =] theorem gi_rep [Inhabited α] {x : α} {n : Nat} {i : Int} (h0 : 0 ≤ i) (h : i < n) : gi (List.replicate n x) i = x := by
  unfold gi
  grind
@[grind =] theorem gi_take [Inhabited α] {xs : List α} {n : Nat} {i : Int} (h0 : 0 ≤ i) (h : i < n) : gi (xs.take n) i = gi xs i := by
  unfold gi
  grind
@[grind =] theorem gi_drop [Inhabited α] {xs : List α} {n : Nat} {i : Int} (h0 : 0 ≤ i) : gi (xs.drop n) i = gi xs (i + n) := by
  unfold gi
  grind
theorem gi_mem [Inhabited α] {xs : List α} {i : Int} (h0 : 0 ≤ i) (h : i < xs.length) : gi xs i ∈ xs := by
  unfold gi
  grind
theorem mem_gi [Inhabited α] {xs : List α} {x : α} (h : x ∈ xs) : ∃ i : Int, 0 ≤ i ∧ i < xs.length ∧ gi xs i = x := by
  obtain ⟨i, hi, e⟩ := List.mem_iff_getElem.mp h
  exact ⟨i, by omega, by omega, by unfold gi; grind⟩
theorem gi_ext [Inhabited α] {xs ys : List α} (hl : xs.length = ys.length) (h : ∀ i : Int, 0 ≤ i → i < xs.length → gi xs i = gi ys i) : xs = ys := by
  apply List.ext_getElem hl
  intro i h1 h2
  have := h i (by omega) (by omega)
  unfold gi at this
  grind
theorem gi_some [Inhabited α] {xs : List α} {i : Int} {x : α} (h0 : 0 ≤ i) (h : xs[i.toNat]? = some x) : gi xs i = x ∧ i < xs.length := by
  have := (List.getElem?_eq_some_iff.mp h).1
  refine ⟨?_, by omega⟩
  unfold gi
  rw [List.getD_eq_getElem?_getD, h]; rfl
theorem cut_from {xs : List α} {lo : Int} (h0 : 0 ≤ lo) : cutL xs (some lo) none = xs.drop lo.toNat := by
  unfold cutL
  simp only [HT.sIx]
  apply List.ext_getElem?
  grind
theorem cut_to {xs : List α} {hi : Int} (h0 : 0 ≤ hi) : cutL xs none (some hi) = xs.take hi.toNat := by
  unfold cutL
  simp only [HT.sIx]
  apply List.ext_getElem?
  grind
theorem cut_both {xs : List α} {lo hi : Int} (h0 : 0 ≤ lo) (h1 : 0 ≤ hi) : cutL xs (some lo) (some hi) = (xs.take hi.toNat).drop lo.toNat := by
  unfold cutL
  simp only [HT.sIx]
  apply List.ext_getElem?
  grind
theorem cut_len {xs : List α} {lo hi : Option Int} : (cutL xs lo hi).length ≤ xs.length := by
  unfold cutL; rw [List.length_take, List.length_drop]; omega
theorem cut_mem {xs : List α} {lo hi : Option Int} {x : α} (h : x ∈ cutL xs lo hi) : x ∈ xs := by
  unfold cutL at h; exact List.mem_of_mem_drop (List.mem_of_mem_take h)
theorem enum_mem {xs : List α} {x : Int × α} (h : x ∈ enumL xs) : 0 ≤ x.1 ∧ x.1 < xs.length ∧ xs[x.1.toNat]? = some x.2 := by
  unfold enumL at h
  obtain ⟨⟨y, i⟩, hm, rfl⟩ := List.mem_map.mp h
  have := List.mem_zipIdx hm
  simp only [Nat.zero_le, Nat.zero_add, Nat.sub_zero, true_and] at this
  obtain ⟨h1, h2⟩ := this
  refine ⟨by show (0 : Int) ≤ (i : Int); omega, by show (i : Int) < _; omega, ?_⟩
  show xs[((i : Int)).toNat]? = some y
  rw [Int.toNat_natCast, List.getElem?_eq_getElem h1, h2]
theorem enum_eq [Inhabited α] {xs : List α} : enumL xs = (rng 0 xs.length).map fun i => (i, gi xs i) := by
  unfold enumL rng gi
  apply List.ext_getElem?
  intro i
  grind
end
end Gn
namespace Gn
open PySem L2
section
variable {α β S ρ : Type}
theorem w_foldC {f : α → S → R S} {x : α} {xs : List α} {s : S} {P Q : S → Prop} (h : W (f x s) P) (k : ∀ s', P s' → W (foldR xs s' f) Q) : W (foldR (x :: xs) s f) Q := w_bind h k
theorem w_loopC {f : α → S → R (Stp S ρ)} {x : α} {xs : List α} {s : S} {P I J : S → Prop} {E : ρ → Prop} (h : W (f x s) (SP P J E)) (k : ∀ s', P s' → W (loopR xs s' f) (SP I J E)) : W (loopR (x :: xs) s f) (SP I J E) := by
  obtain ⟨o, e, h⟩ := h
  unfold loopR
  rw [e]
  cases h with
  | go h => exact k _ h
  | brk h => exact w_brk h
  | ret h => exact w_ret h
theorem SP.imp {I I' J J' : S → Prop} {E E' : ρ → Prop} (h1 : ∀ s, I s → I' s) (h2 : ∀ s, J s → J' s) (h3 : ∀ y, E y → E' y) {o : Stp S ρ} (h : SP I J E o) : SP I' J' E' o := by
  cases h with
  | go h => exact .go (h1 _ h)
  | brk h => exact .brk (h2 _ h)
  | ret h => exact .ret (h3 _ h)
theorem w_sp {I I' J J' : S → Prop} {E E' : ρ → Prop} {m : R (Stp S ρ)} (h : W m (SP I J E)) (h1 : ∀ s, I s → I' s) (h2 : ∀ s, J s → J' s) (h3 : ∀ y, E y → E' y) : W m (SP I' J' E') := h.mono fun _ => SP.imp h1 h2 h3
end
/-! ### sums over ranges -/
def sumR (lo hi : Int) (f : Int → Int) : Int := ((rng lo hi).map f).sum
theorem sumR_nil {lo hi : Int} {f : Int → Int} (h : hi ≤ lo) : sumR lo hi f = 0 := by unfold sumR; rw [rng_nil h]; rfl
theorem sumR_cons {lo hi : Int} {f : Int → Int} (h : lo < hi) : sumR lo hi f = f lo + sumR (lo + 1) hi f := by unfold sumR; rw [rng_cons h]; rfl
theorem rng_snoc {lo hi : Int} (h : lo ≤ hi) : rng lo (hi + 1) = rng lo hi ++ [hi] := by
  unfold rng
  have e : (hi + 1 - lo).toNat = (hi - lo).toNat + 1 := by omega
  rw [e, List.range_succ, List.map_append]
  congr 1
  show [lo + ((hi - lo).toNat : Int)] = [hi]
  congr 1; omega
theorem sumR_snoc {lo hi : Int} {f : Int → Int} (h : lo ≤ hi) : sumR lo (hi + 1) f = sumR lo hi f + f hi := by
  unfold sumR; rw [rng_snoc h]; simp
theorem rng_ind {P : Int → Prop} {lo hi : Int} (h : lo ≤ hi) (h0 : P lo) (step : ∀ m, lo ≤ m → m < hi → P m → P (m + 1)) : P hi := by
  have key : ∀ n : Nat, ∀ m : Int, m = lo + n → m ≤ hi → P m := by
    intro n
    induction n with
    | zero => intro m e _; rw [e]; simpa using h0
    | succ n ih =>
      intro m e hm
      have := step (lo + n) (by omega) (by omega) (ih _ rfl (by omega))
      rw [show m = lo + (n : Int) + 1 by omega]; exact this
  exact key (hi - lo).toNat hi (by omega) (Int.le_refl _)
theorem sumR_congr {lo hi : Int} {f g : Int → Int} (h : ∀ x, lo ≤ x → x < hi → f x = g x) : sumR lo hi f = sumR lo hi g := by
  unfold sumR
  rw [List.map_congr_left fun x hx => h x (mem_rng.mp hx).1 (mem_rng.mp hx).2]
theorem sumR_le {lo hi : Int} {f g : Int → Int} (h : ∀ x, lo ≤ x → x < hi → f x ≤ g x) : sumR lo hi f ≤ sumR lo hi g := by
  by_cases hl : lo ≤ hi
  · refine rng_ind (P := fun m => m ≤ hi → sumR lo m f ≤ sumR lo m g) hl (fun _ => by rw [sumR_nil (Int.le_refl _), sumR_nil (Int.le_refl _)]; exact Int.le_refl _) (fun m h1 h2 ih h3 => ?_) (Int.le_refl _)
    rw [sumR_snoc h1, sumR_snoc h1]
    have := ih (by omega)
    have := h m h1 h2
    omega
  · rw [sumR_nil (by omega), sumR_nil (by omega)]; exact Int.le_refl _
theorem sumR_add {lo hi : Int} {f g : Int → Int} : sumR lo hi (fun x => f x + g x) = sumR lo hi f + sumR lo hi g := by
  by_cases hl : lo ≤ hi
  · refine rng_ind (P := fun m => sumR lo m (fun x => f x + g x) = sumR lo m f + sumR lo m g) hl (by rw [sumR_nil (Int.le_refl _), sumR_nil (Int.le_refl _), sumR_nil (Int.le_refl _)]; rfl) (fun m h1 h2 ih => ?_)
    rw [sumR_snoc h1, sumR_snoc h1, sumR_snoc h1, ih]
    omega
  · rw [sumR_nil (by omega), sumR_nil (by omega), sumR_nil (by omega)]; rfl
theorem sumR_zero {lo hi : Int} {f : Int → Int} (h : ∀ x, lo ≤ x → x < hi → f x = 0) : sumR lo hi f = 0 := by
  rw [sumR_congr h]
  by_cases hl : lo ≤ hi
  · refine rng_ind (P := fun m => sumR lo m (fun _ => 0) = 0) hl (sumR_nil (Int.le_refl _)) (fun m h1 h2 ih => ?_)
    rw [sumR_snoc h1, ih]; rfl
  · exact sumR_nil (by omega)
theorem sumR_split {lo mid hi : Int} {f : Int → Int} (h1 : lo ≤ mid) (h2 : mid ≤ hi) : sumR lo hi f = sumR lo mid f + sumR mid hi f := by
  refine rng_ind (P := fun m => sumR lo m f = sumR lo mid f + sumR mid m f) h2 (by rw [sumR_nil (Int.le_refl _)]; omega) (fun m h3 h4 ih => ?_)
  rw [sumR_snoc (by omega), sumR_snoc h3, ih]; omega
theorem w_sum {f : Int → Int → R Int} {g : Int → Int} {lo hi : Int} (hle : lo ≤ hi) (step : ∀ x s, lo ≤ x → x < hi → W (f x s) (· = s + g x)) : W (foldR (rng lo hi) 0 f) (· = sumR lo hi g) :=
  w_rng (fun x s => s = sumR lo x g) hle (by rw [sumR_nil (Int.le_refl _)]) fun x s h1 h2 e => (step x s h1 h2).mono fun y hy => by rw [hy, e, sumR_snoc h1]
theorem repL_gi {n i : Int} {x : Int} : repL [x] n = List.replicate n.toNat x := by
  unfold repL
  induction n.toNat with
  | zero => rfl
  | succ n ih => rw [List.replicate_succ, List.flatten_cons, ih]; rfl
theorem repL_one {α : Type} {n : Int} {x : α} : repL [x] n = List.replicate n.toNat x := by
  unfold repL
  induction n.toNat with
  | zero => rfl
  | succ n ih => rw [List.replicate_succ, List.flatten_cons, ih]; rfl
theorem map_const_rng {α : Type} {n : Int} {x : α} : (rng 0 n).map (fun _ => x) = List.replicate n.toNat x := by
  rw [List.map_const', rng_len]; congr 1; omega
theorem gi_set' {α : Type} [Inhabited α] {xs : List α} {i j : Int} {y : α} (h0 : 0 ≤ i) (h : i < xs.length) (j0 : 0 ≤ j) : gi (xs.set i.toNat y) j = if j = i then y else gi xs j := gi_set h0 h j0
end Gn
namespace Gn
open PySem L2
theorem ob_some {α β : Type} (a : α) (f : α → R β) : ob (some a) f = f a := rfl
theorem gd_t {β : Type} {c : Bool} (m : R β) (h : c = true) : gd c m = m := by subst h; rfl
theorem elet_ {α β : Type} (a : α) (f : α → R β) : elet a f = f a := rfl
theorem bind_ok_ {α β : Type} (a : α) (f : α → R β) : (R.ok a).bind f = f a := rfl
theorem opt_ok_ {α : Type} (a : α) : (R.ok a).opt = some a := rfl
def IsPool (p : List Int) : Prop := ∃ a b c, p = [a, b, c]
theorem mulOk_mod {x m : Int} (h0 : 0 < m) (h1 : m < 4294967296) : mulOk (x % m) (x % m) = true := by
  unfold mulOk
  have h2 := Int.emod_nonneg x (Int.ne_of_gt h0)
  have h3 := Int.emod_lt_of_pos x h0
  have a1 : (-(2 ^ 64 : Int)) < x % m := Int.lt_of_lt_of_le (by decide) h2
  have a2 : x % m < 2 ^ 64 := Int.lt_trans h3 (Int.lt_trans h1 (by decide))
  rw [decide_eq_true a1, decide_eq_true a2]; rfl
theorem take_ok {p : List Int} {size : Int} (hp : IsPool p) (h0 : 0 < size) (h1 : size < 1073741824) : ∃ d q, m_law_take p size = .ok (d, q) ∧ IsPool q ∧ 0 ≤ d ∧ d < size := by
  obtain ⟨a, b, c, rfl⟩ := hp
  have g1 : decide (0 < size) = true := decide_eq_true h0
  have g2 : divOk size = true := by unfold divOk; rw [decide_eq_true h0, decide_eq_true h1]; rfl
  have e2 : atI [a, b, c] (2 : Int) = some c := rfl
  have e3 : setI [a, b, c] (2 : Int) (c + 1) = some [a, b, c + 1] := rfl
  have e4 : atI [a, b, c + 1] (0 : Int) = some a := rfl
  have e5 : atI [a, b, c + 1] (1 : Int) = some b := rfl
  have e6 : atI [a, b, c + 1] (2 : Int) = some (c + 1) := rfl
  unfold m_law_take
  rw [e2, ob_some, e3, ob_some, e4, ob_some]
  by_cases h : (1 : Int) < a
  · rw [if_pos (decide_eq_true h), ob_some, gd_t _ g1, elet_, ob_some, gd_t _ g2, show setI [a, b, c + 1] (0 : Int) (a / size) = some [a / size, b, c + 1] from rfl, ob_some]
    exact ⟨_, _, rfl, ⟨_, _, _, rfl⟩, Int.emod_nonneg _ (Int.ne_of_gt h0), Int.emod_lt_of_pos _ h0⟩
  · rw [if_neg (by rw [decide_eq_false h]; exact Bool.false_ne_true), e5, ob_some, e6, ob_some, elet_, gd_t _ (mulOk_mod (by decide) (by decide)), ob_some, elet_, gd_t _ (mulOk_mod (by decide) (by decide)), ob_some, elet_, gd_t _ g1]
    exact ⟨_, _, rfl, ⟨_, _, _, rfl⟩, Int.emod_nonneg _ (Int.ne_of_gt h0), Int.emod_lt_of_pos _ h0⟩
theorem pool_ok (c : Int) : ∃ p, m_law_pool c = .ok p ∧ IsPool p := by
  unfold m_law_pool
  split
  · exact ⟨_, rfl, _, _, _, rfl⟩
  · split
    · exact ⟨_, rfl, _, _, _, rfl⟩
    · exact ⟨_, rfl, _, _, _, rfl⟩
theorem cell_ok (s : Sc) (k : Int) (h : 0 ≤ k) : ∃ c, m_law_cell s k = .ok c := by
  unfold m_law_cell
  by_cases hk : k < (s.xs.length : Int)
  · rw [if_pos (decide_eq_true hk)]
    have hl : k.toNat < s.xs.length := by omega
    have e : atI s.xs k = some s.xs[k.toNat] := by
      unfold atI ixN
      rw [if_pos h, if_pos hk, Option.bind_some, List.getElem?_eq_getElem hl]
    rw [e, ob_some]
    exact ⟨_, rfl⟩
  · rw [if_neg (by rw [decide_eq_false hk]; exact Bool.false_ne_true)]
    exact ⟨_, rfl⟩
theorem ab_ok {p : List Int} {most : Int} (hp : IsPool p) (h0 : 2 ≤ most) (h1 : most ≤ 12) : ∃ a b q, m_law_ab p most = .ok ((a, b), q) ∧ IsPool q ∧ 1 ≤ a ∧ a < b ∧ b ≤ most := by
  obtain ⟨d, q, e, hq, d0, d1⟩ := take_ok (size := most - 1) hp (by omega) (by omega)
  obtain ⟨d', q', e', hq', d0', d1'⟩ := take_ok (size := most - (1 + d)) hq (by omega) (by omega)
  unfold m_law_ab
  rw [e, opt_ok_, ob_some]
  show ∃ a b q, (elet (1 + d) fun a4 => ob ((m_law_take _ (most - a4)).opt) fun (t6, pool7) => R.ok ((a4, a4 + 1 + t6), pool7)) = .ok ((a, b), q) ∧ _
  rw [elet_, e', opt_ok_, ob_some]
  exact ⟨_, _, _, rfl, hq', by omega, by omega, by omega⟩
theorem atI_nat {α : Type} {xs : List α} {i : Int} {y : α} (h0 : 0 ≤ i) (h : xs[i.toNat]? = some y) : atI xs i = some y := by
  have hl := (List.getElem?_eq_some_iff.mp h).1
  unfold atI ixN
  rw [if_pos h0, if_pos (by omega), Option.bind_some, h]
theorem loop_step {α S ρ : Type} {f : α → S → R (Stp S ρ)} {x : α} {xs : List α} {s s' : S} (h : f x s = .ok (.go s')) : loopR (x :: xs) s f = loopR xs s' f := by
  show (match f x s with | .ok (.go s') => loopR xs s' f | r => r) = _
  rw [h]
theorem loop_stop {α S ρ : Type} {f : α → S → R (Stp S ρ)} {x : α} {xs : List α} {s : S} {y : ρ} (h : f x s = .ok (.ret y)) : loopR (x :: xs) s f = .ok (.ret y) := by
  show (match f x s with | .ok (.go s') => loopR xs s' f | r => r) = _
  rw [h]
theorem loop_go1 {α ρ : Type} {f : α → Unit → R (Stp Unit ρ)} : ∀ {xs : List α}, (∀ x ∈ xs, f x () = .ok (.go ())) → loopR xs () f = .ok (.go ())
  | [], _ => rfl
  | x :: xs, h => by
    rw [loop_step (h x List.mem_cons_self)]
    exact loop_go1 fun y hy => h y (List.mem_cons_of_mem _ hy)
theorem loop_any {α ρ : Type} {f : α → Unit → R (Stp Unit ρ)} {c : α → Bool} {y : ρ} : ∀ {xs : List α}, (∀ x ∈ xs, f x () = if c x = true then .ok (.ret y) else .ok (.go ())) → loopR xs () f = if xs.any c = true then .ok (.ret y) else .ok (.go ())
  | [], _ => rfl
  | x :: xs, h => by
    have hx := h x List.mem_cons_self
    rw [List.any_cons]
    cases hc : c x with
    | true =>
      rw [hc, if_pos rfl] at hx
      rw [loop_stop hx]; rfl
    | false =>
      rw [hc, if_neg Bool.false_ne_true] at hx
      rw [loop_step hx, Bool.false_or]
      exact loop_any fun y hy => h y (List.mem_cons_of_mem _ hy)
def okD : Nat → D → Prop
  | 0, _ => False
  | n + 1, .lst xs => xs.length ≤ 1000000 ∧ ∀ y ∈ xs, okD n y
  | n + 1, .tup xs => xs.length ≤ 1000000 ∧ ∀ y ∈ xs, okD n y
  | _ + 1, _ => True
theorem same_seq {rec_ : D → D → R Bool} {x : D} {xs : List D} (hat : ∀ i : Int, x.at i = atI xs i) (h : ∀ y ∈ xs, rec_ y y = .ok true) :
    (loopR (ρ := Bool) (rng 0 (xs.length : Int)) () (fun x30 (_ : Unit) => ob (x.at x30) fun t31 => ob (x.at x30) fun t33 => ob ((rec_ t31 t33).opt) fun t35 => (if (!t35) = true then .ok (.ret false) else .ok (.go ())))) = .ok (.go ()) := by
  refine loop_go1 fun i hi => ?_
  obtain ⟨i0, i1⟩ := mem_rng.mp hi
  have hl : i.toNat < xs.length := by omega
  have e : x.at i = some xs[i.toNat] := by rw [hat]; exact atI_nat i0 (List.getElem?_eq_getElem hl)
  rw [e, ob_some, ob_some, h _ (List.getElem_mem hl), opt_ok_, ob_some]
  rfl
theorem same_ok : ∀ {n : Nat} {x : D}, okD n x → nm_law_same n x x = .ok true
  | n + 1, .non, _ => rfl
  | n + 1, .bl b, _ => by
    show bm_law_same (nm_law_same n) (.bl b) (.bl b) = _
    unfold bm_law_same
    rw [if_neg (show ¬ (D.bl b).isN = true from fun h => nomatch h), if_pos (show isT (.bl b) "bool" = true from rfl), if_pos (show isT (.bl b) "bool" = true from rfl), gd_t _ (show eqK (.bl b) (.bl b) = true from rfl), opt_ok_, ob_some]
    show R.ok (decide (b = b)) = _
    rw [decide_eq_true rfl]
  | n + 1, .int b, _ => by
    show bm_law_same (nm_law_same n) (.int b) (.int b) = _
    unfold bm_law_same
    rw [if_neg (show ¬ (D.int b).isN = true from fun h => nomatch h), if_neg (show ¬ isT (.int b) "bool" = true from fun h => nomatch h), if_pos (show isT (.int b) "int" = true from rfl), if_pos (show isT (.int b) "int" = true from rfl),
      if_pos (show (!isT (.int b) "bool") = true from rfl), gd_t _ (show eqK (.int b) (.int b) = true from rfl), opt_ok_, ob_some, opt_ok_, ob_some]
    show R.ok (decide (b = b)) = _
    rw [decide_eq_true rfl]
  | n + 1, .str b, _ => by
    show bm_law_same (nm_law_same n) (.str b) (.str b) = _
    unfold bm_law_same
    rw [if_neg (show ¬ (D.str b).isN = true from fun h => nomatch h), if_neg (show ¬ isT (.str b) "bool" = true from fun h => nomatch h), if_neg (show ¬ isT (.str b) "int" = true from fun h => nomatch h), if_pos (show isT (.str b) "str" = true from rfl), if_pos (show isT (.str b) "str" = true from rfl),
      gd_t _ (show eqK (.str b) (.str b) = true from rfl), opt_ok_, ob_some]
    show R.ok (decide (b = b)) = _
    rw [decide_eq_true rfl]
  | n + 1, .lst xs, h => by
    have h : xs.length ≤ 1000000 ∧ ∀ y ∈ xs, okD n y := by simpa [okD] using h
    show bm_law_same (nm_law_same n) (.lst xs) (.lst xs) = _
    unfold bm_law_same
    rw [if_neg (show ¬ (D.lst xs).isN = true from fun h => nomatch h), if_neg (show ¬ isT (.lst xs) "bool" = true from fun h => nomatch h), if_neg (show ¬ isT (.lst xs) "int" = true from fun h => nomatch h), if_neg (show ¬ isT (.lst xs) "str" = true from fun h => nomatch h),
      if_neg (show ¬ (isT (.lst xs) "tuple" && !isT (.lst xs) "tuple") = true from fun h => nomatch h), if_neg (show ¬ (isT (.lst xs) "list" && !isT (.lst xs) "list") = true from fun h => nomatch h),
      show (D.lst xs).len = some (xs.length : Int) from rfl, ob_some, ob_some, if_neg (by rw [decide_eq_true rfl]; decide), ob_some, gd_t _ (rg_le (by omega) (by omega)), same_seq (fun i => rfl) fun y hy => same_ok (h.2 y hy)]
    rfl
  | n + 1, .tup xs, h => by
    have h : xs.length ≤ 1000000 ∧ ∀ y ∈ xs, okD n y := by simpa [okD] using h
    show bm_law_same (nm_law_same n) (.tup xs) (.tup xs) = _
    unfold bm_law_same
    rw [if_neg (show ¬ (D.tup xs).isN = true from fun h => nomatch h), if_neg (show ¬ isT (.tup xs) "bool" = true from fun h => nomatch h), if_neg (show ¬ isT (.tup xs) "int" = true from fun h => nomatch h), if_neg (show ¬ isT (.tup xs) "str" = true from fun h => nomatch h),
      if_neg (show ¬ (isT (.tup xs) "tuple" && !isT (.tup xs) "tuple") = true from fun h => nomatch h), if_neg (show ¬ (isT (.tup xs) "list" && !isT (.tup xs) "list") = true from fun h => nomatch h),
      show (D.tup xs).len = some (xs.length : Int) from rfl, ob_some, ob_some, if_neg (by rw [decide_eq_true rfl]; decide), ob_some, gd_t _ (rg_le (by omega) (by omega)), same_seq (fun i => rfl) fun y hy => same_ok (h.2 y hy)]
    rfl
theorem same_bl (b : Bool) : m_law_same (.bl b) (.bl b) = .ok true := same_ok (n := 8) (by simp [okD])
theorem same_str (t : Tx) : m_law_same (.str t) (.str t) = .ok true := same_ok (n := 8) (by simp [okD])
theorem same_ints {xs : List Int} (h : xs.length ≤ 1000000) : m_law_same (ToD.d xs) (ToD.d xs) = .ok true := same_ok (n := 8) (by
  show okD 8 (.lst (xs.map ToD.d))
  refine ⟨by rw [List.length_map]; exact h, fun y hy => ?_⟩
  obtain ⟨i, _, rfl⟩ := List.mem_map.mp hy
  trivial)
theorem fin_go {S ρ β : Type} (s : S) (fr : ρ → R β) (fs : S → R β) : (Stp.go s).fin fr fs = fs s := rfl
theorem ifn {α : Type} {c : Bool} {x y : α} (h : c = false) : (if c = true then x else y) = y := if_neg (by rw [h]; exact Bool.false_ne_true)
theorem ift {α : Type} {c : Bool} {x y : α} (h : c = true) : (if c = true then x else y) = x := if_pos h
theorem lacq_ok {a b : Int} (a1 : 1 ≤ a) (ab : a < b) (b2 : b ≤ 12) : m_Lacquer__init a b = .ok ⟨a, b⟩ := by
  unfold m_Lacquer__init
  rw [decide_eq_true a1, decide_eq_true ab, decide_eq_true b2]; rfl
theorem min_some {xs : List Int} (h : xs ≠ []) : ∃ m, xs.min? = some m ∧ m ∈ xs ∧ ∀ x ∈ xs, m ≤ x := by
  cases e : xs.min? with
  | none => exact absurd (List.min?_eq_none_iff.mp e) h
  | some m =>
    refine ⟨m, rfl, List.min?_mem e, fun x hx => ?_⟩
    exact (List.le_min?_iff e).mp (Int.le_refl _) x hx
theorem max_some {xs : List Int} (h : xs ≠ []) : ∃ m, xs.max? = some m ∧ m ∈ xs ∧ ∀ x ∈ xs, x ≤ m := by
  cases e : xs.max? with
  | none => exact absurd (List.max?_eq_none_iff.mp e) h
  | some m =>
    refine ⟨m, rfl, List.max?_mem e, fun x hx => ?_⟩
    exact (List.max?_le_iff e).mp (Int.le_refl _) x hx

/-! ### in the W style -/
theorem take_w {p : List Int} {size : Int} (hp : IsPool p) (h0 : 0 < size) (h1 : size < 1073741824) : W (m_law_take p size) fun ((d, q) : Int × List Int) => IsPool q ∧ 0 ≤ d ∧ d < size := by
  obtain ⟨d, q, e, h⟩ := take_ok hp h0 h1
  exact ⟨(d, q), e, h⟩
theorem ab_w {p : List Int} {most : Int} (hp : IsPool p) (h0 : 2 ≤ most) (h1 : most ≤ 12) : W (m_law_ab p most) fun ((ab, q) : (Int × Int) × List Int) => IsPool q ∧ 1 ≤ ab.1 ∧ ab.1 < ab.2 ∧ ab.2 ≤ most := by
  obtain ⟨a, b, q, e, h⟩ := ab_ok hp h0 h1
  exact ⟨((a, b), q), e, h⟩
theorem pool_w (c : Int) : W (m_law_pool c) IsPool := by
  obtain ⟨p, e, h⟩ := pool_ok c
  exact ⟨p, e, h⟩
theorem cell_w (s : Sc) (k : Int) (h : 0 ≤ k) : W (m_law_cell s k) fun _ => True := by
  obtain ⟨p, e⟩ := cell_ok s k h
  exact ⟨p, e, trivial⟩
theorem mapR_ok {α β : Type} {f : α → R β} {g : α → β} : ∀ {xs : List α}, (∀ x ∈ xs, f x = .ok (g x)) → mapR xs f = .ok (xs.map g)
  | [], _ => rfl
  | x :: xs, h => by
    show (f x).bind _ = _
    rw [h x List.mem_cons_self]
    show (mapR xs f).bind _ = _
    rw [mapR_ok fun y hy => h y (List.mem_cons_of_mem _ hy)]
    rfl
structure Sky (t : Tx) : Prop where
  one : 1 ≤ t.length
  most : t.length ≤ 200
  fst : t[0]? = some 46
  all : ∀ c ∈ t, c = 46 ∨ c = 35
def sgn (p : Nat) : Nat := if p % 2 = 0 then 46 else 35
def dec : Nat → List Int → Tx
  | _, [] => []
  | p, l :: ls => List.replicate l.toNat (sgn p) ++ dec (p + 1) ls
theorem dec_snoc : ∀ {p : Nat} {ls : List Int} {l : Int}, dec p (ls ++ [l]) = dec p ls ++ List.replicate l.toNat (sgn (p + ls.length))
  | p, [], l => by simp [dec]
  | p, m :: ls, l => by
    show List.replicate m.toNat (sgn p) ++ dec (p + 1) (ls ++ [l]) = _
    rw [dec_snoc]
    show _ = (List.replicate m.toNat (sgn p) ++ dec (p + 1) ls) ++ _
    rw [List.append_assoc, show p + 1 + ls.length = p + (m :: ls).length from by rw [List.length_cons]; omega]
theorem fold_ix {α S : Type} {f : Int × α → S → R S} (I : Nat → S → Prop) : ∀ {xs : List α} {n : Nat} {s0 : S}, (∀ i x s, xs[i]? = some x → I (n + i) s → ∃ s', f (((n + i : Nat) : Int), x) s = .ok s' ∧ I (n + i + 1) s') → I n s0 →
    ∃ s', foldR ((xs.zipIdx n).map fun x => ((x.2 : Int), x.1)) s0 f = .ok s' ∧ I (n + xs.length) s'
  | [], n, s0, _, h0 => ⟨s0, rfl, h0⟩
  | x :: xs, n, s0, step, h0 => by
    obtain ⟨s1, e1, h1⟩ := step 0 x s0 rfl h0
    obtain ⟨s2, e2, h2⟩ := fold_ix I (xs := xs) (n := n + 1) (s0 := s1) (fun i y s hi hI => by
      have e : n + 1 + i = n + (i + 1) := by omega
      rw [e] at hI ⊢
      exact step (i + 1) y s (by simpa using hi) hI) h1
    refine ⟨s2, ?_, ?_⟩
    · rw [List.zipIdx_cons, List.map_cons]
      show (f _ s0).bind _ = _
      exact (congrArg (fun r => R.bind r _) e1).trans e2
    · rw [List.length_cons, show n + (xs.length + 1) = n + 1 + xs.length from by omega]; exact h2

theorem len_le_sum : ∀ {L : List Int}, (∀ l ∈ L, 1 ≤ l) → (L.length : Int) ≤ L.sum ∧ 0 ≤ L.sum
  | [], _ => by simp
  | l :: L, h => by
    have := len_le_sum (L := L) fun x hx => h x (List.mem_cons_of_mem _ hx)
    have h1 := h l List.mem_cons_self
    rw [List.length_cons, List.sum_cons]; omega
theorem le_sum : ∀ {L : List Int}, (∀ l ∈ L, 1 ≤ l) → ∀ x ∈ L, x ≤ L.sum
  | l :: L, h, x, hx => by
    have h2 := len_le_sum (L := L) fun x hx => h x (List.mem_cons_of_mem _ hx)
    have h1 := h l List.mem_cons_self
    rw [List.sum_cons]
    rcases List.mem_cons.mp hx with e | hx
    · omega
    · have := le_sum (fun x hx => h x (List.mem_cons_of_mem _ hx)) x hx
      omega
theorem tl_joinT (ys : List Tx) : joinT [] ys = ys.flatten := by
  have e : ∀ ys : List Tx, TL.joinL [] ys = ys.flatten := by
    intro ys
    induction ys with
    | nil => rfl
    | cons p r ih =>
      cases r with
      | nil => simp [TL.joinL]
      | cons q r =>
        show p ++ ([] ++ TL.joinL [] (q :: r)) = _
        rw [ih, List.nil_append]
        simp
  unfold joinT
  have h := SX.join_S ([] : List Nat) ys
  show (Txt.join (Tx.s []) (ys.map Tx.s)).cps.toList = _
  have e2 : Txt.join (Tx.s []) (ys.map Tx.s) = SX.S (TL.joinL [] ys) := h
  rw [e2, e]
theorem dec_flat : ∀ {L : List Int} {n : Nat}, (((L.zipIdx n).map fun x => ((x.2 : Int), x.1)).map fun x => repL [sgn x.1.toNat] x.2).flatten = dec n L
  | [], n => rfl
  | l :: L, n => by
    rw [List.zipIdx_cons, List.map_cons, List.map_cons, List.flatten_cons, dec_flat]
    show repL [sgn ((n : Int)).toNat] l ++ _ = List.replicate l.toNat (sgn n) ++ _
    rw [Int.toNat_natCast]
    unfold repL
    congr 1
    induction l.toNat with
    | zero => rfl
    | succ m ih => rw [List.replicate_succ, List.flatten_cons, ih]; rfl
theorem dec_len : ∀ {L : List Int} {n : Nat}, (∀ l ∈ L, 1 ≤ l) → ((dec n L).length : Int) = L.sum
  | [], n, _ => rfl
  | l :: L, n, h => by
    have h1 := h l List.mem_cons_self
    have := dec_len (L := L) (n := n + 1) fun x hx => h x (List.mem_cons_of_mem _ hx)
    show ((List.replicate l.toNat (sgn n) ++ dec (n + 1) L).length : Int) = _
    rw [List.length_append, List.length_replicate, List.sum_cons]; omega
theorem init_ok {L : List Int} (hn : L ≠ []) (h : ∀ l ∈ L, 1 ≤ l) (hs : L.sum ≤ 200) : m_Weather__init L = .ok ⟨⟨L⟩, dec 0 L⟩ := by
  obtain ⟨h1, h2⟩ := len_le_sum h
  have e1 : L.isEmpty = false := by cases L with
    | nil => exact absurd rfl hn
    | cons _ _ => rfl
  obtain ⟨m, hm⟩ : ∃ m, L.min? = some m := by cases L with
    | nil => exact absurd rfl hn
    | cons _ _ => exact ⟨_, rfl⟩
  have hm1 : 1 ≤ m := h m (List.min?_mem hm)
  unfold m_Weather__init
  rw [e1, hm]
  have ec : (if (!(!false)) = true then .ok true else (ob (some m) fun t1 => .ok ((decide (t1 < (1 : Int))) || (decide ((200 : Int) < L.sum)))) : R Bool).opt = some false := by
    rw [if_neg (by decide), ob_some, decide_eq_false (by omega), decide_eq_false (by omega)]; rfl
  rw [ec, ob_some, if_neg Bool.false_ne_true, gd_t _ (sz_le (by rw [enumL_len]; omega))]
  rw [mapR_ok (g := fun x : Int × Int => repL [sgn x.1.toNat] x.2) (fun x hx => by
    obtain ⟨i, hi⟩ := List.getElem?_of_mem hx
    obtain ⟨x1, x2⟩ := enumL_get hi
    have hx2 := List.mem_of_getElem? x2
    have l1 := h _ hx2
    have l2 := le_sum h _ hx2
    have ea : atI ([46, 35] : Tx) (x.1 % (2 : Int)) = some (sgn x.1.toNat) := by
      rw [x1, Int.toNat_natCast]
      unfold sgn
      rcases Nat.mod_two_eq_zero_or_one i with h | h
      · rw [if_pos h, show ((i : Int)) % 2 = 0 from by omega]; rfl
      · rw [if_neg (by omega), show ((i : Int)) % 2 = 1 from by omega]; rfl
    rw [gd_t _ (show sz ([46, 35] : Tx).length = true from rfl), ea, ob_some, gd_t]
    unfold repOk
    rw [decide_eq_true (by have : -(2 ^ 63 : Int) ≤ 0 := by decide
                           omega), decide_eq_true (by have : (200 : Int) < 2 ^ 63 := by decide
                                                      omega), sz_le (by simp; omega)]
    rfl), opt_ok_, ob_some]
  have ed : ((enumL L).map fun x : Int × Int => repL [sgn x.1.toNat] x.2).flatten = dec 0 L := dec_flat
  rw [gd_t, tl_joinT, ed]
  unfold joinOk
  refine decide_eq_true ?_
  have e3 := dec_len (n := 0) h
  rw [← ed, List.length_flatten] at e3
  rw [List.length_nil, Nat.mul_zero]
  show (List.map List.length (List.map (fun x : Int × Int => repL [sgn x.1.toNat] x.2) (enumL L))).sum + 0 ≤ 16777216
  have e5 : ((List.map List.length (List.map (fun x : Int × Int => repL [sgn x.1.toNat] x.2) (enumL L))).sum : Int) = L.sum := e3
  omega
theorem signs_ok {t : Tx} (h : Sky t) : ∃ ls, m_Weather_of_signs t = .ok ⟨⟨ls⟩, t⟩ := by
  have h1 := h.one
  have h2 := h.most
  unfold m_Weather_of_signs
  have ea : atI t (0 : Int) = some 46 := atI_nat (Int.le_refl _) h.fst
  have ec : (if (!((decide ((1 : Int) ≤ (t.length : Int))) && (decide ((t.length : Int) ≤ (200 : Int))))) = true then .ok true else (gd (sz t.length) <| ob (atI t (0 : Int)) fun t3 => .ok (!(decide (([t3] : Tx) = ([46] : Tx))))) : R Bool).opt = some false := by
    rw [decide_eq_true (by omega), decide_eq_true (by omega), if_neg (by decide), gd_t _ (sz_le (by omega)), ea, ob_some]; rfl
  rw [gd_t _ (sz_le (by omega)), ec, ob_some, if_neg Bool.false_ne_true, elet_]
  obtain ⟨⟨L, l⟩, e, hA, hB, hC, hD, hE, hF⟩ := fold_ix (f := fun x11 ((lengths12, length13) : (List Int) × Int) => gd (one x11.2) <| (if (!(inS x11.2 ([46, 35] : Tx))) = true then .ex (Str.ofString "BadWeather") .non else ob ((if (decide ((0 : Int) < x11.1)) = true then (gd (sz t.length) <| ob (atI t (x11.1 - (1 : Int))) fun t17 => .ok (!(decide (x11.2 = ([t17] : Tx))))) else .ok false : R (Bool)).opt) fun c19 => ob ((if c19 = true then gd (sz (lengths12.length + 1)) <| .ok ((lengths12 ++ [length13]), (0 : Int)) else .ok (lengths12, length13) : R ((List Int) × Int)).opt) fun (lengths23, length24) => .ok (lengths23, (length24 + (1 : Int)))))
    (fun i (s : List Int × Int) => dec 0 (s.1 ++ [s.2]) = t.take i ∧ (∀ l ∈ s.1, 1 ≤ l) ∧ (i = 0 → s.1 = [] ∧ s.2 = 0) ∧ (0 < i → 1 ≤ s.2 ∧ t[i - 1]? = some (sgn s.1.length)) ∧ s.1.length ≤ i ∧ s.1.sum + s.2 = (i : Int))
    (xs := t.map fun c => ([c] : Tx)) (n := 0) (s0 := ([], 0)) (fun i x s hi ⟨hA, hB, hC, hD, hE, hF⟩ => by
      obtain ⟨L, l⟩ := s
      rw [Nat.zero_add] at hA hC hD hE hF ⊢
      have hA : dec 0 (L ++ [l]) = t.take i := hA
      have hB : ∀ l ∈ L, 1 ≤ l := hB
      have hC : i = 0 → L = [] ∧ l = 0 := hC
      have hD : 0 < i → 1 ≤ l ∧ t[i - 1]? = some (sgn L.length) := hD
      have hE : L.length ≤ i := hE
      have hF : L.sum + l = (i : Int) := hF
      rw [List.getElem?_map] at hi
      obtain ⟨c, hc, rfl⟩ := Option.map_eq_some_iff.mp hi
      have hil : i < t.length := (List.getElem?_eq_some_iff.mp hc).1
      have hcc := h.all c (List.mem_of_getElem? hc)
      have hin : inS [c] ([46, 35] : Tx) = true := by
        rcases hcc with e | e <;> (subst e; rfl)
      have htk : t.take (i + 1) = t.take i ++ [c] := by rw [List.take_succ, hc]; rfl
      dsimp only
      rw [gd_t _ (show one [c] = true from rfl), hin, if_neg (by decide)]
      rw [dec_snoc, Nat.zero_add] at hA
      by_cases h0 : i = 0
      · subst h0
        obtain ⟨rfl, rfl⟩ := hC rfl
        rw [if_neg (show ¬ (decide ((0 : Int) < ((0 : Nat) : Int)) = true) from by simp), opt_ok_, ob_some, if_neg Bool.false_ne_true, opt_ok_, ob_some]
        have ec : c = 46 := by
          have := h.fst
          rw [hc] at this
          exact Option.some.inj this
        subst ec
        refine ⟨_, rfl, ?_, hB, fun z => by omega, fun _ => ⟨by decide, hc⟩, by decide, by decide⟩
        rw [htk]; rfl
      · obtain ⟨hl, hd⟩ := hD (by omega)
        have ei : atI t (((i : Nat) : Int) - 1) = some (sgn L.length) := atI_nat (by omega) (by rw [show (((i : Nat) : Int) - 1).toNat = i - 1 from by omega]; exact hd)
        rw [if_pos (decide_eq_true (by omega)), gd_t _ (sz_le (by omega)), ei, ob_some, opt_ok_, ob_some]
        by_cases hcd : c = sgn L.length
        · have e1 : (!decide ([c] = [sgn L.length])) = false := by rw [hcd]; simp
          rw [e1, if_neg Bool.false_ne_true, opt_ok_, ob_some]
          refine ⟨_, rfl, ?_, hB, fun z => by omega, fun _ => ⟨?_, ?_⟩, ?_, ?_⟩
          · show dec 0 (L ++ [l + 1]) = _
            rw [dec_snoc, Nat.zero_add, htk, ← hA, List.append_assoc, show (l + 1).toNat = l.toNat + 1 from by omega, List.replicate_succ', hcd]
          · show 1 ≤ l + 1; omega
          · show t[i + 1 - 1]? = some (sgn L.length)
            rw [Nat.add_sub_cancel, hc, hcd]
          · show L.length ≤ i + 1; omega
          · show L.sum + (l + 1) = ((i + 1 : Nat) : Int); omega
        · have e1 : (!decide ([c] = [sgn L.length])) = true := by
            have : ¬ ([c] = [sgn L.length]) := fun z => hcd (List.cons.inj z).1
            rw [decide_eq_false this]; rfl
          rw [e1, if_pos rfl, gd_t _ (sz_le (by omega)), opt_ok_, ob_some]
          have es : c = sgn (L.length + 1) := by
            unfold sgn at hcd ⊢
            rcases Nat.mod_two_eq_zero_or_one L.length with h | h
            · rw [if_pos h] at hcd
              rw [if_neg (by omega)]
              rcases hcc with e | e
              · exact absurd e hcd
              · exact e
            · rw [if_neg (by omega)] at hcd
              rw [if_pos (by omega)]
              rcases hcc with e | e
              · exact e
              · exact absurd e hcd
          refine ⟨_, rfl, ?_, ?_, fun z => by omega, fun _ => ⟨?_, ?_⟩, ?_, ?_⟩
          · show dec 0 ((L ++ [l]) ++ [0 + 1]) = _
            rw [dec_snoc, dec_snoc, Nat.zero_add, Nat.zero_add, htk, ← hA, List.length_append, List.length_singleton, es]; rfl
          · intro y hy
            rcases List.mem_append.mp hy with h | h
            · exact hB y h
            · rw [List.mem_singleton.mp h]; exact hl
          · show 1 ≤ (0 : Int) + 1; decide
          · show t[i + 1 - 1]? = some (sgn (L ++ [l]).length)
            rw [Nat.add_sub_cancel, hc, List.length_append, List.length_singleton, es]
          · show (L ++ [l]).length ≤ i + 1
            rw [List.length_append, List.length_singleton]; omega
          · show (L ++ [l]).sum + (0 + 1) = ((i + 1 : Nat) : Int)
            rw [List.sum_append, List.sum_singleton]; omega) ⟨rfl, (by intro y hy; cases hy), (fun _ => ⟨rfl, rfl⟩), (fun z => absurd z (by omega)), Nat.le_refl _, rfl⟩
  have hlen : 0 + (t.map fun c => ([c] : Tx)).length = t.length := by rw [Nat.zero_add, List.length_map]
  rw [hlen] at hA hC hD hE hF
  have hA : dec 0 (L ++ [l]) = t.take t.length := hA
  have hB : ∀ l ∈ L, 1 ≤ l := hB
  obtain ⟨hl, _⟩ := hD (by omega)
  have hE : L.length ≤ t.length := hE
  have hF : L.sum + l = (t.length : Int) := hF
  have e' : foldR (enumL (t.map fun c => ([c] : Tx))) (([] : List Int), (0 : Int)) _ = _ := e
  refine ⟨L ++ [l], ?_⟩
  show (foldR (enumL (t.map fun c => ([c] : Tx))) (([] : List Int), (0 : Int)) _).bind _ = _
  rw [e']
  show (gd (sz (L.length + 1)) <| (m_Weather__init (L ++ [l])).bind fun t31 => .ok t31) = _
  rw [gd_t _ (sz_le (by omega)), init_ok (by simp) (fun y hy => by
    rcases List.mem_append.mp hy with h | h
    · exact hB y h
    · rw [List.mem_singleton.mp h]; exact hl) (by rw [List.sum_append, List.sum_singleton]; omega), hA, List.take_length]
  rfl

/-! ### walks without a return -/
end Gn
namespace Gn
open PySem L2
/-! ### leads, climates -/
theorem rng_split {lo mid hi : Int} (h1 : lo ≤ mid) (h2 : mid ≤ hi) : rng lo hi = rng lo mid ++ rng mid hi := by
  refine rng_ind (P := fun m => rng lo m = rng lo mid ++ rng mid m) h2 (by rw [rng_nil (Int.le_refl mid), List.append_nil]) (fun m h3 h4 ih => ?_)
  rw [rng_snoc (by omega), rng_snoc h3, ih, List.append_assoc]
structure AB (ab : Int × Int) : Prop where
  a1 : 1 ≤ ab.1
  lt : ab.1 < ab.2
  b12 : ab.2 ≤ 12
def Kd (x : Int × Int) : Prop := 1 ≤ x.1 ∧ x.1 ≤ 16 ∧ 1 ≤ x.2 ∧ x.2 ≤ 120
/-- how often d goes into w, upwards -/
def up (w d : Int) : Int := (w + d - 1) / d
theorem up_lo {w d : Int} (hd : 1 ≤ d) : w ≤ up w d * d := by
  unfold up
  have h := Int.lt_ediv_add_one_mul_self (w + d - 1) (show 0 < d by omega)
  rw [Int.add_mul, Int.one_mul] at h
  omega
theorem up_hi {w d : Int} (hd : 1 ≤ d) : up w d * d ≤ w + d - 1 := Int.ediv_mul_le _ (by omega)
theorem up_le {w d q : Int} (hd : 1 ≤ d) (h : w ≤ q * d) : up w d ≤ q := by
  unfold up
  have : (w + d - 1) / d < q + 1 := Int.ediv_lt_of_lt_mul (by omega) (by rw [Int.add_mul, Int.one_mul]; omega)
  omega
theorem up_ge {w d q : Int} (hd : 1 ≤ d) (h : (q - 1) * d < w) : q ≤ up w d := by
  unfold up
  refine (Int.le_ediv_iff_mul_le (by omega)).mpr ?_
  rw [Int.sub_mul, Int.one_mul] at h
  omega
theorem up_one {w d : Int} (hw : 1 ≤ w) (hd : 1 ≤ d) : 1 ≤ up w d := up_ge hd (by rw [show (1 : Int) - 1 = 0 by omega, Int.zero_mul]; omega)
theorem up_self {w d : Int} (hw : 0 ≤ w) (hd : 1 ≤ d) : up w d ≤ w := up_le hd (by have := Int.mul_le_mul_of_nonneg_left hd hw; omega)
theorem up_mono {w v d : Int} (hd : 1 ≤ d) (h : w ≤ v) : up w d ≤ up v d := by
  unfold up
  exact Int.ediv_le_ediv (by omega) (by omega)
theorem up_neg {w d : Int} (hd : 1 ≤ d) : -((-w) / d) = up w d := by
  have h1 := up_lo (w := w) hd
  have h2 := up_hi (w := w) hd
  have : (-w) / d = -(up w d) := by
    apply Int.le_antisymm
    · have : (-w) / d < -(up w d) + 1 := Int.ediv_lt_of_lt_mul (by omega) (by rw [Int.add_mul, Int.one_mul, Int.neg_mul]; omega)
      omega
    · exact (Int.le_ediv_iff_mul_le (by omega)).mpr (by rw [Int.neg_mul]; omega)
  omega
def LD (ab : Int × Int) (w : Int) : Int := (up w (ab.2 - ab.1) - 1) * ab.1
section
variable {ab : Int × Int} (h : AB ab)
include h
theorem ld_nn {w : Int} (hw : 1 ≤ w) : 0 ≤ LD ab w := by
  have := up_one hw (show 1 ≤ ab.2 - ab.1 by have := h.lt; omega)
  exact Int.mul_nonneg (by omega) (by have := h.a1; omega)
theorem ld_hi {w : Int} (hw : 1 ≤ w) (h2 : w ≤ 40) : LD ab w ≤ 468 := by
  have h1 := up_self (d := ab.2 - ab.1) (show 0 ≤ w by omega) (by have := h.lt; omega)
  have h3 := up_one hw (show 1 ≤ ab.2 - ab.1 by have := h.lt; omega)
  have : (up w (ab.2 - ab.1) - 1) * ab.1 ≤ 39 * ab.1 := Int.mul_le_mul_of_nonneg_right (by omega) (by have := h.a1; omega)
  have := h.lt
  have := h.b12
  unfold LD
  omega
theorem ld_mono {w v : Int} (hv : w ≤ v) : LD ab w ≤ LD ab v := by
  have := up_mono (d := ab.2 - ab.1) (by have := h.lt; omega) hv
  exact Int.mul_le_mul_of_nonneg_right (by omega) (by have := h.a1; omega)
theorem lead_w {w : Int} (hw : 1 ≤ w) (h2 : w ≤ 40) : W (m_law_lead ab w) (· = LD ab w) := by
  have hl := h.lt
  have hb := h.b12
  have ha := h.a1
  refine w_call (P := (· = up w (ab.2 - ab.1))) (w_gd (div_le (by omega) (by omega)) (w_ok rfl)) fun t e => ?_
  subst e
  exact w_gd (mul_le2 (by omega) (by omega)) (w_ok rfl)
theorem plead_w {w : Int} (hw : 1 ≤ w) (h2 : w ≤ 40) : W (m_Lacquer_lead ⟨ab.1, ab.2⟩ w) (· = LD ab w) := by
  have hl := h.lt
  have hb := h.b12
  have ha := h.a1
  unfold m_Lacquer_lead
  refine w_ifd (fun z => absurd z (by omega)) fun _ => ?_
  refine w_call (P := (· = up w (ab.2 - ab.1))) ?_ fun t e => ?_
  · unfold m_Lacquer_spans
    refine w_ifd (fun z => absurd z (by omega)) fun _ => ?_
    exact w_gd (div_le (by show 0 < ab.2 - ab.1; omega) (by show ab.2 - ab.1 ≤ _; omega)) (w_ok (up_neg (by show 1 ≤ ab.2 - ab.1; omega)))
  · subst e
    exact w_gd (mul_le2 (by show _ ≤ ab.1; omega) (by show ab.1 ≤ _; omega)) (w_ok rfl)
end
/-! the world -/
/-- a sound kind -/
structure Kz (ab x : Int × Int) : Prop where
  kd : Kd x
  sh : x.1 ≤ ab.2 - 1
  ld : LD ab x.1 < x.2
theorem pairs_w {p : List Int} {ab : Int × Int} {need many : Int} (hp : IsPool p) (h : AB ab) (n1 : 1 ≤ need) (n2 : need ≤ 120) (m1 : 0 ≤ many) (m2 : many ≤ 9) : W (m_law_sound_pairs p ab need many) fun ((ks, q) : List (Int × Int) × List Int) => IsPool q ∧ ks.length ≤ 9 ∧ ∀ x ∈ ks, Kz ab x := by
  have hl := h.lt
  have hb := h.b12
  have ha := h.a1
  have e1 : 0 ≤ (need - 1) / ab.1 := Int.ediv_nonneg (by omega) (by omega)
  have e2 : (need - 1) / ab.1 * ab.1 ≤ need - 1 := Int.ediv_mul_le _ (by omega)
  generalize hc : (need - 1) / ab.1 = c at *
  unfold m_law_sound_pairs
  rw [hc]
  refine w_gd (div_le (by omega) (by omega)) (w_gd (mul_le2 (by omega) (by omega)) (w_elet (w_elet (w_gd (rg_le (by omega) (by omega)) ?_))))
  have hlong : 1 ≤ min (ab.2 - 1) ((c + 1) * (ab.2 - ab.1)) := by
    have : 1 ≤ (c + 1) * (ab.2 - ab.1) := Int.mul_pos (by omega) (by omega)
    omega
  refine w_bind2 (w_rng (fun (i : Int) ((q, ks) : List Int × List (Int × Int)) => IsPool q ∧ ks.length = i.toNat ∧ ∀ x ∈ ks, Kz ab x) m1 ⟨hp, rfl, fun x hx => nomatch hx⟩ fun i s i0 i1 hs => ?_) fun q ks hs => w_ok ⟨hs.1, by omega, hs.2.2⟩
  obtain ⟨q, ks⟩ := s
  obtain ⟨hq, hk, hks⟩ := hs
  refine w_call2 (take_w hq (size := min (ab.2 - 1) ((c + 1) * (ab.2 - ab.1))) (by omega) (by omega)) fun t q1 ⟨h1, t0, t1⟩ => ?_
  refine w_elet ?_
  have w1 : 1 ≤ 1 + t := by omega
  have w2 : 1 + t ≤ ab.2 - 1 := by omega
  have w3 : 1 + t ≤ (c + 1) * (ab.2 - ab.1) := by omega
  refine w_call (lead_w h w1 (by omega)) fun l el => ?_
  have l1 : l ≤ need - 1 := by
    subst el
    have := up_le (d := ab.2 - ab.1) (by omega) w3
    have : LD ab (1 + t) ≤ c * ab.1 := Int.mul_le_mul_of_nonneg_right (by omega) (by omega)
    omega
  have l0 : 0 ≤ l := by subst el; exact ld_nn h w1
  refine w_elet (w_call2 (take_w h1 (size := 2) (by omega) (by omega)) fun t2 q2 ⟨h2, _, _⟩ => ?_)
  dsimp only
  refine w_call (P := fun n => 1 ≤ n ∧ n ≤ need - l) (w_ifd (fun _ => w_elet (w_ok ⟨by omega, by omega⟩)) (fun _ => w_ok ⟨by omega, by omega⟩)) fun n ⟨n1', n2'⟩ => ?_
  refine w_call (lead_w h w1 (by omega)) fun l' el' => ?_
  have : l' = l := by rw [el, el']
  subst this
  refine w_call2 (take_w h2 (size := n) (by omega) (by omega)) fun t3 q3 ⟨h3, t30, t31⟩ => w_gd (sz_le (by omega)) (w_ok ⟨h3, by rw [List.length_append, hk]; simp; omega, fun x hx => ?_⟩)
  rcases List.mem_append.mp hx with hx | hx
  · exact hks x hx
  · rw [List.mem_singleton.mp hx]
    exact ⟨⟨w1, by show 1 + t ≤ 16; omega, by show 1 ≤ l' + 1 + t3; omega, by show l' + 1 + t3 ≤ 120; omega⟩, w2, by show LD ab (1 + t) < l' + 1 + t3; rw [← el']; omega⟩
end Gn
namespace Gn
open PySem L2
/-! ### the plain list -/
theorem w_rngDN {S : Type} {f : Int → S → R S} (I : Int → S → Prop) {lo : Int} : ∀ {n : Nat} {hi : Int} {s0 : S}, (hi - lo).toNat = n → lo ≤ hi → I hi s0 → (∀ x s, lo < x → x ≤ hi → I x s → W (f x s) (I (x - 1))) → W (foldR (rngD hi lo) s0 f) (I lo)
  | 0, hi, s0, hn, h, h0, step => by
    have : hi = lo := by omega
    subst this
    have e : rngD hi hi = [] := by unfold rngD; rw [Int.sub_self]; rfl
    rw [e]
    exact w_ok h0
  | n + 1, hi, s0, hn, h, h0, step => by
    have e : rngD hi lo = hi :: rngD (hi - 1) lo := by
      unfold rngD
      rw [hn, show (hi - 1 - lo).toNat = n by omega, List.range_succ_eq_map, List.map_cons, List.map_map]
      congr 1
      · simp
      · apply List.map_congr_left
        intro i _
        show hi - ((i + 1 : Nat) : Int) = hi - 1 - (i : Int)
        omega
    rw [e]
    exact w_bind (step hi s0 (by omega) (Int.le_refl _) h0) fun s h1 => w_rngDN I (n := n) (hi := hi - 1) (s0 := s) (by omega) (by omega) h1 fun x s hx hx2 h => step x s hx (by omega) h
theorem w_rngD {S : Type} {f : Int → S → R S} (I : Int → S → Prop) {lo hi : Int} {s0 : S} (h : lo ≤ hi) (h0 : I hi s0) (step : ∀ x s, lo < x → x ≤ hi → I x s → W (f x s) (I (x - 1))) : W (foldR (rngD hi lo) s0 f) (I lo) := w_rngDN I rfl h h0 step
/-- m: the least run of those that are asked for, 121 if there are none -/
def Ls (c : Int × Int → Prop) (ks : List (Int × Int)) (m : Int) : Prop := (∀ x ∈ ks, c x → m ≤ x.2) ∧ ((m = 121 ∧ ∀ x ∈ ks, ¬ c x) ∨ ∃ x ∈ ks, c x ∧ x.2 = m)
theorem ls_un {c : Int × Int → Prop} {ks : List (Int × Int)} {m n : Int} (h1 : Ls c ks m) (h2 : Ls c ks n) : m = n := by
  obtain ⟨a1, a2⟩ := h1
  obtain ⟨b1, b2⟩ := h2
  rcases a2 with ⟨e, a2⟩ | ⟨x, hx, cx, e⟩
  · rcases b2 with ⟨e', b2⟩ | ⟨y, hy, cy, e'⟩
    · omega
    · exact absurd cy (a2 y hy)
  · rcases b2 with ⟨e', b2⟩ | ⟨y, hy, cy, e'⟩
    · exact absurd cx (b2 x hx)
    · have := a1 y hy cy
      have := b1 x hx cx
      omega
theorem ls_hi {c : Int × Int → Prop} {ks : List (Int × Int)} {m : Int} (hk : ∀ x ∈ ks, Kd x) (h : Ls c ks m) : 1 ≤ m ∧ m ≤ 121 ∧ (m = 121 ↔ ∀ x ∈ ks, ¬ c x) := by
  obtain ⟨a1, ⟨e, a2⟩ | ⟨x, hx, cx, e⟩⟩ := h
  · exact ⟨by omega, by omega, fun _ => a2, fun _ => e⟩
  · have := hk x hx
    unfold Kd at this
    exact ⟨by omega, by omega, fun z => by omega, fun z => absurd cx (z x hx)⟩
def lo : List (Int × Int) → Int → Int
  | [], _ => 121
  | x :: xs, w => if w ≤ x.1 then min x.2 (lo xs w) else lo xs w
theorem lo_ls {w : Int} : ∀ {ks : List (Int × Int)}, (∀ x ∈ ks, Kd x) → Ls (fun x => w ≤ x.1) ks (lo ks w)
  | [], _ => ⟨(fun x hx => nomatch hx), .inl ⟨rfl, (fun x hx => nomatch hx)⟩⟩
  | x :: xs, hk => by
    have ih := lo_ls (w := w) (ks := xs) fun y hy => hk y (List.mem_cons_of_mem _ hy)
    have b := ls_hi (fun y hy => hk y (List.mem_cons_of_mem _ hy)) ih
    have hx := hk x List.mem_cons_self
    unfold Kd at hx
    unfold lo
    obtain ⟨a1, a2⟩ := ih
    by_cases h : w ≤ x.1
    · rw [if_pos h]
      refine ⟨fun y hy cy => ?_, .inr ?_⟩
      · rcases List.mem_cons.mp hy with hy | hy
        · subst hy; omega
        · have := a1 y hy cy; omega
      · by_cases hm : x.2 ≤ lo xs w
        · exact ⟨x, List.mem_cons_self, h, by omega⟩
        · rcases a2 with ⟨e, _⟩ | ⟨y, hy, cy, e⟩
          · omega
          · exact ⟨y, List.mem_cons_of_mem _ hy, cy, by omega⟩
    · rw [if_neg h]
      refine ⟨fun y hy cy => ?_, ?_⟩
      · rcases List.mem_cons.mp hy with hy | hy
        · subst hy; exact absurd cy h
        · exact a1 y hy cy
      · rcases a2 with ⟨e, a2⟩ | ⟨y, hy, cy, e⟩
        · exact .inl ⟨e, fun y hy => by
            rcases List.mem_cons.mp hy with hy | hy
            · subst hy; exact h
            · exact a2 y hy⟩
        · exact .inr ⟨y, List.mem_cons_of_mem _ hy, cy, e⟩
def sel (ks : List (Int × Int)) (w : Int) : Option (Int × Int) := if lo ks w < lo ks (w + 1) then some (w, lo ks w) else none
def PL (ks : List (Int × Int)) : List (Int × Int) := (rng 1 17).filterMap (sel ks)
section
variable {ks : List (Int × Int)} (hk : ∀ x ∈ ks, Kd x)
include hk
theorem lo_le (w : Int) : lo ks w ≤ lo ks (w + 1) := by
  obtain ⟨a1, a2⟩ := lo_ls (w := w) hk
  obtain ⟨b1, b2⟩ := lo_ls (w := w + 1) hk
  have := ls_hi hk (lo_ls (w := w) hk)
  rcases b2 with ⟨e, b2⟩ | ⟨y, hy, cy, e⟩
  · omega
  · have := a1 y hy (by have cy : w + 1 ≤ y.1 := cy; show w ≤ y.1; omega)
    omega
end
theorem dget_put {κ α : Type} [DecidableEq κ] {kvs : List (κ × α)} {k k' : κ} {v : α} : dget (dput kvs k v) k' = if k' = k then some v else dget kvs k' := by
  have mapL : ∀ l : List (κ × α), (∃ x ∈ l, x.1 = k) → dget (l.map fun kv => if kv.1 = k then (kv.1, v) else kv) k' = if k' = k then some v else dget l k' := by
    intro l
    induction l with
    | nil => intro h; obtain ⟨x, hx, _⟩ := h; cases hx
    | cons y l ih =>
      intro h
      rw [List.map_cons]
      by_cases hy : y.1 = k
      · rw [if_pos hy]
        by_cases hk : k' = k
        · rw [if_pos hk]
          unfold dget
          rw [List.find?_cons, decide_eq_true (show y.1 = k' by rw [hy, hk])]; rfl
        · rw [if_neg hk]
          have e : ∀ z : κ × α, z.1 = y.1 → ∀ l' : List (κ × α), dget (z :: l') k' = dget l' k' := fun z ez l' => by
            unfold dget
            rw [List.find?_cons, decide_eq_false (show ¬ z.1 = k' by rw [ez, hy]; exact fun q => hk q.symm)]
          rw [e (y.1, v) rfl, e y rfl]
          by_cases hl : ∃ x ∈ l, x.1 = k
          · rw [ih hl, if_neg hk]
          · have : (l.map fun kv => if kv.1 = k then (kv.1, v) else kv) = l := by
              conv => rhs; rw [← List.map_id l]
              apply List.map_congr_left
              intro x hx
              rw [if_neg (fun q => hl ⟨x, hx, q⟩)]; rfl
            rw [this]
      · rw [if_neg hy]
        obtain ⟨x, hx, ex⟩ := h
        have hl : ∃ x ∈ l, x.1 = k := by
          rcases List.mem_cons.mp hx with hx | hx
          · subst hx; exact absurd ex hy
          · exact ⟨x, hx, ex⟩
        have ih := ih hl
        by_cases hyk : y.1 = k'
        · have hk : ¬ k' = k := fun q => hy (hyk.trans q)
          rw [if_neg hk]
          unfold dget
          rw [List.find?_cons, List.find?_cons, decide_eq_true hyk]
        · have e : ∀ l' : List (κ × α), dget (y :: l') k' = dget l' k' := fun l' => by
            unfold dget
            rw [List.find?_cons, decide_eq_false hyk]
          rw [e, e, ih]
  unfold dput
  by_cases h : (kvs.any fun kv => decide (kv.1 = k)) = true
  · rw [if_pos h]
    obtain ⟨x, hx, ex⟩ := List.any_eq_true.mp h
    exact mapL kvs ⟨x, hx, of_decide_eq_true ex⟩
  · rw [if_neg h]
    have hn : ∀ x ∈ kvs, ¬ x.1 = k := fun x hx ex => h (List.any_eq_true.mpr ⟨x, hx, decide_eq_true ex⟩)
    unfold dget
    rw [List.find?_append]
    by_cases hk : k' = k
    · rw [if_pos hk]
      have : kvs.find? (fun kv => decide (kv.1 = k')) = none := List.find?_eq_none.mpr fun x hx => by
        rw [hk]; simpa using hn x hx
      rw [this, Option.none_or, List.find?_cons, decide_eq_true (show (k, v).1 = k' from hk.symm)]; rfl
    · rw [if_neg hk]
      have : [(k, v)].find? (fun kv => decide (kv.1 = k')) = none := List.find?_eq_none.mpr fun x hx => by
        rw [List.mem_singleton.mp hx]; simpa using fun q : k = k' => hk q.symm
      rw [this, Option.or_none]
theorem dput_len {κ α : Type} [DecidableEq κ] {kvs : List (κ × α)} {k : κ} {v : α} : (dput kvs k v).length ≤ kvs.length + 1 := by
  unfold dput
  split
  · rw [List.length_map]; omega
  · rw [List.length_append]; simp
section
variable {ks : List (Int × Int)} (hk : ∀ x ∈ ks, Kd x)
include hk
theorem plain_w (hl : ks.length ≤ 300) : W (m_plain_list ks) (· = PL ks) := by
  refine w_bind (w_fold (fun (d : List (Int × Int)) (m : List (Int × Int)) => m.length ≤ d.length ∧ ∀ w, Ls (fun x => x.1 = w) d ((dget m w).getD 121) ∧ (dget m w ≠ some 121)) ⟨Nat.le_refl _, fun w => ⟨⟨(fun x hx => nomatch hx), .inl ⟨rfl, (fun x hx => nomatch hx)⟩⟩, (fun z => nomatch z)⟩⟩ fun d x r m e h => ?_) fun m hm => ?_
  · have hx := hk x (by rw [e]; simp)
    unfold Kd at hx
    have hd : d.length ≤ 300 := by have := congrArg List.length e; simp at this; omega
    obtain ⟨h0, h⟩ := h
    refine w_ifd (fun c => w_gd (sz_le (by omega)) (w_ok ⟨by have := dput_len (kvs := m) (k := x.1) (v := x.2); rw [List.length_append]; simp; omega, fun w => ?_⟩)) (fun c => w_ok ⟨by rw [List.length_append]; omega, fun w => ?_⟩)
    · have c : x.2 < (dget m x.1).getD 121 := c
      rw [dget_put]
      by_cases hw : w = x.1
      · rw [if_pos hw]
        refine ⟨⟨fun y hy cy => ?_, .inr ⟨x, by simp, hw.symm, rfl⟩⟩, fun z => by have := Option.some.inj z; omega⟩
        rcases List.mem_append.mp hy with hy | hy
        · have := (h w).1.1 y hy cy
          rw [hw] at this
          show x.2 ≤ y.2
          omega
        · rw [List.mem_singleton.mp hy]; exact Int.le_refl _
      · rw [if_neg hw]
        refine ⟨⟨fun y hy cy => ?_, ?_⟩, (h w).2⟩
        · rcases List.mem_append.mp hy with hy | hy
          · exact (h w).1.1 y hy cy
          · rw [List.mem_singleton.mp hy] at cy; exact absurd cy.symm hw
        · rcases (h w).1.2 with ⟨e, z⟩ | ⟨y, hy, q⟩
          · refine .inl ⟨e, fun y hy => ?_⟩
            rcases List.mem_append.mp hy with hy | hy
            · exact z y hy
            · rw [List.mem_singleton.mp hy]; exact fun q => hw q.symm
          · exact .inr ⟨y, List.mem_append_left _ hy, q⟩
    · have c : ((dget m x.1).getD 121) ≤ x.2 := by have : ¬ x.2 < ((dget m x.1).getD 121) := c; omega
      refine ⟨⟨fun y hy cy => ?_, ?_⟩, (h w).2⟩
      · rcases List.mem_append.mp hy with hy | hy
        · exact (h w).1.1 y hy cy
        · rw [List.mem_singleton.mp hy] at cy ⊢
          rw [← cy]; exact c
      · rcases (h w).1.2 with ⟨e, z⟩ | ⟨y, hy, q⟩
        · refine .inl ⟨e, fun y hy => ?_⟩
          rcases List.mem_append.mp hy with hy | hy
          · exact z y hy
          · rw [List.mem_singleton.mp hy]
            intro q
            have q : x.1 = w := q
            rw [q] at c
            omega
        · exact .inr ⟨y, List.mem_append_left _ hy, q⟩
  · obtain ⟨hm0, hm⟩ := hm
    have key : ∀ w, lo ks w = min ((dget m w).getD 121) (lo ks (w + 1)) := fun w => by
      obtain ⟨a1, a2⟩ := (hm w).1
      obtain ⟨b1, b2⟩ := lo_ls (w := w + 1) hk
      have bh := ls_hi hk (lo_ls (w := w + 1) hk)
      have ah := ls_hi hk (hm w).1
      refine ls_un (lo_ls (w := w) hk) ⟨fun x hx cx => ?_, ?_⟩
      · have cx : w ≤ x.1 := cx
        by_cases h : x.1 = w
        · have := a1 x hx h; omega
        · have := b1 x hx (by show w + 1 ≤ x.1; omega); omega
      · by_cases hle : (dget m w).getD 121 ≤ lo ks (w + 1)
        · rcases a2 with ⟨e, a2⟩ | ⟨y, hy, cy, e⟩
          · refine .inl ⟨by omega, fun x hx cx => ?_⟩
            have cx : w ≤ x.1 := cx
            by_cases h : x.1 = w
            · exact a2 x hx h
            · exact bh.2.2.mp (by omega) x hx (by show w + 1 ≤ x.1; omega)
          · exact .inr ⟨y, hy, by have cy : y.1 = w := cy; show w ≤ y.1; omega, by omega⟩
        · rcases b2 with ⟨e, b2⟩ | ⟨y, hy, cy, e⟩
          · omega
          · exact .inr ⟨y, hy, by have cy : w + 1 ≤ y.1 := cy; show w ≤ y.1; omega, by omega⟩
    have top : lo ks 17 = 121 := (ls_hi hk (lo_ls (w := 17) hk)).2.2.mpr fun x hx cx => by
      have := hk x hx
      unfold Kd at this
      have cx : 17 ≤ x.1 := cx
      omega
    refine w_elet (w_elet (w_bind2 (w_rngD (fun (i : Int) ((p, s) : List (Int × Int) × Int) => p.reverse = (rng (i + 1) 17).filterMap (sel ks) ∧ s = lo ks (i + 1)) (lo := 0) (hi := 16) (by omega) ⟨rfl, top.symm⟩ fun i s i0 i1 hs => ?_) fun p s hs => w_ok hs.1))
    obtain ⟨p, s⟩ := s
    obtain ⟨hp, hs⟩ := hs
    subst hs
    have hp2 := List.length_filterMap_le (sel ks) (rng (i + 1) 17)
    rw [← hp, List.length_reverse, rng_len'] at hp2
    have er : rng (i - 1 + 1) 17 = i :: rng (i + 1) 17 := by rw [show i - 1 + 1 = i by omega]; exact rng_cons (by omega)
    have kw := key i
    refine w_ifd (fun c => ?_) (fun c => w_ok ⟨?_, ?_⟩)
    · cases hg : dget m i with
      | none => rw [hg] at c; exact absurd c (Int.lt_irrefl _)
      | some t =>
        rw [hg] at c kw
        have c : t < lo ks (i + 1) := c
        have kw : lo ks i = min t (lo ks (i + 1)) := kw
        refine w_ob rfl (w_gd (sz_le (by omega)) (w_ok ⟨?_, ?_⟩))
        · show (p ++ [(i, t)]).reverse = _
          rw [List.reverse_append, er, List.filterMap_cons, hp]
          have e : sel ks i = some (i, lo ks i) := if_pos (by omega)
          rw [e, show lo ks i = t by omega]; rfl
        · show t = lo ks (i - 1 + 1)
          rw [show i - 1 + 1 = i by omega]; omega
    · show p.reverse = _
      rw [er, List.filterMap_cons, hp]
      have e : sel ks i = none := if_neg (by
        cases hg : dget m i with
        | none =>
          have := (ls_hi hk (lo_ls (w := i + 1) hk)).2.1
          rw [hg] at kw
          have kw : lo ks i = min 121 (lo ks (i + 1)) := kw
          omega
        | some t =>
          rw [hg] at c kw
          have c : ¬ t < lo ks (i + 1) := c
          have kw : lo ks i = min t (lo ks (i + 1)) := kw
          omega)
      rw [e]
    · show lo ks (i + 1) = lo ks (i - 1 + 1)
      rw [show i - 1 + 1 = i by omega]
      cases hg : dget m i with
      | none =>
        have := (ls_hi hk (lo_ls (w := i + 1) hk)).2.1
        rw [hg] at kw
        have kw : lo ks i = min 121 (lo ks (i + 1)) := kw
        omega
      | some t =>
        rw [hg] at c kw
        have c : ¬ t < lo ks (i + 1) := c
        have kw : lo ks i = min t (lo ks (i + 1)) := kw
        omega
theorem climate_w (hl : ks.length ≤ 300) : W (m_Climate__init ks) (· = ⟨⟨PL ks⟩⟩) := by
  unfold m_Climate__init
  refine w_ifd (fun z => absurd z (by omega)) fun _ => w_bind (w_foldM (fun _ => True) trivial fun x hx s _ => ?_) fun _ _ => w_call (plain_w hk hl) fun t e => w_ok (by rw [e])
  have := hk x hx
  unfold Kd at this
  refine w_bind (P := fun _ => True) ?_ fun _ _ => w_ok trivial
  unfold m_check_kind
  refine w_ite (fun c => ?_) fun _ => w_ok trivial
  rw [decide_eq_true (show 1 ≤ x.1 by omega), decide_eq_true (show x.1 ≤ 16 by omega), decide_eq_true (show 1 ≤ x.2 by omega), decide_eq_true (show x.2 ≤ 120 by omega)] at c
  cases c
end
end Gn
namespace Gn
open PySem L2
/-! ### peaks, least runs, faults -/
def pk : List (Int × Int) → Int
  | [] => 0
  | x :: xs => max x.1 (pk xs)
theorem pk_nn : ∀ {ks : List (Int × Int)}, 0 ≤ pk ks
  | [] => Int.le_refl _
  | x :: xs => by have := pk_nn (ks := xs); unfold pk; omega
theorem pk_ge : ∀ {ks : List (Int × Int)} {x}, x ∈ ks → x.1 ≤ pk ks
  | y :: xs, x, h => by
    unfold pk
    rcases List.mem_cons.mp h with h | h
    · subst h; omega
    · have := pk_ge h; omega
theorem pk_at : ∀ {ks : List (Int × Int)}, pk ks = 0 ∨ ∃ x ∈ ks, x.1 = pk ks
  | [] => .inl rfl
  | y :: xs => by
    unfold pk
    by_cases h : pk xs ≤ y.1
    · exact .inr ⟨y, List.mem_cons_self, by omega⟩
    · rcases pk_at (ks := xs) with e | ⟨x, hx, e⟩
      · exact .inl (by omega)
      · exact .inr ⟨x, List.mem_cons_of_mem _ hx, by omega⟩
theorem lpeak_w {ks : List (Int × Int)} (hl : ks.length ≤ 1000) : W (m_law_peak ks) (· = pk ks) := by
  refine w_gd (sz_le (by omega)) (w_call (w_map (fun x => x.1) fun x _ => w_ok rfl) fun ys e => w_gd (sz_le (by rw [e]; simp; omega)) ?_)
  subst e
  obtain ⟨m, e1, hm, hle⟩ := max_some (xs := [(0 : Int)] ++ ks.map fun x => x.1) (by simp)
  refine w_ob e1 (w_ok ?_)
  have h0 := hle 0 (by simp)
  have hge : ∀ x ∈ ks, x.1 ≤ m := fun x hx => hle _ (by simp; exact .inr ⟨_, hx⟩)
  have hm : m = 0 ∨ ∃ x ∈ ks, x.1 = m := by
    rcases List.mem_append.mp hm with h | h
    · exact .inl (List.mem_singleton.mp h)
    · obtain ⟨x, hx, e⟩ := List.mem_map.mp h
      exact .inr ⟨x, hx, e⟩
  rcases pk_at (ks := ks) with e | ⟨x, hx, e⟩
  · rcases hm with h | ⟨y, hy, ey⟩
    · omega
    · have := pk_ge hy; omega
  · have := hge x hx
    rcases hm with h | ⟨y, hy, ey⟩
    · have := pk_nn (ks := ks); omega
    · have := pk_ge hy; omega
theorem at0 {α : Type} [Inhabited α] {x : α} {xs : List α} : atI (x :: xs) 0 = some x := by
  rw [atI_gi (Int.le_refl _) (by rw [List.length_cons]; omega)]; rfl
instance : Inhabited (T3 Int Int Tx) := ⟨⟨0, 0, []⟩⟩
theorem rng_pair {lo hi : Int} : (rng lo hi).Pairwise (· < ·) := by
  unfold rng
  rw [List.pairwise_map]
  exact List.pairwise_lt_range.imp fun h => by omega
theorem pl_mem {ks : List (Int × Int)} {x : Int × Int} : x ∈ PL ks ↔ 1 ≤ x.1 ∧ x.1 ≤ 16 ∧ lo ks x.1 < lo ks (x.1 + 1) ∧ x.2 = lo ks x.1 := by
  unfold PL
  rw [List.mem_filterMap]
  constructor
  · rintro ⟨w, hw, e⟩
    have := mem_rng.mp hw
    unfold sel at e
    split at e
    · rename_i h
      obtain rfl := Option.some.inj e
      exact ⟨by show 1 ≤ w; omega, by show w ≤ 16; omega, h, rfl⟩
    · cases e
  · rintro ⟨h1, h2, h3, h4⟩
    refine ⟨x.1, mem_rng.mpr ⟨h1, by omega⟩, ?_⟩
    unfold sel
    rw [if_pos h3, ← h4]
theorem pl_pair {ks : List (Int × Int)} : (PL ks).Pairwise (fun x y => x.1 < y.1) := by
  unfold PL
  refine List.Pairwise.filterMap (sel ks) (R := (· < ·)) ?_ rng_pair
  intro a a' h b hb b' hb'
  unfold sel at hb hb'
  split at hb
  · split at hb'
    · obtain rfl := Option.some.inj hb
      obtain rfl := Option.some.inj hb'
      exact h
    · cases hb'
  · cases hb
theorem pl_len {ks : List (Int × Int)} : (PL ks).length ≤ 16 := by
  have := List.length_filterMap_le (sel ks) (rng 1 17)
  rw [rng_len'] at this
  unfold PL
  omega
section
variable {ks : List (Int × Int)} (hk : ∀ x ∈ ks, Kd x)
include hk
theorem pk_hi : pk ks ≤ 16 := by
  rcases pk_at (ks := ks) with e | ⟨x, hx, e⟩
  · omega
  · have := hk x hx
    unfold Kd at this
    omega
theorem lo_top {w : Int} (h : pk ks < w) : lo ks w = 121 := (ls_hi hk (lo_ls (w := w) hk)).2.2.mpr fun x hx cx => by
  have := pk_ge hx
  have cx : w ≤ x.1 := cx
  omega
theorem lo_in {w : Int} (h0 : 1 ≤ w) (h : w ≤ pk ks) : 1 ≤ lo ks w ∧ lo ks w ≤ 120 := by
  have hh := ls_hi hk (lo_ls (w := w) hk)
  refine ⟨hh.1, ?_⟩
  rcases pk_at (ks := ks) with e | ⟨x, hx, e⟩
  · omega
  · have : lo ks w ≠ 121 := fun z => hh.2.2.mp z x hx (by show w ≤ x.1; omega)
    omega
theorem pl_top (h : 1 ≤ pk ks) : ∃ ys, PL ks = ys ++ [(pk ks, lo ks (pk ks))] := by
  have hp := pk_hi hk
  refine ⟨(rng 1 (pk ks)).filterMap (sel ks), ?_⟩
  unfold PL
  rw [rng_split (lo := 1) (mid := pk ks) (hi := 17) h (by omega), List.filterMap_append, rng_cons (show pk ks < 17 by omega), List.filterMap_cons]
  have e : sel ks (pk ks) = some (pk ks, lo ks (pk ks)) := if_pos (by rw [lo_top hk (show pk ks < pk ks + 1 by omega)]; have := lo_in hk h (Int.le_refl _); omega)
  have e2 : (rng (pk ks + 1) 17).filterMap (sel ks) = [] := List.filterMap_eq_nil_iff.mpr fun w hw => by
    have := mem_rng.mp hw
    exact if_neg (by rw [lo_top hk (show pk ks < w by omega), lo_top hk (show pk ks < w + 1 by omega)]; omega)
  rw [e, e2]
theorem pl_nil (h : pk ks = 0) : PL ks = [] := List.filterMap_eq_nil_iff.mpr fun w hw => by
  have := mem_rng.mp hw
  exact if_neg (by rw [lo_top hk (show pk ks < w by omega), lo_top hk (show pk ks < w + 1 by omega)]; omega)
theorem ppeak_w : W (m_Climate_peak ⟨⟨PL ks⟩⟩) (· = pk ks) := by
  unfold m_Climate_peak
  refine w_call (P := (· = pk ks)) ?_ fun t e => w_ok e
  dsimp only
  by_cases h : 1 ≤ pk ks
  · obtain ⟨ys, e⟩ := pl_top hk h
    rw [e]
    refine w_ift (by simp) (w_ob (atI_neg (by omega) (by rw [List.length_append, List.length_singleton]; omega)) (w_ok ?_))
    have : gi (ys ++ [(pk ks, lo ks (pk ks))]) (-1 + ((ys ++ [(pk ks, lo ks (pk ks))]).length : Nat)) = (pk ks, lo ks (pk ks)) := by
      rw [gi_app (by rw [List.length_append]; simp; omega), if_neg (by rw [List.length_append, List.length_singleton]; omega)]
      rw [show (-1 + ((ys ++ [(pk ks, lo ks (pk ks))]).length : Nat) : Int) - ys.length = 0 by rw [List.length_append]; simp; omega]
      rfl
    rw [this]
  · have h0 := pk_nn (ks := ks)
    rw [pl_nil hk (by omega)]
    exact w_iff rfl (w_ok (by omega))
end
def Fb (ab x : Int × Int) : Bool := decide (ab.2 ≤ x.1) || decide (x.2 ≤ LD ab x.1)
def wd (ab x : Int × Int) : Tx := if ab.2 ≤ x.1 then [108, 111, 110, 103] else [99, 108, 111, 115, 101]
def BL (ab : Int × Int) (ks : List (Int × Int)) : List (Int × Int) := (PL ks).filter (Fb ab)
section
variable {ab : Int × Int} (h : AB ab)
include h
theorem pfault_w {x : Int × Int} (h1 : 1 ≤ x.1) (h2 : x.1 ≤ 16) : W (m_fault ⟨ab.1, ab.2⟩ x.1 x.2) (· = if Fb ab x = true then some (wd ab x) else none) := by
  unfold m_fault
  refine w_ifd (fun c => w_ok ?_) (fun c => w_call (plead_w h h1 (by omega)) fun t e => w_ifd (fun c2 => w_ok ?_) (fun c2 => w_ok ?_))
  · have c : ab.2 ≤ x.1 := c
    unfold Fb wd; rw [decide_eq_true c, if_pos c]; rfl
  · have c : ¬ ab.2 ≤ x.1 := c
    unfold Fb wd; rw [decide_eq_false c, if_neg c, ← e, decide_eq_true c2]; rfl
  · have c : ¬ ab.2 ≤ x.1 := c
    unfold Fb; rw [decide_eq_false c, ← e, decide_eq_false c2]; rfl
variable {ks : List (Int × Int)} (hk : ∀ x ∈ ks, Kd x)
include hk
theorem bads_w : W (m_bad_kinds ⟨ab.1, ab.2⟩ ⟨⟨PL ks⟩⟩) (· = (BL ab ks).map fun x => T3.mk x.1 x.2 (wd ab x)) := by
  unfold m_bad_kinds
  refine w_elet (w_bind (w_fold (fun (d : List (Int × Int)) (l : List (T3 Int Int Tx)) => l = (d.filter (Fb ab)).map fun x => T3.mk x.1 x.2 (wd ab x)) rfl fun d x r l e hl => ?_) fun l e => w_ok e)
  have hx : x ∈ PL ks := by show x ∈ PL ks; have e : PL ks = d ++ x :: r := e; rw [e]; simp
  obtain ⟨x1, x2, _, _⟩ := pl_mem.mp hx
  have dl : d.length ≤ 16 := by
    have e : PL ks = d ++ x :: r := e
    have := pl_len (ks := ks)
    rw [e] at this
    simp at this
    omega
  have ll : l.length ≤ 16 := by rw [hl, List.length_map]; have := List.length_filter_le (Fb ab) d; omega
  refine w_bind (pfault_w h x1 x2) fun t et => ?_
  rw [List.filter_append, List.map_append, List.filter_cons, List.filter_nil]
  by_cases hf : Fb ab x = true
  · rw [if_pos hf] at et
    subst et
    refine w_ift rfl (w_ob rfl (w_gd (sz_le (by omega)) (w_ok ?_)))
    rw [if_pos hf, hl]; rfl
  · rw [if_neg hf] at et
    subst et
    refine w_iff rfl (w_ok ?_)
    rw [if_neg hf, hl, List.map_nil, List.append_nil]
theorem sound_ok (hb : BL ab ks = []) : m_demand_sound ⟨ab.1, ab.2⟩ ⟨⟨PL ks⟩⟩ = .ok () := by
  have e := (bads_w h hk).eq
  rw [hb] at e
  unfold m_demand_sound
  rw [e]
  rfl
end
end Gn
namespace Gn
open PySem L2
section
variable {ab : Int × Int} (h : AB ab) {ks : List (Int × Int)} (hk : ∀ x ∈ ks, Kd x) (hl : ks.length ≤ 100)
include h hk hl
theorem lead_top {m : Int} {xs : List (Int × Int)} (hsub : ∀ x ∈ xs, 1 ≤ x.1 ∧ x.1 ≤ pk ks) (ht : 1 ≤ pk ks → ∃ x ∈ xs, x.1 = pk ks) (h1 : m = 0 ∨ ∃ x ∈ xs, LD ab x.1 = m) (h2 : ∀ x ∈ xs, LD ab x.1 ≤ m) (h0 : 0 ≤ m) : m = if 1 ≤ pk ks then LD ab (pk ks) else 0 := by
  by_cases hp : 1 ≤ pk ks
  · rw [if_pos hp]
    obtain ⟨x, hx, e⟩ := ht hp
    have a := h2 x hx
    rw [e] at a
    rcases h1 with h1 | ⟨y, hy, ey⟩
    · have := ld_nn h hp; omega
    · have := ld_mono h (hsub y hy).2; omega
  · rw [if_neg hp]
    rcases h1 with h1 | ⟨y, hy, ey⟩
    · exact h1
    · have := hsub y hy; omega
theorem sight_w (hb : BL ab ks = []) : W (m_saver_sight ⟨ab.1, ab.2⟩ ⟨⟨PL ks⟩⟩) (· = ab.2 - ab.1 + (if 1 ≤ pk ks then LD ab (pk ks) else 0) + pk ks) := by
  have p1 := pk_hi hk
  unfold m_saver_sight
  refine w_bind (P := fun _ => True) ⟨(), sound_ok h hk hb, trivial⟩ fun _ _ => w_call (P := (· = ab.2 - ab.1)) (w_ok rfl) fun s es => w_call (P := (· = if 1 ≤ pk ks then LD ab (pk ks) else 0)) ?_ fun l el => w_call (ppeak_w hk) fun p ep => w_ok (by rw [es, el, ep])
  unfold m_lead_of
  refine w_gd (sz_le (by have := pl_len (ks := ks); show (PL ks).length ≤ _; omega)) (w_call (w_map (fun x => LD ab x.1) fun x hx => ?_) fun ys e => w_ok ?_)
  · obtain ⟨x1, x2, _, _⟩ := pl_mem.mp (show x ∈ PL ks from hx)
    exact w_call (plead_w h x1 (by omega)) fun t e => w_ok e
  · subst e
    dsimp only
    have hsub : ∀ x ∈ PL ks, 1 ≤ x.1 ∧ x.1 ≤ pk ks := fun x hx => by
      obtain ⟨x1, x2, x3, x4⟩ := pl_mem.mp hx
      refine ⟨x1, ?_⟩
      apply Classical.byContradiction
      intro z
      rw [lo_top hk (show pk ks < x.1 by omega), lo_top hk (show pk ks < x.1 + 1 by omega)] at x3
      omega
    have ht : 1 ≤ pk ks → ∃ x ∈ PL ks, x.1 = pk ks := fun hp => by
      obtain ⟨ys, e⟩ := pl_top hk hp
      exact ⟨_, by rw [e]; exact List.mem_append_right _ List.mem_cons_self, rfl⟩
    by_cases hne : (PL ks).map (fun x => LD ab x.1) = []
    · rw [hne]
      have hn : PL ks = [] := List.map_eq_nil_iff.mp hne
      have : ¬ 1 ≤ pk ks := fun hp => by
        obtain ⟨x, hx, _⟩ := ht hp
        rw [hn] at hx; cases hx
      rw [if_neg this]; rfl
    · obtain ⟨m, em, hm, hle⟩ := max_some hne
      rw [em]
      obtain ⟨y, hy, ey⟩ := List.mem_map.mp hm
      exact lead_top h hk hl hsub ht (.inr ⟨y, hy, ey⟩) (fun x hx => hle _ (List.mem_map_of_mem hx)) (by have := ld_nn h (hsub y hy).1; show 0 ≤ m; omega)
omit hl in
theorem sound_of (hz : ∀ x ∈ ks, Kz ab x) : BL ab ks = [] := by
  refine List.filter_eq_nil_iff.mpr fun x hx => ?_
  obtain ⟨x1, x2, x3, x4⟩ := pl_mem.mp hx
  have hs := lo_ls (w := x.1) hk
  have hi := ls_hi hk (lo_ls (w := x.1 + 1) hk)
  have lt : lo ks x.1 < 121 := by omega
  obtain ⟨y, hy, cy, ey⟩ : ∃ y ∈ ks, x.1 ≤ y.1 ∧ y.2 = lo ks x.1 := by
    rcases hs.2 with ⟨z, _⟩ | z
    · omega
    · exact z
  have kz := hz y hy
  have := kz.sh
  have := kz.ld
  have := ld_mono h cy
  unfold Fb
  rw [Bool.or_eq_true, not_or, decide_eq_true_iff, decide_eq_true_iff]
  omega
end
def getb (F : List Bool) (i : Int) : Bool := F.getD i.toNat false
theorem any_cut {F : List Bool} {lo hi : Int} (h0 : 0 ≤ lo) (h1 : 0 ≤ hi) : (cutL F (some lo) (some hi)).any id = true ↔ ∃ i : Int, lo ≤ i ∧ i < hi ∧ getb F i = true := by
  rw [cut_both h0 h1, List.any_eq_true]
  constructor
  · rintro ⟨x, hx, hx2⟩
    have hx2 : x = true := hx2
    subst hx2
    obtain ⟨j, hj⟩ := List.getElem?_of_mem hx
    rw [List.getElem?_drop] at hj
    have hl := (List.getElem?_eq_some_iff.mp hj).1
    rw [List.length_take] at hl
    rw [List.getElem?_take, if_pos (by omega)] at hj
    refine ⟨((lo.toNat + j : Nat) : Int), by omega, by omega, ?_⟩
    unfold getb
    rw [Int.toNat_natCast, List.getD_eq_getElem?_getD, hj]; rfl
  · rintro ⟨i, i1, i2, hg⟩
    unfold getb at hg
    rw [List.getD_eq_getElem?_getD] at hg
    cases e : F[i.toNat]? with
    | none => rw [e] at hg; cases hg
    | some b =>
      rw [e] at hg
      have hg : b = true := hg
      subst hg
      refine ⟨true, ?_, rfl⟩
      have : ((F.take hi.toNat).drop lo.toNat)[i.toNat - lo.toNat]? = some true := by
        rw [List.getElem?_drop, List.getElem?_take, if_pos (by omega), show lo.toNat + (i.toNat - lo.toNat) = i.toNat from by omega]; exact e
      exact List.mem_of_getElem? this
end Gn
namespace Gn
open PySem L2
/-! ### live hours -/
structure Dr (t : Tx) (h : Int) : Prop where
  one : 1 ≤ h
  le : h ≤ t.length
  dry : gi t (h - 1) = 46
inductive Lv (a b : Int) (t : Tx) : Int → Prop
  | fin {h : Int} : Dr t h → (t.length : Int) < h + b → Lv a b t h
  | go {h y : Int} : Dr t h → h + a ≤ y → y ≤ h + b → Lv a b t y → Lv a b t h
theorem Lv.dr {a b : Int} {t : Tx} {h : Int} (l : Lv a b t h) : Dr t h := by cases l <;> assumption
/-- the weather is of a sound climate -/
def Cl (ab : Int × Int) (pm : Int) (t : Tx) : Prop := ∀ e w : Int, 1 ≤ w → Dr t e → e + w ≤ t.length → (∀ x, e < x → x ≤ e + w → ¬ Dr t x) → w ≤ pm ∧ ∃ r, LD ab w + 1 ≤ r ∧ ∀ x, e - r < x → x ≤ e → Dr t x
section
variable {a b : Int} {t : Tx}
theorem run_end : ∀ (m : Nat) (s : Int), (t.length - s).toNat = m → Dr t s → ∃ e, s ≤ e ∧ e ≤ t.length ∧ (∀ x, s ≤ x → x ≤ e → Dr t x) ∧ ¬ Dr t (e + 1)
  | 0, s, hm, d => ⟨s, Int.le_refl _, d.le, fun x h1 h2 => by have : x = s := by omega
                                                              rw [this]; exact d, fun z => by have := z.le; have := d.le; omega⟩
  | m + 1, s, hm, d => by
    by_cases h : Dr t (s + 1)
    · obtain ⟨e, e1, e2, e3, e4⟩ := run_end m (s + 1) (by omega) h
      refine ⟨e, by omega, e2, fun x h1 h2 => ?_, e4⟩
      by_cases hx : x = s
      · rw [hx]; exact d
      · exact e3 x (by omega) h2
    · exact ⟨s, Int.le_refl _, d.le, fun x h1 h2 => by have : x = s := by omega
                                                       rw [this]; exact d, h⟩
theorem spell_end : ∀ (m : Nat) (e : Int), (t.length - e).toNat = m → e + 1 ≤ t.length → ¬ Dr t (e + 1) → ∃ w, 1 ≤ w ∧ e + w ≤ t.length ∧ (∀ x, e < x → x ≤ e + w → ¬ Dr t x) ∧ (e + w = t.length ∨ Dr t (e + w + 1))
  | 0, e, hm, h1, _ => by omega
  | m + 1, e, hm, h1, h2 => by
    by_cases hn : e + 1 = t.length
    · exact ⟨1, Int.le_refl _, h1, fun x x1 x2 => by have : x = e + 1 := by omega
                                                     rw [this]; exact h2, .inl hn⟩
    · by_cases h : Dr t (e + 1 + 1)
      · exact ⟨1, Int.le_refl _, h1, fun x x1 x2 => by have : x = e + 1 := by omega
                                                       rw [this]; exact h2, .inr h⟩
      · obtain ⟨w, w1, w2, w3, w4⟩ := spell_end m (e + 1) (by omega) (by omega) h
        refine ⟨w + 1, by omega, by omega, fun x x1 x2 => ?_, ?_⟩
        · by_cases hx : x = e + 1
          · rw [hx]; exact h2
          · exact w3 x (by omega) (by omega)
        · rcases w4 with w4 | w4
          · left; omega
          · right
            rw [show e + (w + 1) + 1 = e + 1 + w + 1 by omega]; exact w4
/-- steps within a run -/
theorem chain : ∀ (q : Nat) {x v : Int}, 1 ≤ q → 0 ≤ a → a ≤ b → (q : Int) * a ≤ v → v ≤ (q : Int) * b → Dr t x → (∀ y, x + a ≤ y → y ≤ x + v → Dr t y) → Lv a b t (x + v) → Lv a b t x
  | 0, x, v, h1, _, _, _, _, _, _, _ => absurd h1 (by omega)
  | 1, x, v, _, _, _, h2, h3, d, _, l => .go d (by have : ((1 : Nat) : Int) * a = a := by rw [show ((1 : Nat) : Int) = 1 from rfl, Int.one_mul]
                                                   omega) (by have : ((1 : Nat) : Int) * b = b := by rw [show ((1 : Nat) : Int) = 1 from rfl, Int.one_mul]
                                                              omega) l
  | q + 2, x, v, _, a0, ab, h2, h3, d, hd, l => by
    have ea : ((q + 2 : Nat) : Int) * a = ((q + 1 : Nat) : Int) * a + a := by
      rw [show ((q + 2 : Nat) : Int) = ((q + 1 : Nat) : Int) + 1 by omega, Int.add_mul, Int.one_mul]
    have eb : ((q + 2 : Nat) : Int) * b = ((q + 1 : Nat) : Int) * b + b := by
      rw [show ((q + 2 : Nat) : Int) = ((q + 1 : Nat) : Int) + 1 by omega, Int.add_mul, Int.one_mul]
    have hab : ((q + 1 : Nat) : Int) * a ≤ ((q + 1 : Nat) : Int) * b := Int.mul_le_mul_of_nonneg_left ab (by omega)
    have q0 : 0 ≤ ((q + 1 : Nat) : Int) * a := Int.mul_nonneg (by omega) a0
    obtain ⟨s, s1, s2, s3, s4⟩ : ∃ s : Int, a ≤ s ∧ s ≤ b ∧ ((q + 1 : Nat) : Int) * a ≤ v - s ∧ v - s ≤ ((q + 1 : Nat) : Int) * b := by
      by_cases hc : v - a ≤ ((q + 1 : Nat) : Int) * b
      · exact ⟨a, Int.le_refl _, ab, by omega, hc⟩
      · exact ⟨v - ((q + 1 : Nat) : Int) * b, by omega, by omega, by omega, by omega⟩
    have l2 : Lv a b t (x + s) := chain (q + 1) (by omega) a0 ab s3 s4 (hd _ (by omega) (by omega)) (fun y y1 y2 => hd y (by omega) (by omega)) (by rw [show x + s + (v - s) = x + v by omega]; exact l)
    exact .go d (by omega) (by omega) l2
/-- the last hour before a spell that can be stepped over -/
theorem over {ab : Int × Int} (h : AB ab) {x e w : Int} (w1 : 1 ≤ w) (w2 : w ≤ ab.2 - 1) (d : Dr t x) (xe : x ≤ e) (hd : ∀ y, x + ab.1 ≤ y → y ≤ e → Dr t y) (hl : LD ab w ≤ e - x) : ∃ c, (c = x ∨ x + ab.1 ≤ c) ∧ c ≤ e ∧ e + w + 1 ≤ c + ab.2 ∧ (Lv ab.1 ab.2 t c → Lv ab.1 ab.2 t x) := by
  have a1 := h.a1
  have lt := h.lt
  by_cases h0 : e + w + 1 ≤ x + ab.2
  · exact ⟨x, .inl rfl, xe, h0, id⟩
  · have q1 : 1 ≤ up (e - x + w + 1 - ab.2) ab.2 := up_one (by omega) (by omega)
    have qlo := up_lo (w := e - x + w + 1 - ab.2) (d := ab.2) (by omega)
    have qhi := up_hi (w := e - x + w + 1 - ab.2) (d := ab.2) (by omega)
    have qa : up (e - x + w + 1 - ab.2) ab.2 * ab.1 ≤ e - x := by
      apply Classical.byContradiction
      intro z
      have e1 : up (e - x + w + 1 - ab.2) ab.2 * (ab.2 - ab.1) < w := by
        rw [Int.mul_sub]; omega
      have e2 : up (e - x + w + 1 - ab.2) ab.2 + 1 ≤ up w (ab.2 - ab.1) := up_ge (by omega) (by rw [Int.add_sub_cancel]; exact e1)
      have e3 : up (e - x + w + 1 - ab.2) ab.2 * ab.1 ≤ LD ab w := Int.mul_le_mul_of_nonneg_right (by omega) (by omega)
      omega
    generalize up (e - x + w + 1 - ab.2) ab.2 = q at *
    have hqn : ((q.toNat : Nat) : Int) = q := by omega
    have q0 : 1 * ab.1 ≤ q * ab.1 := Int.mul_le_mul_of_nonneg_right q1 (by omega)
    have qab : q * ab.1 ≤ q * ab.2 := Int.mul_le_mul_of_nonneg_left (by omega) (by omega)
    refine ⟨x + max (q * ab.1) (e - x + w + 1 - ab.2), .inr (by omega), by omega, by omega, fun l => ?_⟩
    refine chain q.toNat (v := max (q * ab.1) (e - x + w + 1 - ab.2)) (by omega) (by omega) (by omega) (by rw [hqn]; omega) (by rw [hqn]; omega) d (fun y y1 y2 => hd y y1 (by omega)) l
/-- on to the end of the told hours -/
theorem lv_end {ab : Int × Int} (h : AB ab) : ∀ (m : Nat) {x : Int}, (t.length - x).toNat = m → Dr t x → (∀ y, x + ab.1 ≤ y → y ≤ t.length → Dr t y) → Lv ab.1 ab.2 t x := by
  intro m
  induction m using Nat.strongRecOn with
  | _ m ih =>
    intro x hm d hd
    have a1 := h.a1
    have lt := h.lt
    by_cases hx : (t.length : Int) < x + ab.2
    · exact .fin d hx
    · have d2 := hd (x + ab.1) (Int.le_refl _) (by omega)
      exact .go d (Int.le_refl _) (by omega) (ih _ (by omega) rfl d2 fun y y1 y2 => hd y (by omega) y2)
end
section
variable {ab : Int × Int} (h : AB ab) {pm : Int} (hp : pm ≤ ab.2 - 1) {t : Tx} (hc : Cl ab pm t)
include h hp hc
/-- what comes behind a run -/
theorem ahead {e : Int} (d : Dr t e) (hn : ¬ Dr t (e + 1)) : e = t.length ∨ ∃ w, 1 ≤ w ∧ w ≤ pm ∧ e + w ≤ t.length ∧ (∀ x, e < x → x ≤ e + w → ¬ Dr t x) ∧ (e + w = t.length ∨ Dr t (e + w + 1)) := by
  by_cases he : e = t.length
  · exact .inl he
  · have := d.le
    obtain ⟨w, w1, w2, w3, w4⟩ := spell_end _ e rfl (by omega) hn
    exact .inr ⟨w, w1, (hc e w w1 d w2 w3).1, w2, w3, w4⟩
theorem lv_of : ∀ (m : Nat) {x e : Int}, (t.length - e).toNat = m → Dr t x → x ≤ e → Dr t e → ¬ Dr t (e + 1) → (∀ y, x + ab.1 ≤ y → y ≤ e → Dr t y) → (e = t.length ∨ ∀ w, 1 ≤ w → e + w ≤ t.length → (∀ y, e < y → y ≤ e + w → ¬ Dr t y) → LD ab w ≤ e - x) → Lv ab.1 ab.2 t x := by
  intro m
  induction m using Nat.strongRecOn with
  | _ m ih =>
    intro x e hm d xe de ne hd hl
    have a1 := h.a1
    have lt := h.lt
    rcases ahead h hp hc de ne with he | ⟨w, w1, w2, w3, w4, w5⟩
    · refine lv_end h _ rfl d fun y y1 y2 => hd y y1 (by omega)
    · have hl' : LD ab w ≤ e - x := by
        rcases hl with z | z
        · omega
        · exact z w w1 w3 w4
      obtain ⟨c, c1, c2, c3, c4⟩ := over h w1 (by omega) d xe hd hl'
      have dc : Dr t c := by
        rcases c1 with rfl | c1
        · exact d
        · exact hd c c1 c2
      refine c4 ?_
      rcases w5 with w5 | ds
      · exact .fin dc (by omega)
      · obtain ⟨e', e1, e2, e3, e4⟩ := run_end _ (e + w + 1) rfl ds
        have de' := e3 e' e1 (Int.le_refl _)
        have hl2 : e' = t.length ∨ ∀ w', 1 ≤ w' → e' + w' ≤ t.length → (∀ y, e' < y → y ≤ e' + w' → ¬ Dr t y) → LD ab w' ≤ e' - (e + w + 1) := by
          right
          intro w' u1 u2 u3
          obtain ⟨r, r1, r2⟩ := (hc e' w' u1 de' u2 u3).2
          apply Classical.byContradiction
          intro z
          exact w4 (e + w) (by omega) (Int.le_refl _) (r2 (e + w) (by omega) (by omega))
        by_cases hs : c + ab.1 ≤ e + w + 1
        · exact .go dc hs c3 (ih _ (by omega) rfl ds e1 de' e4 (fun y y1 y2 => e3 y (by omega) y2) hl2)
        · refine ih _ (by omega) rfl dc (by omega) de' e4 (fun y y1 y2 => e3 y (by omega) y2) (hl2.imp id fun z w' u1 u2 u3 => ?_)
          have := z w' u1 u2 u3
          omega
/-- over a spell from an hour before it -/
theorem lv_cross {c e w : Int} (dc : Dr t c) (ce : c ≤ e) (w1 : 1 ≤ w) (w4 : ∀ x, e < x → x ≤ e + w → ¬ Dr t x) (ds : Dr t (e + w + 1)) (c3 : e + w + 1 ≤ c + ab.2) : Lv ab.1 ab.2 t c := by
  obtain ⟨e', e1, e2, e3, e4⟩ := run_end _ (e + w + 1) rfl ds
  have de' := e3 e' e1 (Int.le_refl _)
  have a1 := h.a1
  have hl2 : e' = t.length ∨ ∀ w', 1 ≤ w' → e' + w' ≤ t.length → (∀ y, e' < y → y ≤ e' + w' → ¬ Dr t y) → LD ab w' ≤ e' - (e + w + 1) := by
    right
    intro w' u1 u2 u3
    obtain ⟨r, r1, r2⟩ := (hc e' w' u1 de' u2 u3).2
    apply Classical.byContradiction
    intro z
    exact w4 (e + w) (by omega) (Int.le_refl _) (r2 (e + w) (by omega) (by omega))
  by_cases hs : c + ab.1 ≤ e + w + 1
  · exact .go dc hs c3 (lv_of h hp hc _ rfl ds e1 de' e4 (fun y y1 y2 => e3 y (by omega) y2) hl2)
  · refine lv_of h hp hc _ rfl dc (by omega) de' e4 (fun y y1 y2 => e3 y (by omega) y2) (hl2.imp id fun z w' u1 u2 u3 => ?_)
    have := z w' u1 u2 u3
    omega
/-- hour 1 is live -/
theorem lv_one (d : Dr t 1) : Lv ab.1 ab.2 t 1 := by
  obtain ⟨e, e1, e2, e3, e4⟩ := run_end _ 1 rfl d
  have a1 := h.a1
  have de := e3 e e1 (Int.le_refl _)
  refine lv_of h hp hc _ rfl d e1 de e4 (fun y y1 y2 => e3 y (by omega) y2) (.inr fun w w1 w2 w3 => ?_)
  obtain ⟨r, r1, r2⟩ := (hc e w w1 de w2 w3).2
  apply Classical.byContradiction
  intro z
  have := (r2 0 (by omega) (by omega)).one
  omega
/-! ### what is seen -/
theorem lv_seen {u : Tx} (m0 : (u.length : Int) ≤ t.length) (hu : ∀ x, Dr u x ↔ Dr t x ∧ x ≤ u.length) {LM : Int} (hLM : ∀ w, 1 ≤ w → w ≤ pm → LD ab w ≤ LM) (LM0 : 0 ≤ LM) (pm0 : 0 ≤ pm) {x : Int} (hx : x + LM + pm ≤ u.length) : Lv ab.1 ab.2 u x ↔ Lv ab.1 ab.2 t x := by
  have a1 := h.a1
  have lt := h.lt
  constructor
  · intro l
    have dx := ((hu x).mp l.dr).1
    obtain ⟨e, e1, e2, e3, e4⟩ := run_end _ x rfl dx
    have de := e3 e e1 (Int.le_refl _)
    rcases ahead h hp hc de e4 with he | ⟨w, w1, w2, w3, w4, w5⟩
    · exact lv_end h _ rfl dx fun y y1 y2 => e3 y (by omega) (by omega)
    · have := hLM w w1 w2
      by_cases hl : LD ab w ≤ e - x
      · refine lv_of h hp hc _ rfl dx e1 de e4 (fun y y1 y2 => e3 y (by omega) y2) (.inr fun w' u1 u2 u3 => ?_)
        have : w' ≤ w := by
          apply Classical.byContradiction
          intro z
          rcases w5 with w5 | w5
          · omega
          · exact u3 _ (by omega) (by omega) w5
        have := ld_mono h this
        omega
      · have ds : Dr t (e + w + 1) := by
          rcases w5 with w5 | w5
          · omega
          · exact w5
        have cr : ∀ {y : Int}, Lv ab.1 ab.2 u y → x ≤ y → y ≤ e → Lv ab.1 ab.2 t y := by
          intro y ly
          induction ly with
          | fin d hf =>
            intro y1 y2
            exact lv_cross h hp hc ((hu _).mp d).1 y2 w1 w4 ds (by omega)
          | @go y z d g1 g2 lz ih =>
            intro y1 y2
            by_cases hz : z ≤ e
            · exact .go ((hu _).mp d).1 g1 g2 (ih (by omega) hz)
            · have dz := ((hu _).mp lz.dr).1
              have : e + w + 1 ≤ z := by
                apply Classical.byContradiction
                intro q
                exact w4 z (by omega) (by omega) dz
              exact lv_cross h hp hc ((hu _).mp d).1 y2 w1 w4 ds (by omega)
        exact cr l (Int.le_refl _) e1
  · intro l
    have : ∀ {y : Int}, Lv ab.1 ab.2 t y → y ≤ u.length → Lv ab.1 ab.2 u y := by
      intro y ly
      induction ly with
      | fin d hf => intro y1; exact .fin ((hu _).mpr ⟨d, y1⟩) (by omega)
      | @go y z d g1 g2 lz ih =>
        intro y1
        by_cases hz : z ≤ u.length
        · exact .go ((hu _).mpr ⟨d, y1⟩) g1 g2 (ih hz)
        · exact .fin ((hu _).mpr ⟨d, y1⟩) (by omega)
    exact this l (by omega)
end
end Gn
namespace Gn
open PySem L2
/-! ### rows that go on to the last live hour -/
def Nx (a b : Int) (t : Tx) (x y : Int) : Prop := Lv a b t y ∧ x + a ≤ y ∧ y ≤ x + b ∧ ∀ z, Lv a b t z → x + a ≤ z → z ≤ x + b → z ≤ y
theorem nxt_un {a b : Int} {t : Tx} {x y z : Int} (h1 : Nx a b t x y) (h2 : Nx a b t x z) : y = z := by
  have := h1.2.2.2 z h2.1 h2.2.1 h2.2.2.1
  have := h2.2.2.2 y h1.1 h1.2.1 h1.2.2.1
  omega
inductive RowF (a b : Int) (t : Tx) : Int → List Int → Prop
  | last {x : Int} : (t.length : Int) < x + b → RowF a b t x [x]
  | cons {x y : Int} {r : List Int} : x + b ≤ t.length → Nx a b t x y → RowF a b t y r → RowF a b t x (x :: r)
theorem row_un {a b : Int} {t : Tx} {x : Int} {r s : List Int} (h1 : RowF a b t x r) (h2 : RowF a b t x s) : r = s := by
  induction h1 generalizing s with
  | last h =>
    cases h2 with
    | last _ => rfl
    | cons h' _ _ => omega
  | cons h n _ ih =>
    cases h2 with
    | last h' => omega
    | cons _ n' r' =>
      have := nxt_un n n'
      subst this
      rw [ih r']
theorem row_low {a b : Int} {t : Tx} (a1 : 1 ≤ a) {x : Int} {r : List Int} (h : RowF a b t x r) : ∃ s, r = x :: s ∧ ∀ y ∈ s, x + a ≤ y := by
  induction h with
  | last _ => exact ⟨[], rfl, fun y hy => nomatch hy⟩
  | cons h n _ ih =>
    obtain ⟨s, e, hs⟩ := ih
    refine ⟨_, rfl, fun z hz => ?_⟩
    rw [e] at hz
    rcases List.mem_cons.mp hz with rfl | hz
    · exact n.2.1
    · have := hs z hz
      have := n.2.1
      omega
/-- the same coats up to q -/
theorem row_same {a b : Int} {t u : Tx} (a1 : 1 ≤ a) {q : Int} (hq : q - a + b ≤ u.length) (hl : (u.length : Int) ≤ t.length) (hv : ∀ z, z ≤ q - a + b → (Lv a b u z ↔ Lv a b t z)) {x : Int} {r s : List Int} (h1 : RowF a b t x r) (h2 : RowF a b u x s) : r.filter (fun y => decide (y ≤ q)) = s.filter (fun y => decide (y ≤ q)) := by
  induction h1 generalizing s with
  | @last x h =>
    cases h2 with
    | last _ => rfl
    | @cons _ y r' h' n hr =>
      obtain ⟨s, e, hs⟩ := row_low a1 hr
      have : r'.filter (fun y => decide (y ≤ q)) = [] := by
        rw [List.filter_eq_nil_iff]
        intro z hz
        rw [decide_eq_true_eq]
        rw [e] at hz
        have := n.2.1
        rcases List.mem_cons.mp hz with rfl | hz
        · omega
        · have := hs z hz; omega
      rw [List.filter_cons, List.filter_cons, this, List.filter_nil]
  | @cons x y r' h n hr ih =>
    by_cases hx : x ≤ q - a
    · cases h2 with
      | last h' => omega
      | @cons _ y' s' h' n' hs =>
        have : y = y' := by
          refine nxt_un n ⟨(hv y' (by have := n'.2.2.1; omega)).mp n'.1, n'.2.1, n'.2.2.1, fun z lz z1 z2 => n'.2.2.2 z ((hv z (by omega)).mpr lz) z1 z2⟩
        subst this
        rw [List.filter_cons, List.filter_cons, ih hs]
    · have nil : ∀ {v : Tx} {y : Int} {r' : List Int}, RowF a b v y r' → x + a ≤ y → r'.filter (fun y => decide (y ≤ q)) = [] := fun {v y r'} hr hy => by
        obtain ⟨s, e, hs⟩ := row_low a1 hr
        rw [List.filter_eq_nil_iff]
        intro z hz
        rw [decide_eq_true_eq]
        rw [e] at hz
        rcases List.mem_cons.mp hz with rfl | hz
        · omega
        · have := hs z hz; omega
      cases h2 with
      | last h' => rw [List.filter_cons, nil hr n.2.1, List.filter_cons, List.filter_nil]
      | @cons _ y' s' h' n' hs => rw [List.filter_cons, nil hr n.2.1, List.filter_cons, nil hs n'.2.1]
/-! ### the program's flags -/
theorem gi_getb {F : List Bool} {i : Int} : getb F i = gi F i := by unfold getb gi; rfl
section
variable {a b : Int} {t : Tx} (a1 : 1 ≤ a) (ab : a < b) (b2 : b ≤ 12) (t1 : 1 ≤ t.length) (t2 : t.length ≤ 200)
include t1 t2
theorem dryf_w : W (m_dry_flags t) fun f => (f.length : Int) = t.length + 1 ∧ gi f 0 = false ∧ ∀ h : Int, 1 ≤ h → h ≤ t.length → (gi f h = true ↔ Dr t h) := by
  unfold m_dry_flags
  refine w_gd (sz_le (by rw [List.length_map]; omega)) (w_call (w_map (fun x => decide (x = ([46] : Tx))) fun x hx => w_ok rfl) fun ys e => ?_)
  subst e
  refine w_gd (sz_le (by simp only [List.length_map, List.length_cons, List.length_nil]; omega)) (w_ok ⟨by simp only [List.length_append, List.length_map, List.length_cons, List.length_nil]; omega, rfl, fun h h1 h2 => ?_⟩)
  rw [show ([false] ++ List.map (fun x => decide (x = ([46] : Tx))) (t.map fun c => ([c] : Tx))) = false :: List.map (fun x => decide (x = ([46] : Tx))) (t.map fun c => ([c] : Tx)) from rfl, gi_cons (by omega), if_neg (by omega), gi_map (by omega) (by rw [List.length_map]; omega), gi_map (by omega) (by omega), decide_eq_true_eq]
  constructor
  · intro z
    exact ⟨h1, h2, (List.cons.inj z).1⟩
  · intro z
    rw [z.dry]
include a1 ab b2
theorem onward_w {l : Tu Int} {f : List Bool} (fl : (f.length : Int) = t.length + 1) (f0 : gi f 0 = false) (fd : ∀ h : Int, 1 ≤ h → h ≤ t.length → (gi f h = true ↔ Dr t h)) : W (m_onward_flags ⟨a, b⟩ f) fun F => (F.length : Int) = t.length + 1 ∧ gi F 0 = false ∧ ∀ h : Int, 1 ≤ h → h ≤ t.length → (gi F h = true ↔ Lv a b t h) := by
  unfold m_onward_flags m_end_flags
  have rl := rng_len' (lo := 0) (hi := (f.length : Int))
  refine w_call (w_gd (rg_le (by omega) (by omega)) (w_gd (sz_le (by omega)) (w_call (w_map (fun x => gi f x && decide ((f.length : Int) ≤ x + b)) fun x hx => ?_) fun ys e => w_ok (Q := (· = (rng 0 (f.length : Int)).map fun x => gi f x && decide ((f.length : Int) ≤ x + b))) e))) fun E eE => ?_
  · obtain ⟨x0, x1⟩ := mem_rng.mp hx
    exact w_ob (atI_gi x0 x1) (w_ok rfl)
  have El : (E.length : Int) = t.length + 1 := by rw [eE, List.length_map, rl]; omega
  have Eg : ∀ h : Int, 0 ≤ h → h ≤ t.length → gi E h = (gi f h && decide ((t.length : Int) < h + b)) := fun h h0 h1 => by
    rw [eE, gi_map h0 (by rw [rl]; omega), gi_rng h0 (by omega), Int.zero_add]
    congr 1
    exact decide_eq_decide.mpr (by omega)
  refine w_gd (rg_le (by omega) (by omega)) (w_bind (w_rngD (lo := 0) (hi := (f.length : Int) - 1) (fun x F => (F.length : Int) = t.length + 1 ∧ (∀ h : Int, x < h → h ≤ t.length → (gi F h = true ↔ Lv a b t h)) ∧ ∀ h : Int, 0 ≤ h → h ≤ x → gi F h = gi E h) (by omega) ⟨El, fun h h1 h2 => by omega, fun h _ _ => rfl⟩ fun x F x1 x2 ⟨i1, i2, i3⟩ => ?_) fun F ⟨i1, i2, i3⟩ => w_ok ⟨i1, by rw [i3 0 (by omega) (by omega), Eg 0 (by omega) (by omega), f0]; rfl, fun h h1 h2 => i2 h (by omega) h2⟩)
  have ex : (f.length : Int) - 1 = t.length := by omega
  have key : Lv a b t x ↔ (gi f x = true ∧ ((t.length : Int) < x + b ∨ ∃ y, x + a ≤ y ∧ y < x + b + 1 ∧ getb F y = true)) := by
    rw [fd x (by omega) (by omega)]
    constructor
    · intro l
      cases l with
      | fin d h => exact ⟨d, .inl h⟩
      | @go _ y d g1 g2 ly => exact ⟨d, .inr ⟨y, g1, by omega, by rw [gi_getb]; exact (i2 y (by omega) ly.dr.le).mpr ly⟩⟩
    · rintro ⟨d, h | ⟨y, y1, y2, y3⟩⟩
      · exact .fin d h
      · rw [gi_getb] at y3
        have : y ≤ t.length := by
          apply Classical.byContradiction
          intro z
          have : gi F y = default := by
            unfold gi
            rw [List.getD_eq_getElem?_getD, List.getElem?_eq_none (by omega)]; rfl
          rw [this] at y3; cases y3
        exact .go d y1 (by omega) ((i2 y (by omega) this).mp y3)
  refine w_ob (atI_gi (by omega) (by omega)) (w_ite (fun c => ?_) (fun c => w_ok ⟨i1, fun h h1 h2 => ?_, fun h h0 h1 => i3 h h0 (by omega)⟩))
  · obtain ⟨c1, c2⟩ := Bool.and_eq_true_iff.mp c
    refine w_ob (setI_gi (by omega) (by omega)) (w_ok ⟨by rw [List.length_set]; exact i1, fun h h1 h2 => ?_, fun h h0 h1 => ?_⟩)
    · rw [gi_set (by omega) (by omega) (by omega)]
      by_cases e : h = x
      · rw [if_pos e, e]
        exact ⟨fun _ => key.mpr ⟨c1, .inr ((any_cut (by omega) (by omega)).mp c2)⟩, fun _ => rfl⟩
      · rw [if_neg e]; exact i2 h (by omega) h2
    · rw [gi_set (by omega) (by omega) (by omega), if_neg (by omega)]
      exact i3 h h0 (by omega)
  · by_cases e : h = x
    · rw [e, key, i3 x (by omega) (Int.le_refl _), Eg x (by omega) (by omega), Bool.and_eq_true_iff, decide_eq_true_eq]
      constructor
      · rintro ⟨z1, z2⟩; exact ⟨z1, .inl z2⟩
      · rintro ⟨z1, z2 | z2⟩
        · exact ⟨z1, z2⟩
        · rw [z1, Bool.true_and] at c
          rw [(any_cut (by omega) (by omega)).mpr z2] at c; cases c
    · exact i2 h (by omega) h2
omit a1 ab b2 t1 t2 in
/-- the hours of the list that are flagged -/
theorem flagged_w {F : List Bool} (hF : (F.length : Int) ≤ 1000) : W (m_flagged F) (· = (rng 0 (F.length : Int)).filter fun x => gi F x) := by
  unfold m_flagged
  refine w_gd (rg_le (by omega) (by omega)) (w_gd (sz_le (by rw [rng_len']; omega)) (w_call (w_fil (fun x => if gi F x = true then some x else none) fun x hx => ?_) fun ys e => w_ok ?_))
  · obtain ⟨x1, x2⟩ := mem_rng.mp hx
    exact w_ob (atI_gi x1 x2) (w_ite (fun c => w_ok (by rw [if_pos c])) (fun c => w_ok (by rw [if_neg (by rw [c]; exact Bool.false_ne_true)])))
  · rw [e]
    generalize rng 0 (F.length : Int) = zs
    induction zs with
    | nil => rfl
    | cons z zs ih =>
      rw [List.filterMap_cons, List.filter_cons]
      by_cases h : gi F z = true
      · simp only [if_pos h, ih]
      · simp only [if_neg h, ih]
end
end Gn
namespace Gn
open PySem L2
theorem ne_gi {α : Type} {row : List α} (h : row ≠ []) : 0 < row.length := by cases row with
  | nil => exact absurd rfl h
  | cons _ _ => simp
theorem last_gi {α : Type} [Inhabited α] {row : List α} (h : row ≠ []) : atI row (-1) = some (gi row (row.length - 1)) := by
  have := ne_gi h
  unfold atI ixN
  rw [if_neg (by omega), if_pos (by omega)]
  have e : ((row.length : Int) - 1).toNat < row.length := by omega
  show row[((row.length : Int) + -1).toNat]? = _
  rw [show (row.length : Int) + -1 = row.length - 1 by omega, List.getElem?_eq_getElem e]
  unfold gi
  rw [List.getD_eq_getElem?_getD, List.getElem?_eq_getElem e]; rfl
theorem gi_last {α : Type} [Inhabited α] {row : List α} {x : α} : gi (row ++ [x]) (((row ++ [x]).length : Int) - 1) = x := by
  rw [gi_app (by rw [List.length_append, List.length_singleton]; omega), if_neg (by rw [List.length_append, List.length_singleton]; omega), List.length_append, List.length_singleton]
  rw [show ((row.length + 1 : Nat) : Int) - 1 - row.length = 0 by omega]; rfl
theorem last_max : ∀ {xs : List Int}, xs.Pairwise (· < ·) → ∀ x ∈ xs, x ≤ gi xs ((xs.length : Int) - 1) := by
  intro xs hp x hx
  obtain ⟨i, hi, e⟩ := List.getElem_of_mem hx
  have hl : xs.length - 1 < xs.length := by omega
  have eg : gi xs ((xs.length : Int) - 1) = xs[xs.length - 1] := by
    unfold gi
    rw [show ((xs.length : Int) - 1).toNat = xs.length - 1 by omega, List.getD_eq_getElem?_getD, List.getElem?_eq_getElem hl]; rfl
  rw [eg, ← e]
  by_cases h : i = xs.length - 1
  · subst h; exact Int.le_refl _
  · exact Int.le_of_lt (List.pairwise_iff_getElem.mp hp i (xs.length - 1) hi hl (by omega))
theorem rng_up {lo hi : Int} : (rng lo hi).Pairwise (· < ·) := rng_pair
inductive Rc (a b : Int) (t : Tx) : Int → Prop
  | one : Rc a b t 1
  | step {x y : Int} : Rc a b t x → x + a ≤ y → y ≤ x + b → Dr t y → Rc a b t y
section
variable {ab : Int × Int} (h : AB ab) {t : Tx} {ls : List Int} (st : Sky t)
theorem Rc.pos {t : Tx} {a b : Int} (a1 : 1 ≤ a) {x : Int} (r : Rc a b t x) : 1 ≤ x := by
  induction r with
  | one => exact Int.le_refl _
  | step _ h1 _ _ ih => omega
theorem rc_end {t : Tx} {a b : Int} {x : Int} (l : Lv a b t x) (r : Rc a b t x) : ∃ y, Rc a b t y ∧ (t.length : Int) < y + b ∧ y ≤ t.length := by
  induction l with
  | fin d g => exact ⟨_, r, g, d.le⟩
  | go d g1 g2 ly ih => exact ih (.step r g1 g2 ly.dr)
include h st
theorem reach_w {f : List Bool} (fl : (f.length : Int) = t.length + 1) (fd : ∀ h : Int, 1 ≤ h → h ≤ t.length → (gi f h = true ↔ Dr t h)) : W (m_reach_flags ⟨ab.1, ab.2⟩ f) fun F => (F.length : Int) = t.length + 1 ∧ ∀ x : Int, x ≤ t.length → Rc ab.1 ab.2 t x → gi F x = true := by
  have t1 := st.one
  have t2 := st.most
  have a1 := h.a1
  have lt := h.lt
  have b12 := h.b12
  unfold m_reach_flags
  rw [repL_one]
  refine w_gd (rep_le1 (by omega) (by omega)) (w_elet (w_ob (setI_gi (by omega) (by rw [List.length_replicate]; omega)) (w_gd (rg_le (by omega) (by omega)) (w_bind (w_rng (fun x F => (F.length : Int) = t.length + 1 ∧ ∀ y, y < x → Rc ab.1 ab.2 t y → gi F y = true) (by omega) ⟨by rw [List.length_set, List.length_replicate]; omega, fun y y1 r => ?_⟩ fun x F x1 x2 ⟨i1, i2⟩ => ?_) fun F ⟨i1, i2⟩ => w_ok ⟨i1, fun x hx r => i2 x (by omega) r⟩))))
  · have := r.pos a1
    rw [gi_set (by omega) (by rw [List.length_replicate]; omega) (by omega), if_pos (by omega)]
  · have hrc : Rc ab.1 ab.2 t x → Dr t x ∧ ∃ y, Rc ab.1 ab.2 t y ∧ y + ab.1 ≤ x ∧ x ≤ y + ab.2 := fun r => by
      cases r with
      | one => omega
      | step r' g1 g2 d => exact ⟨d, _, r', g1, g2⟩
    refine w_ob (atI_gi (by omega) (by omega)) (w_ite (fun c => ?_) (fun c => w_ok ⟨i1, fun y y1 r => ?_⟩))
    · refine w_ob (setI_gi (by omega) (by omega)) (w_ok ⟨by rw [List.length_set]; exact i1, fun y y1 r => ?_⟩)
      have y0 := r.pos a1
      rw [gi_set (by omega) (by omega) (by omega)]
      by_cases e : y = x
      · rw [if_pos e]
        subst e
        obtain ⟨_, z, rz, g1, g2⟩ := hrc r
        have z0 := rz.pos a1
        exact (any_cut (by omega) (by omega)).mpr ⟨z, by dsimp only; omega, by dsimp only; omega, by rw [gi_getb]; exact i2 z (by omega) rz⟩
      · rw [if_neg e]; exact i2 y (by omega) r
    · by_cases e : y = x
      · subst e
        have := (fd y (by omega) (by omega)).mpr (hrc r).1
        rw [this] at c; cases c
      · exact i2 y (by omega) r
theorem kept_w (l1 : Lv ab.1 ab.2 t 1) : W (m_demand_kept ⟨ab.1, ab.2⟩ ⟨⟨ls⟩, t⟩) (· = ()) := by
  have t1 := st.one
  have t2 := st.most
  have a1 := h.a1
  have lt := h.lt
  have b12 := h.b12
  unfold m_demand_kept m_spoilt_hour m_reached
  have sg : m_Weather_signs ⟨⟨ls⟩, t⟩ = .ok t := rfl
  have hh : m_Weather_hours ⟨⟨ls⟩, t⟩ = .ok (t.length : Int) := by
    unfold m_Weather_hours
    rw [gd_t _ (sz_le (by show t.length ≤ _; omega))]
  obtain ⟨y, ry, y1, y2⟩ := rc_end l1 .one
  refine w_call (P := (· = none)) (w_call (P := fun L => ∃ F : List Bool, L = (rng 0 (F.length : Int)).filter (fun x => gi F x) ∧ (F.length : Int) = t.length + 1 ∧ gi F y = true) ?_ fun L ⟨F, eL, Fl, Fy⟩ => ?_) fun r er => by subst er; exact w_iff rfl (w_ok rfl)
  · rw [sg, opt_ok_, ob_some]
    refine w_call (dryf_w t1 t2) fun f ⟨f1, f2, f3⟩ => w_call (reach_w h st f1 f3) fun F ⟨F1, F2⟩ => w_call (flagged_w (by omega)) fun L eL => w_ok ⟨F, eL, F1, F2 y y2 ry⟩
  · have y0 := ry.pos a1
    have hy : y ∈ L := by rw [eL]; exact List.mem_filter.mpr ⟨mem_rng.mpr ⟨by omega, by omega⟩, Fy⟩
    have hm := last_max (xs := L) (by rw [eL]; exact rng_up.filter _) y hy
    refine w_ob (last_gi (fun z => by rw [z] at hy; cases hy)) (w_elet ?_)
    rw [hh, opt_ok_, ob_some]
    exact w_ift (decide_eq_true (by show (t.length : Int) < gi L _ + ab.2; omega)) (w_ok rfl)
theorem steps_w {F : List Bool} (Fl : (F.length : Int) = t.length + 1) (Fv : ∀ h : Int, 1 ≤ h → h ≤ t.length → (gi F h = true ↔ Lv ab.1 ab.2 t h)) {x : Int} (x1 : 1 ≤ x) (xb : x + ab.2 ≤ t.length) (lx : Lv ab.1 ab.2 t x) : W (m_step_hours ⟨ab.1, ab.2⟩ x F) fun L => L ≠ [] ∧ Nx ab.1 ab.2 t x (gi L ((L.length : Int) - 1)) := by
  have t1 := st.one
  have t2 := st.most
  have a1 := h.a1
  have lt := h.lt
  have b12 := h.b12
  unfold m_step_hours
  have e0 : min (x + ab.2) ((F.length : Int) - 1) = x + ab.2 := by omega
  dsimp only
  rw [e0]
  have rl := rng_len' (lo := x + ab.1) (hi := x + ab.2 + 1)
  refine w_elet (w_gd (rg_le (by omega) (by omega)) (w_gd (rg_le (by omega) (by omega)) (w_gd (sz_le (by omega)) (w_call (w_fil (fun x => if gi F x = true then some x else none) fun y hy => ?_) fun ys e => w_ok ?_))))
  · obtain ⟨y1, y2⟩ := mem_rng.mp hy
    exact w_ob (atI_gi (by omega) (by omega)) (w_ite (fun c => w_ok (by rw [if_pos c])) (fun c => w_ok (by rw [if_neg (by rw [c]; exact Bool.false_ne_true)])))
  · have e2 : ys = (rng (x + ab.1) (x + ab.2 + 1)).filter fun y => gi F y := by
      rw [e]
      generalize rng (x + ab.1) (x + ab.2 + 1) = zs
      induction zs with
      | nil => rfl
      | cons z zs ih =>
        rw [List.filterMap_cons, List.filter_cons]
        by_cases h : gi F z = true
        · simp only [if_pos h, ih]
        · simp only [if_neg h, ih]
    have mem : ∀ y, y ∈ ys ↔ x + ab.1 ≤ y ∧ y ≤ x + ab.2 ∧ Lv ab.1 ab.2 t y := fun y => by
      rw [e2, List.mem_filter, mem_rng]
      constructor
      · rintro ⟨⟨z1, z2⟩, z3⟩; exact ⟨z1, by omega, (Fv y (by omega) (by omega)).mp z3⟩
      · rintro ⟨z1, z2, z3⟩; exact ⟨⟨z1, by omega⟩, (Fv y (by omega) (by omega)).mpr z3⟩
    have ne : ys ≠ [] := fun z => by
      cases lx with
      | fin d g => omega
      | @go _ y d g1 g2 ly =>
        have := (mem y).mpr ⟨g1, g2, ly⟩
        rw [z] at this; cases this
    have hl := ne_gi ne
    obtain ⟨m1, m2, m3⟩ := (mem _).mp (gi_mem (xs := ys) (i := (ys.length : Int) - 1) (by omega) (by omega))
    exact ⟨ne, m3, m1, m2, fun z lz z1 z2 => last_max (by rw [e2]; exact rng_up.filter _) z ((mem z).mpr ⟨z1, z2, lz⟩)⟩
/-- a row that is being made -/
structure Mk (ab : Int × Int) (t : Tx) (i : Int) (row : List Int) : Prop where
  ne : row ≠ []
  len : (row.length : Int) = i + 1
  lv : Lv ab.1 ab.2 t (gi row ((row.length : Int) - 1))
  far : i + 1 ≤ gi row ((row.length : Int) - 1)
  on : ∀ r, RowF ab.1 ab.2 t (gi row ((row.length : Int) - 1)) (gi row ((row.length : Int) - 1) :: r) → RowF ab.1 ab.2 t 1 (row ++ r)
omit h st in
theorem mk_one (l1 : Lv ab.1 ab.2 t 1) : Mk ab t 0 [1] := ⟨(fun z => nomatch z), rfl, l1, Int.le_refl _, fun r hr => hr⟩
omit st in
theorem Mk.next {i : Int} {row : List Int} (m : Mk ab t i row) (hb : gi row ((row.length : Int) - 1) + ab.2 ≤ t.length) {y : Int} (hy : Nx ab.1 ab.2 t (gi row ((row.length : Int) - 1)) y) : Mk ab t (i + 1) (row ++ [y]) := by
  have a1 := h.a1
  have m2 := m.far
  have m3 := hy.2.1
  have m4 := m.len
  refine ⟨by simp, by rw [List.length_append, List.length_singleton]; omega, by rw [gi_last]; exact hy.1, by rw [gi_last]; omega, fun r hr => ?_⟩
  rw [gi_last] at hr
  rw [List.append_assoc]
  exact m.on _ (.cons hb hy hr)
theorem latest_w (l1 : Lv ab.1 ab.2 t 1) : W (m_latest ⟨ab.1, ab.2⟩ ⟨⟨ls⟩, t⟩) fun r => RowF ab.1 ab.2 t 1 r ∧ r ≠ [] ∧ r.length ≤ 300 := by
  have t1 := st.one
  have t2 := st.most
  have a1 := h.a1
  have lt := h.lt
  have b12 := h.b12
  unfold m_latest
  have sg : m_Weather_signs ⟨⟨ls⟩, t⟩ = .ok t := rfl
  have hh : m_Weather_hours ⟨⟨ls⟩, t⟩ = .ok (t.length : Int) := by
    unfold m_Weather_hours
    rw [gd_t _ (sz_le (by show t.length ≤ _; omega))]
  refine w_bind (kept_w h st l1) fun _ _ => ?_
  rw [sg, opt_ok_, ob_some, hh]
  refine w_call (dryf_w t1 t2) fun f ⟨f1, f2, f3⟩ => w_call (onward_w (l := ⟨ls⟩) a1 lt b12 t1 t2 f1 f2 f3) fun F ⟨F1, F2, F3⟩ => w_elet ?_
  rw [opt_ok_, ob_some]
  refine w_gd (rg_le (by omega) (by omega)) (w_fin (w_lrng (fun x row => Mk ab t x row) (fun row => RowF ab.1 ab.2 t 1 row ∧ row ≠ [] ∧ row.length ≤ 300) (fun _ => False) (by omega) (mk_one l1) fun x row x0 x1 m => ?_) (fun y hy => hy.elim) (fun row m => ?_) (fun row hr => w_ok hr))
  · have ml := m.len
    have mf := m.far
    refine w_ob (last_gi m.ne) (w_ob rfl (w_ifd (fun c => w_brk ⟨?_, m.ne, by omega⟩) (fun c => ?_)))
    rotate_left
    · have c : ¬ ((t.length : Int) < gi row ((row.length : Int) - 1) + ab.2) := c
      exact w_ob (last_gi m.ne) (w_call (steps_w h st F1 F3 (by omega) (by omega) m.lv) fun L ⟨L1, L2⟩ => w_ob (last_gi L1) (w_gd (sz_le (by omega)) (w_go (m.next h (by omega) L2))))
    have := m.on [] (.last c)
    rwa [List.append_nil] at this
  · have := m.far
    have := m.lv.dr.le
    omega
end
end Gn
namespace Gn
open PySem L2
section
variable {ab : Int × Int} (h : AB ab) {t : Tx} (st : Sky t)
include h st
theorem live_w : W (m_law_live ab t) fun F => (F.length : Int) = t.length + 1 ∧ ∀ h : Int, 1 ≤ h → h ≤ t.length → (gi F h = true ↔ Lv ab.1 ab.2 t h) := by
  have t1 := st.one
  have t2 := st.most
  have a1 := h.a1
  have lt := h.lt
  have b12 := h.b12
  unfold m_law_live
  have rl := rng_len' (lo := 0) (hi := (t.length : Int) + 1)
  refine w_gd (sz_le (by omega)) (w_elet (w_gd (rg_le (by omega) (by omega)) (w_gd (sz_le (by omega)) (w_call (w_map (fun _ => false) fun x _ => w_ok rfl) fun F0 e0 => w_gd (rg_le (by omega) (by omega)) (w_bind (w_rng (fun x F => (F.length : Int) = t.length + 1 ∧ (∀ y : Int, t.length - x < y → y ≤ t.length → (gi F y = true ↔ Lv ab.1 ab.2 t y)) ∧ ∀ y : Int, 0 ≤ y → y ≤ t.length - x → gi F y = false) (by omega) ⟨by rw [e0, List.length_map, rl]; omega, fun y y1 y2 => by omega, fun y y0 y1 => by rw [e0, gi_map y0 (by rw [rl]; omega)]⟩ fun x F x0 x1 ⟨i1, i2, i3⟩ => ?_) fun F ⟨i1, i2, _⟩ => w_ok ⟨i1, fun y y1 y2 => i2 y (by omega) y2⟩)))))
  have hd : ∀ c : Prop, decide (([gi t ((t.length : Int) - x - 1)] : Tx) = ([46] : Tx)) = true ↔ Dr t (t.length - x) := fun _ => by
    rw [decide_eq_true_eq]
    exact ⟨fun z => ⟨by omega, by omega, (List.cons.inj z).1⟩, fun z => by rw [z.dry]⟩
  have hd := hd True
  have setw : ∀ {v : Bool}, (v = true ↔ Lv ab.1 ab.2 t (t.length - x)) → ∀ {G : List Bool}, (G.length : Int) = t.length + 1 → (∀ y : Int, 0 ≤ y → y ≠ t.length - x → gi G y = gi F y) → gi G (t.length - x) = v → ((G.length : Int) = t.length + 1 ∧ (∀ y : Int, t.length - (x + 1) < y → y ≤ t.length → (gi G y = true ↔ Lv ab.1 ab.2 t y)) ∧ ∀ y : Int, 0 ≤ y → y ≤ t.length - (x + 1) → gi G y = false) := fun {v} hv {G} g1 g2 g3 => by
    refine ⟨g1, fun y y1 y2 => ?_, fun y y0 y1 => by rw [g2 y y0 (by omega)]; exact i3 y y0 (by omega)⟩
    by_cases e : y = t.length - x
    · rw [e, g3]; exact hv
    · rw [g2 y (by omega) e]; exact i2 y (by omega) y2
  refine w_elet (w_gd (sz_le (by omega)) (w_ob (atI_gi (by omega) (by omega)) (w_ite (fun c => ?_) (fun c => ?_))))
  · obtain ⟨c1, c2⟩ := Bool.and_eq_true_iff.mp c
    have c2 := of_decide_eq_true c2
    refine w_ob (setI_gi (by omega) (by omega)) (w_ok (setw (v := true) ⟨fun _ => .fin (hd.mp c1) (by omega), fun _ => rfl⟩ (by rw [List.length_set]; exact i1) (fun y y0 y1 => by rw [gi_set (by omega) (by omega) y0, if_neg y1]) (by rw [gi_set (by omega) (by omega) (by omega), if_pos rfl])))
  · refine w_gd (sz_le (by omega)) (w_ob (atI_gi (by omega) (by omega)) (w_ite (fun c1 => ?_) (fun c1 => w_ok (setw (v := false) ⟨fun z => (by cases z), fun l => ?_⟩ i1 (fun _ _ _ => rfl) (i3 _ (by omega) (Int.le_refl _))))))
    · rw [c1, Bool.true_and] at c
      have c := of_decide_eq_false c
      have dx := hd.mp c1
      refine w_gd (rg_le (by omega) (by omega)) (w_gd (rg_le (by omega) (by omega)) (w_bind (w_rng (fun y G => (G.length : Int) = t.length + 1 ∧ (∀ z : Int, 0 ≤ z → z ≠ t.length - x → gi G z = gi F z) ∧ (gi G (t.length - x) = true ↔ ∃ z, t.length - x + ab.1 ≤ z ∧ z < y ∧ gi F z = true)) (by omega) ⟨i1, fun _ _ _ => rfl, ⟨fun z => (by rw [i3 _ (by omega) (Int.le_refl _)] at z; cases z), fun ⟨z, z1, z2, _⟩ => by omega⟩⟩ fun y G y1 y2 ⟨g1, g2, g3⟩ => ?_) fun G ⟨g1, g2, g3⟩ => w_ok ?_))
      · refine w_ob (atI_gi (by omega) (by omega)) (w_ite (fun cy => ?_) (fun cy => w_ok ⟨g1, g2, ?_⟩))
        · refine w_ob (setI_gi (by omega) (by omega)) (w_ok ⟨by rw [List.length_set]; exact g1, fun z z0 z1 => by rw [gi_set (by omega) (by omega) z0, if_neg z1]; exact g2 z z0 z1, ⟨fun _ => ⟨y, y1, by omega, by rw [← g2 y (by omega) (by omega)]; exact cy⟩, fun _ => by rw [gi_set (by omega) (by omega) (by omega), if_pos rfl]⟩⟩)
        · rw [g3]
          constructor
          · rintro ⟨z, z1, z2, z3⟩; exact ⟨z, z1, by omega, z3⟩
          · rintro ⟨z, z1, z2, z3⟩
            by_cases e : z = y
            · rw [e, ← g2 y (by omega) (by omega), cy] at z3; cases z3
            · exact ⟨z, z1, by omega, z3⟩
      · refine setw (v := gi G (t.length - x)) ?_ g1 g2 rfl
        rw [g3]
        constructor
        · rintro ⟨z, z1, z2, z3⟩
          exact .go dx z1 (by omega) ((i2 z (by omega) (by omega)).mp z3)
        · intro l
          cases l with
          | fin d g => omega
          | @go _ y d u1 u2 ly => exact ⟨y, u1, by omega, (i2 y (by omega) ly.dr.le).mpr ly⟩
    · have := hd.mpr l.dr
      rw [this] at c1; cases c1
theorem last_row_w (l1 : Lv ab.1 ab.2 t 1) : W (m_law_last_row ab t) fun r => RowF ab.1 ab.2 t 1 r ∧ r ≠ [] ∧ r.length ≤ 300 := by
  have t1 := st.one
  have t2 := st.most
  have a1 := h.a1
  have lt := h.lt
  have b12 := h.b12
  unfold m_law_last_row
  refine w_call (live_w h st) fun F ⟨F1, F3⟩ => w_elet (w_gd (sz_le (by omega)) (w_gd (rg_le (by omega) (by omega)) (w_fin (w_lrng (fun x row => Mk ab t x row) (fun row => RowF ab.1 ab.2 t 1 row ∧ row ≠ [] ∧ row.length ≤ 300) (fun _ => False) (by omega) (mk_one l1) fun x row x0 x1 m => ?_) (fun y hy => hy.elim) (fun row m => ?_) (fun row hr => w_ok hr))))
  · have ml := m.len
    have mf := m.far
    have me := m.lv.dr.le
    refine w_ob (last_gi m.ne) (w_gd (sz_le (by omega)) (w_call (P := (· = decide ((t.length : Int) < gi row ((row.length : Int) - 1) + ab.2))) (w_ifd (fun c => w_ok (decide_eq_true c).symm) (fun c => w_ob (last_gi m.ne) (w_ob (atI_gi (by omega) (by omega)) (w_ok ?_)))) fun c ec => ?_))
    · rw [(F3 _ (by omega) me).mpr m.lv, decide_eq_false c]; rfl
    · subst ec
      refine w_ifd (fun c => w_brk ⟨?_, m.ne, by omega⟩) (fun c => ?_)
      · have := m.on [] (.last c)
        rwa [List.append_nil] at this
      · have rl := rng_len' (lo := gi row ((row.length : Int) - 1) + ab.1) (hi := gi row ((row.length : Int) - 1) + ab.2 + 1)
        refine w_ob (last_gi m.ne) (w_ob (last_gi m.ne) (w_gd (rg_le (by omega) (by omega)) (w_gd (rg_le (by omega) (by omega)) (w_gd (sz_le (by omega)) (w_call (w_fil (fun x => if gi F x = true then some x else none) fun y hy => ?_) fun ys e => ?_)))))
        · obtain ⟨y1, y2⟩ := mem_rng.mp hy
          exact w_ob (atI_gi (by omega) (by omega)) (w_ite (fun c => w_ok (by rw [if_pos c])) (fun c => w_ok (by rw [if_neg (by rw [c]; exact Bool.false_ne_true)])))
        · have mem : ∀ y, y ∈ ys ↔ gi row ((row.length : Int) - 1) + ab.1 ≤ y ∧ y ≤ gi row ((row.length : Int) - 1) + ab.2 ∧ Lv ab.1 ab.2 t y := fun y => by
            rw [e, List.mem_filterMap]
            constructor
            · rintro ⟨z, z1, z2⟩
              obtain ⟨z3, z4⟩ := mem_rng.mp z1
              by_cases g : gi F z = true
              · rw [if_pos g] at z2
                cases z2
                exact ⟨z3, by omega, (F3 y (by omega) (by omega)).mp g⟩
              · rw [if_neg g] at z2; cases z2
            · rintro ⟨z1, z2, z3⟩
              exact ⟨y, mem_rng.mpr ⟨z1, by omega⟩, by rw [if_pos ((F3 y (by omega) (by omega)).mpr z3)]⟩
          have ne : ys ≠ [] := fun z => by
            have l := m.lv
            cases l with
            | fin d g => omega
            | @go _ y d g1 g2 ly =>
              have := (mem y).mpr ⟨g1, g2, ly⟩
              rw [z] at this; cases this
          obtain ⟨y, ey, y1, y2⟩ := max_some ne
          obtain ⟨m1, m2, m3⟩ := (mem y).mp y1
          exact w_ob ey (w_gd (sz_le (by omega)) (w_go (m.next h (by omega) ⟨m3, m1, m2, fun z lz z1 z2 => y2 z ((mem z).mpr ⟨z1, z2, lz⟩)⟩)))
  · have := m.far
    have := m.lv.dr.le
    omega
end
end Gn
namespace Gn
open PySem L2
theorem fold_map {α β S : Type} {f : β → S → R S} {g : α → β} : ∀ {xs : List α} {s : S}, foldR (xs.map g) s f = foldR xs s (fun x => f (g x))
  | [], _ => rfl
  | x :: xs, s => by
    show (f (g x) s).bind (fun s => foldR (xs.map g) s f) = (f (g x) s).bind (fun s => foldR xs s fun x => f (g x))
    congr 1
    funext s
    exact fold_map
theorem dr_app {t : Tx} {c : Nat} {x : Int} : Dr (t ++ [c]) x ↔ (x ≤ t.length ∧ Dr t x) ∨ (x = t.length + 1 ∧ c = 46) := by
  constructor
  · intro d
    have h1 := d.one
    have h2 := d.le
    have h3 := d.dry
    rw [List.length_append, List.length_singleton] at h2
    rw [gi_app (by omega)] at h3
    by_cases hx : x ≤ t.length
    · rw [if_pos (by omega)] at h3
      exact .inl ⟨hx, h1, hx, h3⟩
    · rw [if_neg (by omega), show x - 1 - (t.length : Int) = 0 by omega] at h3
      exact .inr ⟨by omega, h3⟩
  · rintro (⟨h1, d⟩ | ⟨h1, h2⟩)
    · refine ⟨d.one, by rw [List.length_append, List.length_singleton]; omega, ?_⟩
      have := d.one
      rw [gi_app (by omega), if_pos (by omega)]; exact d.dry
    · refine ⟨by omega, by rw [List.length_append, List.length_singleton]; omega, ?_⟩
      rw [gi_app (by omega), if_neg (by omega), show x - 1 - (t.length : Int) = 0 by omega]; exact h2
/-- how a text ends -/
structure Stt (t : Tx) (s : Int × Int × Int) : Prop where
  sp0 : 0 ≤ s.2.1
  damp : ∀ x, t.length - s.2.1 < x → x ≤ t.length → ¬ Dr t x
  st1 : 1 ≤ s.1
  run : ∀ x, t.length - s.2.1 - s.1 < x → x ≤ t.length - s.2.1 → Dr t x
  sr : 0 < s.2.1 → s.2.2 = s.1
theorem stt_dry {t : Tx} {s : Int × Int × Int} (h : Stt t s) : Stt (t ++ [46]) (if 0 < s.2.1 then 1 else s.1 + 1, 0, s.2.2) := by
  have h1 := h.sp0
  have h2 := h.st1
  refine ⟨Int.le_refl _, fun x x1 x2 => ?_, ?_, fun x x1 x2 => dr_app.mpr ?_, fun z => absurd (show (0 : Int) < 0 from z) (by decide)⟩
  · dsimp only at x1 x2; omega
  · dsimp only; split <;> omega
  · dsimp only at x1 x2
    rw [List.length_append, List.length_singleton] at x1 x2
    by_cases hx : x = t.length + 1
    · exact .inr ⟨hx, rfl⟩
    · left
      split at x1
      · omega
      · exact ⟨by omega, h.run x (by omega) (by omega)⟩
theorem stt_damp {t : Tx} {s : Int × Int × Int} (h : Stt t s) : Stt (t ++ [35]) (s.1, s.2.1 + 1, s.1) := by
  have h1 := h.sp0
  refine ⟨by show 0 ≤ s.2.1 + 1; omega, fun x x1 x2 d => ?_, h.st1, fun x x1 x2 => dr_app.mpr (.inl ?_), fun _ => rfl⟩
  · dsimp only at x1 x2
    rw [List.length_append, List.length_singleton] at x1 x2
    rcases dr_app.mp d with ⟨z, d⟩ | ⟨_, z⟩
    · exact h.damp x (by omega) z d
    · cases z
  · dsimp only at x1 x2
    rw [List.length_append, List.length_singleton] at x1 x2
    exact ⟨by omega, h.run x (by omega) (by omega)⟩
section
variable {ab : Int × Int} (h : AB ab) {pm : Int}
theorem cl_dry {t : Tx} (c : Cl ab pm t) : Cl ab pm (t ++ [46]) := fun e w w1 d ew hd => by
  rw [List.length_append, List.length_singleton] at ew
  have hn : e + w ≤ t.length := by
    apply Classical.byContradiction
    intro z
    exact hd (e + w) (by omega) (Int.le_refl _) (dr_app.mpr (.inr ⟨by omega, rfl⟩))
  have d' : Dr t e := by
    rcases dr_app.mp d with ⟨_, d⟩ | ⟨z, _⟩
    · exact d
    · omega
  obtain ⟨p, r, r1, r2⟩ := c e w w1 d' hn fun x x1 x2 z => hd x x1 x2 (dr_app.mpr (.inl ⟨z.le, z⟩))
  exact ⟨p, r, r1, fun x x1 x2 => dr_app.mpr (.inl ⟨(r2 x x1 x2).le, r2 x x1 x2⟩)⟩
include h
theorem cl_damp {t : Tx} (c : Cl ab pm t) {s : Int × Int × Int} (st : Stt t s) {kd : Int × Int} (k1 : LD ab kd.1 < kd.2) (k2 : kd.2 ≤ s.1) (k3 : s.2.1 + 1 ≤ kd.1) (k4 : kd.1 ≤ pm) : Cl ab pm (t ++ [35]) := fun e w w1 d ew hd => by
  rw [List.length_append, List.length_singleton] at ew
  have s0 := st.sp0
  have s1 := st.st1
  have d' : Dr t e := by
    rcases dr_app.mp d with ⟨_, d⟩ | ⟨_, z⟩
    · exact d
    · cases z
  have dn := st.run (t.length - s.2.1) (by omega) (Int.le_refl _)
  by_cases hn : e + w ≤ t.length
  · obtain ⟨p, r, r1, r2⟩ := c e w w1 d' hn fun x x1 x2 z => hd x x1 x2 (dr_app.mpr (.inl ⟨z.le, z⟩))
    exact ⟨p, r, r1, fun x x1 x2 => dr_app.mpr (.inl ⟨(r2 x x1 x2).le, r2 x x1 x2⟩)⟩
  · have e1 : e = t.length - s.2.1 := by
      apply Classical.byContradiction
      intro z
      by_cases g : e < t.length - s.2.1
      · exact hd (t.length - s.2.1) g (by omega) (dr_app.mpr (.inl ⟨dn.le, dn⟩))
      · exact st.damp e (by omega) d'.le d'
    have ew : w ≤ kd.1 := by omega
    have := ld_mono h ew
    refine ⟨by omega, s.1, by omega, fun x x1 x2 => ?_⟩
    have := st.run x (by omega) (by omega)
    exact dr_app.mpr (.inl ⟨this.le, this⟩)
omit h in
theorem longest_w {ks : List (Int × Int)} {s : Int} : W (m_law_longest ks s) fun v => v = 0 ∨ ∃ kd ∈ ks, kd.2 ≤ s ∧ kd.1 = v := by
  unfold m_law_longest
  refine w_bind (w_foldM (fun v => v = 0 ∨ ∃ kd ∈ ks, kd.2 ≤ s ∧ kd.1 = v) (.inl rfl) fun x hx v hv => w_ite (fun c => w_ok (.inr ⟨x, hx, of_decide_eq_true (Bool.and_eq_true_iff.mp c).1, rfl⟩)) (fun _ => w_ok hv)) fun v hv => w_ok hv
theorem longer_w {ks : List (Int × Int)} (hz : ∀ x ∈ ks, Kz ab x ∧ x.1 ≤ pm) {p : List Int} (hp : IsPool p) {t : Tx} (sk : Sky t) (c : Cl ab pm t) {hours thick : Int} (h1 : t.length ≤ hours) (h2 : hours ≤ 200) (k1 : 1 ≤ thick) (k2 : thick ≤ 100) : W (m_law_longer_signs p ks t hours thick) fun ((u, q) : Tx × List Int) => IsPool q ∧ Sky u ∧ Cl ab pm u ∧ (u.length : Int) = hours ∧ ∃ v, u = t ++ v := by
  have t1 := sk.one
  have t2 := sk.most
  unfold m_law_longer_signs
  rw [fold_map]
  refine w_bind (P := fun s => Stt t s) ((w_fold (fun d (s : Int × Int × Int) => (d = [] ∧ s = (0, 0, 0)) ∨ (d ≠ [] ∧ Stt d s)) (.inl ⟨rfl, rfl⟩) fun d x r s e hs => ?_).mono fun s hs => ?_) fun s hs => ?_
  · obtain ⟨st, sp, sr⟩ := s
    have hx : x = 46 ∨ x = 35 := sk.all x (by rw [e]; simp)
    rcases hs with ⟨d0, s0⟩ | ⟨d1, hs⟩
    · subst d0
      cases s0
      have x46 : x = 46 := by
        have := sk.fst
        rw [e] at this
        simpa using this
      subst x46
      refine w_iff (by decide) (w_ift (by decide) (w_elet (w_ok (.inr ⟨by simp, ?_⟩))))
      refine ⟨Int.le_refl _, fun x x1 x2 => ?_, Int.le_refl _, fun x x1 x2 => ?_, fun z => absurd z (by decide)⟩
      · dsimp only at x1 x2; omega
      · dsimp only at x1 x2
        have : x = 1 := by simp at x1 x2; omega
        subst this
        exact ⟨Int.le_refl _, by simp, rfl⟩
    · have h0 := hs.sp0
      rcases hx with rfl | rfl
      · have := stt_dry hs
        dsimp only at this h0
        by_cases g : 0 < sp
        · refine w_ift (by rw [decide_eq_true g]; decide) (w_ok (.inr ⟨by simp, ?_⟩))
          rw [if_pos g] at this; exact this
        · refine w_iff (by rw [decide_eq_false g]; decide) (w_ift (by decide) (w_elet (w_ok (.inr ⟨by simp, ?_⟩))))
          rw [if_neg g] at this
          rw [show sp = 0 by omega]; exact this
      · exact w_iff (by simp) (w_iff (by decide) (w_elet (w_ok (.inr ⟨by simp, stt_damp hs⟩))))
  · rcases hs with ⟨z, _⟩ | ⟨_, z⟩
    · rw [z] at t1; simp at t1
    · exact z
  · obtain ⟨st, sp, sr⟩ := s
    dsimp only
    refine w_gd (sz_le (by omega)) (w_gd (rg_le (by omega) (by omega)) (w_bind (w_rng (fun x (s : List Int × Int × Int × Int × Tx) => IsPool s.1 ∧ Sky s.2.2.2.2 ∧ Cl ab pm s.2.2.2.2 ∧ (s.2.2.2.2.length : Int) = t.length + x ∧ (∃ v, s.2.2.2.2 = t ++ v) ∧ Stt s.2.2.2.2 (s.2.1, s.2.2.1, s.2.2.2.1)) (by omega) ⟨hp, sk, c, by dsimp only; omega, ⟨[], by simp⟩, hs⟩ fun x s x0 x1 ⟨i1, i2, i3, i4, i5, i6⟩ => ?_) fun s ⟨i1, i2, i3, i4, i5, i6⟩ => w_ok ⟨i1, i2, i3, by rw [i4]; omega, i5⟩))
    obtain ⟨q, st, sp, sr, u⟩ := s
    dsimp only at i1 i2 i3 i4 i5 i6 ⊢
    have s0 := i6.sp0
    have sr' := i6.sr
    dsimp only at s0 sr'
    obtain ⟨v, ev⟩ := i5
    have sky2 : ∀ c : Nat, (c = 46 ∨ c = 35) → Sky (u ++ [c]) := fun c hc => ⟨by simp, by rw [List.length_append, List.length_singleton]; omega, by rw [List.getElem?_append_left (by have := i2.one; omega)]; exact i2.fst, fun y hy => by
      rcases List.mem_append.mp hy with hy | hy
      · exact i2.all y hy
      · rw [List.mem_singleton.mp hy]; exact hc⟩
    refine w_call (P := fun room => 0 < room → ∃ kd ∈ ks, kd.2 ≤ st ∧ sp + 1 ≤ kd.1) (w_ifd (fun g => w_call longest_w fun v hv => w_elet (w_ok fun r0 => ?_)) (fun g => w_call longest_w fun v hv => w_ok fun r0 => ?_)) fun room hroom => ?_
    · rcases hv with hv | ⟨kd, k1, k2, k3⟩
      · omega
      · exact ⟨kd, k1, by rw [← sr' g]; exact k2, by omega⟩
    · rcases hv with hv | ⟨kd, k1, k2, k3⟩
      · omega
      · exact ⟨kd, k1, k2, by omega⟩
    refine w_call2 (P := fun ((c, q) : Bool × List Int) => IsPool q ∧ (c = true → 0 < room)) (w_ifd (fun g => w_call2 (take_w i1 (size := thick) (by omega) (by omega)) fun d q ⟨hq, _, _⟩ => w_ok ⟨hq, fun _ => g⟩) (fun g => w_ok ⟨i1, fun z => (by cases z)⟩)) fun c q2 ⟨hq2, hc⟩ => ?_
    refine w_ite (fun g => ?_) (fun g => ?_)
    · obtain ⟨kd, k1, k2, k3⟩ := hroom (hc g)
      obtain ⟨kz, kp⟩ := hz kd k1
      refine w_gd (sz_le (by show _ + 1 ≤ _; omega)) (w_elet (w_elet (w_ok ⟨hq2, sky2 35 (.inr rfl), cl_damp h i3 i6 kz.ld k2 k3 kp, by rw [List.length_append, List.length_singleton]; omega, ⟨v ++ [35], by rw [ev, List.append_assoc]⟩, stt_damp i6⟩)))
    · refine w_gd (sz_le (by show _ + 1 ≤ _; omega)) (w_elet (w_call (P := (· = if 0 < sp then 0 else st)) (w_ifd (fun g => w_ok (by rw [if_pos g])) (fun g => w_ok (by rw [if_neg g]))) fun s2 e2 => w_elet (w_ok ⟨hq2, sky2 46 (.inl rfl), cl_dry i3, by rw [List.length_append, List.length_singleton]; omega, ⟨v ++ [46], by rw [ev, List.append_assoc]⟩, ?_⟩)))
      have := stt_dry i6
      dsimp only at this ⊢
      rw [e2]
      by_cases g : 0 < sp
      · rw [if_pos g] at this ⊢; exact this
      · rw [if_neg g] at this ⊢; exact this
end
end Gn
namespace Gn
open PySem L2
theorem ok_ints {n : Nat} {l : List Int} (hl : l.length ≤ 1000000) : okD (n + 2) (ToD.d l) := by
  show okD (n + 2) (.lst (l.map ToD.d))
  refine ⟨by rw [List.length_map]; exact hl, fun y hy => ?_⟩
  obtain ⟨x, _, rfl⟩ := List.mem_map.mp hy
  trivial
theorem same_w {x : D} (h : okD 8 x) : W (m_law_same x x) (· = true) := ⟨true, same_ok (n := 8) h, rfl⟩
def LMx (ab : Int × Int) (ks : List (Int × Int)) : Int := if 1 ≤ pk ks then LD ab (pk ks) else 0
/-- a text of the drawn world that begins so -/
structure Txt1 (ab : Int × Int) (ks : List (Int × Int)) (u t : Tx) : Prop where
  sky : Sky t
  cl : Cl ab (pk ks) t
  pre : ∃ v, t = u ++ v
structure Dn (x : T5 (Int × Int) (List (Int × Int)) Int Int (List Tx)) (u : Tx) : Prop where
  ab : AB x.a
  kz : ∀ y ∈ x.b, Kz x.a y
  few : x.b.length ≤ 9
  sight : x.c = x.a.2 - x.a.1 + LMx x.a x.b + pk x.b
  q1 : 1 ≤ x.d
  q2 : x.d ≤ 300
  len : x.e.length = 4
  last : gi x.e 3 = u
  txt : ∀ t ∈ x.e, Txt1 x.a x.b u t
instance : Inhabited O_Weather := ⟨⟨⟨[]⟩, []⟩⟩
theorem sky_dot : Sky [46] := ⟨by decide, by decide, rfl, fun c hc => .inl (List.mem_singleton.mp hc)⟩
theorem cl_dot {ab : Int × Int} {pm : Int} : Cl ab pm [46] := fun e w w1 d ew _ => by
  have := d.one
  simp at ew
  omega
theorem drawn_w (s : Sc) : W (m_law_drawn s) fun x => ∃ u, Dn x u := by
  unfold m_law_drawn
  refine w_call (cell_w s 0 (by omega)) fun c0 _ => w_call (pool_w c0) fun p0 hp0 => w_call2 (take_w hp0 (size := 8) (by omega) (by omega)) fun d0 p1 ⟨hp1, _, _⟩ => ?_
  refine w_call2 (P := fun ((m, n) : Int × Int) => (m = 12 ∧ n = 40) ∨ (m = 6 ∧ n = 12)) (w_ifd (fun _ => w_ok (.inl ⟨rfl, rfl⟩)) (fun _ => w_ok (.inr ⟨rfl, rfl⟩))) fun most need hmn => ?_
  dsimp only at hmn
  refine w_call2 (ab_w hp1 (most := most) (by omega) (by omega)) fun ab p2 ⟨hp2, a1, lt, b1⟩ => ?_
  have h : AB ab := ⟨a1, lt, by omega⟩
  refine w_call2 (take_w hp2 (size := 8) (by omega) (by omega)) fun d1 p3 ⟨hp3, d10, d11⟩ => ?_
  dsimp only
  obtain ⟨many, em, m0, m1⟩ : ∃ v, atI ([(1 : Int), (2 : Int), (3 : Int), (1 : Int), (2 : Int), (0 : Int), (1 : Int), (2 : Int)]) d1 = some v ∧ 0 ≤ v ∧ v ≤ 9 := by
    refine ⟨_, atI_gi d10 (by simp only [List.length_cons, List.length_nil]; omega), ?_⟩
    have := gi_mem (xs := [(1 : Int), (2 : Int), (3 : Int), (1 : Int), (2 : Int), (0 : Int), (1 : Int), (2 : Int)]) (i := d1) d10 (by simp only [List.length_cons, List.length_nil]; omega)
    simp only [List.mem_cons, List.not_mem_nil, or_false] at this
    omega
  refine w_ob em (w_call2 (pairs_w hp3 h (need := need) (many := many) (by omega) (by omega) m0 m1) fun ks p4 ⟨hp4, kl, kz⟩ => ?_)
  dsimp only at *
  have hk : ∀ x ∈ ks, Kd x := fun x hx => (kz x hx).kd
  have pk0 := pk_nn (ks := ks)
  have pk16 := pk_hi hk
  refine w_gd (sz_le (by omega)) (w_call (w_map (fun x => LD ab x.1) fun x hx => w_call (lead_w h (hk x hx).1 (by have := (hk x hx).2.1; omega)) fun v ev => w_ok ev) fun ys ey => w_gd (sz_le (by rw [ey, List.length_map]; simp only [List.length_cons, List.length_nil]; omega)) ?_)
  obtain ⟨lm, el, lm1, lm2⟩ := max_some (xs := [(0 : Int)] ++ ys) (fun z => by simp at z)
  have lm0 : 0 ≤ lm := lm2 0 (by simp)
  have elm : lm = LMx ab ks := by
    refine lead_top h hk (by omega) (m := lm) (xs := ks) (fun x hx => ⟨(hk x hx).1, pk_ge hx⟩) (fun hp => ?_) ?_ (fun x hx => lm2 _ (by rw [ey]; exact List.mem_append_right _ (List.mem_map_of_mem hx))) lm0
    · rcases pk_at (ks := ks) with z | z
      · omega
      · exact z
    · rcases List.mem_append.mp lm1 with z | z
      · exact .inl (List.mem_singleton.mp z)
      · rw [ey] at z
        obtain ⟨x, hx, e⟩ := List.mem_map.mp z
        exact .inr ⟨x, hx, e⟩
  have lm9 : lm ≤ 468 := by
    rw [elm]; unfold LMx
    split
    · exact ld_hi h (by omega) (by omega)
    · omega
  refine w_ob el (w_call (lpeak_w (by omega)) fun pv epv => w_elet (w_call (cell_w s 1 (by omega)) fun c1 _ => w_call (pool_w c1) fun o0 ho0 => w_call2 (take_w ho0 (size := 24) (by omega) (by omega)) fun d2 o1 ⟨ho1, d20, d21⟩ => w_elet (w_call2 (take_w ho1 (size := 4) (by omega) (by omega)) fun d3 o2 ⟨ho2, d30, d31⟩ => w_elet ?_)))
  subst epv
  dsimp only
  have hzk : ∀ x ∈ ks, Kz ab x ∧ x.1 ≤ pk ks := fun x hx => ⟨kz x hx, pk_ge hx⟩
  refine w_call2 (longer_w h hzk ho2 sky_dot cl_dot (by show (1 : Int) ≤ _; omega) (by omega) (by omega) (by omega)) fun u o3 ⟨ho3, su, cu, ul, _⟩ => w_elet ?_
  dsimp only at *
  refine w_bind2 (w_rng (fun x (s : List Int × List Tx) => IsPool s.1 ∧ (s.2.length : Int) = x ∧ ∀ t ∈ s.2, Txt1 ab ks u t) (by omega) ⟨ho3, rfl, fun t ht => nomatch ht⟩ fun x s' x0 x1 ⟨i1, i2, i3⟩ => ?_) fun o4 ts ⟨_, tl, ht⟩ => ?_
  · obtain ⟨o, ts⟩ := s'
    dsimp only at *
    refine w_call2 (take_w i1 (size := 21) (by omega) (by omega)) fun d4 o5 ⟨ho5, d40, d41⟩ => ?_
    refine w_call2 (P := fun ((c, q) : Bool × List Int) => IsPool q) (w_ifd (fun _ => w_call2 (take_w ho5 (size := 2) (by omega) (by omega)) fun d5 o6 ⟨ho6, _, _⟩ => w_ok ho6) (fun _ => w_ok ho5)) fun c o6 ho6 => ?_
    refine w_call (P := fun m => 0 ≤ m ∧ m ≤ 20) (w_ite (fun _ => w_ok ⟨by omega, by omega⟩) (fun _ => w_ok ⟨by omega, by omega⟩)) fun more ⟨mo0, mo1⟩ => ?_
    refine w_call (cell_w s (2 + x) (by omega)) fun c2 _ => w_call (pool_w c2) fun f0 hf0 => w_gd (sz_le (by omega)) (w_call2 (take_w hf0 (size := 4) (by omega) (by omega)) fun d6 f1 ⟨hf1, d60, d61⟩ => ?_)
    dsimp only
    refine w_call2 (longer_w h hzk hf1 su cu (hours := (u.length : Int) + more) (by omega) (by omega) (by omega) (by omega)) fun t f2 ⟨_, st, ct, _, pt⟩ => w_gd (sz_le (by omega)) (w_ok ⟨ho6, by rw [List.length_append, List.length_singleton]; omega, fun y hy => ?_⟩)
    rcases List.mem_append.mp hy with hy | hy
    · exact i3 y hy
    · rw [List.mem_singleton.mp hy]; exact ⟨st, ct, pt⟩
  · dsimp only at *
    refine w_gd (sz_le (by omega)) (w_gd (sz_le (by simp only [List.length_cons, List.length_nil]; omega)) (w_ok ⟨u, h, kz, kl, ?_, ?_, ?_, ?_, ?_, fun t hy => ?_⟩))
    · dsimp only; rw [elm]
    · dsimp only; omega
    · dsimp only; omega
    · dsimp only; rw [List.length_append]; simp only [List.length_cons, List.length_nil]; omega
    · dsimp only; rw [gi_app (by omega), if_neg (by omega), tl]; rfl
    · rcases List.mem_append.mp hy with hy | hy
      · exact ht t hy
      · rw [List.mem_singleton.mp hy]; exact ⟨su, cu, [], by simp⟩
theorem law_w (s : Sc) : W (m_law s) (· = true) := by
  unfold m_law
  refine w_call (drawn_w s) fun x ⟨u, Z⟩ => ?_
  have h := Z.ab
  have hk : ∀ y ∈ x.b, Kd y := fun y hy => (Z.kz y hy).kd
  have few := Z.few
  have hb := sound_of h hk Z.kz
  have len := Z.len
  have a1 := h.a1
  have lt := h.lt
  have hsp : pk x.b ≤ x.a.2 - 1 := by
    rcases pk_at (ks := x.b) with z | ⟨y, hy, e⟩
    · omega
    · have := (Z.kz y hy).sh
      omega
  refine w_bind (P := (· = ⟨x.a.1, x.a.2⟩)) ⟨_, lacq_ok h.a1 h.lt h.b12, rfl⟩ fun la ela => ?_
  subst ela
  refine w_bind (climate_w hk (by omega)) fun cl ecl => ?_
  subst ecl
  have d1 : ∀ t ∈ x.e, Lv x.a.1 x.a.2 t 1 := fun t ht => by
    have z := Z.txt t ht
    refine lv_one h hsp z.cl ⟨Int.le_refl _, by have := z.sky.one; omega, ?_⟩
    have := z.sky.fst
    unfold gi
    rw [show ((1 : Int) - 1).toNat = 0 from rfl, List.getD_eq_getElem?_getD, this]; rfl
  refine w_gd (sz_le (by omega)) (w_call (w_mapP (fun t (w : O_Weather) => ∃ ls, w = ⟨⟨ls⟩, t⟩) fun t ht => ?_) fun ws ⟨wl, hw⟩ => ?_)
  · obtain ⟨ls, els⟩ := signs_ok (Z.txt t ht).sky
    exact w_call ⟨_, els, rfl⟩ fun w ew => w_ok ⟨ls, ew.symm⟩
  refine w_gd (sz_le (by omega)) (w_call (w_mapP (fun t (r : List Int) => RowF x.a.1 x.a.2 t 1 r ∧ r ≠ [] ∧ r.length ≤ 300) fun t ht => ?_) fun rs ⟨rl, hr⟩ => ?_)
  · exact w_call (last_row_w h (Z.txt t ht).sky (d1 t ht)) fun r er => w_ok er
  have sw : W (m_saver_sight ⟨x.a.1, x.a.2⟩ ⟨⟨PL x.b⟩⟩) (· = x.c) := (sight_w h hk (by omega) hb).mono fun v ev => by rw [ev, Z.sight]; rfl
  have same_c : W (m_law_same (ToD.d x.c) (ToD.d x.c)) (· = true) := same_w (x := ToD.d x.c) trivial
  have hq1 := Z.q1
  have hq2 := Z.q2
  -- the rows by place
  have wr : ∀ k : Int, 0 ≤ k → k < 4 → ∃ ls, gi ws k = ⟨⟨ls⟩, gi x.e k⟩ := fun k k0 k1 => by
    refine hw k.toNat (gi x.e k) (gi ws k) ?_ ?_
    · unfold gi
      rw [List.getD_eq_getElem?_getD, List.getElem?_eq_getElem (by omega)]; rfl
    · unfold gi
      rw [List.getD_eq_getElem?_getD, List.getElem?_eq_getElem (by omega)]; rfl
  have rr : ∀ k : Int, 0 ≤ k → k < 4 → RowF x.a.1 x.a.2 (gi x.e k) 1 (gi rs k) ∧ gi rs k ≠ [] ∧ (gi rs k).length ≤ 300 := fun k k0 k1 => by
    refine hr k.toNat (gi x.e k) (gi rs k) ?_ ?_
    · unfold gi
      rw [List.getD_eq_getElem?_getD, List.getElem?_eq_getElem (by omega)]; rfl
    · unfold gi
      rw [List.getD_eq_getElem?_getD, List.getElem?_eq_getElem (by omega)]; rfl
  have u3 : gi x.e 3 = u := Z.last
  have hpk := pk_nn (ks := x.b)
  have key : x.d + x.c ≤ u.length → ∀ k : Int, 0 ≤ k → k < 4 → (gi rs k).filter (fun y => decide (y ≤ x.d)) = (gi rs 3).filter (fun y => decide (y ≤ x.d)) := fun hs k k0 k1 => by
    have tk := Z.txt (gi x.e k) (gi_mem k0 (by omega))
    obtain ⟨v, ev⟩ := tk.pre
    have r3 := (rr 3 (by omega) (by omega)).1
    rw [u3] at r3
    have hsi := Z.sight
    have lm0 : 0 ≤ LMx x.a x.b := by
      unfold LMx
      split
      · exact ld_nn h (by omega)
      · exact Int.le_refl _
    refine row_same (q := x.d) h.a1 (by omega) (by rw [ev, List.length_append]; omega) (fun z hz => lv_seen h hsp tk.cl (by rw [ev, List.length_append]; omega) (fun y => ?_) (LM := LMx x.a x.b) (fun w w1 w2 => ?_) lm0 hpk (by omega)) (rr k k0 k1).1 r3
    · rw [ev]
      constructor
      · intro d
        refine ⟨⟨d.one, by have := d.le; rw [List.length_append]; omega, ?_⟩, d.le⟩
        have := d.one
        have := d.le
        rw [gi_app (by omega), if_pos (by omega)]; exact d.dry
      · rintro ⟨d, hy⟩
        refine ⟨d.one, hy, ?_⟩
        have := d.one
        have := d.dry
        rwa [gi_app (by omega), if_pos (by omega)] at this
    · unfold LMx
      rw [if_pos (by omega)]
      exact ld_mono h w2
  refine w_call sw fun v ev => ?_
  subst ev
  refine w_call same_c fun c ec => ?_
  subst ec
  refine w_iff rfl (w_fin (w_loopM (fun _ => True) (fun _ => False) (fun _ => False) trivial fun again _ _ _ => ?_) (fun y hy => hy.elim) (fun _ _ => ?_) (fun _ hs => hs.elim))
  rotate_left
  · refine w_call sw fun v ev => ?_
    subst ev
    exact w_call same_c fun c ec => w_ok ec
  refine w_elet (w_gd (rg_le (by omega) (by omega)) (w_fin (w_lrng (fun k (coats : List (List Int)) => (coats.length : Int) = k ∧ ∀ j : Int, 0 ≤ j → j < k → gi coats j = (gi rs j).filter (fun y => decide (y ≤ x.d))) (fun _ => False) (fun _ => False) (by omega) ⟨rfl, fun j j0 j1 => by omega⟩ fun k coats k0 k1 ⟨c1, c2⟩ => ?_) (fun y hy => hy.elim) (fun coats ⟨c1, c2⟩ => ?_) (fun _ hs => hs.elim)))
  · obtain ⟨ls, els⟩ := wr k k0 (by omega)
    obtain ⟨r1, r2, r3⟩ := rr k k0 (by omega)
    have tk := Z.txt (gi x.e k) (gi_mem k0 (by omega))
    refine w_ob (atI_gi k0 (by omega)) ?_
    rw [els]
    refine w_call (latest_w h tk.sky (d1 _ (gi_mem k0 (by omega)))) fun r ⟨q1, q2, q3⟩ => w_ob (atI_gi k0 (by omega)) ?_
    have er : r = gi rs k := row_un q1 r1
    subst er
    refine w_call (same_w (ok_ints (by omega))) fun c ec => ?_
    subst ec
    refine w_iff rfl (w_call (P := (· = (gi rs k).filter (fun y => decide (y ≤ x.d)))) ?_ fun L eL => ?_)
    · unfold m_law_until
      refine w_gd (sz_le (by omega)) (w_call (w_fil (fun y => if decide (y ≤ x.d) = true then some y else none) fun y _ => w_ite (fun c => w_ok (by rw [if_pos c])) (fun c => w_ok (by rw [if_neg (by rw [c]; exact Bool.false_ne_true)]))) fun ys e => w_ok ?_)
      rw [e]
      generalize gi rs k = zs
      induction zs with
      | nil => rfl
      | cons z zs ih =>
        rw [List.filterMap_cons, List.filter_cons]
        by_cases h : decide (z ≤ x.d) = true
        · simp only [if_pos h, ih]
        · simp only [if_neg h, ih]
    · subst eL
      have := ne_gi q2
      refine w_gd (sz_le (by omega)) (w_ob (setI_gi (Int.le_refl _) (by omega)) (w_gd (sz_le (by rw [List.length_set]; omega)) (w_go ⟨by rw [List.length_append, List.length_singleton]; omega, fun j j0 j1 => ?_⟩)))
      rw [gi_app j0]
      by_cases e : j < coats.length
      · rw [if_pos e]; exact c2 j j0 (by omega)
      · have : j = k := by omega
        subst this
        rw [if_neg e, show j - (coats.length : Int) = 0 by omega]; rfl
  · refine w_gd (rg_le (by omega) (by omega)) (w_fin (w_loopM (fun _ => True) (fun _ => False) (fun _ => False) trivial fun k hkk _ _ => ?_) (fun y hy => hy.elim) (fun _ _ => w_go trivial) (fun _ hs => hs.elim))
    obtain ⟨k0, k1⟩ := mem_rng.mp hkk
    have su := (Z.txt (gi x.e 3) (gi_mem (by omega) (by omega))).sky
    rw [u3] at su
    have um := su.most
    refine w_ob (last_gi (row := x.e) (fun z => by rw [z] at len; cases len)) ?_
    rw [show ((x.e.length : Int) - 1) = 3 by omega, u3]
    refine w_gd (sz_le (by omega)) (w_call (P := (· = false)) (w_ifd (fun c => ?_) (fun _ => w_ok rfl)) fun c ec => by subst ec; exact w_iff rfl (w_go trivial))
    refine w_ob (atI_gi (by omega) k1) (w_ob (atI_gi (Int.le_refl _) (by omega)) ?_)
    rw [c2 k (by omega) (by omega), c2 0 (Int.le_refl _) (by omega), key c k (by omega) (by omega), key c 0 (Int.le_refl _) (by omega)]
    refine w_call (same_w (ok_ints ?_)) fun c ec => by subst ec; exact w_ok rfl
    have := List.length_filter_le (fun y => decide (y ≤ x.d)) (gi rs 3)
    have := (rr 3 (by omega) (by omega)).2.2
    omega
theorem law_true (ns : List Int) (h : ns.length ≤ 63) : rel_law [.k (Sc.mk ns)] (.ret true []) := by
  refine ⟨Sc.mk ns, rfl, ?_⟩
  obtain ⟨b, e, hb⟩ := law_w (Sc.mk ns)
  subst hb
  rw [e]
  rfl
end Gn
namespace Gn
open PySem L2
open Rp (rp)

def caOf (C_BadKind C_BadLacquer C_BadNumber C_BadWeather C_Climate C_Lacquer C_Spoilt C_Unsound C_Weather : Addr) : Str → Addr := fun s => if s = Str.ofString "BadKind" then C_BadKind else if s = Str.ofString "BadLacquer" then C_BadLacquer else if s = Str.ofString "BadNumber" then C_BadNumber else if s = Str.ofString "BadWeather" then C_BadWeather else if s = Str.ofString "Climate" then C_Climate else if s = Str.ofString "Lacquer" then C_Lacquer else if s = Str.ofString "Spoilt" then C_Spoilt else if s = Str.ofString "Unsound" then C_Unsound else if s = Str.ofString "Weather" then C_Weather else 0
theorem all_mk {P : Program} {w : World} {K : PySem.W.Frag} {h : Heap} {mg : Str → Option Value} {fa C_BadKind C_BadLacquer C_BadNumber C_BadWeather C_Climate C_Lacquer C_Spoilt C_Unsound C_Weather f0 f1 p1 f2 f3 f4 f5 f6 f7 p7 f8 f9 f10 f11 f12 f13 f14 f15 f16 p16 f17 f18 p18 f19 f20 f21 f22 f23 f24 f25 f26 f27 f28 f29 f30 f31 f32 f33 f34 f35 f36 f37 f38 f39 f40 f41 f42 f43 f44 f45 : Addr} (X : K.In h) (G : h.Ns mainGlobals mg) (hfa : mg "law" = some (.ref fa))
    {od0 an0 od1 an1 od2 an2 od3 an3 od4 an4 od5 an5 od6 an6 od7 an7 od8 an8 od9 an9 od10 an10 od11 an11 od12 an12 od13 an13 od14 an14 od15 an15 od16 an16 od17 an17 od18 an18 od19 an19 od20 an20 od21 an21 od22 an22 od23 an23 od24 an24 od25 an25 od26 an26 od27 an27 od28 an28 od29 an29 od30 an30 od31 an31 od32 an32 od33 an33 od34 an34 od35 an35 od36 an36 od37 an37 od38 an38 od39 an39 od40 an40 od41 an41 od42 an42 od43 an43 od44 an44 od45 an45 : Option Addr} {sl0 sl1 sl2 sl3 sl4 sl5 sl6 sl7 sl8 sl9 sl10 sl11 sl12 sl13 sl14 sl15 sl16 sl17 sl18 sl19 sl20 sl21 sl22 sl23 sl24 sl25 sl26 sl27 sl28 sl29 sl30 sl31 sl32 sl33 sl34 sl35 sl36 sl37 sl38 sl39 sl40 sl41 sl42 sl43 sl44 sl45 : Array (Option Value)} {oc0 kV0 dc0 pm0 ct0 cd0 oc1 kV1 dc1 pm1 ct1 cd1 oc2 kV2 dc2 pm2 ct2 cd2 oc3 kV3 dc3 pm3 ct3 cd3 oc4 kV4 dc4 pm4 ct4 cd4 oc5 kV5 dc5 pm5 ct5 cd5 oc6 kV6 dc6 pm6 ct6 cd6 oc7 kV7 dc7 pm7 ct7 cd7 oc8 kV8 dc8 pm8 ct8 cd8 oc9 kV9 dc9 pm9 ct9 cd9 oc10 kV10 dc10 pm10 ct10 cd10 oc11 kV11 dc11 pm11 ct11 cd11 oc12 kV12 dc12 pm12 ct12 oc13 kV13 dc13 pm13 ct13 cd13 oc14 kV14 dc14 pm14 ct14 cd14 oc15 kV15 dc15 pm15 ct15 cd15 oc16 kV16 dc16 pm16 ct16 cd16 oc17 kV17 dc17 pm17 ct17 cd17 oc18 kV18 dc18 pm18 ct18 cd18 oc19 kV19 dc19 pm19 ct19 cd19 oc20 kV20 dc20 pm20 ct20 cd20 oc21 kV21 dc21 pm21 ct21 cd21 oc22 kV22 dc22 pm22 ct22 cd22 oc23 kV23 dc23 pm23 ct23 cd23 oc24 kV24 dc24 pm24 ct24 cd24 oc25 kV25 dc25 pm25 ct25 cd25 oc26 kV26 dc26 pm26 ct26 oc27 kV27 dc27 pm27 ct27 cd27 oc28 kV28 dc28 pm28 ct28 cd28 oc29 kV29 dc29 pm29 ct29 cd29 oc30 kV30 dc30 pm30 ct30 cd30 oc31 kV31 dc31 pm31 ct31 cd31 oc32 kV32 dc32 pm32 ct32 cd32 oc33 kV33 dc33 pm33 ct33 cd33 oc34 kV34 dc34 pm34 ct34 cd34 oc35 kV35 dc35 pm35 ct35 cd35 oc36 kV36 dc36 pm36 ct36 cd36 oc37 kV37 dc37 pm37 ct37 cd37 oc38 kV38 dc38 pm38 ct38 cd38 oc39 kV39 dc39 pm39 ct39 cd39 oc40 kV40 dc40 pm40 ct40 cd40 oc41 kV41 dc41 pm41 ct41 cd41 oc42 kV42 dc42 pm42 ct42 cd42 oc43 kV43 dc43 pm43 ct43 cd43 oc44 kV44 dc44 pm44 ct44 cd44 oc45 kV45 dc45 pm45 ct45 cd45 : Value}
    {tf12 tf26 t_Lacquer_MOST tv_BOTH_SIGNS tv_LONGEST_RUN tv_LONGEST_SPELL tv_MOST_HOURS tv_MOST_KINDS : Tok}
    {cda12 cc12 : Addr} {ccl12 cl12 : Value} {cdd12 cld12 : Option Addr} {vs12 : Array Value} {ccs12 csl12 : Array (Option Value)} {file12 : Str}
    {cda26 cc26 : Addr} {ccl26 cl26 : Value} {cdd26 cld26 : Option Addr} {vs26 : Array Value} {ccs26 csl26 : Array (Option Value)} {file26 : Str}
    {rest1 rest7 rest16 rest18 : List Value}
    (a_BadKind : PySem.W.nsIn K mainGlobals "BadKind" = some (some (.ref C_BadKind)))
    (x_BadKind : PySem.W.excIn K C_BadKind [.type "ValueError", .type "Exception", .type "BaseException", .type "object"] "ValueError.__new__" = true)
    (kp_BadKind : PySem.W.keepIn K (.ref C_BadKind) = true)
    (s_BadKind : PySem.W.subIn K (.ref C_BadKind) (.type "BaseException") = some true)
    (t_BadKind : PySem.W.typeIn K (.ref C_BadKind) = some (.type "type"))
    (a_BadLacquer : PySem.W.nsIn K mainGlobals "BadLacquer" = some (some (.ref C_BadLacquer)))
    (x_BadLacquer : PySem.W.excIn K C_BadLacquer [.type "ValueError", .type "Exception", .type "BaseException", .type "object"] "ValueError.__new__" = true)
    (kp_BadLacquer : PySem.W.keepIn K (.ref C_BadLacquer) = true)
    (s_BadLacquer : PySem.W.subIn K (.ref C_BadLacquer) (.type "BaseException") = some true)
    (t_BadLacquer : PySem.W.typeIn K (.ref C_BadLacquer) = some (.type "type"))
    (a_BadNumber : PySem.W.nsIn K mainGlobals "BadNumber" = some (some (.ref C_BadNumber)))
    (x_BadNumber : PySem.W.excIn K C_BadNumber [.type "ValueError", .type "Exception", .type "BaseException", .type "object"] "ValueError.__new__" = true)
    (kp_BadNumber : PySem.W.keepIn K (.ref C_BadNumber) = true)
    (s_BadNumber : PySem.W.subIn K (.ref C_BadNumber) (.type "BaseException") = some true)
    (t_BadNumber : PySem.W.typeIn K (.ref C_BadNumber) = some (.type "type"))
    (a_BadWeather : PySem.W.nsIn K mainGlobals "BadWeather" = some (some (.ref C_BadWeather)))
    (x_BadWeather : PySem.W.excIn K C_BadWeather [.type "ValueError", .type "Exception", .type "BaseException", .type "object"] "ValueError.__new__" = true)
    (kp_BadWeather : PySem.W.keepIn K (.ref C_BadWeather) = true)
    (s_BadWeather : PySem.W.subIn K (.ref C_BadWeather) (.type "BaseException") = some true)
    (t_BadWeather : PySem.W.typeIn K (.ref C_BadWeather) = some (.type "type"))
    (a_Climate : PySem.W.nsIn K mainGlobals "Climate" = some (some (.ref C_Climate)))
    (pg_Climate : PySem.W.plainGet K C_Climate Str.empty = true)
    (hd_Climate : PySem.W.hasDictIn K C_Climate = true)
    (po_Climate : PySem.W.plainOver K C_Climate = true)
    (sa_Climate : PySem.W.findIn K (.ref C_Climate) "__setattr__" = some (some (.builtin "object.__setattr__")))
    (na_Climate_f_kinds : PySem.W.findIn K (.ref C_Climate) "kinds" = some none)
    (mk_Climate : PySem.W.makesIn K C_Climate = true)
    (kc_Climate : PySem.W.keepIn K (.ref C_Climate) = true)
    (a_Lacquer : PySem.W.nsIn K mainGlobals "Lacquer" = some (some (.ref C_Lacquer)))
    (pg_Lacquer : PySem.W.plainGet K C_Lacquer Str.empty = true)
    (hd_Lacquer : PySem.W.hasDictIn K C_Lacquer = true)
    (po_Lacquer : PySem.W.plainOver K C_Lacquer = true)
    (sa_Lacquer : PySem.W.findIn K (.ref C_Lacquer) "__setattr__" = some (some (.builtin "object.__setattr__")))
    (na_Lacquer_f_a : PySem.W.findIn K (.ref C_Lacquer) "a" = some none)
    (na_Lacquer_f_b : PySem.W.findIn K (.ref C_Lacquer) "b" = some none)
    (rd_Lacquer : PySem.W.readsIn K C_Lacquer (.type "type") = true)
    (ga_Lacquer : PySem.W.specialIn K (.ref C_Lacquer) "__getattribute__" = some (some (.builtin "type.__getattribute__")))
    (cv_Lacquer_MOST : PySem.W.findCls K (.ref C_Lacquer) (.type "type") "MOST" = some (.val (.int (12) t_Lacquer_MOST)))
    (mk_Lacquer : PySem.W.makesIn K C_Lacquer = true)
    (kc_Lacquer : PySem.W.keepIn K (.ref C_Lacquer) = true)
    (a_Spoilt : PySem.W.nsIn K mainGlobals "Spoilt" = some (some (.ref C_Spoilt)))
    (q_Spoilt : PySem.W.excInitIn K C_Spoilt [.type "ValueError", .type "Exception", .type "BaseException", .type "object"] "ValueError.__new__" = true)
    (sa_Spoilt : PySem.W.findIn K (.ref C_Spoilt) "__setattr__" = some (some (.builtin "object.__setattr__")))
    (up_Spoilt : PySem.W.ks_superIn K C_Spoilt C_Spoilt "__init__" = some (some (.builtin "ValueError.__init__")))
    (sb_Spoilt : PySem.W.subIn K (.ref C_Spoilt) (.type "ValueError") = some true)
    (sf_Spoilt : PySem.W.mroIn K C_Spoilt (.ref C_Spoilt) = some true)
    (nx_Spoilt : PySem.W.findIn K (.ref C_Spoilt) "hour" = some none)
    (kp_Spoilt : PySem.W.keepIn K (.ref C_Spoilt) = true)
    (s_Spoilt : PySem.W.subIn K (.ref C_Spoilt) (.type "BaseException") = some true)
    (t_Spoilt : PySem.W.typeIn K (.ref C_Spoilt) = some (.type "type"))
    (hd_Spoilt : PySem.W.hasDictIn K C_Spoilt = true)
    (a_Unsound : PySem.W.nsIn K mainGlobals "Unsound" = some (some (.ref C_Unsound)))
    (q_Unsound : PySem.W.excInitIn K C_Unsound [.type "ValueError", .type "Exception", .type "BaseException", .type "object"] "ValueError.__new__" = true)
    (sa_Unsound : PySem.W.findIn K (.ref C_Unsound) "__setattr__" = some (some (.builtin "object.__setattr__")))
    (up_Unsound : PySem.W.ks_superIn K C_Unsound C_Unsound "__init__" = some (some (.builtin "ValueError.__init__")))
    (sb_Unsound : PySem.W.subIn K (.ref C_Unsound) (.type "ValueError") = some true)
    (sf_Unsound : PySem.W.mroIn K C_Unsound (.ref C_Unsound) = some true)
    (nx_Unsound : PySem.W.findIn K (.ref C_Unsound) "kind" = some none)
    (kp_Unsound : PySem.W.keepIn K (.ref C_Unsound) = true)
    (s_Unsound : PySem.W.subIn K (.ref C_Unsound) (.type "BaseException") = some true)
    (t_Unsound : PySem.W.typeIn K (.ref C_Unsound) = some (.type "type"))
    (hd_Unsound : PySem.W.hasDictIn K C_Unsound = true)
    (a_Weather : PySem.W.nsIn K mainGlobals "Weather" = some (some (.ref C_Weather)))
    (pg_Weather : PySem.W.plainGet K C_Weather Str.empty = true)
    (hd_Weather : PySem.W.hasDictIn K C_Weather = true)
    (po_Weather : PySem.W.plainOver K C_Weather = true)
    (sa_Weather : PySem.W.findIn K (.ref C_Weather) "__setattr__" = some (some (.builtin "object.__setattr__")))
    (na_Weather_f_signs : PySem.W.findIn K (.ref C_Weather) "_signs" = some none)
    (na_Weather_f_lengths : PySem.W.findIn K (.ref C_Weather) "lengths" = some none)
    (rd_Weather : PySem.W.readsIn K C_Weather (.type "type") = true)
    (ga_Weather : PySem.W.specialIn K (.ref C_Weather) "__getattribute__" = some (some (.builtin "type.__getattribute__")))
    (mk_Weather : PySem.W.makesIn K C_Weather = true)
    (kc_Weather : PySem.W.keepIn K (.ref C_Weather) = true)
    (th_ : PySem.W.nsIn K PySem.cStatics "thirdparty.any" = some none)
    (tp_ : (P.main.scope.names.lookup ("super" : Str)).isSome = false)
    (a0 : PySem.W.findIn K (.ref C_Lacquer) "__init__" = some (some (.ref f0)))
    (i0 : PySem.W.isFn K (.ref f0) = true)
    (l0 : K.lookup f0 = some ⟨oc0, od0, .func (PySem.W.fnOf "__init__" "Lacquer.__init__" (defArgs s_Lacquer___init__) (defBody s_Lacquer___init__) (defScope s_Lacquer___init__) .none kV0 dc0 pm0 an0 cd0 ct0), sl0⟩)
    (c0 : PySem.W.codeIn K cd0 "Lacquer.__init__" = true)
    (k0 : PySem.W.keepIn K (.ref f0) = true)
    (a1 : PySem.W.findIn K (.ref C_Lacquer) "slack" = some (some (.ref p1)))
    (g1 : PySem.W.specialIn K (.ref p1) "__get__" = some (some (.builtin "property.__get__")))
    (t1 : PySem.W.takesIn K (.ref p1) = some true)
    (r1 : PySem.W.recIn K p1 "property" = some (.ref f1 :: rest1))
    (l1 : K.lookup f1 = some ⟨oc1, od1, .func (PySem.W.fnOf "slack" "Lacquer.slack" (defArgs s_Lacquer_slack) (defBody s_Lacquer_slack) (defScope s_Lacquer_slack) .none kV1 dc1 pm1 an1 cd1 ct1), sl1⟩)
    (c1 : PySem.W.codeIn K cd1 "Lacquer.slack" = true)
    (k1 : PySem.W.keepIn K (.ref f1) = true)
    (a2 : PySem.W.findIn K (.ref C_Lacquer) "spans" = some (some (.ref f2)))
    (i2 : PySem.W.isFn K (.ref f2) = true)
    (l2 : K.lookup f2 = some ⟨oc2, od2, .func (PySem.W.fnOf "spans" "Lacquer.spans" (defArgs s_Lacquer_spans) (defBody s_Lacquer_spans) (defScope s_Lacquer_spans) .none kV2 dc2 pm2 an2 cd2 ct2), sl2⟩)
    (c2 : PySem.W.codeIn K cd2 "Lacquer.spans" = true)
    (k2 : PySem.W.keepIn K (.ref f2) = true)
    (a3 : PySem.W.findIn K (.ref C_Lacquer) "lead" = some (some (.ref f3)))
    (i3 : PySem.W.isFn K (.ref f3) = true)
    (l3 : K.lookup f3 = some ⟨oc3, od3, .func (PySem.W.fnOf "lead" "Lacquer.lead" (defArgs s_Lacquer_lead) (defBody s_Lacquer_lead) (defScope s_Lacquer_lead) .none kV3 dc3 pm3 an3 cd3 ct3), sl3⟩)
    (c3 : PySem.W.codeIn K cd3 "Lacquer.lead" = true)
    (k3 : PySem.W.keepIn K (.ref f3) = true)
    (a4 : PySem.W.nsIn K mainGlobals "check_kind" = some (some (.ref f4)))
    (l4 : K.lookup f4 = some ⟨oc4, od4, .func (PySem.W.fnOf "check_kind" "check_kind" (defArgs s_check_kind) (defBody s_check_kind) (defScope s_check_kind) .none kV4 dc4 pm4 an4 cd4 ct4), sl4⟩)
    (c4 : PySem.W.codeIn K cd4 "check_kind" = true)
    (k4 : PySem.W.keepIn K (.ref f4) = true)
    (a5 : PySem.W.nsIn K mainGlobals "plain_list" = some (some (.ref f5)))
    (l5 : K.lookup f5 = some ⟨oc5, od5, .func (PySem.W.fnOf "plain_list" "plain_list" (defArgs s_plain_list) (defBody s_plain_list) (defScope s_plain_list) .none kV5 dc5 pm5 an5 cd5 ct5), sl5⟩)
    (c5 : PySem.W.codeIn K cd5 "plain_list" = true)
    (k5 : PySem.W.keepIn K (.ref f5) = true)
    (a6 : PySem.W.findIn K (.ref C_Climate) "__init__" = some (some (.ref f6)))
    (i6 : PySem.W.isFn K (.ref f6) = true)
    (l6 : K.lookup f6 = some ⟨oc6, od6, .func (PySem.W.fnOf "__init__" "Climate.__init__" (defArgs s_Climate___init__) (defBody s_Climate___init__) (defScope s_Climate___init__) .none kV6 dc6 pm6 an6 cd6 ct6), sl6⟩)
    (c6 : PySem.W.codeIn K cd6 "Climate.__init__" = true)
    (k6 : PySem.W.keepIn K (.ref f6) = true)
    (a7 : PySem.W.findIn K (.ref C_Climate) "peak" = some (some (.ref p7)))
    (g7 : PySem.W.specialIn K (.ref p7) "__get__" = some (some (.builtin "property.__get__")))
    (t7 : PySem.W.takesIn K (.ref p7) = some true)
    (r7 : PySem.W.recIn K p7 "property" = some (.ref f7 :: rest7))
    (l7 : K.lookup f7 = some ⟨oc7, od7, .func (PySem.W.fnOf "peak" "Climate.peak" (defArgs s_Climate_peak) (defBody s_Climate_peak) (defScope s_Climate_peak) .none kV7 dc7 pm7 an7 cd7 ct7), sl7⟩)
    (c7 : PySem.W.codeIn K cd7 "Climate.peak" = true)
    (k7 : PySem.W.keepIn K (.ref f7) = true)
    (a8 : PySem.W.nsIn K mainGlobals "fault" = some (some (.ref f8)))
    (l8 : K.lookup f8 = some ⟨oc8, od8, .func (PySem.W.fnOf "fault" "fault" (defArgs s_fault) (defBody s_fault) (defScope s_fault) .none kV8 dc8 pm8 an8 cd8 ct8), sl8⟩)
    (c8 : PySem.W.codeIn K cd8 "fault" = true)
    (k8 : PySem.W.keepIn K (.ref f8) = true)
    (a9 : PySem.W.findIn K (.ref C_Climate) "__iter__" = some (some (.ref f9)))
    (i9 : PySem.W.isFn K (.ref f9) = true)
    (l9 : K.lookup f9 = some ⟨oc9, od9, .func (PySem.W.fnOf "__iter__" "Climate.__iter__" (defArgs s_Climate___iter__) (defBody s_Climate___iter__) (defScope s_Climate___iter__) .none kV9 dc9 pm9 an9 cd9 ct9), sl9⟩)
    (c9 : PySem.W.codeIn K cd9 "Climate.__iter__" = true)
    (k9 : PySem.W.keepIn K (.ref f9) = true)
    (a10 : PySem.W.nsIn K mainGlobals "lead_of" = some (some (.ref f10)))
    (l10 : K.lookup f10 = some ⟨oc10, od10, .func (PySem.W.fnOf "lead_of" "lead_of" (defArgs s_lead_of) (defBody s_lead_of) (defScope s_lead_of) .none kV10 dc10 pm10 an10 cd10 ct10), sl10⟩)
    (c10 : PySem.W.codeIn K cd10 "lead_of" = true)
    (k10 : PySem.W.keepIn K (.ref f10) = true)
    (a11 : PySem.W.nsIn K mainGlobals "bad_kinds" = some (some (.ref f11)))
    (l11 : K.lookup f11 = some ⟨oc11, od11, .func (PySem.W.fnOf "bad_kinds" "bad_kinds" (defArgs s_bad_kinds) (defBody s_bad_kinds) (defScope s_bad_kinds) .none kV11 dc11 pm11 an11 cd11 ct11), sl11⟩)
    (c11 : PySem.W.codeIn K cd11 "bad_kinds" = true)
    (k11 : PySem.W.keepIn K (.ref f11) = true)
    (a12 : PySem.W.findIn K (.ref C_Unsound) "__init__" = some (some (.ref f12)))
    (i12 : PySem.W.isFn K (.ref f12) = true)
    (l12 : K.lookup f12 = some ⟨oc12, od12, .func (PySem.W.ksFn "__init__" "Unsound.__init__" (defArgs s_Unsound___init__) (defBody s_Unsound___init__) (defScope s_Unsound___init__) .none kV12 dc12 pm12 an12 (.ref cda12) ct12 cc12), sl12⟩)
    (c12 : PySem.W.codeIn K (.ref cda12) "Unsound.__init__" = true)
    (k12 : PySem.W.keepIn K (.ref f12) = true)
    (ti12 : PySem.W.typeIn K (.ref f12) = some (.type "function"))
    (lc12 : K.lookup cda12 = some ⟨ccl12, cdd12, .fields vs12, ccs12⟩)
    (vs_12 : vs12[2]? = some (.str file12 tf12))
    (ff12 : ((P.main.file : Str) == file12) = true)
    (lx12 : K.lookup cc12 = some ⟨cl12, cld12, .cell (some (.ref C_Unsound)), csl12⟩)
    (a13 : PySem.W.nsIn K mainGlobals "demand_sound" = some (some (.ref f13)))
    (l13 : K.lookup f13 = some ⟨oc13, od13, .func (PySem.W.fnOf "demand_sound" "demand_sound" (defArgs s_demand_sound) (defBody s_demand_sound) (defScope s_demand_sound) .none kV13 dc13 pm13 an13 cd13 ct13), sl13⟩)
    (c13 : PySem.W.codeIn K cd13 "demand_sound" = true)
    (k13 : PySem.W.keepIn K (.ref f13) = true)
    (a14 : PySem.W.nsIn K mainGlobals "saver_sight" = some (some (.ref f14)))
    (l14 : K.lookup f14 = some ⟨oc14, od14, .func (PySem.W.fnOf "saver_sight" "saver_sight" (defArgs s_saver_sight) (defBody s_saver_sight) (defScope s_saver_sight) .none kV14 dc14 pm14 an14 cd14 ct14), sl14⟩)
    (c14 : PySem.W.codeIn K cd14 "saver_sight" = true)
    (k14 : PySem.W.keepIn K (.ref f14) = true)
    (a15 : PySem.W.findIn K (.ref C_Weather) "__init__" = some (some (.ref f15)))
    (i15 : PySem.W.isFn K (.ref f15) = true)
    (l15 : K.lookup f15 = some ⟨oc15, od15, .func (PySem.W.fnOf "__init__" "Weather.__init__" (defArgs s_Weather___init__) (defBody s_Weather___init__) (defScope s_Weather___init__) .none kV15 dc15 pm15 an15 cd15 ct15), sl15⟩)
    (c15 : PySem.W.codeIn K cd15 "Weather.__init__" = true)
    (k15 : PySem.W.keepIn K (.ref f15) = true)
    (a16 : PySem.W.findIn K (.ref C_Weather) "hours" = some (some (.ref p16)))
    (g16 : PySem.W.specialIn K (.ref p16) "__get__" = some (some (.builtin "property.__get__")))
    (t16 : PySem.W.takesIn K (.ref p16) = some true)
    (r16 : PySem.W.recIn K p16 "property" = some (.ref f16 :: rest16))
    (l16 : K.lookup f16 = some ⟨oc16, od16, .func (PySem.W.fnOf "hours" "Weather.hours" (defArgs s_Weather_hours) (defBody s_Weather_hours) (defScope s_Weather_hours) .none kV16 dc16 pm16 an16 cd16 ct16), sl16⟩)
    (c16 : PySem.W.codeIn K cd16 "Weather.hours" = true)
    (k16 : PySem.W.keepIn K (.ref f16) = true)
    (a17 : PySem.W.findIn K (.ref C_Weather) "signs" = some (some (.ref f17)))
    (i17 : PySem.W.isFn K (.ref f17) = true)
    (l17 : K.lookup f17 = some ⟨oc17, od17, .func (PySem.W.fnOf "signs" "Weather.signs" (defArgs s_Weather_signs) (defBody s_Weather_signs) (defScope s_Weather_signs) .none kV17 dc17 pm17 an17 cd17 ct17), sl17⟩)
    (c17 : PySem.W.codeIn K cd17 "Weather.signs" = true)
    (k17 : PySem.W.keepIn K (.ref f17) = true)
    (a18 : PySem.W.findCls K (.ref C_Weather) (.type "type") "of_signs" = some (.get (.builtin "staticmethod.__get__") (.ref p18) .none (.ref C_Weather)))
    (r18 : PySem.W.recIn K p18 "staticmethod" = some (.ref f18 :: rest18))
    (l18 : K.lookup f18 = some ⟨oc18, od18, .func (PySem.W.fnOf "of_signs" "Weather.of_signs" (defArgs s_Weather_of_signs) (defBody s_Weather_of_signs) (defScope s_Weather_of_signs) .none kV18 dc18 pm18 an18 cd18 ct18), sl18⟩)
    (c18 : PySem.W.codeIn K cd18 "Weather.of_signs" = true)
    (k18 : PySem.W.keepIn K (.ref f18) = true)
    (a19 : PySem.W.nsIn K mainGlobals "dry_flags" = some (some (.ref f19)))
    (l19 : K.lookup f19 = some ⟨oc19, od19, .func (PySem.W.fnOf "dry_flags" "dry_flags" (defArgs s_dry_flags) (defBody s_dry_flags) (defScope s_dry_flags) .none kV19 dc19 pm19 an19 cd19 ct19), sl19⟩)
    (c19 : PySem.W.codeIn K cd19 "dry_flags" = true)
    (k19 : PySem.W.keepIn K (.ref f19) = true)
    (a20 : PySem.W.nsIn K mainGlobals "flagged" = some (some (.ref f20)))
    (l20 : K.lookup f20 = some ⟨oc20, od20, .func (PySem.W.fnOf "flagged" "flagged" (defArgs s_flagged) (defBody s_flagged) (defScope s_flagged) .none kV20 dc20 pm20 an20 cd20 ct20), sl20⟩)
    (c20 : PySem.W.codeIn K cd20 "flagged" = true)
    (k20 : PySem.W.keepIn K (.ref f20) = true)
    (a21 : PySem.W.nsIn K mainGlobals "reach_flags" = some (some (.ref f21)))
    (l21 : K.lookup f21 = some ⟨oc21, od21, .func (PySem.W.fnOf "reach_flags" "reach_flags" (defArgs s_reach_flags) (defBody s_reach_flags) (defScope s_reach_flags) .none kV21 dc21 pm21 an21 cd21 ct21), sl21⟩)
    (c21 : PySem.W.codeIn K cd21 "reach_flags" = true)
    (k21 : PySem.W.keepIn K (.ref f21) = true)
    (a22 : PySem.W.nsIn K mainGlobals "end_flags" = some (some (.ref f22)))
    (l22 : K.lookup f22 = some ⟨oc22, od22, .func (PySem.W.fnOf "end_flags" "end_flags" (defArgs s_end_flags) (defBody s_end_flags) (defScope s_end_flags) .none kV22 dc22 pm22 an22 cd22 ct22), sl22⟩)
    (c22 : PySem.W.codeIn K cd22 "end_flags" = true)
    (k22 : PySem.W.keepIn K (.ref f22) = true)
    (a23 : PySem.W.nsIn K mainGlobals "onward_flags" = some (some (.ref f23)))
    (l23 : K.lookup f23 = some ⟨oc23, od23, .func (PySem.W.fnOf "onward_flags" "onward_flags" (defArgs s_onward_flags) (defBody s_onward_flags) (defScope s_onward_flags) .none kV23 dc23 pm23 an23 cd23 ct23), sl23⟩)
    (c23 : PySem.W.codeIn K cd23 "onward_flags" = true)
    (k23 : PySem.W.keepIn K (.ref f23) = true)
    (a24 : PySem.W.nsIn K mainGlobals "reached" = some (some (.ref f24)))
    (l24 : K.lookup f24 = some ⟨oc24, od24, .func (PySem.W.fnOf "reached" "reached" (defArgs s_reached) (defBody s_reached) (defScope s_reached) .none kV24 dc24 pm24 an24 cd24 ct24), sl24⟩)
    (c24 : PySem.W.codeIn K cd24 "reached" = true)
    (k24 : PySem.W.keepIn K (.ref f24) = true)
    (a25 : PySem.W.nsIn K mainGlobals "spoilt_hour" = some (some (.ref f25)))
    (l25 : K.lookup f25 = some ⟨oc25, od25, .func (PySem.W.fnOf "spoilt_hour" "spoilt_hour" (defArgs s_spoilt_hour) (defBody s_spoilt_hour) (defScope s_spoilt_hour) .none kV25 dc25 pm25 an25 cd25 ct25), sl25⟩)
    (c25 : PySem.W.codeIn K cd25 "spoilt_hour" = true)
    (k25 : PySem.W.keepIn K (.ref f25) = true)
    (a26 : PySem.W.findIn K (.ref C_Spoilt) "__init__" = some (some (.ref f26)))
    (i26 : PySem.W.isFn K (.ref f26) = true)
    (l26 : K.lookup f26 = some ⟨oc26, od26, .func (PySem.W.ksFn "__init__" "Spoilt.__init__" (defArgs s_Spoilt___init__) (defBody s_Spoilt___init__) (defScope s_Spoilt___init__) .none kV26 dc26 pm26 an26 (.ref cda26) ct26 cc26), sl26⟩)
    (c26 : PySem.W.codeIn K (.ref cda26) "Spoilt.__init__" = true)
    (k26 : PySem.W.keepIn K (.ref f26) = true)
    (ti26 : PySem.W.typeIn K (.ref f26) = some (.type "function"))
    (lc26 : K.lookup cda26 = some ⟨ccl26, cdd26, .fields vs26, ccs26⟩)
    (vs_26 : vs26[2]? = some (.str file26 tf26))
    (ff26 : ((P.main.file : Str) == file26) = true)
    (lx26 : K.lookup cc26 = some ⟨cl26, cld26, .cell (some (.ref C_Spoilt)), csl26⟩)
    (a27 : PySem.W.nsIn K mainGlobals "_demand_kept" = some (some (.ref f27)))
    (l27 : K.lookup f27 = some ⟨oc27, od27, .func (PySem.W.fnOf "_demand_kept" "_demand_kept" (defArgs s__demand_kept) (defBody s__demand_kept) (defScope s__demand_kept) .none kV27 dc27 pm27 an27 cd27 ct27), sl27⟩)
    (c27 : PySem.W.codeIn K cd27 "_demand_kept" = true)
    (k27 : PySem.W.keepIn K (.ref f27) = true)
    (a28 : PySem.W.nsIn K mainGlobals "_step_hours" = some (some (.ref f28)))
    (l28 : K.lookup f28 = some ⟨oc28, od28, .func (PySem.W.fnOf "_step_hours" "_step_hours" (defArgs s__step_hours) (defBody s__step_hours) (defScope s__step_hours) .none kV28 dc28 pm28 an28 cd28 ct28), sl28⟩)
    (c28 : PySem.W.codeIn K cd28 "_step_hours" = true)
    (k28 : PySem.W.keepIn K (.ref f28) = true)
    (a29 : PySem.W.nsIn K mainGlobals "latest" = some (some (.ref f29)))
    (l29 : K.lookup f29 = some ⟨oc29, od29, .func (PySem.W.fnOf "latest" "latest" (defArgs s_latest) (defBody s_latest) (defScope s_latest) .none kV29 dc29 pm29 an29 cd29 ct29), sl29⟩)
    (c29 : PySem.W.codeIn K cd29 "latest" = true)
    (k29 : PySem.W.keepIn K (.ref f29) = true)
    (a30 : PySem.W.nsIn K mainGlobals "_law_cell" = some (some (.ref f30)))
    (l30 : K.lookup f30 = some ⟨oc30, od30, .func (PySem.W.fnOf "_law_cell" "_law_cell" (defArgs s__law_cell) (defBody s__law_cell) (defScope s__law_cell) .none kV30 dc30 pm30 an30 cd30 ct30), sl30⟩)
    (c30 : PySem.W.codeIn K cd30 "_law_cell" = true)
    (k30 : PySem.W.keepIn K (.ref f30) = true)
    (a31 : PySem.W.nsIn K mainGlobals "_law_pool" = some (some (.ref f31)))
    (l31 : K.lookup f31 = some ⟨oc31, od31, .func (PySem.W.fnOf "_law_pool" "_law_pool" (defArgs s__law_pool) (defBody s__law_pool) (defScope s__law_pool) .none kV31 dc31 pm31 an31 cd31 ct31), sl31⟩)
    (c31 : PySem.W.codeIn K cd31 "_law_pool" = true)
    (k31 : PySem.W.keepIn K (.ref f31) = true)
    (a32 : PySem.W.nsIn K mainGlobals "_law_take" = some (some (.ref f32)))
    (l32 : K.lookup f32 = some ⟨oc32, od32, .func (PySem.W.fnOf "_law_take" "_law_take" (defArgs s__law_take) (defBody s__law_take) (defScope s__law_take) .none kV32 dc32 pm32 an32 cd32 ct32), sl32⟩)
    (c32 : PySem.W.codeIn K cd32 "_law_take" = true)
    (k32 : PySem.W.keepIn K (.ref f32) = true)
    (a33 : PySem.W.nsIn K mainGlobals "_law_same" = some (some (.ref f33)))
    (l33 : K.lookup f33 = some ⟨oc33, od33, .func (PySem.W.fnOf "_law_same" "_law_same" (defArgs s__law_same) (defBody s__law_same) (defScope s__law_same) .none kV33 dc33 pm33 an33 cd33 ct33), sl33⟩)
    (c33 : PySem.W.codeIn K cd33 "_law_same" = true)
    (k33 : PySem.W.keepIn K (.ref f33) = true)
    (a34 : PySem.W.nsIn K mainGlobals "_law_ab" = some (some (.ref f34)))
    (l34 : K.lookup f34 = some ⟨oc34, od34, .func (PySem.W.fnOf "_law_ab" "_law_ab" (defArgs s__law_ab) (defBody s__law_ab) (defScope s__law_ab) .none kV34 dc34 pm34 an34 cd34 ct34), sl34⟩)
    (c34 : PySem.W.codeIn K cd34 "_law_ab" = true)
    (k34 : PySem.W.keepIn K (.ref f34) = true)
    (a35 : PySem.W.nsIn K mainGlobals "_law_up" = some (some (.ref f35)))
    (l35 : K.lookup f35 = some ⟨oc35, od35, .func (PySem.W.fnOf "_law_up" "_law_up" (defArgs s__law_up) (defBody s__law_up) (defScope s__law_up) .none kV35 dc35 pm35 an35 cd35 ct35), sl35⟩)
    (c35 : PySem.W.codeIn K cd35 "_law_up" = true)
    (k35 : PySem.W.keepIn K (.ref f35) = true)
    (a36 : PySem.W.nsIn K mainGlobals "_law_lead" = some (some (.ref f36)))
    (l36 : K.lookup f36 = some ⟨oc36, od36, .func (PySem.W.fnOf "_law_lead" "_law_lead" (defArgs s__law_lead) (defBody s__law_lead) (defScope s__law_lead) .none kV36 dc36 pm36 an36 cd36 ct36), sl36⟩)
    (c36 : PySem.W.codeIn K cd36 "_law_lead" = true)
    (k36 : PySem.W.keepIn K (.ref f36) = true)
    (a37 : PySem.W.nsIn K mainGlobals "_law_sound_pairs" = some (some (.ref f37)))
    (l37 : K.lookup f37 = some ⟨oc37, od37, .func (PySem.W.fnOf "_law_sound_pairs" "_law_sound_pairs" (defArgs s__law_sound_pairs) (defBody s__law_sound_pairs) (defScope s__law_sound_pairs) .none kV37 dc37 pm37 an37 cd37 ct37), sl37⟩)
    (c37 : PySem.W.codeIn K cd37 "_law_sound_pairs" = true)
    (k37 : PySem.W.keepIn K (.ref f37) = true)
    (a38 : PySem.W.nsIn K mainGlobals "_law_peak" = some (some (.ref f38)))
    (l38 : K.lookup f38 = some ⟨oc38, od38, .func (PySem.W.fnOf "_law_peak" "_law_peak" (defArgs s__law_peak) (defBody s__law_peak) (defScope s__law_peak) .none kV38 dc38 pm38 an38 cd38 ct38), sl38⟩)
    (c38 : PySem.W.codeIn K cd38 "_law_peak" = true)
    (k38 : PySem.W.keepIn K (.ref f38) = true)
    (a39 : PySem.W.nsIn K mainGlobals "_law_live" = some (some (.ref f39)))
    (l39 : K.lookup f39 = some ⟨oc39, od39, .func (PySem.W.fnOf "_law_live" "_law_live" (defArgs s__law_live) (defBody s__law_live) (defScope s__law_live) .none kV39 dc39 pm39 an39 cd39 ct39), sl39⟩)
    (c39 : PySem.W.codeIn K cd39 "_law_live" = true)
    (k39 : PySem.W.keepIn K (.ref f39) = true)
    (a40 : PySem.W.nsIn K mainGlobals "_law_last_row" = some (some (.ref f40)))
    (l40 : K.lookup f40 = some ⟨oc40, od40, .func (PySem.W.fnOf "_law_last_row" "_law_last_row" (defArgs s__law_last_row) (defBody s__law_last_row) (defScope s__law_last_row) .none kV40 dc40 pm40 an40 cd40 ct40), sl40⟩)
    (c40 : PySem.W.codeIn K cd40 "_law_last_row" = true)
    (k40 : PySem.W.keepIn K (.ref f40) = true)
    (a41 : PySem.W.nsIn K mainGlobals "_law_longest" = some (some (.ref f41)))
    (l41 : K.lookup f41 = some ⟨oc41, od41, .func (PySem.W.fnOf "_law_longest" "_law_longest" (defArgs s__law_longest) (defBody s__law_longest) (defScope s__law_longest) .none kV41 dc41 pm41 an41 cd41 ct41), sl41⟩)
    (c41 : PySem.W.codeIn K cd41 "_law_longest" = true)
    (k41 : PySem.W.keepIn K (.ref f41) = true)
    (a42 : PySem.W.nsIn K mainGlobals "_law_longer_signs" = some (some (.ref f42)))
    (l42 : K.lookup f42 = some ⟨oc42, od42, .func (PySem.W.fnOf "_law_longer_signs" "_law_longer_signs" (defArgs s__law_longer_signs) (defBody s__law_longer_signs) (defScope s__law_longer_signs) .none kV42 dc42 pm42 an42 cd42 ct42), sl42⟩)
    (c42 : PySem.W.codeIn K cd42 "_law_longer_signs" = true)
    (k42 : PySem.W.keepIn K (.ref f42) = true)
    (a43 : PySem.W.nsIn K mainGlobals "_law_drawn" = some (some (.ref f43)))
    (l43 : K.lookup f43 = some ⟨oc43, od43, .func (PySem.W.fnOf "_law_drawn" "_law_drawn" (defArgs s__law_drawn) (defBody s__law_drawn) (defScope s__law_drawn) .none kV43 dc43 pm43 an43 cd43 ct43), sl43⟩)
    (c43 : PySem.W.codeIn K cd43 "_law_drawn" = true)
    (k43 : PySem.W.keepIn K (.ref f43) = true)
    (a44 : PySem.W.nsIn K mainGlobals "_law_until" = some (some (.ref f44)))
    (l44 : K.lookup f44 = some ⟨oc44, od44, .func (PySem.W.fnOf "_law_until" "_law_until" (defArgs s__law_until) (defBody s__law_until) (defScope s__law_until) .none kV44 dc44 pm44 an44 cd44 ct44), sl44⟩)
    (c44 : PySem.W.codeIn K cd44 "_law_until" = true)
    (k44 : PySem.W.keepIn K (.ref f44) = true)
    (a45 : PySem.W.nsIn K mainGlobals "law" = some (some (.ref f45)))
    (l45 : K.lookup f45 = some ⟨oc45, od45, .func (PySem.W.fnOf "law" "law" (defArgs s_law) (defBody s_law) (defScope s_law) .none kV45 dc45 pm45 an45 cd45 ct45), sl45⟩)
    (c45 : PySem.W.codeIn K cd45 "law" = true)
    (k45 : PySem.W.keepIn K (.ref f45) = true)
    (v_BOTH_SIGNS : PySem.W.nsIn K mainGlobals "BOTH_SIGNS" = some (some (.str (Str.ofString ".#") tv_BOTH_SIGNS)))
    (v_LONGEST_RUN : PySem.W.nsIn K mainGlobals "LONGEST_RUN" = some (some (.int (120) tv_LONGEST_RUN)))
    (v_LONGEST_SPELL : PySem.W.nsIn K mainGlobals "LONGEST_SPELL" = some (some (.int (16) tv_LONGEST_SPELL)))
    (v_MOST_HOURS : PySem.W.nsIn K mainGlobals "MOST_HOURS" = some (some (.int (200) tv_MOST_HOURS)))
    (v_MOST_KINDS : PySem.W.nsIn K mainGlobals "MOST_KINDS" = some (some (.int (300) tv_MOST_KINDS)))
    (no_any : PySem.W.nsIn K mainGlobals "any" = some none)
    (no_bool : PySem.W.nsIn K mainGlobals "bool" = some none)
    (no_enumerate : PySem.W.nsIn K mainGlobals "enumerate" = some none)
    (no_int : PySem.W.nsIn K mainGlobals "int" = some none)
    (no_isinstance : PySem.W.nsIn K mainGlobals "isinstance" = some none)
    (no_iter : PySem.W.nsIn K mainGlobals "iter" = some none)
    (no_len : PySem.W.nsIn K mainGlobals "len" = some none)
    (no_list : PySem.W.nsIn K mainGlobals "list" = some none)
    (no_max : PySem.W.nsIn K mainGlobals "max" = some none)
    (no_min : PySem.W.nsIn K mainGlobals "min" = some none)
    (no_range : PySem.W.nsIn K mainGlobals "range" = some none)
    (no_str : PySem.W.nsIn K mainGlobals "str" = some none)
    (no_sum : PySem.W.nsIn K mainGlobals "sum" = some none)
    (no_super : PySem.W.nsIn K mainGlobals "super" = some none)
    (no_tuple : PySem.W.nsIn K mainGlobals "tuple" = some none)
    : ∃ fd : FuncData, (∀ (s : Shared) (v : Value), BindsTo s fd ⟨[v], []⟩ [("script", v)]) ∧ ∀ base : Heap, K.In base → base.Ns mainGlobals mg → FnOk P w K mg base (L2.CX P w) 11 fa fd ["script"] (spLaw K 63) := by
  have e_ : f45 = fa := by
    have z_ := hfa.symm.trans (PySem.W.mg_of X G a45)
    injection z_ with z_
    injection z_ with z_
    exact z_.symm
  subst e_
  let g : Gx := ⟨K, caOf C_BadKind C_BadLacquer C_BadNumber C_BadWeather C_Climate C_Lacquer C_Spoilt C_Unsound C_Weather⟩
  have e_BadKind : g.ca (Str.ofString "BadKind") = C_BadKind := by rfl
  have e_BadLacquer : g.ca (Str.ofString "BadLacquer") = C_BadLacquer := by rfl
  have e_BadNumber : g.ca (Str.ofString "BadNumber") = C_BadNumber := by rfl
  have e_BadWeather : g.ca (Str.ofString "BadWeather") = C_BadWeather := by rfl
  have e_Climate : g.ca (Str.ofString "Climate") = C_Climate := by rfl
  have e_Lacquer : g.ca (Str.ofString "Lacquer") = C_Lacquer := by rfl
  have e_Spoilt : g.ca (Str.ofString "Spoilt") = C_Spoilt := by rfl
  have e_Unsound : g.ca (Str.ofString "Unsound") = C_Unsound := by rfl
  have e_Weather : g.ca (Str.ofString "Weather") = C_Weather := by rfl
  let A : Ad := { f_Lacquer___init__ := f0, d_Lacquer___init__ := (PySem.W.fnOf "__init__" "Lacquer.__init__" (defArgs s_Lacquer___init__) (defBody s_Lacquer___init__) (defScope s_Lacquer___init__) .none kV0 dc0 pm0 an0 cd0 ct0), f_Lacquer_slack := f1, d_Lacquer_slack := (PySem.W.fnOf "slack" "Lacquer.slack" (defArgs s_Lacquer_slack) (defBody s_Lacquer_slack) (defScope s_Lacquer_slack) .none kV1 dc1 pm1 an1 cd1 ct1), f_Lacquer_spans := f2, d_Lacquer_spans := (PySem.W.fnOf "spans" "Lacquer.spans" (defArgs s_Lacquer_spans) (defBody s_Lacquer_spans) (defScope s_Lacquer_spans) .none kV2 dc2 pm2 an2 cd2 ct2), f_Lacquer_lead := f3, d_Lacquer_lead := (PySem.W.fnOf "lead" "Lacquer.lead" (defArgs s_Lacquer_lead) (defBody s_Lacquer_lead) (defScope s_Lacquer_lead) .none kV3 dc3 pm3 an3 cd3 ct3), f_check_kind := f4, d_check_kind := (PySem.W.fnOf "check_kind" "check_kind" (defArgs s_check_kind) (defBody s_check_kind) (defScope s_check_kind) .none kV4 dc4 pm4 an4 cd4 ct4), f_plain_list := f5, d_plain_list := (PySem.W.fnOf "plain_list" "plain_list" (defArgs s_plain_list) (defBody s_plain_list) (defScope s_plain_list) .none kV5 dc5 pm5 an5 cd5 ct5), f_Climate___init__ := f6, d_Climate___init__ := (PySem.W.fnOf "__init__" "Climate.__init__" (defArgs s_Climate___init__) (defBody s_Climate___init__) (defScope s_Climate___init__) .none kV6 dc6 pm6 an6 cd6 ct6), f_Climate_peak := f7, d_Climate_peak := (PySem.W.fnOf "peak" "Climate.peak" (defArgs s_Climate_peak) (defBody s_Climate_peak) (defScope s_Climate_peak) .none kV7 dc7 pm7 an7 cd7 ct7), f_fault := f8, d_fault := (PySem.W.fnOf "fault" "fault" (defArgs s_fault) (defBody s_fault) (defScope s_fault) .none kV8 dc8 pm8 an8 cd8 ct8), f_Climate___iter__ := f9, d_Climate___iter__ := (PySem.W.fnOf "__iter__" "Climate.__iter__" (defArgs s_Climate___iter__) (defBody s_Climate___iter__) (defScope s_Climate___iter__) .none kV9 dc9 pm9 an9 cd9 ct9), f_lead_of := f10, d_lead_of := (PySem.W.fnOf "lead_of" "lead_of" (defArgs s_lead_of) (defBody s_lead_of) (defScope s_lead_of) .none kV10 dc10 pm10 an10 cd10 ct10), f_bad_kinds := f11, d_bad_kinds := (PySem.W.fnOf "bad_kinds" "bad_kinds" (defArgs s_bad_kinds) (defBody s_bad_kinds) (defScope s_bad_kinds) .none kV11 dc11 pm11 an11 cd11 ct11), f_Unsound___init__ := f12, d_Unsound___init__ := (PySem.W.ksFn "__init__" "Unsound.__init__" (defArgs s_Unsound___init__) (defBody s_Unsound___init__) (defScope s_Unsound___init__) .none kV12 dc12 pm12 an12 (.ref cda12) ct12 cc12), f_demand_sound := f13, d_demand_sound := (PySem.W.fnOf "demand_sound" "demand_sound" (defArgs s_demand_sound) (defBody s_demand_sound) (defScope s_demand_sound) .none kV13 dc13 pm13 an13 cd13 ct13), f_saver_sight := f14, d_saver_sight := (PySem.W.fnOf "saver_sight" "saver_sight" (defArgs s_saver_sight) (defBody s_saver_sight) (defScope s_saver_sight) .none kV14 dc14 pm14 an14 cd14 ct14), f_Weather___init__ := f15, d_Weather___init__ := (PySem.W.fnOf "__init__" "Weather.__init__" (defArgs s_Weather___init__) (defBody s_Weather___init__) (defScope s_Weather___init__) .none kV15 dc15 pm15 an15 cd15 ct15), f_Weather_hours := f16, d_Weather_hours := (PySem.W.fnOf "hours" "Weather.hours" (defArgs s_Weather_hours) (defBody s_Weather_hours) (defScope s_Weather_hours) .none kV16 dc16 pm16 an16 cd16 ct16), f_Weather_signs := f17, d_Weather_signs := (PySem.W.fnOf "signs" "Weather.signs" (defArgs s_Weather_signs) (defBody s_Weather_signs) (defScope s_Weather_signs) .none kV17 dc17 pm17 an17 cd17 ct17), f_Weather_of_signs := f18, d_Weather_of_signs := (PySem.W.fnOf "of_signs" "Weather.of_signs" (defArgs s_Weather_of_signs) (defBody s_Weather_of_signs) (defScope s_Weather_of_signs) .none kV18 dc18 pm18 an18 cd18 ct18), f_dry_flags := f19, d_dry_flags := (PySem.W.fnOf "dry_flags" "dry_flags" (defArgs s_dry_flags) (defBody s_dry_flags) (defScope s_dry_flags) .none kV19 dc19 pm19 an19 cd19 ct19), f_flagged := f20, d_flagged := (PySem.W.fnOf "flagged" "flagged" (defArgs s_flagged) (defBody s_flagged) (defScope s_flagged) .none kV20 dc20 pm20 an20 cd20 ct20), f_reach_flags := f21, d_reach_flags := (PySem.W.fnOf "reach_flags" "reach_flags" (defArgs s_reach_flags) (defBody s_reach_flags) (defScope s_reach_flags) .none kV21 dc21 pm21 an21 cd21 ct21), f_end_flags := f22, d_end_flags := (PySem.W.fnOf "end_flags" "end_flags" (defArgs s_end_flags) (defBody s_end_flags) (defScope s_end_flags) .none kV22 dc22 pm22 an22 cd22 ct22), f_onward_flags := f23, d_onward_flags := (PySem.W.fnOf "onward_flags" "onward_flags" (defArgs s_onward_flags) (defBody s_onward_flags) (defScope s_onward_flags) .none kV23 dc23 pm23 an23 cd23 ct23), f_reached := f24, d_reached := (PySem.W.fnOf "reached" "reached" (defArgs s_reached) (defBody s_reached) (defScope s_reached) .none kV24 dc24 pm24 an24 cd24 ct24), f_spoilt_hour := f25, d_spoilt_hour := (PySem.W.fnOf "spoilt_hour" "spoilt_hour" (defArgs s_spoilt_hour) (defBody s_spoilt_hour) (defScope s_spoilt_hour) .none kV25 dc25 pm25 an25 cd25 ct25), f_Spoilt___init__ := f26, d_Spoilt___init__ := (PySem.W.ksFn "__init__" "Spoilt.__init__" (defArgs s_Spoilt___init__) (defBody s_Spoilt___init__) (defScope s_Spoilt___init__) .none kV26 dc26 pm26 an26 (.ref cda26) ct26 cc26), f__demand_kept := f27, d__demand_kept := (PySem.W.fnOf "_demand_kept" "_demand_kept" (defArgs s__demand_kept) (defBody s__demand_kept) (defScope s__demand_kept) .none kV27 dc27 pm27 an27 cd27 ct27), f__step_hours := f28, d__step_hours := (PySem.W.fnOf "_step_hours" "_step_hours" (defArgs s__step_hours) (defBody s__step_hours) (defScope s__step_hours) .none kV28 dc28 pm28 an28 cd28 ct28), f_latest := f29, d_latest := (PySem.W.fnOf "latest" "latest" (defArgs s_latest) (defBody s_latest) (defScope s_latest) .none kV29 dc29 pm29 an29 cd29 ct29), f__law_cell := f30, d__law_cell := (PySem.W.fnOf "_law_cell" "_law_cell" (defArgs s__law_cell) (defBody s__law_cell) (defScope s__law_cell) .none kV30 dc30 pm30 an30 cd30 ct30), f__law_pool := f31, d__law_pool := (PySem.W.fnOf "_law_pool" "_law_pool" (defArgs s__law_pool) (defBody s__law_pool) (defScope s__law_pool) .none kV31 dc31 pm31 an31 cd31 ct31), f__law_take := f32, d__law_take := (PySem.W.fnOf "_law_take" "_law_take" (defArgs s__law_take) (defBody s__law_take) (defScope s__law_take) .none kV32 dc32 pm32 an32 cd32 ct32), f__law_same := f33, d__law_same := (PySem.W.fnOf "_law_same" "_law_same" (defArgs s__law_same) (defBody s__law_same) (defScope s__law_same) .none kV33 dc33 pm33 an33 cd33 ct33), f__law_ab := f34, d__law_ab := (PySem.W.fnOf "_law_ab" "_law_ab" (defArgs s__law_ab) (defBody s__law_ab) (defScope s__law_ab) .none kV34 dc34 pm34 an34 cd34 ct34), f__law_up := f35, d__law_up := (PySem.W.fnOf "_law_up" "_law_up" (defArgs s__law_up) (defBody s__law_up) (defScope s__law_up) .none kV35 dc35 pm35 an35 cd35 ct35), f__law_lead := f36, d__law_lead := (PySem.W.fnOf "_law_lead" "_law_lead" (defArgs s__law_lead) (defBody s__law_lead) (defScope s__law_lead) .none kV36 dc36 pm36 an36 cd36 ct36), f__law_sound_pairs := f37, d__law_sound_pairs := (PySem.W.fnOf "_law_sound_pairs" "_law_sound_pairs" (defArgs s__law_sound_pairs) (defBody s__law_sound_pairs) (defScope s__law_sound_pairs) .none kV37 dc37 pm37 an37 cd37 ct37), f__law_peak := f38, d__law_peak := (PySem.W.fnOf "_law_peak" "_law_peak" (defArgs s__law_peak) (defBody s__law_peak) (defScope s__law_peak) .none kV38 dc38 pm38 an38 cd38 ct38), f__law_live := f39, d__law_live := (PySem.W.fnOf "_law_live" "_law_live" (defArgs s__law_live) (defBody s__law_live) (defScope s__law_live) .none kV39 dc39 pm39 an39 cd39 ct39), f__law_last_row := f40, d__law_last_row := (PySem.W.fnOf "_law_last_row" "_law_last_row" (defArgs s__law_last_row) (defBody s__law_last_row) (defScope s__law_last_row) .none kV40 dc40 pm40 an40 cd40 ct40), f__law_longest := f41, d__law_longest := (PySem.W.fnOf "_law_longest" "_law_longest" (defArgs s__law_longest) (defBody s__law_longest) (defScope s__law_longest) .none kV41 dc41 pm41 an41 cd41 ct41), f__law_longer_signs := f42, d__law_longer_signs := (PySem.W.fnOf "_law_longer_signs" "_law_longer_signs" (defArgs s__law_longer_signs) (defBody s__law_longer_signs) (defScope s__law_longer_signs) .none kV42 dc42 pm42 an42 cd42 ct42), f__law_drawn := f43, d__law_drawn := (PySem.W.fnOf "_law_drawn" "_law_drawn" (defArgs s__law_drawn) (defBody s__law_drawn) (defScope s__law_drawn) .none kV43 dc43 pm43 an43 cd43 ct43), f__law_until := f44, d__law_until := (PySem.W.fnOf "_law_until" "_law_until" (defArgs s__law_until) (defBody s__law_until) (defScope s__law_until) .none kV44 dc44 pm44 an44 cd44 ct44), f_law := f45, d_law := (PySem.W.fnOf "law" "law" (defArgs s_law) (defBody s_law) (defScope s_law) .none kV45 dc45 pm45 an45 cd45 ct45) }
  have F0 := fun_mk (st := s_Lacquer___init__) l0 c0 k0
  have F1 := fun_mk (st := s_Lacquer_slack) l1 c1 k1
  have F2 := fun_mk (st := s_Lacquer_spans) l2 c2 k2
  have F3 := fun_mk (st := s_Lacquer_lead) l3 c3 k3
  have F4 := fun_mk (st := s_check_kind) l4 c4 k4
  have F5 := fun_mk (st := s_plain_list) l5 c5 k5
  have F6 := fun_mk (st := s_Climate___init__) l6 c6 k6
  have F7 := fun_mk (st := s_Climate_peak) l7 c7 k7
  have F8 := fun_mk (st := s_fault) l8 c8 k8
  have F9 := fun_mk (st := s_Climate___iter__) l9 c9 k9
  have F10 := fun_mk (st := s_lead_of) l10 c10 k10
  have F11 := fun_mk (st := s_bad_kinds) l11 c11 k11
  have F13 := fun_mk (st := s_demand_sound) l13 c13 k13
  have F14 := fun_mk (st := s_saver_sight) l14 c14 k14
  have F15 := fun_mk (st := s_Weather___init__) l15 c15 k15
  have F16 := fun_mk (st := s_Weather_hours) l16 c16 k16
  have F17 := fun_mk (st := s_Weather_signs) l17 c17 k17
  have F18 := fun_mk (st := s_Weather_of_signs) l18 c18 k18
  have F19 := fun_mk (st := s_dry_flags) l19 c19 k19
  have F20 := fun_mk (st := s_flagged) l20 c20 k20
  have F21 := fun_mk (st := s_reach_flags) l21 c21 k21
  have F22 := fun_mk (st := s_end_flags) l22 c22 k22
  have F23 := fun_mk (st := s_onward_flags) l23 c23 k23
  have F24 := fun_mk (st := s_reached) l24 c24 k24
  have F25 := fun_mk (st := s_spoilt_hour) l25 c25 k25
  have F27 := fun_mk (st := s__demand_kept) l27 c27 k27
  have F28 := fun_mk (st := s__step_hours) l28 c28 k28
  have F29 := fun_mk (st := s_latest) l29 c29 k29
  have F30 := fun_mk (st := s__law_cell) l30 c30 k30
  have F31 := fun_mk (st := s__law_pool) l31 c31 k31
  have F32 := fun_mk (st := s__law_take) l32 c32 k32
  have F33 := fun_mk (st := s__law_same) l33 c33 k33
  have F34 := fun_mk (st := s__law_ab) l34 c34 k34
  have F35 := fun_mk (st := s__law_up) l35 c35 k35
  have F36 := fun_mk (st := s__law_lead) l36 c36 k36
  have F37 := fun_mk (st := s__law_sound_pairs) l37 c37 k37
  have F38 := fun_mk (st := s__law_peak) l38 c38 k38
  have F39 := fun_mk (st := s__law_live) l39 c39 k39
  have F40 := fun_mk (st := s__law_last_row) l40 c40 k40
  have F41 := fun_mk (st := s__law_longest) l41 c41 k41
  have F42 := fun_mk (st := s__law_longer_signs) l42 c42 k42
  have F43 := fun_mk (st := s__law_drawn) l43 c43 k43
  have F44 := fun_mk (st := s__law_until) l44 c44 k44
  have F45 := fun_mk (st := s_law) l45 c45 k45
  have T : Txt P g mg A := {
    F_Lacquer___init__ := F0,
    kp_Lacquer___init__ := k0,
    b_Lacquer___init__ := F0.binds (ps := ["self", "a", "b"]) fun _ _ _ _ _ _ us hl => (match us, hl with | [_, _, _], _ => rfl),
    F_Lacquer_slack := F1,
    kp_Lacquer_slack := k1,
    b_Lacquer_slack := F1.binds (ps := ["self"]) fun _ _ _ _ _ _ us hl => (match us, hl with | [_], _ => rfl),
    F_Lacquer_spans := F2,
    kp_Lacquer_spans := k2,
    b_Lacquer_spans := F2.binds (ps := ["self", "w"]) fun _ _ _ _ _ _ us hl => (match us, hl with | [_, _], _ => rfl),
    F_Lacquer_lead := F3,
    kp_Lacquer_lead := k3,
    b_Lacquer_lead := F3.binds (ps := ["self", "w"]) fun _ _ _ _ _ _ us hl => (match us, hl with | [_, _], _ => rfl),
    F_check_kind := F4,
    mg_check_kind := PySem.W.mg_of X G a4,
    kp_check_kind := k4,
    b_check_kind := F4.binds (ps := ["w", "g"]) fun _ _ _ _ _ _ us hl => (match us, hl with | [_, _], _ => rfl),
    F_plain_list := F5,
    mg_plain_list := PySem.W.mg_of X G a5,
    kp_plain_list := k5,
    b_plain_list := F5.binds (ps := ["kinds"]) fun _ _ _ _ _ _ us hl => (match us, hl with | [_], _ => rfl),
    F_Climate___init__ := F6,
    kp_Climate___init__ := k6,
    b_Climate___init__ := F6.binds (ps := ["self", "kinds"]) fun _ _ _ _ _ _ us hl => (match us, hl with | [_, _], _ => rfl),
    F_Climate_peak := F7,
    kp_Climate_peak := k7,
    b_Climate_peak := F7.binds (ps := ["self"]) fun _ _ _ _ _ _ us hl => (match us, hl with | [_], _ => rfl),
    F_fault := F8,
    mg_fault := PySem.W.mg_of X G a8,
    kp_fault := k8,
    b_fault := F8.binds (ps := ["lacquer", "w", "g"]) fun _ _ _ _ _ _ us hl => (match us, hl with | [_, _, _], _ => rfl),
    F_Climate___iter__ := F9,
    kp_Climate___iter__ := k9,
    b_Climate___iter__ := F9.binds (ps := ["self"]) fun _ _ _ _ _ _ us hl => (match us, hl with | [_], _ => rfl),
    F_lead_of := F10,
    mg_lead_of := PySem.W.mg_of X G a10,
    kp_lead_of := k10,
    b_lead_of := F10.binds (ps := ["lacquer", "climate"]) fun _ _ _ _ _ _ us hl => (match us, hl with | [_, _], _ => rfl),
    F_bad_kinds := F11,
    mg_bad_kinds := PySem.W.mg_of X G a11,
    kp_bad_kinds := k11,
    b_bad_kinds := F11.binds (ps := ["lacquer", "climate"]) fun _ _ _ _ _ _ us hl => (match us, hl with | [_, _], _ => rfl),
    kp_Unsound___init__ := k12,
    b_Unsound___init__ := .all fun us hl => (match us, hl with | [_, _], _ => rfl),
    in_Unsound := by rw [e_Unsound]; exact a12,
    ti_Unsound := ti12,
    sup_Unsound := by rw [e_Unsound]; exact ⟨oex_mk q_Unsound hd_Unsound sa_Unsound s_Unsound t_Unsound kp_Unsound, th_, up_Unsound, sb_Unsound, sf_Unsound, nx_Unsound, no_super, tp_, ⟨oc12, ccl12, cl12, od12, cdd12, cld12, sl12, ccs12, csl12, cc12, cda12, vs12, file12, tf12, "__init__", "Unsound.__init__", defArgs s_Unsound___init__, defBody s_Unsound___init__, defScope s_Unsound___init__, .none, kV12, dc12, pm12, ct12, an12, _, _, _, _, _, _, _, _, _, _, _, _, _, _, rfl, l12, c12, lc12, vs_12, ff12, lx12, rfl, rfl, rfl, by decide +kernel, rfl, rfl, rfl, rfl, rfl, by decide, by decide, rfl, rfl, rfl, fun L => ⟨rfl, rfl, ⟨_, rfl⟩, rfl, rfl⟩⟩⟩,
    F_demand_sound := F13,
    mg_demand_sound := PySem.W.mg_of X G a13,
    kp_demand_sound := k13,
    b_demand_sound := F13.binds (ps := ["lacquer", "climate"]) fun _ _ _ _ _ _ us hl => (match us, hl with | [_, _], _ => rfl),
    F_saver_sight := F14,
    mg_saver_sight := PySem.W.mg_of X G a14,
    kp_saver_sight := k14,
    b_saver_sight := F14.binds (ps := ["lacquer", "climate"]) fun _ _ _ _ _ _ us hl => (match us, hl with | [_, _], _ => rfl),
    F_Weather___init__ := F15,
    kp_Weather___init__ := k15,
    b_Weather___init__ := F15.binds (ps := ["self", "lengths"]) fun _ _ _ _ _ _ us hl => (match us, hl with | [_, _], _ => rfl),
    F_Weather_hours := F16,
    kp_Weather_hours := k16,
    b_Weather_hours := F16.binds (ps := ["self"]) fun _ _ _ _ _ _ us hl => (match us, hl with | [_], _ => rfl),
    F_Weather_signs := F17,
    kp_Weather_signs := k17,
    b_Weather_signs := F17.binds (ps := ["self"]) fun _ _ _ _ _ _ us hl => (match us, hl with | [_], _ => rfl),
    F_Weather_of_signs := F18,
    kp_Weather_of_signs := k18,
    b_Weather_of_signs := F18.binds (ps := ["signs"]) fun _ _ _ _ _ _ us hl => (match us, hl with | [_], _ => rfl),
    F_dry_flags := F19,
    mg_dry_flags := PySem.W.mg_of X G a19,
    kp_dry_flags := k19,
    b_dry_flags := F19.binds (ps := ["signs"]) fun _ _ _ _ _ _ us hl => (match us, hl with | [_], _ => rfl),
    F_flagged := F20,
    mg_flagged := PySem.W.mg_of X G a20,
    kp_flagged := k20,
    b_flagged := F20.binds (ps := ["flags"]) fun _ _ _ _ _ _ us hl => (match us, hl with | [_], _ => rfl),
    F_reach_flags := F21,
    mg_reach_flags := PySem.W.mg_of X G a21,
    kp_reach_flags := k21,
    b_reach_flags := F21.binds (ps := ["lacquer", "dry"]) fun _ _ _ _ _ _ us hl => (match us, hl with | [_, _], _ => rfl),
    F_end_flags := F22,
    mg_end_flags := PySem.W.mg_of X G a22,
    kp_end_flags := k22,
    b_end_flags := F22.binds (ps := ["lacquer", "dry"]) fun _ _ _ _ _ _ us hl => (match us, hl with | [_, _], _ => rfl),
    F_onward_flags := F23,
    mg_onward_flags := PySem.W.mg_of X G a23,
    kp_onward_flags := k23,
    b_onward_flags := F23.binds (ps := ["lacquer", "dry"]) fun _ _ _ _ _ _ us hl => (match us, hl with | [_, _], _ => rfl),
    F_reached := F24,
    mg_reached := PySem.W.mg_of X G a24,
    kp_reached := k24,
    b_reached := F24.binds (ps := ["lacquer", "weather"]) fun _ _ _ _ _ _ us hl => (match us, hl with | [_, _], _ => rfl),
    F_spoilt_hour := F25,
    mg_spoilt_hour := PySem.W.mg_of X G a25,
    kp_spoilt_hour := k25,
    b_spoilt_hour := F25.binds (ps := ["lacquer", "weather"]) fun _ _ _ _ _ _ us hl => (match us, hl with | [_, _], _ => rfl),
    kp_Spoilt___init__ := k26,
    b_Spoilt___init__ := .all fun us hl => (match us, hl with | [_, _], _ => rfl),
    in_Spoilt := by rw [e_Spoilt]; exact a26,
    ti_Spoilt := ti26,
    sup_Spoilt := by rw [e_Spoilt]; exact ⟨oex_mk q_Spoilt hd_Spoilt sa_Spoilt s_Spoilt t_Spoilt kp_Spoilt, th_, up_Spoilt, sb_Spoilt, sf_Spoilt, nx_Spoilt, no_super, tp_, ⟨oc26, ccl26, cl26, od26, cdd26, cld26, sl26, ccs26, csl26, cc26, cda26, vs26, file26, tf26, "__init__", "Spoilt.__init__", defArgs s_Spoilt___init__, defBody s_Spoilt___init__, defScope s_Spoilt___init__, .none, kV26, dc26, pm26, ct26, an26, _, _, _, _, _, _, _, _, _, _, _, _, _, _, rfl, l26, c26, lc26, vs_26, ff26, lx26, rfl, rfl, rfl, by decide +kernel, rfl, rfl, rfl, rfl, rfl, by decide, by decide, rfl, rfl, rfl, fun L => ⟨rfl, rfl, ⟨_, rfl⟩, rfl, rfl⟩⟩⟩,
    F__demand_kept := F27,
    mg__demand_kept := PySem.W.mg_of X G a27,
    kp__demand_kept := k27,
    b__demand_kept := F27.binds (ps := ["lacquer", "weather"]) fun _ _ _ _ _ _ us hl => (match us, hl with | [_, _], _ => rfl),
    F__step_hours := F28,
    mg__step_hours := PySem.W.mg_of X G a28,
    kp__step_hours := k28,
    b__step_hours := F28.binds (ps := ["lacquer", "hour", "flags"]) fun _ _ _ _ _ _ us hl => (match us, hl with | [_, _, _], _ => rfl),
    F_latest := F29,
    mg_latest := PySem.W.mg_of X G a29,
    kp_latest := k29,
    b_latest := F29.binds (ps := ["lacquer", "weather"]) fun _ _ _ _ _ _ us hl => (match us, hl with | [_, _], _ => rfl),
    F__law_cell := F30,
    mg__law_cell := PySem.W.mg_of X G a30,
    kp__law_cell := k30,
    b__law_cell := F30.binds (ps := ["script", "k"]) fun _ _ _ _ _ _ us hl => (match us, hl with | [_, _], _ => rfl),
    F__law_pool := F31,
    mg__law_pool := PySem.W.mg_of X G a31,
    kp__law_pool := k31,
    b__law_pool := F31.binds (ps := ["cell"]) fun _ _ _ _ _ _ us hl => (match us, hl with | [_], _ => rfl),
    F__law_take := F32,
    mg__law_take := PySem.W.mg_of X G a32,
    kp__law_take := k32,
    b__law_take := F32.binds (ps := ["pool", "size"]) fun _ _ _ _ _ _ us hl => (match us, hl with | [_, _], _ => rfl),
    F__law_same := F33,
    mg__law_same := PySem.W.mg_of X G a33,
    kp__law_same := k33,
    b__law_same := F33.binds (ps := ["actual", "due"]) fun _ _ _ _ _ _ us hl => (match us, hl with | [_, _], _ => rfl),
    F__law_ab := F34,
    mg__law_ab := PySem.W.mg_of X G a34,
    kp__law_ab := k34,
    b__law_ab := F34.binds (ps := ["pool", "most"]) fun _ _ _ _ _ _ us hl => (match us, hl with | [_, _], _ => rfl),
    F__law_up := F35,
    mg__law_up := PySem.W.mg_of X G a35,
    kp__law_up := k35,
    b__law_up := F35.binds (ps := ["x", "y"]) fun _ _ _ _ _ _ us hl => (match us, hl with | [_, _], _ => rfl),
    F__law_lead := F36,
    mg__law_lead := PySem.W.mg_of X G a36,
    kp__law_lead := k36,
    b__law_lead := F36.binds (ps := ["ab", "w"]) fun _ _ _ _ _ _ us hl => (match us, hl with | [_, _], _ => rfl),
    F__law_sound_pairs := F37,
    mg__law_sound_pairs := PySem.W.mg_of X G a37,
    kp__law_sound_pairs := k37,
    b__law_sound_pairs := F37.binds (ps := ["pool", "ab", "need", "many"]) fun _ _ _ _ _ _ us hl => (match us, hl with | [_, _, _, _], _ => rfl),
    F__law_peak := F38,
    mg__law_peak := PySem.W.mg_of X G a38,
    kp__law_peak := k38,
    b__law_peak := F38.binds (ps := ["kinds"]) fun _ _ _ _ _ _ us hl => (match us, hl with | [_], _ => rfl),
    F__law_live := F39,
    mg__law_live := PySem.W.mg_of X G a39,
    kp__law_live := k39,
    b__law_live := F39.binds (ps := ["ab", "signs"]) fun _ _ _ _ _ _ us hl => (match us, hl with | [_, _], _ => rfl),
    F__law_last_row := F40,
    mg__law_last_row := PySem.W.mg_of X G a40,
    kp__law_last_row := k40,
    b__law_last_row := F40.binds (ps := ["ab", "signs"]) fun _ _ _ _ _ _ us hl => (match us, hl with | [_, _], _ => rfl),
    F__law_longest := F41,
    mg__law_longest := PySem.W.mg_of X G a41,
    kp__law_longest := k41,
    b__law_longest := F41.binds (ps := ["kinds", "stretch"]) fun _ _ _ _ _ _ us hl => (match us, hl with | [_, _], _ => rfl),
    F__law_longer_signs := F42,
    mg__law_longer_signs := PySem.W.mg_of X G a42,
    kp__law_longer_signs := k42,
    b__law_longer_signs := F42.binds (ps := ["pool", "kinds", "signs", "hours", "thick"]) fun _ _ _ _ _ _ us hl => (match us, hl with | [_, _, _, _, _], _ => rfl),
    F__law_drawn := F43,
    mg__law_drawn := PySem.W.mg_of X G a43,
    kp__law_drawn := k43,
    b__law_drawn := F43.binds (ps := ["script"]) fun _ _ _ _ _ _ us hl => (match us, hl with | [_], _ => rfl),
    F__law_until := F44,
    mg__law_until := PySem.W.mg_of X G a44,
    kp__law_until := k44,
    b__law_until := F44.binds (ps := ["row", "q"]) fun _ _ _ _ _ _ us hl => (match us, hl with | [_, _], _ => rfl),
    F_law := F45,
    mg_law := PySem.W.mg_of X G a45,
    kp_law := k45,
    b_law := F45.binds (ps := ["script"]) fun _ _ _ _ _ _ us hl => (match us, hl with | [_], _ => rfl),
    no_any := PySem.W.mg_none_of X G no_any,
    no_bool := PySem.W.mg_none_of X G no_bool,
    no_enumerate := PySem.W.mg_none_of X G no_enumerate,
    no_int := PySem.W.mg_none_of X G no_int,
    no_isinstance := PySem.W.mg_none_of X G no_isinstance,
    no_iter := PySem.W.mg_none_of X G no_iter,
    no_len := PySem.W.mg_none_of X G no_len,
    no_list := PySem.W.mg_none_of X G no_list,
    no_max := PySem.W.mg_none_of X G no_max,
    no_min := PySem.W.mg_none_of X G no_min,
    no_range := PySem.W.mg_none_of X G no_range,
    no_str := PySem.W.mg_none_of X G no_str,
    no_sum := PySem.W.mg_none_of X G no_sum,
    no_super := PySem.W.mg_none_of X G no_super,
    no_tuple := PySem.W.mg_none_of X G no_tuple,
    mg_BOTH_SIGNS := ⟨_, PySem.W.mg_of X G v_BOTH_SIGNS, ⟨_, rfl⟩⟩,
    mg_LONGEST_RUN := ⟨_, PySem.W.mg_of X G v_LONGEST_RUN, ⟨_, rfl⟩⟩,
    mg_LONGEST_SPELL := ⟨_, PySem.W.mg_of X G v_LONGEST_SPELL, ⟨_, rfl⟩⟩,
    mg_MOST_HOURS := ⟨_, PySem.W.mg_of X G v_MOST_HOURS, ⟨_, rfl⟩⟩,
    mg_MOST_KINDS := ⟨_, PySem.W.mg_of X G v_MOST_KINDS, ⟨_, rfl⟩⟩,
    mg_BadKind := (PySem.W.mg_of X G a_BadKind).trans (by rw [e_BadKind]),
    x_BadKind := by rw [e_BadKind]; exact x_BadKind,
    kp_BadKind := by rw [e_BadKind]; exact kp_BadKind,
    s_BadKind := by rw [e_BadKind]; exact s_BadKind,
    t_BadKind := by rw [e_BadKind]; exact t_BadKind,
    mg_BadLacquer := (PySem.W.mg_of X G a_BadLacquer).trans (by rw [e_BadLacquer]),
    x_BadLacquer := by rw [e_BadLacquer]; exact x_BadLacquer,
    kp_BadLacquer := by rw [e_BadLacquer]; exact kp_BadLacquer,
    s_BadLacquer := by rw [e_BadLacquer]; exact s_BadLacquer,
    t_BadLacquer := by rw [e_BadLacquer]; exact t_BadLacquer,
    mg_BadNumber := (PySem.W.mg_of X G a_BadNumber).trans (by rw [e_BadNumber]),
    x_BadNumber := by rw [e_BadNumber]; exact x_BadNumber,
    kp_BadNumber := by rw [e_BadNumber]; exact kp_BadNumber,
    s_BadNumber := by rw [e_BadNumber]; exact s_BadNumber,
    t_BadNumber := by rw [e_BadNumber]; exact t_BadNumber,
    mg_BadWeather := (PySem.W.mg_of X G a_BadWeather).trans (by rw [e_BadWeather]),
    x_BadWeather := by rw [e_BadWeather]; exact x_BadWeather,
    kp_BadWeather := by rw [e_BadWeather]; exact kp_BadWeather,
    s_BadWeather := by rw [e_BadWeather]; exact s_BadWeather,
    t_BadWeather := by rw [e_BadWeather]; exact t_BadWeather,
    mg_Climate := (PySem.W.mg_of X G a_Climate).trans (by rw [e_Climate]),
    c_Climate := by rw [e_Climate]; exact ⟨pg_Climate, hd_Climate, po_Climate, sa_Climate⟩,
    na_Climate_f_kinds := by rw [e_Climate]; exact na_Climate_f_kinds,
    mg_Lacquer := (PySem.W.mg_of X G a_Lacquer).trans (by rw [e_Lacquer]),
    c_Lacquer := by rw [e_Lacquer]; exact ⟨pg_Lacquer, hd_Lacquer, po_Lacquer, sa_Lacquer⟩,
    na_Lacquer_f_a := by rw [e_Lacquer]; exact na_Lacquer_f_a,
    na_Lacquer_f_b := by rw [e_Lacquer]; exact na_Lacquer_f_b,
    cv_Lacquer_MOST := by rw [e_Lacquer]; exact ⟨_, _, ⟨rd_Lacquer, ga_Lacquer⟩, ⟨cv_Lacquer_MOST, ⟨_, rfl⟩⟩⟩,
    mg_Spoilt := (PySem.W.mg_of X G a_Spoilt).trans (by rw [e_Spoilt]),
    kp_Spoilt := by rw [e_Spoilt]; exact kp_Spoilt,
    s_Spoilt := by rw [e_Spoilt]; exact s_Spoilt,
    t_Spoilt := by rw [e_Spoilt]; exact t_Spoilt,
    mg_Unsound := (PySem.W.mg_of X G a_Unsound).trans (by rw [e_Unsound]),
    kp_Unsound := by rw [e_Unsound]; exact kp_Unsound,
    s_Unsound := by rw [e_Unsound]; exact s_Unsound,
    t_Unsound := by rw [e_Unsound]; exact t_Unsound,
    mg_Weather := (PySem.W.mg_of X G a_Weather).trans (by rw [e_Weather]),
    c_Weather := by rw [e_Weather]; exact ⟨pg_Weather, hd_Weather, po_Weather, sa_Weather⟩,
    na_Weather_f_signs := by rw [e_Weather]; exact na_Weather_f_signs,
    na_Weather_f_lengths := by rw [e_Weather]; exact na_Weather_f_lengths,
    mk_Lacquer := by rw [e_Lacquer]; exact ⟨mk_Lacquer, a0, i0, kc_Lacquer⟩,
    pr_Lacquer_slack := by rw [e_Lacquer]; exact ⟨_, a1, g1, t1, _, r1⟩,
    me_Lacquer_spans := by rw [e_Lacquer]; exact ⟨a2, i2, k2⟩,
    me_Lacquer_lead := by rw [e_Lacquer]; exact ⟨a3, i3, k3⟩,
    mk_Climate := by rw [e_Climate]; exact ⟨mk_Climate, a6, i6, kc_Climate⟩,
    pr_Climate_peak := by rw [e_Climate]; exact ⟨_, a7, g7, t7, _, r7⟩,
    me_Climate___iter__ := by rw [e_Climate]; exact ⟨a9, i9, k9⟩,
    mk_Weather := by rw [e_Weather]; exact ⟨mk_Weather, a15, i15, kc_Weather⟩,
    pr_Weather_hours := by rw [e_Weather]; exact ⟨_, a16, g16, t16, _, r16⟩,
    me_Weather_signs := by rw [e_Weather]; exact ⟨a17, i17, k17⟩,
    sm_Weather_of_signs := by rw [e_Weather]; exact ⟨_, ⟨rd_Weather, ga_Weather⟩, ⟨_, a18, _, r18⟩, k18⟩ }
  exact ⟨(PySem.W.fnOf "law" "law" (defArgs s_law) (defBody s_law) (defScope s_law) .none kV45 dc45 pm45 an45 cd45 ct45), fun s v => .of_eq rfl, fun base _ _ => law_done (ok_law T) law_true⟩

end Gn
open PySem PySem.W PyProof.Rows in
set_option maxRecDepth 100000 in
set_option maxHeartbeats 0 in
theorem PySem.Challenge.cw_damphouse_k38_whole_saver_sees_ahead_holds : PySem.Challenge.rw_damphouse_k38_whole_saver_sees_ahead.Holds := by
  w_on; o_law; k_head; (case hw => w_witness2)
  k_fill
  refine L2.walk_of (l := PySem.Challenge.rw_damphouse_k38_whole_saver_sees_ahead) (n := 63) (k := 11) (x := "script") (CX := fun w => L2.CX (PySem.W.OpenLaw.prog PySem.Challenge.rw_damphouse_k38_whole_saver_sees_ahead) w) (sp := fun w => Gn.spLaw _ 63) rfl (by decide) rfl ⟨rfl, by decide, by decide⟩ (fun w h Y => PySem.W.kIn_of Y) ?F (fun _ _ a ns hl _ hS => ⟨a, ns, rfl, hS, hl, fun _ => rfl⟩) (fun _ _ _ _ _ h => Gn.cx_false h)
  case F =>
    intro w mg fa h KX G hmg
    refine' Gn.all_mk KX G hmg ?a_BadKind ?x_BadKind ?kp_BadKind ?s_BadKind ?t_BadKind ?a_BadLacquer ?x_BadLacquer ?kp_BadLacquer ?s_BadLacquer ?t_BadLacquer ?a_BadNumber ?x_BadNumber ?kp_BadNumber ?s_BadNumber ?t_BadNumber ?a_BadWeather ?x_BadWeather ?kp_BadWeather ?s_BadWeather ?t_BadWeather ?a_Climate ?pg_Climate ?hd_Climate ?po_Climate ?sa_Climate ?na_Climate_f_kinds ?mk_Climate ?kc_Climate ?a_Lacquer ?pg_Lacquer ?hd_Lacquer ?po_Lacquer ?sa_Lacquer ?na_Lacquer_f_a ?na_Lacquer_f_b ?rd_Lacquer ?ga_Lacquer ?cv_Lacquer_MOST ?mk_Lacquer ?kc_Lacquer ?a_Spoilt ?q_Spoilt ?sa_Spoilt ?up_Spoilt ?sb_Spoilt ?sf_Spoilt ?nx_Spoilt ?kp_Spoilt ?s_Spoilt ?t_Spoilt ?hd_Spoilt ?a_Unsound ?q_Unsound ?sa_Unsound ?up_Unsound ?sb_Unsound ?sf_Unsound ?nx_Unsound ?kp_Unsound ?s_Unsound ?t_Unsound ?hd_Unsound ?a_Weather ?pg_Weather ?hd_Weather ?po_Weather ?sa_Weather ?na_Weather_f_signs ?na_Weather_f_lengths ?rd_Weather ?ga_Weather ?mk_Weather ?kc_Weather ?th_ ?tp_ ?a0 ?i0 ?l0 ?c0 ?k0 ?a1 ?g1 ?t1 ?r1 ?l1 ?c1 ?k1 ?a2 ?i2 ?l2 ?c2 ?k2 ?a3 ?i3 ?l3 ?c3 ?k3 ?a4 ?l4 ?c4 ?k4 ?a5 ?l5 ?c5 ?k5 ?a6 ?i6 ?l6 ?c6 ?k6 ?a7 ?g7 ?t7 ?r7 ?l7 ?c7 ?k7 ?a8 ?l8 ?c8 ?k8 ?a9 ?i9 ?l9 ?c9 ?k9 ?a10 ?l10 ?c10 ?k10 ?a11 ?l11 ?c11 ?k11 ?a12 ?i12 ?l12 ?c12 ?k12 ?ti12 ?lc12 ?vs_12 ?ff12 ?lx12 ?a13 ?l13 ?c13 ?k13 ?a14 ?l14 ?c14 ?k14 ?a15 ?i15 ?l15 ?c15 ?k15 ?a16 ?g16 ?t16 ?r16 ?l16 ?c16 ?k16 ?a17 ?i17 ?l17 ?c17 ?k17 ?a18 ?r18 ?l18 ?c18 ?k18 ?a19 ?l19 ?c19 ?k19 ?a20 ?l20 ?c20 ?k20 ?a21 ?l21 ?c21 ?k21 ?a22 ?l22 ?c22 ?k22 ?a23 ?l23 ?c23 ?k23 ?a24 ?l24 ?c24 ?k24 ?a25 ?l25 ?c25 ?k25 ?a26 ?i26 ?l26 ?c26 ?k26 ?ti26 ?lc26 ?vs_26 ?ff26 ?lx26 ?a27 ?l27 ?c27 ?k27 ?a28 ?l28 ?c28 ?k28 ?a29 ?l29 ?c29 ?k29 ?a30 ?l30 ?c30 ?k30 ?a31 ?l31 ?c31 ?k31 ?a32 ?l32 ?c32 ?k32 ?a33 ?l33 ?c33 ?k33 ?a34 ?l34 ?c34 ?k34 ?a35 ?l35 ?c35 ?k35 ?a36 ?l36 ?c36 ?k36 ?a37 ?l37 ?c37 ?k37 ?a38 ?l38 ?c38 ?k38 ?a39 ?l39 ?c39 ?k39 ?a40 ?l40 ?c40 ?k40 ?a41 ?l41 ?c41 ?k41 ?a42 ?l42 ?c42 ?k42 ?a43 ?l43 ?c43 ?k43 ?a44 ?l44 ?c44 ?k44 ?a45 ?l45 ?c45 ?k45 ?v_BOTH_SIGNS ?v_LONGEST_RUN ?v_LONGEST_SPELL ?v_MOST_HOURS ?v_MOST_KINDS ?no_any ?no_bool ?no_enumerate ?no_int ?no_isinstance ?no_iter ?no_len ?no_list ?no_max ?no_min ?no_range ?no_str ?no_sum ?no_super ?no_tuple
    (case a_BadKind => k_is)
    (case x_BadKind => k_exc)
    (case kp_BadKind => k_is)
    (case s_BadKind => k_is)
    (case t_BadKind => k_is)
    (case a_BadLacquer => k_is)
    (case x_BadLacquer => k_exc)
    (case kp_BadLacquer => k_is)
    (case s_BadLacquer => k_is)
    (case t_BadLacquer => k_is)
    (case a_BadNumber => k_is)
    (case x_BadNumber => k_exc)
    (case kp_BadNumber => k_is)
    (case s_BadNumber => k_is)
    (case t_BadNumber => k_is)
    (case a_BadWeather => k_is)
    (case x_BadWeather => k_exc)
    (case kp_BadWeather => k_is)
    (case s_BadWeather => k_is)
    (case t_BadWeather => k_is)
    (case a_Climate => k_is)
    (case pg_Climate => k_is)
    (case hd_Climate => k_is)
    (case po_Climate => k_is)
    (case sa_Climate => k_is)
    (case na_Climate_f_kinds => k_is)
    (case mk_Climate => k_is)
    (case kc_Climate => k_is)
    (case a_Lacquer => k_is)
    (case pg_Lacquer => k_is)
    (case hd_Lacquer => k_is)
    (case po_Lacquer => k_is)
    (case sa_Lacquer => k_is)
    (case na_Lacquer_f_a => k_is)
    (case na_Lacquer_f_b => k_is)
    (case rd_Lacquer => k_is)
    (case ga_Lacquer => k_is)
    (case cv_Lacquer_MOST => k_is)
    (case mk_Lacquer => k_is)
    (case kc_Lacquer => k_is)
    (case a_Spoilt => k_is)
    (case q_Spoilt => first | rfl | kx_is)
    (case sa_Spoilt => k_is)
    (case up_Spoilt => first | rfl | ks_is)
    (case sb_Spoilt => k_is)
    (case sf_Spoilt => k_is)
    (case nx_Spoilt => k_is)
    (case kp_Spoilt => k_is)
    (case s_Spoilt => k_is)
    (case t_Spoilt => k_is)
    (case hd_Spoilt => k_is)
    (case a_Unsound => k_is)
    (case q_Unsound => first | rfl | kx_is)
    (case sa_Unsound => k_is)
    (case up_Unsound => first | rfl | ks_is)
    (case sb_Unsound => k_is)
    (case sf_Unsound => k_is)
    (case nx_Unsound => k_is)
    (case kp_Unsound => k_is)
    (case s_Unsound => k_is)
    (case t_Unsound => k_is)
    (case hd_Unsound => k_is)
    (case a_Weather => k_is)
    (case pg_Weather => k_is)
    (case hd_Weather => k_is)
    (case po_Weather => k_is)
    (case sa_Weather => k_is)
    (case na_Weather_f_signs => k_is)
    (case na_Weather_f_lengths => k_is)
    (case rd_Weather => k_is)
    (case ga_Weather => k_is)
    (case mk_Weather => k_is)
    (case kc_Weather => k_is)
    (case th_ => k_is)
    (case tp_ => first | rfl | decide +kernel)
    (case a0 => k_is)
    (case i0 => k_is)
    (case l0 => k_is)
    (case c0 => k_is)
    (case k0 => k_is)
    (case a1 => k_is)
    (case g1 => k_is)
    (case t1 => k_is)
    (case r1 => k_is)
    (case l1 => k_is)
    (case c1 => k_is)
    (case k1 => k_is)
    (case a2 => k_is)
    (case i2 => k_is)
    (case l2 => k_is)
    (case c2 => k_is)
    (case k2 => k_is)
    (case a3 => k_is)
    (case i3 => k_is)
    (case l3 => k_is)
    (case c3 => k_is)
    (case k3 => k_is)
    (case a4 => k_is)
    (case l4 => k_is)
    (case c4 => k_is)
    (case k4 => k_is)
    (case a5 => k_is)
    (case l5 => k_is)
    (case c5 => k_is)
    (case k5 => k_is)
    (case a6 => k_is)
    (case i6 => k_is)
    (case l6 => k_is)
    (case c6 => k_is)
    (case k6 => k_is)
    (case a7 => k_is)
    (case g7 => k_is)
    (case t7 => k_is)
    (case r7 => k_is)
    (case l7 => k_is)
    (case c7 => k_is)
    (case k7 => k_is)
    (case a8 => k_is)
    (case l8 => k_is)
    (case c8 => k_is)
    (case k8 => k_is)
    (case a9 => k_is)
    (case i9 => k_is)
    (case l9 => k_is)
    (case c9 => k_is)
    (case k9 => k_is)
    (case a10 => k_is)
    (case l10 => k_is)
    (case c10 => k_is)
    (case k10 => k_is)
    (case a11 => k_is)
    (case l11 => k_is)
    (case c11 => k_is)
    (case k11 => k_is)
    (case a12 => k_is)
    (case i12 => k_is)
    (case l12 => k_is)
    (case c12 => k_is)
    (case k12 => k_is)
    (case ti12 => k_is)
    (case lc12 => k_is)
    (case vs_12 => rfl)
    (case ff12 => first | rfl | decide +kernel)
    (case lx12 => k_is)
    (case a13 => k_is)
    (case l13 => k_is)
    (case c13 => k_is)
    (case k13 => k_is)
    (case a14 => k_is)
    (case l14 => k_is)
    (case c14 => k_is)
    (case k14 => k_is)
    (case a15 => k_is)
    (case i15 => k_is)
    (case l15 => k_is)
    (case c15 => k_is)
    (case k15 => k_is)
    (case a16 => k_is)
    (case g16 => k_is)
    (case t16 => k_is)
    (case r16 => k_is)
    (case l16 => k_is)
    (case c16 => k_is)
    (case k16 => k_is)
    (case a17 => k_is)
    (case i17 => k_is)
    (case l17 => k_is)
    (case c17 => k_is)
    (case k17 => k_is)
    (case a18 => k_is)
    (case r18 => k_is)
    (case l18 => k_is)
    (case c18 => k_is)
    (case k18 => k_is)
    (case a19 => k_is)
    (case l19 => k_is)
    (case c19 => k_is)
    (case k19 => k_is)
    (case a20 => k_is)
    (case l20 => k_is)
    (case c20 => k_is)
    (case k20 => k_is)
    (case a21 => k_is)
    (case l21 => k_is)
    (case c21 => k_is)
    (case k21 => k_is)
    (case a22 => k_is)
    (case l22 => k_is)
    (case c22 => k_is)
    (case k22 => k_is)
    (case a23 => k_is)
    (case l23 => k_is)
    (case c23 => k_is)
    (case k23 => k_is)
    (case a24 => k_is)
    (case l24 => k_is)
    (case c24 => k_is)
    (case k24 => k_is)
    (case a25 => k_is)
    (case l25 => k_is)
    (case c25 => k_is)
    (case k25 => k_is)
    (case a26 => k_is)
    (case i26 => k_is)
    (case l26 => k_is)
    (case c26 => k_is)
    (case k26 => k_is)
    (case ti26 => k_is)
    (case lc26 => k_is)
    (case vs_26 => rfl)
    (case ff26 => first | rfl | decide +kernel)
    (case lx26 => k_is)
    (case a27 => k_is)
    (case l27 => k_is)
    (case c27 => k_is)
    (case k27 => k_is)
    (case a28 => k_is)
    (case l28 => k_is)
    (case c28 => k_is)
    (case k28 => k_is)
    (case a29 => k_is)
    (case l29 => k_is)
    (case c29 => k_is)
    (case k29 => k_is)
    (case a30 => k_is)
    (case l30 => k_is)
    (case c30 => k_is)
    (case k30 => k_is)
    (case a31 => k_is)
    (case l31 => k_is)
    (case c31 => k_is)
    (case k31 => k_is)
    (case a32 => k_is)
    (case l32 => k_is)
    (case c32 => k_is)
    (case k32 => k_is)
    (case a33 => k_is)
    (case l33 => k_is)
    (case c33 => k_is)
    (case k33 => k_is)
    (case a34 => k_is)
    (case l34 => k_is)
    (case c34 => k_is)
    (case k34 => k_is)
    (case a35 => k_is)
    (case l35 => k_is)
    (case c35 => k_is)
    (case k35 => k_is)
    (case a36 => k_is)
    (case l36 => k_is)
    (case c36 => k_is)
    (case k36 => k_is)
    (case a37 => k_is)
    (case l37 => k_is)
    (case c37 => k_is)
    (case k37 => k_is)
    (case a38 => k_is)
    (case l38 => k_is)
    (case c38 => k_is)
    (case k38 => k_is)
    (case a39 => k_is)
    (case l39 => k_is)
    (case c39 => k_is)
    (case k39 => k_is)
    (case a40 => k_is)
    (case l40 => k_is)
    (case c40 => k_is)
    (case k40 => k_is)
    (case a41 => k_is)
    (case l41 => k_is)
    (case c41 => k_is)
    (case k41 => k_is)
    (case a42 => k_is)
    (case l42 => k_is)
    (case c42 => k_is)
    (case k42 => k_is)
    (case a43 => k_is)
    (case l43 => k_is)
    (case c43 => k_is)
    (case k43 => k_is)
    (case a44 => k_is)
    (case l44 => k_is)
    (case c44 => k_is)
    (case k44 => k_is)
    (case a45 => k_is)
    (case l45 => k_is)
    (case c45 => k_is)
    (case k45 => k_is)
    (case v_BOTH_SIGNS => k_is)
    (case v_LONGEST_RUN => k_is)
    (case v_LONGEST_SPELL => k_is)
    (case v_MOST_HOURS => k_is)
    (case v_MOST_KINDS => k_is)
    (case no_any => k_is)
    (case no_bool => k_is)
    (case no_enumerate => k_is)
    (case no_int => k_is)
    (case no_isinstance => k_is)
    (case no_iter => k_is)
    (case no_len => k_is)
    (case no_list => k_is)
    (case no_max => k_is)
    (case no_min => k_is)
    (case no_range => k_is)
    (case no_str => k_is)
    (case no_sum => k_is)
    (case no_super => k_is)
    (case no_tuple => k_is)

