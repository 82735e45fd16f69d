import PyProof.Rows.All
import Wide.All
import OpenK.AllK
import Wide.FinOn
import HandS.ForMost
import HandS.IsInst
import HandS.Wide
import HandS.EndBits
import HandS.Walk
import HandS.Defaults
import HandS.TupLe
import HandS.Codes
import HandS.Replace
import HandS.Flow
import KE.IntTextLaws
import KE.IntBitsLaws
import HandS.WideBits
import PySem.Challenge.RW_signscreen_k05_parted_numbers
set_option Elab.async false
set_option linter.all false
set_option maxRecDepth 100000
set_option maxHeartbeats 4000000
/-! Fw: data as it lies in the heap (frozen F, all H), slots, expressions and statements by what they are worth. -/
namespace Fw
open PySem L2
abbrev Fg := PySem.W.Frag

def Ex (H H' : Hp) : Prop := ∀ a o, H a = some o → H' a = some o
theorem Ex.refl (H : Hp) : Ex H H := fun _ _ h => h
theorem Ex.trans {H H1 H2 : Hp} (a : Ex H H1) (b : Ex H1 H2) : Ex H H2 := fun x o h => b x o (a x o h)
theorem Ex.new {H : Hp} {p : Addr} {o : HO} (h : H p = none) : Ex H (upd H p o) := fun a u e => by
  rw [upd_ne (ne_of_none e h)]; exact e
theorem Ex.upd {F H : Hp} {p : Addr} {o : HO} (e : Ex F H) (h : F p = none) : Ex F (upd H p o) := fun a u ha => by
  rw [upd_ne (ne_of_none ha h)]; exact e a u ha
theorem Ex.rd {H H' : Hp} {a : Addr} {u : HO} (e : Ex H H') (h : Rd H a u) : Rd H' a u := by
  rcases h with h | ⟨o, h⟩
  · exact .inl (e _ _ h)
  · exact .inr ⟨o, e _ _ h⟩
theorem Ex.l {K : Fg} {H H' : Hp} {a : Addr} {xs : List V} (e : Ex H H') (h : SqL K H a xs) : SqL K H' a xs := by
  rcases h with h | h
  · exact .inl (e.rd h)
  · exact .inr h
theorem Ex.t {K : Fg} {H H' : Hp} {a : Addr} {xs : List V} (e : Ex H H') (h : SqT K H a xs) : SqT K H' a xs := by
  rcases h with h | h
  · exact .inl (e.rd h)
  · exact .inr h

/-- what is new in the frozen part was nowhere before -/
structure Nw (F H F' H' : Hp) : Prop where
  h : Ex H H'
  n : ∀ b, F' b ≠ none → F b ≠ none ∨ H b = none
theorem Nw.refl {F H : Hp} : Nw F H F H := ⟨Ex.refl _, fun _ h => .inl h⟩
theorem Nw.trans {F H F1 H1 F2 H2 : Hp} (a : Nw F H F1 H1) (b : Nw F1 H1 F2 H2) : Nw F H F2 H2 := ⟨a.h.trans b.h, fun x hx => by
  rcases b.n x hx with q | q
  · exact a.n x q
  · refine .inr ?_
    cases z : H x with
    | none => rfl
    | some o => rw [a.h _ _ z] at q; cases q⟩
theorem Nw.lay {F H : Hp} {p : Addr} {o : HO} (hp : H p = none) : Nw F H (upd F p o) (upd H p o) := ⟨Ex.new hp, fun b hb => by
  by_cases ha : b = p
  · subst ha; exact .inr hp
  · rw [upd_ne ha] at hb; exact .inl hb⟩
/-! ### data -/
class Py (τ : Type) where
  rep : Fg → Hp → V → τ → Prop
  mono : ∀ {K : Fg} {F F' : Hp} {v : V} {x : τ}, Ex F F' → rep K F v x → rep K F' v x
open Py
def Reps {τ : Type} [Py τ] (K : Fg) (F : Hp) : List V → List τ → Prop := Paired (rep K F)
theorem Reps.mono {τ : Type} [Py τ] {K : Fg} {F F' : Hp} (e : Ex F F') : ∀ {vs : List V} {xs : List τ}, Reps K F vs xs → Reps K F' vs xs
  | _, _, .nil => .nil
  | _, _, .cons r t => .cons (Py.mono e r) (Reps.mono e t)
theorem Reps.length {τ : Type} [Py τ] {K : Fg} {F : Hp} {vs : List V} {xs : List τ} (r : Reps K F vs xs) : vs.length = xs.length := Paired.length r
theorem Reps.get {τ : Type} [Py τ] {K : Fg} {F : Hp} : ∀ {vs : List V} {xs : List τ} {i : Nat} {v : V}, Reps K F vs xs → vs[i]? = some v → ∃ x, xs[i]? = some x ∧ rep K F v x
  | _, _, _, _, .nil, e => by simp at e
  | _, _, 0, _, .cons r _, e => by simp at e; subst e; exact ⟨_, rfl, r⟩
  | _, _, i + 1, v, .cons _ t, e => by
    obtain ⟨x, h1, h2⟩ := Reps.get (i := i) (v := v) t (by simpa using e)
    exact ⟨x, by simpa using h1, h2⟩
theorem Reps.get' {τ : Type} [Py τ] {K : Fg} {F : Hp} : ∀ {vs : List V} {xs : List τ} {i : Nat} {x : τ}, Reps K F vs xs → xs[i]? = some x → ∃ v, vs[i]? = some v ∧ rep K F v x
  | _, _, _, _, .nil, e => by simp at e
  | _, _, 0, _, .cons r _, e => by simp at e; subst e; exact ⟨_, rfl, r⟩
  | _, _, i + 1, v, .cons _ t, e => by
    obtain ⟨x, h1, h2⟩ := Reps.get' (i := i) (x := v) t (by simpa using e)
    exact ⟨x, by simpa using h1, h2⟩
theorem Reps.app {τ : Type} [Py τ] {K : Fg} {F : Hp} : ∀ {vs ws : List V} {xs ys : List τ}, Reps K F vs xs → Reps K F ws ys → Reps K F (vs ++ ws) (xs ++ ys)
  | _, _, _, _, .nil, s => s
  | _, _, _, _, .cons r t, s => .cons r (Reps.app t s)
theorem Reps.one {τ : Type} [Py τ] {K : Fg} {F : Hp} {v : V} {x : τ} (r : rep K F v x) : Reps K F [v] [x] := .cons r .nil
theorem Reps.take {τ : Type} [Py τ] {K : Fg} {F : Hp} : ∀ {vs : List V} {xs : List τ} (n : Nat), Reps K F vs xs → Reps K F (vs.take n) (xs.take n)
  | _, _, 0, _ => .nil
  | _, _, _ + 1, .nil => .nil
  | _, _, n + 1, .cons r t => .cons r (Reps.take n t)
theorem Reps.drop {τ : Type} [Py τ] {K : Fg} {F : Hp} : ∀ {vs : List V} {xs : List τ} (n : Nat), Reps K F vs xs → Reps K F (vs.drop n) (xs.drop n)
  | _, _, 0, r => r
  | _, _, _ + 1, .nil => .nil
  | _, _, n + 1, .cons _ t => Reps.drop n t
theorem Reps.set {τ : Type} [Py τ] {K : Fg} {F : Hp} {v : V} {x : τ} (q : rep K F v x) : ∀ {vs : List V} {xs : List τ} (n : Nat), Reps K F vs xs → Reps K F (vs.set n v) (xs.set n x)
  | _, _, _, .nil => .nil
  | _, _, 0, .cons _ t => .cons q t
  | _, _, n + 1, .cons r t => .cons r (Reps.set q n t)
theorem Reps.map {τ : Type} [Py τ] {K : Fg} {F : Hp} {g : τ → V} (hg : ∀ x, rep K F (g x) x) : ∀ xs : List τ, Reps K F (xs.map g) xs
  | [] => .nil
  | x :: r => .cons (hg x) (Reps.map hg r)

instance : Py Int := ⟨fun _ _ v x => v = .int x, fun _ h => h⟩
instance : Py Bool := ⟨fun _ _ v x => v = .bl x, fun _ h => h⟩
instance : Py Str := ⟨fun _ _ v x => v = .str x, fun _ h => h⟩
instance : Py Unit := ⟨fun _ _ v _ => v = .non, fun _ h => h⟩
instance {τ : Type} [Py τ] : Py (Option τ) := ⟨fun K F v x => match x with
  | none => v = .non
  | some y => rep K F v y, fun {K F F' v x} e h => by
    cases x with
    | none => exact h
    | some y => exact Py.mono e h⟩
instance {τ : Type} [Py τ] : Py (List τ) := ⟨fun K F v x => ∃ a vs, v = .ref a ∧ F a = some (.lst vs) ∧ Reps K F vs x,
  fun e ⟨a, vs, h1, h2, h3⟩ => ⟨a, vs, h1, e _ _ h2, h3.mono e⟩⟩
/-- a list that is only read (the script, a list of the module) -/
structure Scr (τ : Type) where
  l : List τ
instance {τ : Type} [Py τ] : Py (Scr τ) := ⟨fun K F v x => ∃ a vs, v = .ref a ∧ SqL K F a vs ∧ Reps K F vs x.l,
  fun e ⟨a, vs, h1, h2, h3⟩ => ⟨a, vs, h1, e.l h2, h3.mono e⟩⟩
theorem sq_of {K : Fg} {H : Hp} {a : Addr} {xs : List V} (h : H a = some (.lst xs)) : SqL K H a xs := Or.inl (Or.inl h)
theorem st_of {K : Fg} {H : Hp} {a : Addr} {xs : List V} (h : H a = some (.tup xs)) : SqT K H a xs := Or.inl (Or.inl h)
/-- lists that are read, of either kind -/
class PyL (υ : Type) (τ : outParam Type) [Py υ] [Py τ] where
  li : υ → List τ
  sq : ∀ {K : Fg} {F : Hp} {v : V} {x : υ}, rep K F v x → ∃ a vs, v = .ref a ∧ SqL K F a vs ∧ Reps K F vs (li x)
instance {τ : Type} [Py τ] : PyL (List τ) τ := ⟨fun x => x, fun ⟨a, vs, h1, h2, h3⟩ => ⟨a, vs, h1, sq_of h2, h3⟩⟩
instance {τ : Type} [Py τ] : PyL (Scr τ) τ := ⟨Scr.l, fun ⟨a, vs, h1, h2, h3⟩ => ⟨a, vs, h1, h2, h3⟩⟩
/-- a tuple of one kind -/
structure Tup (τ : Type) where
  l : List τ
  deriving DecidableEq
instance {τ : Type} [Py τ] : Py (Tup τ) := ⟨fun K F v x => ∃ a vs, v = .ref a ∧ SqT K F a vs ∧ Reps K F vs x.l,
  fun e ⟨a, vs, h1, h2, h3⟩ => ⟨a, vs, h1, e.t h2, h3.mono e⟩⟩
structure T3 (α β γ : Type) where
  a : α
  b : β
  c : γ
  deriving DecidableEq
structure T4 (α β γ δ : Type) where
  a : α
  b : β
  c : γ
  d : δ
  deriving DecidableEq
structure T5 (α β γ δ ε : Type) where
  a : α
  b : β
  c : γ
  d : δ
  e : ε
  deriving DecidableEq
instance {α β γ : Type} [Inhabited α] [Inhabited β] [Inhabited γ] : Inhabited (T3 α β γ) := ⟨⟨default, default, default⟩⟩
instance {α β γ δ : Type} [Inhabited α] [Inhabited β] [Inhabited γ] [Inhabited δ] : Inhabited (T4 α β γ δ) := ⟨⟨default, default, default, default⟩⟩
instance {α β γ δ ε : Type} [Inhabited α] [Inhabited β] [Inhabited γ] [Inhabited δ] [Inhabited ε] : Inhabited (T5 α β γ δ ε) := ⟨⟨default, default, default, default, default⟩⟩
instance {α : Type} : Inhabited (Tup α) := ⟨⟨[]⟩⟩
section
variable {α β γ δ ε : Type} [Py α] [Py β] [Py γ] [Py δ] [Py ε]
instance : Py (α × β) := ⟨fun K F v x => ∃ p a b, v = .ref p ∧ SqT K F p [a, b] ∧ rep K F a x.1 ∧ rep K F b x.2,
  fun e ⟨p, a, b, h1, h2, h3, h4⟩ => ⟨p, a, b, h1, e.t h2, Py.mono e h3, Py.mono e h4⟩⟩
instance : Py (T3 α β γ) := ⟨fun K F v x => ∃ p a b c, v = .ref p ∧ SqT K F p [a, b, c] ∧ rep K F a x.a ∧ rep K F b x.b ∧ rep K F c x.c,
  fun e ⟨p, a, b, c, h1, h2, h3, h4, h5⟩ => ⟨p, a, b, c, h1, e.t h2, Py.mono e h3, Py.mono e h4, Py.mono e h5⟩⟩
instance : Py (T4 α β γ δ) := ⟨fun K F v x => ∃ p a b c d, v = .ref p ∧ SqT K F p [a, b, c, d] ∧ rep K F a x.a ∧ rep K F b x.b ∧ rep K F c x.c ∧ rep K F d x.d,
  fun e ⟨p, a, b, c, d, h1, h2, h3, h4, h5, h6⟩ => ⟨p, a, b, c, d, h1, e.t h2, Py.mono e h3, Py.mono e h4, Py.mono e h5, Py.mono e h6⟩⟩
instance : Py (T5 α β γ δ ε) := ⟨fun K F v x => ∃ p a b c d q, v = .ref p ∧ SqT K F p [a, b, c, d, q] ∧ rep K F a x.a ∧ rep K F b x.b ∧ rep K F c x.c ∧ rep K F d x.d ∧ rep K F q x.e,
  fun e ⟨p, a, b, c, d, q, h1, h2, h3, h4, h5, h6, h7⟩ => ⟨p, a, b, c, d, q, h1, e.t h2, Py.mono e h3, Py.mono e h4, Py.mono e h5, Py.mono e h6, Py.mono e h7⟩⟩
end

/-! ### owned things: they may change -/
class Own (τ : Type) where
  «at» : Fg → Hp → Hp → Addr → List Addr → τ → Prop
  dom : ∀ {K F H a fp x}, «at» K F H a fp x → ∀ b ∈ fp, F b = none ∧ ∃ o, H b = some o
  loc : ∀ {K F H a fp x F' H'}, «at» K F H a fp x → Ex F F' → (∀ b ∈ fp, F' b = none ∧ H' b = H b) → «at» K F' H' a fp x
/-- an owned list of frozen things -/
structure OL (τ : Type) where
  l : List τ
instance {τ : Type} [Py τ] : Own (OL τ) where
  «at» := fun K F H a fp x => fp = [a] ∧ F a = none ∧ ∃ vs, H a = some (.lst vs) ∧ Reps K F vs x.l
  dom := by
    rintro K F H a fp x ⟨rfl, h1, vs, h2, _⟩ b hb
    cases List.mem_singleton.mp hb
    exact ⟨h1, _, h2⟩
  loc := by
    rintro K F H a fp x F' H' ⟨rfl, h1, vs, h2, h3⟩ e k
    obtain ⟨k1, k2⟩ := k a (by simp)
    exact ⟨rfl, k1, vs, by rw [k2]; exact h2, h3.mono e⟩

inductive Slot : Type 1 where
  | no
  | fz {τ : Type} [inst : Py τ] (x : τ)
  | ow {τ : Type} [inst : Own τ] (x : τ)
  | br {τ : Type} [inst : Own τ] (x : τ)
def Slot.isBr : Slot → Bool
  | @Slot.br _ _ _ => true
  | _ => false
/-- a slot that borrows: its thing is read, never changed -/
def BrAt (Γ : List Slot) (i : Nat) : Prop := ∃ s, Γ[i]? = some s ∧ s.isBr = true
theorem BrAt.set {Γ : List Slot} {i j : Nat} {s : Slot} (h : BrAt Γ j) (hj : j ≠ i) : BrAt (Γ.set i s) j := by
  obtain ⟨z, h1, h2⟩ := h
  exact ⟨z, by rw [List.getElem?_set_ne (Ne.symm hj)]; exact h1, h2⟩
theorem BrAt.ow {Γ : List Slot} {i : Nat} {τ : Type} [Own τ] {x : τ} (h : Γ[i]? = some (.ow x)) : ¬ BrAt Γ i := by
  rintro ⟨z, h1, h2⟩
  rw [h] at h1; cases h1; cases h2
def Slot.ok (K : Fg) (F H : Hp) (v : Option V) (fp : List Addr) : Slot → Prop
  | .no => fp = []
  | @Slot.fz _ _ x => fp = [] ∧ ∃ u, v = some u ∧ rep K F u x
  | @Slot.ow _ _ x => ∃ a, v = some (.ref a) ∧ Own.at K F H a fp x
  | @Slot.br _ _ x => ∃ a, v = some (.ref a) ∧ Own.at K F H a fp x

/-- where a def began: what was frozen, all that stood, what it may change -/
structure Cw where
  F0 : Hp
  H0 : Hp
  W : Addr → Prop
def Cw.al (c : Cw) (b : Addr) : Prop := c.W b ∨ c.H0 b = none
structure Wd (c : Cw) (F H : Hp) : Prop where
  f0 : Ex c.F0 F
  fh : Ex F H
  keep : ∀ b o, ¬ c.W b → c.H0 b = some o → H b = some o
  new : ∀ b, F b ≠ none → c.F0 b ≠ none ∨ c.al b
structure EnvD (K : Fg) (c : Cw) (F H : Hp) (σ : L2.St) (Γ : List Slot) (fp : Nat → List Addr) : Prop where
  wd : Wd c F H
  len : σ.length = Γ.length
  ok : ∀ (i : Nat) (s : Slot), Γ[i]? = some s → ∃ v, σ[i]? = some v ∧ s.ok K F H v (fp i)
  dis : ∀ i j b, b ∈ fp i → b ∈ fp j → i = j
  al : ∀ i b, b ∈ fp i → ¬ BrAt Γ i → c.al b
  out : ∀ i, Γ.length ≤ i → fp i = []
def Env (K : Fg) (c : Cw) (F H : Hp) (σ : L2.St) (Γ : List Slot) : Prop := ∃ fp, EnvD K c F H σ Γ fp

section
variable {K : Fg} {c : Cw} {F F' H H' : Hp} {σ : L2.St} {Γ Γ' : List Slot} {fp : Nat → List Addr}
theorem Slot.ok.grow {s : Slot} {v : Option V} {l : List Addr} (h : s.ok K F H v l) (e : Ex F F') (k : ∀ b ∈ l, F' b = none ∧ H' b = H b) : s.ok K F' H' v l := by
  cases s with
  | no => exact h
  | fz x => obtain ⟨rfl, u, h1, h2⟩ := h; exact ⟨rfl, u, h1, Py.mono e h2⟩
  | ow x => obtain ⟨a, h1, h2⟩ := h; exact ⟨a, h1, Own.loc h2 e k⟩
  | br x => obtain ⟨a, h1, h2⟩ := h; exact ⟨a, h1, Own.loc h2 e k⟩
theorem Slot.ok.dom {s : Slot} {v : Option V} {l : List Addr} (h : s.ok K F H v l) : ∀ b ∈ l, F b = none ∧ ∃ o, H b = some o := by
  cases s with
  | no => cases (show l = [] from h); intro b hb; cases hb
  | fz x => obtain ⟨rfl, _⟩ := h; intro b hb; cases hb
  | ow x => obtain ⟨a, h1, h2⟩ := h; exact Own.dom h2
  | br x => obtain ⟨a, h1, h2⟩ := h; exact Own.dom h2
theorem EnvD.dom (E : EnvD K c F H σ Γ fp) {i : Nat} {b : Addr} (hb : b ∈ fp i) : F b = none ∧ ∃ o, H b = some o := by
  by_cases hi : i < Γ.length
  · obtain ⟨v, _, h⟩ := E.ok i Γ[i] (by simp [hi])
    exact h.dom b hb
  · rw [E.out i (by omega)] at hb; cases hb
/-- the frozen part and the heap grow -/
theorem EnvD.grow (E : EnvD K c F H σ Γ fp) (e1 : Ex F F') (e2 : Ex F' H') (e3 : Ex H H') (fr : ∀ b, F' b ≠ none → F b ≠ none ∨ H b = none) : EnvD K c F' H' σ Γ fp := by
  refine ⟨⟨E.wd.f0.trans e1, e2, fun b o h1 h2 => e3 _ _ (E.wd.keep b o h1 h2), fun b hb => ?_⟩, E.len, fun i s hs => ?_, E.dis, E.al, E.out⟩
  · rcases fr b hb with h | h
    · exact E.wd.new b h
    · by_cases hw : c.W b
      · exact .inr (.inl hw)
      · refine .inr (.inr ?_)
        cases q : c.H0 b with
        | none => rfl
        | some o => rw [E.wd.keep b o hw q] at h; cases h
  · obtain ⟨v, h1, h2⟩ := E.ok i s hs
    refine ⟨v, h1, h2.grow e1 fun b hb => ?_⟩
    obtain ⟨d1, o, d2⟩ := h2.dom b hb
    refine ⟨?_, (e3 _ _ d2).trans d2.symm⟩
    cases q : F' b with
    | none => rfl
    | some u =>
      rcases fr b (by rw [q]; simp) with h | h
      · exact absurd d1 h
      · rw [d2] at h; cases h
theorem Env.grow (E : Env K c F H σ Γ) (e1 : Ex F F') (e2 : Ex F' H') (e3 : Ex H H') (fr : ∀ b, F' b ≠ none → F b ≠ none ∨ H b = none) : Env K c F' H' σ Γ := let ⟨fp, E⟩ := E; ⟨fp, E.grow e1 e2 e3 fr⟩
theorem Env.wd (E : Env K c F H σ Γ) : Wd c F H := let ⟨_, E⟩ := E; E.wd
/-- a new object is laid, frozen -/
theorem EnvD.lay (E : EnvD K c F H σ Γ fp) {p : Addr} {o : HO} (hp : H p = none) : EnvD K c (upd F p o) (upd H p o) σ Γ fp := by
  have hf : F p = none := by
    cases q : F p with
    | none => rfl
    | some u => rw [E.wd.fh _ _ q] at hp; cases hp
  refine E.grow (Ex.new hf) (fun a u h => ?_) (Ex.new hp) fun b hb => ?_
  · by_cases ha : a = p
    · subst ha; rw [upd_same] at h ⊢; exact h
    · rw [upd_ne ha] at h ⊢; exact E.wd.fh _ _ h
  · by_cases ha : b = p
    · subst ha; exact .inr hp
    · rw [upd_ne ha] at hb; exact .inl hb
theorem EnvD.ff (E : EnvD K c F H σ Γ fp) {p : Addr} (hp : H p = none) : F p = none := by
  cases q : F p with
  | none => rfl
  | some u => rw [E.wd.fh _ _ q] at hp; cases hp
/-- a frozen slot is read -/
theorem EnvD.get {τ : Type} [Py τ] {x : τ} {i : Nat} (E : EnvD K c F H σ Γ fp) (h : Γ[i]? = some (.fz x)) : ∃ v, σ[i]? = some (some v) ∧ rep K F v x := by
  obtain ⟨v, h1, _, u, h2, h3⟩ := E.ok i _ h
  subst h2
  exact ⟨u, h1, h3⟩
/-- a slot is set, frozen -/
theorem EnvD.set {τ : Type} [Py τ] {x : τ} {v : V} {i : Nat} (E : EnvD K c F H σ Γ fp) (r : rep K F v x) : EnvD K c F H (σ.set i (some v)) (Γ.set i (.fz x)) (fun j => if j = i then [] else fp j) := by
  refine ⟨E.wd, by simp [E.len], fun j s hs => ?_, fun j k b h1 h2 => ?_, fun j b h hn => ?_, fun j h => ?_⟩
  · by_cases hj : j = i
    · subst hj
      have hl : j < Γ.length := by
        have := (List.getElem?_eq_some_iff.mp hs).1
        simpa using this
      rw [List.getElem?_set_self hl] at hs
      cases hs
      exact ⟨some v, by rw [List.getElem?_set_self (by rw [E.len]; exact hl)], by simp, v, rfl, r⟩
    · rw [List.getElem?_set_ne (Ne.symm hj)] at hs
      rw [List.getElem?_set_ne (Ne.symm hj), if_neg hj]
      exact E.ok j s hs
  · split at h1
    · cases h1
    · split at h2
      · cases h2
      · exact E.dis j k b h1 h2
  · split at h
    · cases h
    · rename_i hj
      exact E.al j b h fun z => hn (z.set hj)
  · split
    · rfl
    · exact E.out j (by simpa using h)
theorem Env.set {τ : Type} [Py τ] {x : τ} {v : V} {i : Nat} (E : Env K c F H σ Γ) (r : rep K F v x) : Env K c F H (σ.set i (some v)) (Γ.set i (.fz x)) := let ⟨_, E⟩ := E; ⟨_, E.set r⟩
/-- a slot is set, owned: a thing that stands apart -/
theorem EnvD.setO {τ : Type} [Own τ] {x : τ} {a : Addr} {i : Nat} {l : List Addr} (E : EnvD K c F H σ Γ fp) (hi : i < Γ.length) (r : Own.at K F H a l x) (ha : ∀ b ∈ l, c.al b) (hd : ∀ j b, j ≠ i → b ∈ l → b ∉ fp j) :
    EnvD K c F H (σ.set i (some (.ref a))) (Γ.set i (.ow x)) (fun j => if j = i then l else fp j) := by
  refine ⟨E.wd, by simp [E.len], fun j s hs => ?_, fun j k b h1 h2 => ?_, fun j b h hn => ?_, fun j h => ?_⟩
  · by_cases hj : j = i
    · subst hj
      rw [List.getElem?_set_self hi] at hs
      cases hs
      exact ⟨some (.ref a), by rw [List.getElem?_set_self (by rw [E.len]; exact hi)], a, rfl, by simpa using r⟩
    · rw [List.getElem?_set_ne (Ne.symm hj)] at hs
      rw [List.getElem?_set_ne (Ne.symm hj), if_neg hj]
      exact E.ok j s hs
  · split at h1
    · rename_i e1
      split at h2
      · rename_i e2; exact e1.trans e2.symm
      · rename_i e2; exact absurd h2 (hd k b e2 h1)
    · rename_i e1
      split at h2
      · exact absurd h1 (hd j b e1 h2)
      · exact E.dis j k b h1 h2
  · split at h
    · exact ha b h
    · rename_i hj
      exact E.al j b h fun z => hn (z.set hj)
  · have hl : Γ.length ≤ j := by simpa using h
    rw [if_neg (by omega)]
    exact E.out j hl
/-- a slot is forgotten -/
theorem EnvD.drop {i : Nat} {v : Option V} (E : EnvD K c F H σ Γ fp) : EnvD K c F H (σ.set i v) (Γ.set i .no) (fun j => if j = i then [] else fp j) := by
  refine ⟨E.wd, by simp [E.len], fun j s hs => ?_, fun j k b h1 h2 => ?_, fun j b h hn => ?_, fun j h => ?_⟩
  · by_cases hj : j = i
    · subst hj
      have hl : j < Γ.length := by
        have := (List.getElem?_eq_some_iff.mp hs).1
        simpa using this
      rw [List.getElem?_set_self hl] at hs
      cases hs
      exact ⟨v, by rw [List.getElem?_set_self (by rw [E.len]; exact hl)], by simp [Slot.ok]⟩
    · rw [List.getElem?_set_ne (Ne.symm hj)] at hs
      rw [List.getElem?_set_ne (Ne.symm hj), if_neg hj]
      exact E.ok j s hs
  · split at h1
    · cases h1
    · split at h2
      · cases h2
      · exact E.dis j k b h1 h2
  · split at h
    · cases h
    · rename_i hj
      exact E.al j b h fun z => hn (z.set hj)
  · split
    · rfl
    · exact E.out j (by simpa using h)
end
end Fw
namespace Fw
open PySem L2 Py PyProof.Rows
/-- data whose value leans on no heap -/
class PySc (τ : Type) extends Py τ where
  v : τ → V
  sc : ∀ {K : Fg} {F : Hp} {u : V} {x : τ}, rep K F u x ↔ u = v x
instance : PySc Int := { v := .int, sc := Iff.rfl }
instance : PySc Bool := { v := .bl, sc := Iff.rfl }
instance : PySc Str := { v := .str, sc := Iff.rfl }
instance : PySc Unit := { v := fun _ => .non, sc := Iff.rfl }
def optV {τ : Type} [PySc τ] : Option τ → V
  | none => .non
  | some y => PySc.v y
theorem optV_sc {τ : Type} [PySc τ] {K : Fg} {F : Hp} {u : V} {x : Option τ} : rep K F u x ↔ u = optV x := by
  cases x with
  | none => exact Iff.rfl
  | some y => exact PySc.sc (τ := τ)
instance {τ : Type} [PySc τ] : PySc (Option τ) := { v := optV, sc := optV_sc }

section
variable (X : Cx) (c : Cw) (Γ : List Slot)
def EPr (K : Fg) (c : Cw) (te : TE) (Γ : List Slot) {τ : Type} [Py τ] (x : τ) : Prop :=
  ∀ F H σ fp, EnvD K c F H σ Γ fp → ∀ Q : VK, (∀ v F' H', EnvD K c F' H' σ Γ fp → Ex F F' → Nw F H F' H' → rep K F' v x → Q v H') → te σ H Q
def EBr (K : Fg) (c : Cw) (te : TE) (Γ : List Slot) {τ : Type} [Py τ] (x : τ) : Prop :=
  ∀ F H σ fp, EnvD K c F H σ Γ fp → ∀ Q : VK, (∀ v F' H', EnvD K c F' H' σ Γ fp → Ex F F' → Nw F H F' H' → rep K H' v x → Q v H') → te σ H Q
def ETr (K : Fg) (c : Cw) (tt : TT) (Γ : List Slot) (b : Bool) : Prop :=
  ∀ F H σ fp, EnvD K c F H σ Γ fp → ∀ Q : Bool → Hp → Prop, (∀ F' H', EnvD K c F' H' σ Γ fp → Ex F F' → Nw F H F' H' → Q b H') → tt σ H Q
/-- an expression is worth x, in frozen data; the same, borrowed; a test is worth b -/
def XE {τ : Type} [Py τ] (e : Expr) (x : τ) : Prop := ∃ t, PE X e t ∧ EPr X.K c t Γ x
def XB {τ : Type} [Py τ] (e : Expr) (x : τ) : Prop := ∃ t, PE X e t ∧ EBr X.K c t Γ x
def XT (e : Expr) (b : Bool) : Prop := ∃ t, PT X e t ∧ ETr X.K c t Γ b
def XW (e : Expr) (b : Bool) : Prop := ∃ t, PW X e t ∧ ETr X.K c t Γ b
/-- arguments: frozen data, one by one -/
class PyA (α : Type) where
  reps : Fg → Hp → List V → α → Prop
  mono : ∀ {K : Fg} {F F' : Hp} {v : List V} {x : α}, Ex F F' → reps K F v x → reps K F' v x
instance : PyA Unit := ⟨fun _ _ v _ => v = [], fun _ h => h⟩
instance {τ α : Type} [Py τ] [PyA α] : PyA (τ × α) := ⟨fun K F v x => ∃ u r, v = u :: r ∧ rep K F u x.1 ∧ PyA.reps K F r x.2,
  fun e ⟨u, r, h1, h2, h3⟩ => ⟨u, r, h1, Py.mono e h2, PyA.mono e h3⟩⟩
/-- a tuple of n things as a row of n arguments -/
class PyT (υ : Type) (α : outParam Type) [Py υ] [PyA α] where
  ar : Nat
  toA : υ → α
  ofA : α → υ
  to : ∀ {K : Fg} {F : Hp} {v : V} {x : υ}, rep K F v x → ∃ a vs, v = .ref a ∧ SqT K F a vs ∧ vs.length = ar ∧ PyA.reps K F vs (toA x)
  of : ∀ {K : Fg} {F : Hp} {a : Addr} {vs : List V} {x : α}, SqT K F a vs → PyA.reps K F vs x → rep K F (.ref a) (ofA x)
  len : ∀ {K : Fg} {F : Hp} {vs : List V} {x : α}, PyA.reps K F vs x → vs.length = ar
  small : ar ≤ 100
section
variable {α β γ δ ε : Type} [Py α] [Py β] [Py γ] [Py δ] [Py ε]
instance : PyT (α × β) (α × β × Unit) where
  ar := 2
  toA x := (x.1, x.2, ())
  ofA x := (x.1, x.2.1)
  to := fun ⟨p, a, b, h1, h2, h3, h4⟩ => ⟨p, [a, b], h1, h2, rfl, a, [b], rfl, h3, b, [], rfl, h4, rfl⟩
  of := by
    rintro K F a vs x h ⟨u1, _, rfl, r1, u2, _, rfl, r2, rfl⟩
    exact ⟨a, u1, u2, rfl, h, r1, r2⟩
  len := by
    rintro K F vs x ⟨u1, _, rfl, r1, u2, _, rfl, r2, rfl⟩
    rfl
  small := by decide
instance : PyT (T3 α β γ) (α × β × γ × Unit) where
  ar := 3
  toA x := (x.a, x.b, x.c, ())
  ofA x := ⟨x.1, x.2.1, x.2.2.1⟩
  to := fun ⟨p, a, b, c, h1, h2, h3, h4, h5⟩ => ⟨p, [a, b, c], h1, h2, rfl, a, [b, c], rfl, h3, b, [c], rfl, h4, c, [], rfl, h5, rfl⟩
  of := by
    rintro K F a vs x h ⟨u1, _, rfl, r1, u2, _, rfl, r2, u3, _, rfl, r3, rfl⟩
    exact ⟨a, u1, u2, u3, rfl, h, r1, r2, r3⟩
  len := by
    rintro K F vs x ⟨u1, _, rfl, r1, u2, _, rfl, r2, u3, _, rfl, r3, rfl⟩
    rfl
  small := by decide
instance : PyT (T4 α β γ δ) (α × β × γ × δ × Unit) where
  ar := 4
  toA x := (x.a, x.b, x.c, x.d, ())
  ofA x := ⟨x.1, x.2.1, x.2.2.1, x.2.2.2.1⟩
  to := fun ⟨p, a, b, c, d, h1, h2, h3, h4, h5, h6⟩ => ⟨p, [a, b, c, d], h1, h2, rfl, a, [b, c, d], rfl, h3, b, [c, d], rfl, h4, c, [d], rfl, h5, d, [], rfl, h6, rfl⟩
  of := by
    rintro K F a vs x h ⟨u1, _, rfl, r1, u2, _, rfl, r2, u3, _, rfl, r3, u4, _, rfl, r4, rfl⟩
    exact ⟨a, u1, u2, u3, u4, rfl, h, r1, r2, r3, r4⟩
  len := by
    rintro K F vs x ⟨u1, _, rfl, r1, u2, _, rfl, r2, u3, _, rfl, r3, u4, _, rfl, r4, rfl⟩
    rfl
  small := by decide
instance : PyT (T5 α β γ δ ε) (α × β × γ × δ × ε × Unit) where
  ar := 5
  toA x := (x.a, x.b, x.c, x.d, x.e, ())
  ofA x := ⟨x.1, x.2.1, x.2.2.1, x.2.2.2.1, x.2.2.2.2.1⟩
  to := fun ⟨p, a, b, c, d, q, h1, h2, h3, h4, h5, h6, h7⟩ => ⟨p, [a, b, c, d, q], h1, h2, rfl, a, [b, c, d, q], rfl, h3, b, [c, d, q], rfl, h4, c, [d, q], rfl, h5, d, [q], rfl, h6, q, [], rfl, h7, rfl⟩
  of := by
    rintro K F a vs x h ⟨u1, _, rfl, r1, u2, _, rfl, r2, u3, _, rfl, r3, u4, _, rfl, r4, u5, _, rfl, r5, rfl⟩
    exact ⟨a, u1, u2, u3, u4, u5, rfl, h, r1, r2, r3, r4, r5⟩
  len := by
    rintro K F vs x ⟨u1, _, rfl, r1, u2, _, rfl, r2, u3, _, rfl, r3, u4, _, rfl, r4, u5, _, rfl, r5, rfl⟩
    rfl
  small := by decide
end
def XA {α : Type} [PyA α] (es : List Expr) (a : α) : Prop := ∃ t, PA X es t ∧
  ∀ F H σ fp, EnvD X.K c F H σ Γ fp → ∀ Q : List V → Hp → Prop, (∀ v F' H', EnvD X.K c F' H' σ Γ fp → Ex F F' → Nw F H F' H' → PyA.reps X.K F' v a → Q v H') → t σ H Q
end

section
variable {X : Cx} {c : Cw} {Γ Γ' : List Slot} {τ υ ζ : Type} [Py τ] [Py υ] [Py ζ] {a b d e : Expr} {x : τ} {y : υ} {z : ζ} {pos : Pos}
theorem XE.bo (h : XE X c Γ e x) : XB X c Γ e x := by
  obtain ⟨t, h1, h2⟩ := h
  exact ⟨t, h1, fun F H σ fp E Q q => h2 F H σ fp E Q fun v F' H' E' e1 e2 r => q v F' H' E' e1 e2 (Py.mono E'.wd.fh r)⟩
theorem XB.ex {τ : Type} [i : PySc τ] {x : τ} (h : XB X c Γ e x) : XE X c Γ e x := by
  obtain ⟨t, h1, h2⟩ := h
  exact ⟨t, h1, fun F H σ fp E Q q => h2 F H σ fp E Q fun v F' H' E' e1 e2 r => q v F' H' E' e1 e2 (PySc.sc.mpr (PySc.sc.mp r))⟩
/-- a frozen name -/
theorem xe_var (i : Nat) {n : Str} (hN : X.N[i]? = some n := by rfl) (h : Γ[i]? = some (.fz x) := by rfl) (hv : Vis X.env.scope n := by first | exact Or.inl rfl | exact Or.inr (Or.inl rfl) | exact Or.inr (Or.inr rfl))
    (hd : (n == ("__debug__" : Str)) = false := by decide) (hcd : (n == ("__classdict__" : Str)) = false := by decide) : XE X c Γ (.Name n pos) x :=
  ⟨_, pe_var hN hv hd hcd, fun F H σ fp E Q q => by
    obtain ⟨v, h1, r⟩ := E.get h
    exact ⟨v, h1, q v F H E (Ex.refl _) Nw.refl r⟩⟩
theorem xe_C {v : V} (h : PE X e (tC v)) (r : ∀ F, rep X.K F v x) : XE X c Γ e x :=
  ⟨_, h, fun F H σ fp E Q q => q v F H E (Ex.refl _) Nw.refl (r F)⟩
theorem xe_int {i : Int} {j} : XE X c Γ (.Constant (.int i) j pos) i := xe_C pe_int fun _ => rfl
theorem xe_bl {i : Bool} {j} : XE X c Γ (.Constant (.bool i) j pos) i := xe_C pe_bl fun _ => rfl
theorem xe_str {i : Str} {j} : XE X c Γ (.Constant (.str i) j pos) i := xe_C pe_str fun _ => rfl
theorem xe_nil {j} : XE X c Γ (.Constant .none j pos) () := xe_C pe_non fun _ => rfl
theorem xe_none {j} : XE X c Γ (.Constant .none j pos) (none : Option τ) := xe_C pe_non fun _ => rfl
theorem xe_some (h : XE X c Γ e x) : XE X c Γ e (some x) := by
  obtain ⟨t, h1, h2⟩ := h
  exact ⟨t, h1, fun F H σ fp E Q q => h2 F H σ fp E Q fun v F' H' E' e1 e2 r => q v F' H' E' e1 e2 r⟩
theorem xe_eq {x' : τ} (h : XE X c Γ e x) (q : x = x') : XE X c Γ e x' := q ▸ h
theorem xt_eq {k k' : Bool} (h : XT X c Γ e k) (q : k = k') : XT X c Γ e k' := q ▸ h
/-- a constant of the module -/
theorem xe_glob {n : Str} {v : V} {u : Value} (hm : X.mg n = some u) (r : RelV v u) (hr : ∀ F, rep X.K F v x) (hg : Gl X n := by rfl) (hd : (n == ("__debug__" : Str)) = false := by decide) : XE X c Γ (.Name n pos) x :=
  xe_C (pe_glob hg hm r hd) hr
theorem xe_gi {n : Str} {i : Int} (hm : ∃ t, X.mg n = some (.int i t)) (hg : Gl X n := by rfl) (hd : (n == ("__debug__" : Str)) = false := by decide) : XE X c Γ (.Name n pos) i :=
  let ⟨t, h⟩ := hm; xe_glob (v := .int i) h ⟨t, rfl⟩ (fun _ => rfl) hg hd
theorem xe_gs {n : Str} {i : Str} (hm : ∃ t, X.mg n = some (.str i t)) (hg : Gl X n := by rfl) (hd : (n == ("__debug__" : Str)) = false := by decide) : XE X c Γ (.Name n pos) i :=
  let ⟨t, h⟩ := hm; xe_glob (v := .str i) h ⟨t, rfl⟩ (fun _ => rfl) hg hd

/-! ### operators -/
/-- a rule on values, on frozen data -/
def ROp (K : Fg) (r : R2) (x : τ) (y : υ) (z : ζ) : Prop := ∀ F H u v, Ex F H → rep K F u x → rep K F v y → ∀ Q : VK,
  (∀ w F' H', Ex F F' → Ex F' H' → Ex H H' → (∀ b, F' b ≠ none → F b ≠ none ∨ H b = none) → rep K F' w z → Q w H') → r u v H Q
def RBp (K : Fg) (r : R2) (x : τ) (y : υ) (z : ζ) : Prop := ∀ H u v, rep K H u x → rep K H v y → ∀ Q : VK, (∀ w, rep K H w z → Q w H) → r u v H Q
theorem xe_bin {t : TE → TE → TE} {r : R2} (ht : ∀ {ta tb}, PE X a ta → PE X b tb → PE X d (tOp r ta tb)) (hr : ROp X.K r x y z) (ha : XE X c Γ a x) (hb : XE X c Γ b y) : XE X c Γ d z := by
  obtain ⟨ta, a1, a2⟩ := ha
  obtain ⟨tb, b1, b2⟩ := hb
  refine ⟨_, ht a1 b1, fun F H σ fp E Q q => ?_⟩
  refine a2 F H σ fp E _ fun u F1 H1 E1 e1 g1 r1 => ?_
  refine b2 F1 H1 σ fp E1 _ fun v F2 H2 E2 e2 g2 r2 => ?_
  refine hr F2 H2 u v E2.wd.fh (Py.mono e2 r1) r2 Q fun w F' H' p1 p2 p3 p4 p5 => ?_
  exact q w F' H' (E2.grow p1 p2 p3 p4) ((e1.trans e2).trans p1) ((g1.trans g2).trans ⟨p3, p4⟩) p5
theorem xb_bin {t : TE → TE → TE} {r : R2} (ht : ∀ {ta tb}, PE X a ta → PE X b tb → PE X d (tOp r ta tb)) (hr : RBp X.K r x y z) (ha : XB X c Γ a x) (hb : XB X c Γ b y) : XB X c Γ d z := by
  obtain ⟨ta, a1, a2⟩ := ha
  obtain ⟨tb, b1, b2⟩ := hb
  refine ⟨_, ht a1 b1, fun F H σ fp E Q q => ?_⟩
  refine a2 F H σ fp E _ fun u F1 H1 E1 e1 g1 r1 => ?_
  refine b2 F1 H1 σ fp E1 _ fun v F2 H2 E2 e2 g2 r2 => ?_
  refine hr H2 u v (Py.mono g2.h r1) r2 Q fun w p5 => ?_
  exact q w F2 H2 E2 (e1.trans e2) (g1.trans g2) p5
theorem xe_op {op : Operator} {r : R2} (ho : OpR X (binaryOp op) r) (hr : ROp X.K r x y z) (ha : XE X c Γ a x) (hb : XE X c Γ b y) : XE X c Γ (.BinOp a op b pos) z :=
  xe_bin (t := fun a _ => a) (fun h1 h2 => pe_op ho h1 h2) hr ha hb
theorem xb_op {op : Operator} {r : R2} (ho : OpR X (binaryOp op) r) (hr : RBp X.K r x y z) (ha : XB X c Γ a x) (hb : XB X c Γ b y) : XB X c Γ (.BinOp a op b pos) z :=
  xb_bin (t := fun a _ => a) (fun h1 h2 => pe_op ho h1 h2) hr ha hb
theorem xe_cmp {op : CmpOp} {r : R2} (ho : OpR X (compareOp op) r) (hr : ROp X.K r x y z) (ha : XE X c Γ a x) (hb : XE X c Γ b y) (hm : behindInMarks op b = false) : XE X c Γ (.Compare a [op] [b] pos) z :=
  xe_bin (t := fun a _ => a) (fun h1 h2 => pe_cmpR ho h1 h2 hm) hr ha hb
theorem xb_cmp {op : CmpOp} {r : R2} (ho : OpR X (compareOp op) r) (hr : RBp X.K r x y z) (ha : XB X c Γ a x) (hb : XB X c Γ b y) (hm : behindInMarks op b = false) : XB X c Γ (.Compare a [op] [b] pos) z :=
  xb_bin (t := fun a _ => a) (fun h1 h2 => pe_cmpR ho h1 h2 hm) hr ha hb
/-- a comparison is worth k -/
def XC (X : Cx) (c : Cw) (Γ : List Slot) (op : CmpOp) (a b : Expr) (k : Bool) : Prop := ∃ r ta tb, OpR X (compareOp op) r ∧ PE X a ta ∧ PE X b tb ∧ behindInMarks op b = false ∧ EPr X.K c (tOp r ta tb) Γ k
theorem xc_of {op : CmpOp} {r : R2} {k : Bool} (ho : OpR X (compareOp op) r) (hr : ROp X.K r x y k) (ha : XE X c Γ a x) (hb : XE X c Γ b y) (hm : behindInMarks op b = false) : XC X c Γ op a b k := by
  obtain ⟨ta, a1, a2⟩ := ha
  obtain ⟨tb, b1, b2⟩ := hb
  refine ⟨r, ta, tb, ho, a1, b1, hm, fun F H σ fp E Q q => ?_⟩
  refine a2 F H σ fp E _ fun u F1 H1 E1 e1 g1 r1 => ?_
  refine b2 F1 H1 σ fp E1 _ fun v F2 H2 E2 e2 g2 r2 => ?_
  refine hr F2 H2 u v E2.wd.fh (Py.mono e2 r1) r2 Q fun w F' H' p1 p2 p3 p4 p5 => ?_
  exact q w F' H' (E2.grow p1 p2 p3 p4) ((e1.trans e2).trans p1) ((g1.trans g2).trans ⟨p3, p4⟩) p5
theorem xc_ofB {op : CmpOp} {r : R2} {k : Bool} (ho : OpR X (compareOp op) r) (hr : RBp X.K r x y k) (ha : XB X c Γ a x) (hb : XB X c Γ b y) (hm : behindInMarks op b = false) : XC X c Γ op a b k := by
  obtain ⟨ta, a1, a2⟩ := ha
  obtain ⟨tb, b1, b2⟩ := hb
  refine ⟨r, ta, tb, ho, a1, b1, hm, fun F H σ fp E Q q => ?_⟩
  refine a2 F H σ fp E _ fun u F1 H1 E1 e1 g1 r1 => ?_
  refine b2 F1 H1 σ fp E1 _ fun v F2 H2 E2 e2 g2 r2 => ?_
  refine hr H2 u v (Py.mono g2.h r1) r2 Q fun w p5 => ?_
  exact q w F2 H2 E2 (e1.trans e2) (g1.trans g2) p5
theorem xe_c {op : CmpOp} {k : Bool} (h : XC X c Γ op a b k) : XE X c Γ (.Compare a [op] [b] pos) k := by
  obtain ⟨r, ta, tb, ho, a1, b1, hm, q⟩ := h
  exact ⟨_, pe_cmpR ho a1 b1 hm, q⟩
theorem xt_c {op : CmpOp} {k : Bool} (h : XC X c Γ op a b k) : XT X c Γ (.Compare a [op] [b] pos) k := by
  obtain ⟨r, ta, tb, ho, a1, b1, hm, q⟩ := h
  exact ⟨_, pt_cmpR ho a1 b1 hm, fun F H σ fp E Q k => q F H σ fp E _ fun v F' H' E' e1 e2 r => ⟨_, r, k F' H' E' e1 e2⟩⟩
theorem xt_of {t : Bool} {f : TE → TT} (hp : ∀ {te}, PE X e te → PT X e (tB te)) (h : XE X c Γ e t) : XT X c Γ e t := by
  obtain ⟨te, h1, h2⟩ := h
  exact ⟨_, hp h1, fun F H σ fp E Q q => h2 F H σ fp E _ fun v F' H' E' e1 e2 r => ⟨t, r, q F' H' E' e1 e2⟩⟩
/-- a truth as a test -/
theorem xt_val {t : Bool} (h : XE X c Γ e t) (he : ∀ whole, isTrue e X.env whole = (do let v ← whole; standAt e.pos; holding [v] (truthy v)) := by intro _; rfl) : XT X c Γ e t :=
  xt_of (f := tB) (fun h => pt_val h he) h

section ii
variable {i j : Int}
theorem ro_I0 {g : Int → Int → V} {k : ζ} (hk : ∀ F, rep X.K F (g i j) k) : ROp X.K (rI0 g) i j k := fun F H u v e h1 h2 Q q => ⟨i, j, h1, h2, q _ F H (Ex.refl _) e (Ex.refl _) (fun _ h => .inl h) (hk F)⟩
theorem ro_I {C : Int → Int → Prop} {g : Int → Int → V} {k : ζ} (hc : C i j) (hk : ∀ F, rep X.K F (g i j) k) : ROp X.K (rI C g) i j k := fun F H u v e h1 h2 Q q => ⟨i, j, h1, h2, hc, q _ F H (Ex.refl _) e (Ex.refl _) (fun _ h => .inl h) (hk F)⟩
theorem xe_add (ha : XE X c Γ a i) (hb : XE X c Γ b j) : XE X c Γ (.BinOp a .Add b pos) (i + j) := xe_op op_add (ro_I0 fun _ => rfl) ha hb
theorem xe_sub (ha : XE X c Γ a i) (hb : XE X c Γ b j) : XE X c Γ (.BinOp a .Sub b pos) (i - j) := xe_op op_sub (ro_I0 fun _ => rfl) ha hb
theorem op_mulG : OpR X (binaryOp .Mult) (rI IntMulOk fun i j => .int (i * j)) := opI fun _ _ _ _ _ _ _ hc q => mul_int q hc
theorem xe_mulG (ha : XE X c Γ a i) (hb : XE X c Γ b j) (h : IntMulOk i j) : XE X c Γ (.BinOp a .Mult b pos) (i * j) := xe_op op_mulG (ro_I h fun _ => rfl) ha hb
theorem xe_mul (ha : XE X c Γ a i) (hb : XE X c Γ b j) (h : CMul i j) : XE X c Γ (.BinOp a .Mult b pos) (i * j) := xe_op op_mul (ro_I h fun _ => rfl) ha hb
theorem xe_div (ha : XE X c Γ a i) (hb : XE X c Γ b j) (h : CDiv i j) : XE X c Γ (.BinOp a .FloorDiv b pos) (i / j) := xe_op op_fdiv (ro_I h fun _ => rfl) ha hb
theorem xe_mod (ha : XE X c Γ a i) (hb : XE X c Γ b j) (h : 0 < j) : XE X c Γ (.BinOp a .Mod b pos) (i % j) := xe_op op_mod (ro_I h fun _ => rfl) ha hb
theorem xe_pow (ha : XE X c Γ a i) (hb : XE X c Γ b j) (h : CPow i j) : XE X c Γ (.BinOp a .Pow b pos) (i ^ j.toNat) := xe_op op_pow (ro_I h fun _ => rfl) ha hb
theorem xe_shl (ha : XE X c Γ a i) (hb : XE X c Γ b j) (h : CPow i j) : XE X c Γ (.BinOp a .LShift b pos) (i * 2 ^ j.toNat) := xe_op op_shl (ro_I h fun _ => rfl) ha hb
theorem xe_shr (ha : XE X c Γ a i) (hb : XE X c Γ b j) (h : 0 ≤ j) : XE X c Γ (.BinOp a .RShift b pos) (i / 2 ^ j.toNat) := xe_op op_shr (ro_I h fun _ => rfl) ha hb
theorem xe_band (ha : XE X c Γ a i) (hb : XE X c Γ b j) : XE X c Γ (.BinOp a .BitAnd b pos) (Builtin.bitAnd i j) := xe_op op_and (ro_I0 fun _ => rfl) ha hb
theorem xe_bor (ha : XE X c Γ a i) (hb : XE X c Γ b j) : XE X c Γ (.BinOp a .BitOr b pos) (Builtin.bitOr i j) := xe_op op_or (ro_I0 fun _ => rfl) ha hb
theorem xe_bxor (ha : XE X c Γ a i) (hb : XE X c Γ b j) : XE X c Γ (.BinOp a .BitXor b pos) (Builtin.bitXor i j) := xe_op op_xor (ro_I0 fun _ => rfl) ha hb
theorem xc_lt (ha : XE X c Γ a i) (hb : XE X c Γ b j) : XC X c Γ .Lt a b (decide (i < j)) := xc_of op_lt (ro_I0 fun _ => rfl) ha hb (nomark _)
theorem xc_le (ha : XE X c Γ a i) (hb : XE X c Γ b j) : XC X c Γ .LtE a b (decide (i ≤ j)) := xc_of op_le (ro_I0 fun _ => rfl) ha hb (nomark _)
theorem xc_gt (ha : XE X c Γ a i) (hb : XE X c Γ b j) : XC X c Γ .Gt a b (decide (i > j)) := xc_of op_gt (ro_I0 fun _ => rfl) ha hb (nomark _)
theorem xc_ge (ha : XE X c Γ a i) (hb : XE X c Γ b j) : XC X c Γ .GtE a b (decide (i ≥ j)) := xc_of op_ge (ro_I0 fun _ => rfl) ha hb (nomark _)
theorem xe_neg (ha : XE X c Γ a i) : XE X c Γ (.UnaryOp .USub a pos) (-i) := by
  obtain ⟨t, h1, h2⟩ := ha
  exact ⟨_, pe_un un_neg h1, fun F H σ fp E Q q => h2 F H σ fp E _ fun v F' H' E' e1 e2 r => ⟨i, r, q _ F' H' E' e1 e2 rfl⟩⟩
end ii

/-! ### scalars compared: ints, truths, texts, None -/
/-- scalars of one kind -/
class PyEq (τ : Type) extends PySc τ where
  dec : DecidableEq τ
  ok : ∀ a b : τ, scal (v a) (v b) = true
  inj : ∀ a b : τ, v a = v b → a = b
instance (priority := low) {τ : Type} [i : PyEq τ] : DecidableEq τ := i.dec
instance : PyEq Int := { dec := inferInstance, ok := fun a b => rfl, inj := fun a b h => by injection h }
instance : PyEq Bool := { dec := inferInstance, ok := fun a b => rfl, inj := fun a b h => by injection h }
instance : PyEq Str := { dec := inferInstance, ok := fun a b => rfl, inj := fun a b h => by injection h }
theorem xc_eqS {τ : Type} [i : PyEq τ] {x y : τ} (ha : XE X c Γ a x) (hb : XE X c Γ b y) : XC X c Γ .Eq a b (decide (x = y)) :=
  xc_of op_eq (fun F H u v e h1 h2 Q q => by
    have e1 := PySc.sc.mp h1
    have e2 := PySc.sc.mp h2
    subst e1; subst e2
    refine ⟨PyEq.ok x y, q _ F H (Ex.refl _) e (Ex.refl _) (fun _ h => .inl h) ?_⟩
    show V.bl _ = V.bl _
    congr 1
    exact decide_eq_decide.mpr ⟨PyEq.inj x y, fun h => by rw [h]⟩) ha hb (nomark _)
theorem xc_neS {τ : Type} [i : PyEq τ] {x y : τ} (ha : XE X c Γ a x) (hb : XE X c Γ b y) : XC X c Γ .NotEq a b (!decide (x = y)) :=
  xc_of op_ne (fun F H u v e h1 h2 Q q => by
    have e1 := PySc.sc.mp h1
    have e2 := PySc.sc.mp h2
    subst e1; subst e2
    refine ⟨PyEq.ok x y, q _ F H (Ex.refl _) e (Ex.refl _) (fun _ h => .inl h) ?_⟩
    show V.bl _ = V.bl _
    congr 2
    exact decide_eq_decide.mpr ⟨PyEq.inj x y, fun h => by rw [h]⟩) ha hb (nomark _)
/-- None | x against None -/
theorem opt_non {τ : Type} [i : PySc τ] (hn : ∀ z : τ, PySc.v z ≠ .non) (x : Option τ) : decide (optV x = V.non) = x.isNone := by
  cases x with
  | none => rfl
  | some z => exact decide_eq_false (hn z)
theorem xc_isNone {τ : Type} [i : PySc τ] {x : Option τ} {j p} (ha : XE X c Γ a x) (hn : ∀ z : τ, PySc.v z ≠ .non := by intro z h; cases h) : XC X c Γ .Is a (.Constant .none j p) (x.isNone) :=
  xc_of (y := ()) op_isN (fun F H u v e h1 h2 Q q => ⟨h2, q _ F H (Ex.refl _) e (Ex.refl _) (fun _ h => .inl h) (by
    have e := PySc.sc.mp h1
    subst e
    show V.bl _ = V.bl _
    rw [← opt_non hn x]; rfl)⟩) ha xe_nil (nomark _)
theorem xc_notNone {τ : Type} [i : PySc τ] {x : Option τ} {j p} (ha : XE X c Γ a x) (hn : ∀ z : τ, PySc.v z ≠ .non := by intro z h; cases h) : XC X c Γ .IsNot a (.Constant .none j p) (x.isSome) :=
  xc_of (y := ()) op_notN (fun F H u v e h1 h2 Q q => ⟨h2, q _ F H (Ex.refl _) e (Ex.refl _) (fun _ h => .inl h) (by
    have e := PySc.sc.mp h1
    subst e
    show V.bl _ = V.bl _
    have := opt_non hn x
    cases x with
    | none => rfl
    | some z => 
      show V.bl (!decide (PySc.v z = V.non)) = V.bl true
      rw [decide_eq_false (hn z)]; rfl)⟩) ha xe_nil (nomark _)
/-- None or an int against an int -/
theorem xc_eqO {τ : Type} [i : PyEq τ] {x : Option τ} {y : τ} (ha : XE X c Γ a x) (hb : XE X c Γ b y) (hn : ∀ z : τ, PySc.v z ≠ .non := by intro z h; cases h) (hs : ∀ z : τ, scal .non (PySc.v z) = true := by intro z; rfl) : XC X c Γ .Eq a b (decide (x = some y)) :=
  xc_of op_eq (fun F H u v e h1 h2 Q q => by
    have e1 := PySc.sc.mp h1
    have e2 := PySc.sc.mp h2
    subst e1; subst e2
    cases x with
    | none =>
      refine ⟨hs y, q _ F H (Ex.refl _) e (Ex.refl _) (fun _ h => .inl h) ?_⟩
      show V.bl (decide (V.non = PySc.v y)) = V.bl _
      rw [decide_eq_false (fun h => hn y h.symm), decide_eq_false (by simp)]
    | some z =>
      refine ⟨PyEq.ok z y, q _ F H (Ex.refl _) e (Ex.refl _) (fun _ h => .inl h) ?_⟩
      show V.bl _ = V.bl _
      congr 1
      exact decide_eq_decide.mpr ⟨fun h => by rw [PyEq.inj z y h], fun h => by injection h with h; rw [h]; rfl⟩) ha hb (nomark _)

/-! ### and, or, not, if else -/
variable {k l : Bool}
theorem xw_and1 (ha : XT X c Γ a k) : XW X c Γ (.BoolOp .And [a] pos) k := by
  obtain ⟨t, h1, h2⟩ := ha
  exact ⟨t, pw_and1 h1, h2⟩
theorem xw_or1 (ha : XT X c Γ a k) : XW X c Γ (.BoolOp .Or [a] pos) k := by
  obtain ⟨t, h1, h2⟩ := ha
  exact ⟨t, pw_or1 h1, h2⟩
theorem xw_and {rest : List Expr} (ha : XT X c Γ a k) (hb : k = true → XW X c Γ (.BoolOp .And (b :: rest) pos) l) : XW X c Γ (.BoolOp .And (a :: b :: rest) pos) (k && l) := by
  obtain ⟨t, h1, h2⟩ := ha
  cases k with
  | false =>
    refine ⟨tAnd t _, pw_and h1 ⟨fun _ _ _ _ _ _ _ (h : False) => h.elim⟩, fun F H σ fp E Q q => h2 F H σ fp E _ fun F' H' E' e1 e2 => ?_⟩
    rw [if_neg Bool.false_ne_true]
    exact q F' H' E' e1 e2
  | true =>
    obtain ⟨u, h3, h4⟩ := hb rfl
    refine ⟨tAnd t u, pw_and h1 h3, fun F H σ fp E Q q => h2 F H σ fp E _ fun F' H' E' e1 e2 => ?_⟩
    rw [if_pos rfl]
    exact h4 F' H' σ fp E' Q fun F2 H2 E2 e3 e4 => q F2 H2 E2 (e1.trans e3) (e2.trans e4)
theorem xw_or {rest : List Expr} (ha : XT X c Γ a k) (hb : k = false → XW X c Γ (.BoolOp .Or (b :: rest) pos) l) : XW X c Γ (.BoolOp .Or (a :: b :: rest) pos) (k || l) := by
  obtain ⟨t, h1, h2⟩ := ha
  cases k with
  | true =>
    refine ⟨tOr t _, pw_or h1 ⟨fun _ _ _ _ _ _ _ (h : False) => h.elim⟩, fun F H σ fp E Q q => h2 F H σ fp E _ fun F' H' E' e1 e2 => ?_⟩
    rw [if_pos rfl]
    exact q F' H' E' e1 e2
  | false =>
    obtain ⟨u, h3, h4⟩ := hb rfl
    refine ⟨tOr t u, pw_or h1 h3, fun F H σ fp E Q q => h2 F H σ fp E _ fun F' H' E' e1 e2 => ?_⟩
    rw [if_neg Bool.false_ne_true]
    exact h4 F' H' σ fp E' Q fun F2 H2 E2 e3 e4 => q F2 H2 E2 (e1.trans e3) (e2.trans e4)
theorem XW.t (h : XW X c Γ e k) : XT X c Γ e k := let ⟨t, h1, h2⟩ := h; ⟨t, h1.pt, h2⟩
theorem xt_not (ha : XT X c Γ a k) : XT X c Γ (.UnaryOp .Not a pos) (!k) := by
  obtain ⟨t, h1, h2⟩ := ha
  exact ⟨_, pt_not h1, fun F H σ fp E Q q => h2 F H σ fp E _ fun F' H' E' e1 e2 => q F' H' E' e1 e2⟩
theorem xe_one {op} (ha : XE X c Γ a x) : XE X c Γ (.BoolOp op [a] pos) x := by
  obtain ⟨t, h1, h2⟩ := ha
  exact ⟨t, pe_one h1, h2⟩
theorem xe_and {rest : List Expr} (ha : XE X c Γ a k) (hb : k = true → XE X c Γ (.BoolOp .And (b :: rest) pos) l) : XE X c Γ (.BoolOp .And (a :: b :: rest) pos) (k && l) := by
  obtain ⟨t, h1, h2⟩ := ha
  cases k with
  | false =>
    refine ⟨tAndV t _, pe_and h1 ⟨fun _ _ _ _ _ _ (h : False) => h.elim⟩, fun F H σ fp E Q q => h2 F H σ fp E _ fun v F' H' E' e1 e2 r => ⟨false, r, ?_⟩⟩
    rw [if_neg Bool.false_ne_true]
    exact q _ F' H' E' e1 e2 rfl
  | true =>
    obtain ⟨u, h3, h4⟩ := hb rfl
    refine ⟨tAndV t u, pe_and h1 h3, fun F H σ fp E Q q => h2 F H σ fp E _ fun v F' H' E' e1 e2 r => ⟨true, r, ?_⟩⟩
    rw [if_pos rfl]
    exact h4 F' H' σ fp E' Q fun v F2 H2 E2 e3 e4 r => q v F2 H2 E2 (e1.trans e3) (e2.trans e4) r
theorem xe_or {rest : List Expr} (ha : XE X c Γ a k) (hb : k = false → XE X c Γ (.BoolOp .Or (b :: rest) pos) l) : XE X c Γ (.BoolOp .Or (a :: b :: rest) pos) (k || l) := by
  obtain ⟨t, h1, h2⟩ := ha
  cases k with
  | true =>
    refine ⟨tOrV t _, pe_or h1 ⟨fun _ _ _ _ _ _ (h : False) => h.elim⟩, fun F H σ fp E Q q => h2 F H σ fp E _ fun v F' H' E' e1 e2 r => ⟨true, r, ?_⟩⟩
    rw [if_pos rfl]
    exact q _ F' H' E' e1 e2 rfl
  | false =>
    obtain ⟨u, h3, h4⟩ := hb rfl
    refine ⟨tOrV t u, pe_or h1 h3, fun F H σ fp E Q q => h2 F H σ fp E _ fun v F' H' E' e1 e2 r => ⟨false, r, ?_⟩⟩
    rw [if_neg Bool.false_ne_true]
    exact h4 F' H' σ fp E' Q fun v F2 H2 E2 e3 e4 r => q v F2 H2 E2 (e1.trans e3) (e2.trans e4) r
theorem xe_not (ha : XE X c Γ a k) : XE X c Γ (.UnaryOp .Not a pos) (!k) := by
  obtain ⟨t, h1, h2⟩ := ha
  exact ⟨_, pe_not h1, fun F H σ fp E Q q => h2 F H σ fp E _ fun v F' H' E' e1 e2 r => ⟨k, r, q _ F' H' E' e1 e2 rfl⟩⟩
theorem xe_if {y : τ} (hd : XT X c Γ d k) (ha : k = true → XE X c Γ a x) (hb : k = false → XE X c Γ b y) : XE X c Γ (.IfExp d a b pos) (if k then x else y) := by
  obtain ⟨t, h1, h2⟩ := hd
  cases k with
  | true =>
    obtain ⟨u, h3, h4⟩ := ha rfl
    refine ⟨tIf t u _, pe_ifExp h1 h3 ⟨fun _ _ _ _ _ _ (h : False) => h.elim⟩, fun F H σ fp E Q q => h2 F H σ fp E _ fun F' H' E' e1 e2 => ?_⟩
    rw [if_pos rfl]
    exact h4 F' H' σ fp E' Q fun v F2 H2 E2 e3 e4 r => q v F2 H2 E2 (e1.trans e3) (e2.trans e4) r
  | false =>
    obtain ⟨u, h3, h4⟩ := hb rfl
    refine ⟨tIf t _ u, pe_ifExp h1 ⟨fun _ _ _ _ _ _ (h : False) => h.elim⟩ h3, fun F H σ fp E Q q => h2 F H σ fp E _ fun F' H' E' e1 e2 => ?_⟩
    rw [if_neg Bool.false_ne_true]
    exact h4 F' H' σ fp E' Q fun v F2 H2 E2 e3 e4 r => q v F2 H2 E2 (e1.trans e3) (e2.trans e4) r
end
end Fw
namespace Fw
open PySem L2 Py PyProof.Rows

/-! ### statements -/
/-- how a block ends: behind it, returned, broken off, on to the next turn -/
inductive Out (S B R : Type) where
  | nx (s : S)
  | rt (r : R)
  | bk (s : B)
  | ct (s : B)
def Out.bind {S S' B R : Type} (o : Out S B R) (k : S → Out S' B R) : Out S' B R := match o with
  | .nx s => k s
  | .rt r => .rt r
  | .bk s => .bk s
  | .ct s => .ct s
def Out.up {S B R : Type} (o : Out Empty B R) : Out S B R := match o with
  | .nx s => s.elim
  | .rt r => .rt r
  | .bk s => .bk s
  | .ct s => .ct s
def runFor {S B R τ : Type} (f : S → τ → Out S S R) : S → List τ → Out S B R
  | s, [] => .nx s
  | s, y :: r => match f s y with
    | .nx s' => runFor f s' r
    | .ct s' => runFor f s' r
    | .bk s' => .nx s'
    | .rt x => .rt x
theorem runFor_nx {S B R τ : Type} (g : S → τ → S) : ∀ (xs : List τ) (s : S), runFor (B := B) (R := R) (fun s y => .nx (g s y)) s xs = .nx (xs.foldl g s)
  | [], s => rfl
  | y :: r, s => runFor_nx g r (g s y)

/-- what a def hands back: its kind, what it leaves of what it was handed -/
structure Rc : Type 1 where
  τ : Type
  inst : Py τ
  ω : Type
  RG : ω → List Slot → Prop
instance (R : Rc) : Py R.τ := R.inst
def OutOk (K : Fg) (c : Cw) (D : Ends) {S B : Type} {R : Rc} (F : Hp) (G : S → List Slot) (GB : B → List Slot) : Out S B (R.τ × R.ω) → Prop
  | .nx s => ∀ σ' F' H', Env K c F' H' σ' (G s) → Ex F F' → D.nx σ' H'
  | .bk s => ∀ σ' F' H', Env K c F' H' σ' (GB s) → Ex F F' → D.bk σ' H'
  | .ct s => ∀ σ' F' H', Env K c F' H' σ' (GB s) → Ex F F' → D.ct σ' H'
  | .rt r => ∀ v σ' F' H' Γ', Env K c F' H' σ' Γ' → Ex F F' → R.RG r.2 Γ' → rep K F' v r.1 → D.rt v H'

def XO (X : Cx) (c : Cw) (Γ : List Slot) (sts : List Stmt) {S B : Type} {R : Rc} (G : S → List Slot) (GB : B → List Slot) (o : Out S B (R.τ × R.ω)) : Prop :=
  ∃ t, PSs X sts t ∧ ∀ F H σ, Env X.K c F H σ Γ → ∀ D : Ends, OutOk X.K c D F G GB o → t D σ H
def XS (X : Cx) (c : Cw) (Γ : List Slot) (st : Stmt) {S B : Type} {R : Rc} (G : S → List Slot) (GB : B → List Slot) (o : Out S B (R.τ × R.ω)) : Prop :=
  ∃ t, PS X st t ∧ ∀ F H σ, Env X.K c F H σ Γ → ∀ D : Ends, OutOk X.K c D F G GB o → t D σ H

/-- slots forgotten -/
inductive Weak : List Slot → List Slot → Prop where
  | nil : Weak [] []
  | same {s : Slot} {l m : List Slot} (h : Weak l m) : Weak (s :: l) (s :: m)
  | no {s : Slot} {l m : List Slot} (h : Weak l m) : Weak (s :: l) (.no :: m)
theorem Weak.refl : ∀ l, Weak l l
  | [] => .nil
  | _ :: r => .same (Weak.refl r)
theorem Weak.len {l m : List Slot} (h : Weak l m) : l.length = m.length := by
  induction h with
  | nil => rfl
  | same _ ih => simp [ih]
  | no _ ih => simp [ih]
theorem Weak.get {l m : List Slot} (h : Weak l m) : ∀ (i : Nat) (s : Slot), m[i]? = some s → l[i]? = some s ∨ (s = .no ∧ i < l.length) := by
  induction h with
  | nil => intro i s h; simp at h
  | same _ ih =>
    intro i s h
    cases i with
    | zero => exact .inl (by simpa using h)
    | succ i => rcases ih i s (by simpa using h) with q | ⟨q, z⟩
                · exact .inl (by simpa using q)
                · exact .inr ⟨q, by simpa using z⟩
  | no _ ih =>
    intro i s h
    cases i with
    | zero => exact .inr ⟨by simpa using h.symm, by simp⟩
    | succ i => rcases ih i s (by simpa using h) with q | ⟨q, z⟩
                · exact .inl (by simpa using q)
                · exact .inr ⟨q, by simpa using z⟩
theorem Env.weak {K : Fg} {c : Cw} {F H : Hp} {σ : L2.St} {Γ Γ' : List Slot} (E : Env K c F H σ Γ) (w : Weak Γ Γ') : Env K c F H σ Γ' := by
  obtain ⟨fp, E⟩ := E
  classical
  refine ⟨fun i => if Γ'[i]? = Γ[i]? then fp i else [], E.wd, by rw [E.len, w.len], fun i s hs => ?_, fun i j b h1 h2 => ?_, fun i b h hn => ?_, fun i h => ?_⟩
  · rcases w.get i s hs with q | ⟨q, z⟩
    · rw [if_pos (hs.trans q.symm)]
      exact E.ok i s q
    · subst q
      obtain ⟨v, h1, h2⟩ := E.ok i Γ[i] (by simp [z])
      refine ⟨v, h1, ?_⟩
      show (if _ then _ else _) = []
      split
      · rename_i e
        have e' : Γ[i]? = some Slot.no := e.symm.trans hs
        obtain ⟨v', _, h4⟩ := E.ok i .no e'
        exact h4
      · rfl
  · split at h1
    · split at h2
      · exact E.dis i j b h1 h2
      · cases h2
    · cases h1
  · split at h
    · rename_i e
      exact E.al i b h fun ⟨z, z1, z2⟩ => hn ⟨z, e.trans z1, z2⟩
    · cases h
  · split
    · exact E.out i (by rw [w.len]; exact h)
    · rfl

section
variable {X : Cx} {c : Cw} {Γ Γ' : List Slot} {S S' B υ : Type} [Py υ] {R : Rc} {G : S → List Slot} {G' : S' → List Slot} {GB : B → List Slot} {o : Out S B (R.τ × R.ω)} {pos : Pos} {st : Stmt} {rest : List Stmt} {e d : Expr} {k : Bool}
theorem XO.eq {o' : Out S B (R.τ × R.ω)} (h : XO X c Γ rest G GB o) (q : o = o') : XO X c Γ rest G GB o' := q ▸ h
theorem XO.weak (w : Weak Γ Γ') (h : XO X c Γ' rest G GB o) : XO X c Γ rest G GB o := by
  obtain ⟨t, h1, h2⟩ := h
  exact ⟨t, h1, fun F H σ E D q => h2 F H σ (E.weak w) D q⟩
theorem xo_nil {s : S} (h : G s = Γ) : XO X c Γ [] G GB (Out.nx s : Out S B (R.τ × R.ω)) := ⟨_, pss_nil, fun F H σ E D q => q σ F H (h ▸ E) (Ex.refl _)⟩
theorem xo_end {s : S} (h : Weak Γ (G s)) : XO X c Γ [] G GB (Out.nx s : Out S B (R.τ × R.ω)) := ⟨_, pss_nil, fun F H σ E D q => q σ F H (E.weak h) (Ex.refl _)⟩
theorem OutOk.ex {K : Fg} {D : Ends} {F F1 : Hp} (q : OutOk K c D F G GB o) (e : Ex F F1) : OutOk K c D F1 G GB o := by
  cases o with
  | nx s => exact fun σ' F' H' E x => q σ' F' H' E (e.trans x)
  | bk s => exact fun σ' F' H' E x => q σ' F' H' E (e.trans x)
  | ct s => exact fun σ' F' H' E x => q σ' F' H' E (e.trans x)
  | rt r => exact fun v σ' F' H' Γ' E x => q v σ' F' H' Γ' E (e.trans x)
theorem xo_cons {o1 : Out S' B (R.τ × R.ω)} {k : S' → Out S B (R.τ × R.ω)} (h : XS X c Γ st G' GB o1) (hr : ∀ s, o1 = .nx s → XO X c (G' s) rest G GB (k s)) : XO X c Γ (st :: rest) G GB (o1.bind k) := by
  obtain ⟨t, h1, h2⟩ := h
  cases o1 with
  | nx s =>
    obtain ⟨u, h3, h4⟩ := hr s rfl
    refine ⟨_, pss_cons h1 h3, fun F H σ E D q => h2 F H σ E _ fun σ' F' H' E' x => ?_⟩
    exact h4 F' H' σ' E' D (OutOk.ex (o := k s) q x)
  | bk s => exact ⟨_, pss_cons h1 pss_never, fun F H σ E D q => h2 F H σ E _ q⟩
  | ct s => exact ⟨_, pss_cons h1 pss_never, fun F H σ E D q => h2 F H σ E _ q⟩
  | rt s => exact ⟨_, pss_cons h1 pss_never, fun F H σ E D q => h2 F H σ E _ q⟩
/-- .. a statement that just goes on -/
theorem xo_next {o : Out S B (R.τ × R.ω)} (h : XS X c Γ st (S := Unit) (fun _ => Γ') GB (Out.nx () : Out Unit B (R.τ × R.ω))) (hr : XO X c Γ' rest G GB o) : XO X c Γ (st :: rest) G GB o := xo_cons (k := fun _ => o) h fun _ _ => hr
theorem xo_one (h : XS X c Γ st G GB o) : XO X c Γ [st] G GB o := by
  obtain ⟨t, h1, h2⟩ := h
  exact ⟨t, pss_one h1, h2⟩
/-- x = e -/
theorem xs_set {x : υ} (i : Nat) {n : Str} {p : Pos} (hN : X.N.Nodup) (he : XE X c Γ e x) (hi : X.N[i]? = some n := by rfl) (hx : Loc X.env.scope n := by first | exact .inl rfl | exact .inr rfl) (hs : swapsWith e (some (.Name n p)) pos.line X.env = pure false := by rfl)
    (hf : X.fn n = true ∨ X.env.scope.names.lookup n = some .local := by first | exact .inl rfl | exact .inr rfl | assumption) : XS X c Γ (.Assign [.Name n p] e pos) (S := Unit) (fun _ => Γ.set i (.fz x)) GB (Out.nx () : Out Unit B (R.τ × R.ω)) := by
  obtain ⟨t, h1, h2⟩ := he
  refine ⟨_, ps_set (i := i) hN hi hx h1 hs hf, fun F H σ ⟨fp, E⟩ D q => h2 F H σ fp E _ fun v F' H' E' e1 e2 r => ?_⟩
  exact q _ F' H' (Env.set ⟨fp, E'⟩ r) e1
theorem xs_expr {x : υ} (he : XE X c Γ e x) (hs : swapsWith e none pos.line X.env = pure false := by rfl) : XS X c Γ (.Expr e pos) (S := Unit) (fun _ => Γ) GB (Out.nx () : Out Unit B (R.τ × R.ω)) := by
  obtain ⟨t, h1, h2⟩ := he
  exact ⟨_, ps_expr h1 hs, fun F H σ ⟨fp, E⟩ D q => h2 F H σ fp E _ fun v F' H' E' e1 e2 r => q _ F' H' ⟨fp, E'⟩ e1⟩
theorem xs_pass : XS X c Γ (.Pass pos) (S := Unit) (fun _ => Γ) GB (Out.nx () : Out Unit B (R.τ × R.ω)) := ⟨_, ps_pass, fun F H σ E D q => q _ F H E (Ex.refl _)⟩
theorem xs_ret {x : R.τ} {w : R.ω} (he : XE X c Γ e x) (hw : R.RG w Γ) : XS X c Γ (.Return (some e) pos) G GB (Out.rt (x, w) : Out S B (R.τ × R.ω)) := by
  obtain ⟨t, h1, h2⟩ := he
  exact ⟨_, ps_ret h1, fun F H σ ⟨fp, E⟩ D q => h2 F H σ fp E _ fun v F' H' E' e1 e2 r => q v σ F' H' _ ⟨fp, E'⟩ e1 hw r⟩
theorem xs_retN {ω : Type} {RG : ω → List Slot → Prop} {w : ω} (hw : RG w Γ) {G : S → List Slot} : XS (R := ⟨Unit, inferInstance, ω, RG⟩) X c Γ (.Return none pos) G GB (.rt ((), w)) :=
  ⟨_, ps_retN, fun F H σ E D q => q .non σ F H _ E (Ex.refl _) hw rfl⟩
theorem xs_brk {s : B} (h : Weak Γ (GB s)) : XS X c Γ (.Break pos) G GB (Out.bk s : Out S B (R.τ × R.ω)) := ⟨_, ps_break, fun F H σ E D q => q σ F H (E.weak h) (Ex.refl _)⟩
theorem xs_cnt {s : B} (h : Weak Γ (GB s)) : XS X c Γ (.Continue pos) G GB (Out.ct s : Out S B (R.τ × R.ω)) := ⟨_, ps_continue, fun F H σ E D q => q σ F H (E.weak h) (Ex.refl _)⟩
/-- if .. else -/
theorem xs_if {A C : List Stmt} {o1 o2 : Out S B (R.τ × R.ω)} (hd : XT X c Γ d k) (ha : k = true → XO X c Γ A G GB o1) (hb : k = false → XO X c Γ C G GB o2) : XS X c Γ (.If d A C pos) G GB (if k then o1 else o2) := by
  obtain ⟨t, h1, h2⟩ := hd
  cases k with
  | true =>
    obtain ⟨u, h3, h4⟩ := ha rfl
    refine ⟨_, ps_if h1 h3 pss_never, fun F H σ ⟨fp, E⟩ D q => h2 F H σ fp E _ fun F' H' E' e1 e2 => ?_⟩
    rw [if_pos rfl]
    exact h4 F' H' σ ⟨fp, E'⟩ D (OutOk.ex (o := o1) q e1)
  | false =>
    obtain ⟨u, h3, h4⟩ := hb rfl
    refine ⟨_, ps_if h1 pss_never h3, fun F H σ ⟨fp, E⟩ D q => h2 F H σ fp E _ fun F' H' E' e1 e2 => ?_⟩
    rw [if_neg Bool.false_ne_true]
    exact h4 F' H' σ ⟨fp, E'⟩ D (OutOk.ex (o := o2) q e1)
/-- if d: A, A never comes to its end; then the rest -/
theorem OutOk.up {K : Fg} {D : Ends} {F : Hp} {nx : L2.St → Hp → Prop} {G0 : Empty → List Slot} {o : Out Empty B (R.τ × R.ω)} (q : OutOk K c D F G GB (o.up : Out S B (R.τ × R.ω))) : OutOk K c { D with nx := nx } F G0 GB o := by
  cases o with
  | nx s => exact s.elim
  | bk s => exact q
  | ct s => exact q
  | rt r => exact q
theorem xo_ifx {A : List Stmt} {o1 : Out Empty B (R.τ × R.ω)} {o2 : Out S B (R.τ × R.ω)} (hd : XT X c Γ d k) (ha : k = true → XO X c Γ A (fun s : Empty => s.elim) GB o1) (hb : k = false → XO X c Γ rest G GB o2) :
    XO X c Γ (.If d A [] pos :: rest) G GB (if k then o1.up else o2) := by
  obtain ⟨t, h1, h2⟩ := hd
  cases k with
  | true =>
    obtain ⟨u, h3, h4⟩ := ha rfl
    refine ⟨_, pss_cons (ps_if h1 h3 pss_never) pss_never, fun F H σ ⟨fp, E⟩ D q => h2 F H σ fp E _ fun F' H' E' e1 e2 => ?_⟩
    rw [if_pos rfl]
    exact h4 F' H' σ ⟨fp, E'⟩ _ (OutOk.up (OutOk.ex (o := o1.up) q e1))
  | false =>
    obtain ⟨u, h3, h4⟩ := hb rfl
    refine ⟨_, pss_cons (ps_if h1 pss_never pss_nil) h3, fun F H σ ⟨fp, E⟩ D q => h2 F H σ fp E _ fun F' H' E' e1 e2 => ?_⟩
    rw [if_neg Bool.false_ne_true]
    exact h4 F' H' σ ⟨fp, E'⟩ D (OutOk.ex (o := o2) q e1)
/-- if d: A else: C, both go on, to one row of slots -/
theorem xs_ifj {A C : List Stmt} {Γ1 : Bool → List Slot} (hd : XT X c Γ d k) (ha : k = true → XO X c Γ A (S := Unit) (fun _ => Γ1 true) GB (Out.nx () : Out Unit B (R.τ × R.ω))) (hb : k = false → XO X c Γ C (S := Unit) (fun _ => Γ1 false) GB (Out.nx () : Out Unit B (R.τ × R.ω))) :
    XS X c Γ (.If d A C pos) (S := Unit) (fun _ => Γ1 k) GB (Out.nx () : Out Unit B (R.τ × R.ω)) := by
  cases k with
  | true => exact xs_if (o1 := .nx ()) (o2 := .nx ()) hd (fun _ => ha rfl) (fun h => by cases h)
  | false => exact xs_if (o1 := .nx ()) (o2 := .nx ()) hd (fun h => by cases h) (fun _ => hb rfl)

/-! ### what is bound -/
/-- the slots but some are as they were -/
def Sm (ws : List Nat) (σ σ' : L2.St) : Prop := σ'.length = σ.length ∧ ∀ j, j ∉ ws → σ'[j]? = σ[j]?
def XG (X : Cx) (c : Cw) (tg : Expr) (ws : List Nat) (up : List Slot → υ → List Slot) : Prop := ∃ g, PG X tg g ∧ ∀ F H σ fp v Γ (y : υ), EnvD X.K c F H σ Γ fp → rep X.K F v y → ∀ Q : L2.St → Hp → Prop,
  (∀ σ' fp', EnvD X.K c F H σ' (up Γ y) fp' → (∀ j b, b ∈ fp' j → b ∈ fp j) → Sm ws σ σ' → Q σ' H) → g v σ H Q
theorem xg_name (i : Nat) {n : Str} (hN : X.N.Nodup) (hi : X.N[i]? = some n := by rfl) (hx : Loc X.env.scope n := by first | exact .inl rfl | exact .inr rfl) (hf : X.fn n = true ∨ X.env.scope.names.lookup n = some .local := by first | exact .inl rfl | exact .inr rfl | assumption) :
    XG X c (.Name n pos) [i] (fun Γ (y : υ) => Γ.set i (.fz y)) := ⟨_, pg_name (i := i) hN hi hx hf, fun F H σ fp v Γ y E r Q q => q _ _ (E.set r) (fun j b hb => by split at hb; cases hb; exact hb) ⟨by simp, fun j hj => by
      rw [List.getElem?_set_ne]; rintro rfl; exact hj (by simp)⟩⟩
def XGs (X : Cx) (c : Cw) {α : Type} [PyA α] (tgs : List Expr) (ws : List Nat) (up : List Slot → α → List Slot) : Prop := ∃ g, PGs X tgs g ∧ ∀ F H σ fp vs Γ (y : α), EnvD X.K c F H σ Γ fp → PyA.reps X.K F vs y → ∀ Q : L2.St → Hp → Prop,
  (∀ σ' fp', EnvD X.K c F H σ' (up Γ y) fp' → (∀ j b, b ∈ fp' j → b ∈ fp j) → Sm ws σ σ' → Q σ' H) → g vs σ H Q
theorem xgs_nil : XGs X c [] [] (fun Γ (_ : Unit) => Γ) := ⟨_, pgs_nil, fun F H σ fp vs Γ y E r Q q => ⟨r, q σ fp E (fun _ _ h => h) ⟨rfl, fun _ _ => rfl⟩⟩⟩
theorem xgs_cons {α : Type} [PyA α] {tg : Expr} {tgs : List Expr} {w1 w2 : List Nat} {u1 : List Slot → υ → List Slot} {u2 : List Slot → α → List Slot} (h1 : XG X c tg w1 u1) (h2 : XGs X c tgs w2 u2) (hs : (assignEach (tg :: tgs) X.env).map (·.2) = assign tg X.env :: (assignEach tgs X.env).map (·.2) := by rfl) :
    XGs X c (tg :: tgs) (w1 ++ w2) (fun Γ (y : υ × α) => u2 (u1 Γ y.1) y.2) := by
  obtain ⟨g1, p1, q1⟩ := h1
  obtain ⟨g2, p2, q2⟩ := h2
  refine ⟨_, pgs_cons p1 p2 hs, fun F H σ fp vs Γ y E r Q q => ?_⟩
  obtain ⟨u, rs, rfl, r1, r2⟩ := r
  exact ⟨u, rs, rfl, q1 F H σ fp u Γ y.1 E r1 _ fun σ1 fp1 E1 i1 s1 => q2 F H σ1 fp1 rs _ y.2 E1 r2 Q fun σ2 fp2 E2 i2 s2 => q σ2 fp2 E2 (fun j b h => i1 j b (i2 j b h)) ⟨s2.1.trans s1.1, fun j hj => (s2.2 j fun h => hj (List.mem_append_right _ h)).trans (s1.2 j fun h => hj (List.mem_append_left _ h))⟩⟩
theorem xg_tup {α : Type} [PyA α] [PyT υ α] {es : List Expr} {ws : List Nat} {u : List Slot → α → List Slot} {x1} (h : XGs X c es ws u)
    (hc : X.calm = true := by rfl) (hn : (assignEach es X.env).length = PyT.ar υ := by rfl) (hst : (assignEach es X.env).findIdx? (·.1) = none := by rfl) : XG X c (.Tuple es x1 pos) ws (fun Γ (y : υ) => u Γ (PyT.toA y)) := by
  obtain ⟨g, p, q⟩ := h
  refine ⟨_, pg_tup hc p hn hst, fun F H σ fp v Γ y E r Q k => ?_⟩
  obtain ⟨a, vs, rfl, r1, r2, r3⟩ := PyT.to (α := α) r
  exact ⟨a, vs, rfl, E.wd.fh.t r1, r2, q F H σ fp vs Γ _ E r3 Q k⟩
/-- target = e -/
theorem xs_asg {x : υ} {tg : Expr} {up : List Slot → υ → List Slot} (he : XE X c Γ e x) {ws : List Nat} (hg : XG X c tg ws up) (hs : swapsWithSole [tg] e pos.line X.env = pure false := by rfl) (hw : swappedStores [tg] e X.env = pure none := by rfl) (h1' : (assignEach [tg] X.env).map (·.2) = [assign tg X.env] := by rfl) :
    XS X c Γ (.Assign [tg] e pos) (S := Unit) (fun _ => up Γ x) GB (Out.nx () : Out Unit B (R.τ × R.ω)) := by
  obtain ⟨t, h1, h2⟩ := he
  obtain ⟨g, h3, h4⟩ := hg
  refine ⟨_, ps_asg h1 h3 hs hw h1', fun F H σ ⟨fp, E⟩ D q => h2 F H σ fp E _ fun v F' H' E' e1 e2 r => h4 F' H' σ fp v _ x E' r _ fun σ' fp' E2 _ _ => q σ' F' H' ⟨fp', E2⟩ e1⟩
/-- x += e -/
theorem xs_aug {op : Operator} {x z : υ} {y : S'} [Py S'] {ti : TIp} (i : Nat) {n : Str} {p : Pos} (hN : X.N.Nodup) (he : XE X c Γ e y) (ho : PIp X op ti) (hr : ROp X.K ti x y z) (hi : X.N[i]? = some n := by rfl) (h0 : Γ[i]? = some (.fz x) := by rfl) (hx : Loc X.env.scope n := by first | exact .inl rfl | exact .inr rfl)
    (hf : X.fn n = true ∨ X.env.scope.names.lookup n = some .local := by first | exact .inl rfl | exact .inr rfl | assumption) :
    XS X c Γ (.AugAssign (.Name n p) op e pos) (S := Unit) (fun _ => Γ.set i (.fz z)) GB (Out.nx () : Out Unit B (R.τ × R.ω)) := by
  obtain ⟨t, h1, h2⟩ := he
  refine ⟨_, ps_aug (i := i) hN hi hx h1 ho hf, fun F H σ ⟨fp, E⟩ D q => ?_⟩
  obtain ⟨u, h3, r⟩ := E.get h0
  refine ⟨u, h3, h2 F H σ fp E _ fun v F' H' E' e1 e2 r2 => hr F' H' u v E'.wd.fh (Py.mono e1 r) r2 _ fun w F2 H2 p1 p2 p3 p4 p5 => ?_⟩
  exact q _ F2 H2 (Env.set ⟨fp, E'.grow p1 p2 p3 p4⟩ p5) (e1.trans p1)

/-! ### loops -/
/-- what is walked, frozen: items xs -/
structure Wk (K : Fg) (J : It) (xs : List υ) (F : Hp) : Prop where
  ex : ∃ (G : Hp → Prop) (Y : Nat → Hp → V → Hp → Prop), Walk J xs.length G Y ∧ (∀ F1 H1, Ex F F1 → Ex F1 H1 → G H1) ∧
    ∀ i F1 H1 v H2 y, Ex F F1 → Ex F1 H1 → Y i H1 v H2 → xs[i]? = some y → ∃ F2, Ex F1 F2 ∧ Ex F2 H2 ∧ Ex H1 H2 ∧ (∀ b, F2 b ≠ none → F1 b ≠ none ∨ H1 b = none) ∧ rep K F2 v y
def XI (X : Cx) (c : Cw) (Γ : List Slot) (tg it : Expr) (xs : List υ) : Prop := ∃ wi, PI X tg it wi ∧ ∀ F H σ fp, EnvD X.K c F H σ Γ fp → ∀ R : It → Hp → Prop, (∀ J F' H', EnvD X.K c F' H' σ Γ fp → Ex F F' → Nw F H F' H' → Wk X.K J xs F' → R J H') → wi σ H R
theorem xi_list {it : Expr} {tg : Expr} {α : Type} [Py α] [PyL α υ] {xs : α} (h : XE X c Γ it xs) : XI X c Γ tg it (PyL.li xs) := by
  obtain ⟨t, h1, h2⟩ := h
  refine ⟨_, pi_list h1, fun F H σ fp E R q => h2 F H σ fp E _ fun v F' H' E' e1 e2 r => ?_⟩
  obtain ⟨a, vs, rfl, r1, r2⟩ := PyL.sq r
  refine ⟨a, rfl, ⟨vs, E'.wd.fh.l r1⟩, q _ F' H' E' e1 e2 ⟨fun H => SqL X.K H a vs, YAt vs, by rw [← r2.length]; exact walk_list, fun F1 H1 x1 x2 => (x1.trans x2).l r1, fun i F1 H1 v H2 y x1 x2 hy hx => ?_⟩⟩
  obtain ⟨rfl, hv⟩ := hy
  obtain ⟨y', hy', r3⟩ := Reps.get (i := i) r2 hv
  rw [hx] at hy'
  cases hy'
  exact ⟨F1, Ex.refl _, x2, Ex.refl _, fun b h => .inl h, Py.mono x1 r3⟩
theorem xi_tup {it : Expr} {tg : Expr} {xs : Tup υ} (h : XE X c Γ it xs) : XI X c Γ tg it xs.l := by
  obtain ⟨t, h1, h2⟩ := h
  refine ⟨_, pi_tup h1, fun F H σ fp E R q => h2 F H σ fp E _ fun v F' H' E' e1 e2 r => ?_⟩
  obtain ⟨a, vs, rfl, r1, r2⟩ := r
  refine ⟨a, rfl, ⟨vs, E'.wd.fh.t r1⟩, q _ F' H' E' e1 e2 ⟨fun H => SqT X.K H a vs, YAt vs, by rw [← r2.length]; exact walk_tup, fun F1 H1 x1 x2 => (x1.trans x2).t r1, fun i F1 H1 v H2 y x1 x2 hy hx => ?_⟩⟩
  obtain ⟨rfl, hv⟩ := hy
  obtain ⟨y', hy', r3⟩ := Reps.get (i := i) r2 hv
  rw [hx] at hy'
  cases hy'
  exact ⟨F1, Ex.refl _, x2, Ex.refl _, fun b h => .inl h, Py.mono x1 r3⟩
/-- the izs from lo on -/
def izs (lo : Int) (n : Nat) : List Int := (List.range n).map fun i => lo + (i : Nat)
theorem izs_len {lo : Int} {n : Nat} : (izs lo n).length = n := by simp [izs]
theorem izs_get {lo : Int} {n i : Nat} {y : Int} (h : (izs lo n)[i]? = some y) : i < n ∧ y = lo + i := by
  unfold izs at h
  rw [List.getElem?_map] at h
  by_cases hi : i < n
  · rw [List.getElem?_range hi] at h
    exact ⟨hi, (Option.some.inj h).symm⟩
  · rw [List.getElem?_eq_none (by simp; omega)] at h
    cases h
theorem wk_range {K : Fg} {lo : Int} {n : Nat} {F : Hp} : Wk K (Itr lo n) (izs lo n) F := by
  refine ⟨fun _ => True, YFn fun i => .int (lo + i), by rw [izs_len]; exact walk_range, fun _ _ _ _ => trivial, fun i F1 H1 v H2 y x1 x2 hy hx => ?_⟩
  obtain ⟨rfl, rfl⟩ := hy
  obtain ⟨_, rfl⟩ := izs_get hx
  exact ⟨F1, Ex.refl _, x2, Ex.refl _, fun b h => .inl h, rfl⟩
theorem xi_range1 {a tg : Expr} {p : Pos} {j : Int} (hm : X.mg "range" = none) (ha : XE X c Γ a j) (hj : -(2 ^ 62) ≤ j ∧ j < 2 ^ 62) (hg : Gl X "range" := by rfl) (hs : starEach [a] X.env = [(false, eval a X.env)] := by rfl) :
    XI X c Γ tg (.Call (.Name "range" p) [a] [] pos) (izs 0 j.toNat) := by
  obtain ⟨t, h1, h2⟩ := ha
  refine ⟨_, pi_range1 hg hm (pa_cons h1 pa_nil hs) hs, fun F H σ fp E R q => h2 F H σ fp E _ fun v F' H' E' e1 e2 r => ?_⟩
  exact ⟨j, by rw [show v = V.int j from r], hj.1, hj.2, q _ F' H' E' e1 e2 wk_range⟩
theorem xi_range2 {a b tg : Expr} {p : Pos} {i j : Int} (hm : X.mg "range" = none) (ha : XE X c Γ a i) (hb : XE X c Γ b j) (hj : -(2 ^ 62) ≤ i ∧ i < 2 ^ 62 ∧ -(2 ^ 62) ≤ j ∧ j < 2 ^ 62) (hg : Gl X "range" := by rfl) (hs : starEach [a, b] X.env = [(false, eval a X.env), (false, eval b X.env)] := by rfl) (hs2 : starEach [b] X.env = [(false, eval b X.env)] := by rfl) :
    XI X c Γ tg (.Call (.Name "range" p) [a, b] [] pos) (izs i (j - i).toNat) := by
  obtain ⟨t, h1, h2⟩ := ha
  obtain ⟨u, h3, h4⟩ := hb
  refine ⟨_, pi_range2 hg hm (pa_cons h1 (pa_cons h3 pa_nil hs2) (hs.trans (by rw [hs2]))) hs hs2, fun F H σ fp E R q => h2 F H σ fp E _ fun v F' H' E' e1 e2 r => h4 F' H' σ fp E' _ fun w F2 H2 E2 e3 e4 r2 => ?_⟩
  exact ⟨i, j, by rw [show v = V.int i from r, show w = V.int j from r2], hj, q _ F2 H2 E2 (e1.trans e3) (e2.trans e4) wk_range⟩

/-- a for whose turns may leave: L tells the slots by the data carried -/
theorem xs_for {tg it : Expr} {body : List Stmt} {xs : List υ} {up : List Slot → υ → List Slot} {L : S → List Slot} {s0 : S} {f : S → υ → Out S S (R.τ × R.ω)} (Iv : Nat → S → Prop) (hi : XI X c Γ tg it xs) {ws : List Nat} (hg : XG X c tg ws up) (hw : Weak Γ (L s0))
    (h0 : Iv 0 s0) (hb : ∀ i y s, xs[i]? = some y → Iv i s → XO X c (up (L s) y) body L L (f s y) ∧ match f s y with | .nx s' => Iv (i + 1) s' | .ct s' => Iv (i + 1) s' | _ => True)
    (hc : X.calm = true := by rfl) (hp : PassesOwn (model X.prog X.w) X.A X.env X.xe := by exact PassesOwn.never) (hs : ∀ x, foldedSetIterable it X.env x = pure x := by intro _; rfl) :
    XS X c Γ (.For tg it body [] pos) L GB (runFor f s0 xs : Out S B (R.τ × R.ω)) := by
  obtain ⟨wi, h1, h2⟩ := hi
  obtain ⟨g, g1, g2⟩ := hg
  classical
  have key : ∃ tb, PSs X body tb ∧ ∀ i y s, xs[i]? = some y → Iv i s → ∀ F H σ, Env X.K c F H σ (up (L s) y) → ∀ D : Ends, OutOk X.K c D F L L (f s y) → tb D σ H := by
    refine ⟨fun D σ H => ∃ (t : TS), PSs X body t ∧ t D σ H, ⟨fun pins s σ H D I h => ?_⟩, fun i y s hx hI F H σ E D q => ?_⟩
    · obtain ⟨t, p, q⟩ := h
      exact p.run pins s σ H D I q
    · obtain ⟨⟨t, p, q'⟩, _⟩ := hb i y s hx hI
      exact ⟨t, p, q' F H σ E D q⟩
  obtain ⟨tb, b1, b2⟩ := key
  refine ⟨_, ps_for hp hc h1 g1 b1 hs, fun F H σ ⟨fp0, E⟩ D q => h2 F H σ fp0 E _ fun J F1 H1 E1 e1 _ wk => ?_⟩
  obtain ⟨GG, Y, w1, w2, w3⟩ := wk
  obtain ⟨fin, hfin⟩ : ∃ fin, runFor (B := B) f s0 xs = fin := ⟨_, rfl⟩
  rw [hfin] at q
  -- the word: at turn i some data s with what is left giving the same end
  refine for_it w1 (fun i σ' H' => ∃ s F', Ex F1 F' ∧ Iv i s ∧ Env X.K c F' H' σ' (L s) ∧ runFor (B := B) f s (xs.drop i) = fin) ⟨s0, F1, Ex.refl _, h0, Env.weak ⟨fp0, E1⟩ hw, by rw [← hfin]; simp⟩ ?_ ?_ ?_
  · rintro i σ' H' hi ⟨s, F', x1, _, E', _⟩
    exact w2 F' H' x1 E'.wd.fh
  · rintro i v σ' Ha Hb hi ⟨s, F', x1, hI, E', hr⟩ hy
    have hx : xs[i]? = some xs[i] := by simp [hi]
    obtain ⟨F2, y1, y2, y3, y4, y5⟩ := w3 i F' Ha v Hb xs[i] x1 E'.wd.fh hy hx
    obtain ⟨fpE, E'⟩ := E'
    refine g2 F2 Hb σ' fpE v _ xs[i] (E'.grow y1 y2 y3 y4) y5 _ fun σ2 fp2 E2 _ _ => ?_
    have hIv := (hb i xs[i] s hx hI).2
    have hdr : xs.drop i = xs[i] :: xs.drop (i + 1) := List.drop_eq_getElem_cons hi
    rw [hdr] at hr
    refine b2 i xs[i] s hx hI F2 Hb σ2 ⟨fp2, E2⟩ _ ?_
    unfold runFor at hr
    cases hf : f s xs[i] with
    | nx s' =>
      rw [hf] at hr hIv
      exact fun σ3 F3 H3 E3 x3 => ⟨s', F3, (x1.trans y1).trans x3, hIv, E3, hr⟩
    | ct s' =>
      rw [hf] at hr hIv
      exact fun σ3 F3 H3 E3 x3 => ⟨s', F3, (x1.trans y1).trans x3, hIv, E3, hr⟩
    | bk s' =>
      rw [hf] at hr
      rw [← hr] at q
      exact fun σ3 F3 H3 E3 x3 => q σ3 F3 H3 E3 (((e1.trans x1).trans y1).trans x3)
    | rt r =>
      rw [hf] at hr
      rw [← hr] at q
      exact fun v3 σ3 F3 H3 Γ3 E3 x3 => q v3 σ3 F3 H3 Γ3 E3 (((e1.trans x1).trans y1).trans x3)
  · rintro σ' H' ⟨s, F', x1, _, E', hr⟩
    rw [List.drop_length] at hr
    unfold runFor at hr
    rw [← hr] at q
    exact q σ' F' H' E' (e1.trans x1)
end
end Fw
namespace Fw
open PySem L2 Py PyProof.Rows
/-! ### items by place -/
def ix {τ : Type} [Inhabited τ] (xs : List τ) (i : Int) : τ := (atI xs i).getD default
def InB {τ : Type} (xs : List τ) (i : Int) : Prop := -(xs.length : Int) ≤ i ∧ i < xs.length
instance {τ : Type} (xs : List τ) (i : Int) : Decidable (InB xs i) := inferInstanceAs (Decidable (_ ∧ _))
theorem ixN_some {n : Nat} {i : Int} (h : -(n : Int) ≤ i ∧ i < n) : ∃ j, ixN n i = some j ∧ j < n := by
  unfold ixN
  by_cases h0 : 0 ≤ i
  · rw [if_pos h0, if_pos h.2]; exact ⟨_, rfl, by omega⟩
  · rw [if_neg h0, if_pos h.1]; exact ⟨_, rfl, by omega⟩
theorem atI_ix {τ : Type} [Inhabited τ] {xs : List τ} {i : Int} (h : InB xs i) : atI xs i = some (ix xs i) := by
  obtain ⟨j, e, hj⟩ := ixN_some h
  unfold ix atI
  rw [e]
  show xs[j]? = some ((xs[j]?).getD default)
  simp [hj]
theorem ix_nat {τ : Type} [Inhabited τ] {xs : List τ} {i : Int} (h0 : 0 ≤ i) : ix xs i = (xs[i.toNat]?).getD default := by
  unfold ix atI ixN
  rw [if_pos h0]
  by_cases h : i < xs.length
  · rw [if_pos h]; rfl
  · rw [if_neg h, List.getElem?_eq_none (by omega)]; rfl
theorem atI_reps {τ : Type} [Py τ] {K : Fg} {F : Hp} {vs : List V} {xs : List τ} {i : Int} {x : τ} (r : Reps K F vs xs) (h : atI xs i = some x) : ∃ v, atI vs i = some v ∧ rep K F v x := by
  unfold atI at h ⊢
  rw [r.length]
  cases e : ixN xs.length i with
  | none => rw [e] at h; cases h
  | some j =>
    rw [e] at h
    exact Reps.get' (i := j) r h
/-- sequences: lists, read lists, tuples of one kind -/
class PyS (υ : Type) (τ : outParam Type) [Py υ] [Py τ] where
  li : υ → List τ
  sq : ∀ {K : Fg} {F : Hp} {v : V} {x : υ}, rep K F v x → ∃ a vs, v = .ref a ∧ (SqL K F a vs ∨ SqT K F a vs) ∧ Reps K F vs (li x)
instance {τ : Type} [Py τ] : PyS (List τ) τ := ⟨fun x => x, fun ⟨a, vs, h1, h2, h3⟩ => ⟨a, vs, h1, .inl (sq_of h2), h3⟩⟩
instance {τ : Type} [Py τ] : PyS (Scr τ) τ := ⟨Scr.l, fun ⟨a, vs, h1, h2, h3⟩ => ⟨a, vs, h1, .inl h2, h3⟩⟩
instance {τ : Type} [Py τ] : PyS (Tup τ) τ := ⟨Tup.l, fun ⟨a, vs, h1, h2, h3⟩ => ⟨a, vs, h1, .inr h2, h3⟩⟩

section
variable {X : Cx} {c : Cw} {Γ Γ' : List Slot} {τ υ ζ : Type} [Py τ] [Py υ] [Py ζ] {a b d e : Expr} {es : List Expr} {x : τ} {y : υ} {z : ζ} {pos : Pos}
theorem xa_nil : XA X c Γ [] () := ⟨_, pa_nil, fun F H σ fp E Q q => q [] F H E (Ex.refl _) Nw.refl rfl⟩
theorem xa_cons {α : Type} [PyA α] {r : α} (h : XE X c Γ e x) (hr : XA X c Γ es r) (hs : starEach (e :: es) X.env = (false, eval e X.env) :: starEach es X.env := by rfl) : XA X c Γ (e :: es) (x, r) := by
  obtain ⟨t, h1, h2⟩ := h
  obtain ⟨u, h3, h4⟩ := hr
  refine ⟨_, pa_cons h1 h3 hs, fun F H σ fp E Q q => h2 F H σ fp E _ fun v F1 H1 E1 e1 g1 r1 => h4 F1 H1 σ fp E1 _ fun vs F2 H2 E2 e2 g2 r2 => ?_⟩
  exact q _ F2 H2 E2 (e1.trans e2) (g1.trans g2) ⟨v, vs, rfl, Py.mono e2 r1, r2⟩
/-- a row of things of one kind -/
def XL (X : Cx) (c : Cw) (Γ : List Slot) {τ : Type} [Py τ] (es : List Expr) (xs : List τ) : Prop := ∃ t, PA X es t ∧
  ∀ F H σ fp, EnvD X.K c F H σ Γ fp → ∀ Q : List V → Hp → Prop, (∀ v F' H', EnvD X.K c F' H' σ Γ fp → Ex F F' → Nw F H F' H' → Reps X.K F' v xs → Q v H') → t σ H Q
theorem xl_nil : XL X c Γ [] ([] : List τ) := ⟨_, pa_nil, fun F H σ fp E Q q => q [] F H E (Ex.refl _) Nw.refl .nil⟩
theorem xl_cons {xs : List τ} (h : XE X c Γ e x) (hr : XL X c Γ es xs) (hs : starEach (e :: es) X.env = (false, eval e X.env) :: starEach es X.env := by rfl) : XL X c Γ (e :: es) (x :: xs) := by
  obtain ⟨t, h1, h2⟩ := h
  obtain ⟨u, h3, h4⟩ := hr
  refine ⟨_, pa_cons h1 h3 hs, fun F H σ fp E Q q => h2 F H σ fp E _ fun v F1 H1 E1 e1 g1 r1 => h4 F1 H1 σ fp E1 _ fun vs F2 H2 E2 e2 g2 r2 => ?_⟩
  exact q _ F2 H2 E2 (e1.trans e2) (g1.trans g2) (.cons (Py.mono e2 r1) r2)
theorem sz (n : Nat) (h : n ≤ 100000) : n ≤ sizeLine := Nat.le_trans h (by decide)
theorem lay_l {F H : Hp} {vs : List V} {xs : List τ} {p : Addr} (r : Reps X.K F vs xs) (e : Ex F (upd F p (.lst vs))) : rep X.K (upd F p (.lst vs)) (.ref p) xs := ⟨p, vs, rfl, upd_same, r.mono e⟩
theorem xe_lst {xs : List τ} (h : XL X c Γ es xs) (hl : xs.length ≤ 100000) : XE X c Γ (.List es pos) xs := by
  obtain ⟨t, h1, h2⟩ := h
  refine ⟨_, pe_lst h1, fun F H σ fp E Q q => h2 F H σ fp E _ fun vs F1 H1 E1 e1 g1 r1 => ⟨sz _ (by rw [r1.length]; exact hl), fun p hp => ?_⟩⟩
  have ef : Ex F1 (upd F1 p (.lst vs)) := Ex.new (E1.ff hp)
  exact q _ _ _ (E1.lay hp) (e1.trans ef) (g1.trans (Nw.lay hp)) ⟨p, vs, rfl, upd_same, r1.mono ef⟩
theorem xe_tup {α : Type} [PyA α] [PyT υ α] {k} {r : α} (h : XA X c Γ es r) : XE X c Γ (.Tuple es k pos) (PyT.ofA r : υ) := by
  obtain ⟨t, h1, h2⟩ := h
  refine ⟨_, pe_tup h1, fun F H σ fp E Q q => h2 F H σ fp E _ fun vs F1 H1 E1 e1 g1 r1 => ⟨sz _ (by rw [PyT.len (υ := υ) r1]; exact Nat.le_trans (PyT.small (υ := υ)) (show 100 ≤ 100000 by decide)), fun p hp => ?_⟩⟩
  have ef : Ex F1 (upd F1 p (.tup vs)) := Ex.new (E1.ff hp)
  exact q _ _ _ (E1.lay hp) (e1.trans ef) (g1.trans (Nw.lay hp)) (PyT.of (st_of upd_same) (PyA.mono ef r1))
theorem xe_tupL {k} {xs : List τ} (h : XL X c Γ es xs) (hl : xs.length ≤ 100000) : XE X c Γ (.Tuple es k pos) (Tup.mk xs) := by
  obtain ⟨t, h1, h2⟩ := h
  refine ⟨_, pe_tup h1, fun F H σ fp E Q q => h2 F H σ fp E _ fun vs F1 H1 E1 e1 g1 r1 => ⟨sz _ (by rw [r1.length]; exact hl), fun p hp => ?_⟩⟩
  have ef : Ex F1 (upd F1 p (.tup vs)) := Ex.new (E1.ff hp)
  exact q _ _ _ (E1.lay hp) (e1.trans ef) (g1.trans (Nw.lay hp)) ⟨p, vs, rfl, st_of upd_same, r1.mono ef⟩

/-! ### subscripts, slices, lengths -/
theorem xe_ix0 {i : Int} {y : τ} {s : υ} [PyL υ τ] (ha : XE X c Γ a s) (hb : XE X c Γ b i) (h : atI (PyL.li s) i = some y) (hs : PlainIx b := by exact fun _ _ => rfl) : XE X c Γ (.Subscript a b pos) y :=
  xe_bin (t := fun a _ => a) (fun h1 h2 => pe_ix ix_list h1 h2 hs) (fun F H u v e h1 h2 Q q => by
    obtain ⟨p, vs, rfl, r1, r2⟩ := PyL.sq h1
    obtain ⟨w, h3, h4⟩ := atI_reps r2 h
    exact ⟨p, vs, i, w, rfl, h2, e.l r1, h3, q w F H (Ex.refl _) e (Ex.refl _) (fun _ h => .inl h) h4⟩) ha hb
theorem xe_ix [Inhabited τ] {i : Int} {s : υ} [PyL υ τ] (ha : XE X c Γ a s) (hb : XE X c Γ b i) (h : InB (PyL.li s) i) (hs : PlainIx b := by exact fun _ _ => rfl) : XE X c Γ (.Subscript a b pos) (ix (PyL.li s) i) := xe_ix0 ha hb (atI_ix h) hs
theorem xe_ixT [Inhabited τ] {i : Int} {s : Tup τ} (ha : XE X c Γ a s) (hb : XE X c Γ b i) (h : InB s.l i) (hs : PlainIx b := by exact fun _ _ => rfl) : XE X c Γ (.Subscript a b pos) (ix s.l i) :=
  xe_bin (t := fun a _ => a) (fun h1 h2 => pe_ix ix_tup h1 h2 hs) (fun F H u v e h1 h2 Q q => by
    obtain ⟨p, vs, rfl, r1, r2⟩ := h1
    obtain ⟨w, h3, h4⟩ := atI_reps r2 (atI_ix h)
    exact ⟨p, vs, i, w, rfl, h2, e.t r1, h3, q w F H (Ex.refl _) e (Ex.refl _) (fun _ h => .inl h) h4⟩) ha hb
/-- t[0], t[1], .. of a tuple of n things -/
theorem xe_fst {p : τ × υ} (ha : XE X c Γ a p) {j q} (hs : PlainIx (.Constant (.int 0) j q) := by exact fun _ _ => rfl) : XE X c Γ (.Subscript a (.Constant (.int 0) j q) pos) p.1 :=
  xe_bin (t := fun a _ => a) (y := (0 : Int)) (fun h1 h2 => pe_ix ix_tup h1 h2 hs) (fun F H u v e h1 h2 Q q => by
    obtain ⟨p, v1, v2, rfl, r1, r2, r3⟩ := h1
    exact ⟨p, [v1, v2], 0, v1, rfl, h2, e.t r1, rfl, q _ F H (Ex.refl _) e (Ex.refl _) (fun _ h => .inl h) r2⟩) ha xe_int
theorem xe_snd {p : τ × υ} (ha : XE X c Γ a p) {j q} (hs : PlainIx (.Constant (.int 1) j q) := by exact fun _ _ => rfl) : XE X c Γ (.Subscript a (.Constant (.int 1) j q) pos) p.2 :=
  xe_bin (t := fun a _ => a) (y := (1 : Int)) (fun h1 h2 => pe_ix ix_tup h1 h2 hs) (fun F H u v e h1 h2 Q q => by
    obtain ⟨p, v1, v2, rfl, r1, r2, r3⟩ := h1
    exact ⟨p, [v1, v2], 1, v2, rfl, h2, e.t r1, rfl, q _ F H (Ex.refl _) e (Ex.refl _) (fun _ h => .inl h) r3⟩) ha xe_int
section
variable {p3 : T3 τ υ ζ}
theorem xe_t3a (ha : XE X c Γ a p3) {j q} (hs : PlainIx (.Constant (.int 0) j q) := by exact fun _ _ => rfl) : XE X c Γ (.Subscript a (.Constant (.int 0) j q) pos) p3.a :=
  xe_bin (t := fun a _ => a) (y := (0 : Int)) (fun h1 h2 => pe_ix ix_tup h1 h2 hs) (fun F H u v e h1 h2 Q q => by
    obtain ⟨p, v1, v2, v3, rfl, r1, r2, r3, r4⟩ := h1
    exact ⟨p, [v1, v2, v3], 0, v1, rfl, h2, e.t r1, rfl, q _ F H (Ex.refl _) e (Ex.refl _) (fun _ h => .inl h) r2⟩) ha xe_int
theorem xe_t3b (ha : XE X c Γ a p3) {j q} (hs : PlainIx (.Constant (.int 1) j q) := by exact fun _ _ => rfl) : XE X c Γ (.Subscript a (.Constant (.int 1) j q) pos) p3.b :=
  xe_bin (t := fun a _ => a) (y := (1 : Int)) (fun h1 h2 => pe_ix ix_tup h1 h2 hs) (fun F H u v e h1 h2 Q q => by
    obtain ⟨p, v1, v2, v3, rfl, r1, r2, r3, r4⟩ := h1
    exact ⟨p, [v1, v2, v3], 1, v2, rfl, h2, e.t r1, rfl, q _ F H (Ex.refl _) e (Ex.refl _) (fun _ h => .inl h) r3⟩) ha xe_int
theorem xe_t3c (ha : XE X c Γ a p3) {j q} (hs : PlainIx (.Constant (.int 2) j q) := by exact fun _ _ => rfl) : XE X c Γ (.Subscript a (.Constant (.int 2) j q) pos) p3.c :=
  xe_bin (t := fun a _ => a) (y := (2 : Int)) (fun h1 h2 => pe_ix ix_tup h1 h2 hs) (fun F H u v e h1 h2 Q q => by
    obtain ⟨p, v1, v2, v3, rfl, r1, r2, r3, r4⟩ := h1
    exact ⟨p, [v1, v2, v3], 2, v3, rfl, h2, e.t r1, rfl, q _ F H (Ex.refl _) e (Ex.refl _) (fun _ h => .inl h) r4⟩) ha xe_int
end
/-- one sign of a text -/
def ixS (s : Str) (i : Int) : Str := ⟨#[ix s.cps.toList i]⟩
theorem xe_ixS {i : Int} {s : Str} (ha : XE X c Γ a s) (hb : XE X c Γ b i) (h : InB s.cps.toList i) (hl : s.length ≤ 100000) (hs : PlainIx b := by exact fun _ _ => rfl) : XE X c Γ (.Subscript a b pos) (ixS s i) :=
  xe_bin (t := fun a _ => a) (fun h1 h2 => pe_ix ix_str h1 h2 hs) (fun F H u v e h1 h2 Q q => by
    exact ⟨s, i, _, h1, h2, sz _ hl, atI_ix h, q _ F H (Ex.refl _) e (Ex.refl _) (fun _ h => .inl h) rfl⟩) ha hb
/-- the parts of a slice -/
def XP (X : Cx) (c : Cw) (Γ : List Slot) (e : Option Expr) (i : Option Int) : Prop := ∃ t, PO X e t ∧
  ∀ F H σ fp, EnvD X.K c F H σ Γ fp → ∀ Q : Option Int → Hp → Prop, (∀ F' H', EnvD X.K c F' H' σ Γ fp → Ex F F' → Nw F H F' H' → Q i H') → t σ H Q
theorem xp_none : XP X c Γ none none := ⟨_, po_none, fun F H σ fp E Q q => q F H E (Ex.refl _) Nw.refl⟩
theorem xp_some {i : Int} (h : XE X c Γ e i) : XP X c Γ (some e) (some i) := by
  obtain ⟨t, h1, h2⟩ := h
  exact ⟨_, po_some h1, fun F H σ fp E Q q => h2 F H σ fp E _ fun v F' H' E' e1 e2 r => ⟨i, r, q F' H' E' e1 e2⟩⟩
def cutL {τ : Type} (xs : List τ) (lo hi : Option Int) : List τ := (xs.drop (HT.sIx xs.length 0 lo)).take (HT.sIx xs.length xs.length hi - HT.sIx xs.length 0 lo)
theorem reps_cut {K : Fg} {F : Hp} {vs : List V} {xs : List τ} (r : Reps K F vs xs) (lo hi : Option Int) : Reps K F (cutV vs lo hi) (cutL xs lo hi) := by
  unfold cutV cutL
  rw [r.length]
  exact (r.drop _).take _
theorem xe_slice {lo hi : Option Expr} {i j : Option Int} {s : υ} [PyL υ τ] {p2} (ha : XE X c Γ a s) (h1 : XP X c Γ lo i) (h2 : XP X c Γ hi j) : XE X c Γ (.Subscript a (.Slice lo hi none p2) pos) (cutL (PyL.li s) i j) := by
  obtain ⟨t, a1, a2⟩ := ha
  obtain ⟨u, b1, b2⟩ := h1
  obtain ⟨w, c1, c2⟩ := h2
  refine ⟨_, pe_slice sl_list a1 b1 c1, fun F H σ fp E Q q => a2 F H σ fp E _ fun v F1 H1 E1 e1 g1 r1 => b2 F1 H1 σ fp E1 _ fun F2 H2 E2 e2 g2 => c2 F2 H2 σ fp E2 _ fun F3 H3 E3 e3 g3 => ?_⟩
  obtain ⟨p, vs, rfl, r2, r3⟩ := PyL.sq (Py.mono (e2.trans e3) r1)
  refine ⟨p, vs, rfl, E3.wd.fh.l r2, fun l hl => ?_⟩
  have ef : Ex F3 (upd F3 l (.lst (cutV vs i j))) := Ex.new (E3.ff hl)
  exact q _ _ _ (E3.lay hl) (((e1.trans e2).trans e3).trans ef) (((g1.trans g2).trans g3).trans (Nw.lay hl)) ⟨l, _, rfl, upd_same, (reps_cut r3 i j).mono ef⟩
theorem xe_cat {xs ys : List τ} (ha : XE X c Γ a xs) (hb : XE X c Γ b ys) (h : xs.length + ys.length ≤ 100000) : XE X c Γ (.BinOp a .Add b pos) (xs ++ ys) :=
  xe_op op_cat (fun F H u v e h1 h2 Q q => by
    obtain ⟨p, vs, rfl, r1, r2⟩ := h1
    obtain ⟨p', ws, rfl, s1, s2⟩ := h2
    refine ⟨p, p', vs, ws, rfl, rfl, e _ _ r1, e _ _ s1, sz _ (by rw [r2.length, s2.length]; exact h), fun l hl => ?_⟩
    have hf : F l = none := by
      cases q : F l with
      | none => rfl
      | some o => rw [e _ _ q] at hl; cases hl
    refine q _ (upd F l _) _ (Ex.new hf) (fun z o hz => ?_) (Ex.new hl) (fun z hz => ?_) ⟨l, _, rfl, upd_same, (r2.app s2).mono (Ex.new hf)⟩
    · by_cases hzl : z = l
      · subst hzl; rw [upd_same] at hz ⊢; exact hz
      · rw [upd_ne hzl] at hz ⊢; exact e _ _ hz
    · by_cases hzl : z = l
      · subst hzl; exact .inr hl
      · rw [upd_ne hzl] at hz; exact .inl hz) ha hb
theorem rep_flat {K : Fg} {F : Hp} {vs : List V} {xs : List τ} (r : Reps K F vs xs) : ∀ n : Nat, Reps K F (List.replicate n vs).flatten (List.replicate n xs).flatten
  | 0 => .nil
  | n + 1 => by
    rw [List.replicate_succ, List.replicate_succ, List.flatten_cons, List.flatten_cons]
    exact r.app (rep_flat r n)
theorem xe_rep {xs : List τ} {k : Int} (ha : XE X c Γ a xs) (hb : XE X c Γ b k) (h : k ≤ 100000 ∧ xs.length * k.toNat ≤ 100000) (h0 : -100000 ≤ k) : XE X c Γ (.BinOp a .Mult b pos) (List.replicate k.toNat xs).flatten :=
  xe_op op_rep (fun F H u v e h1 h2 Q q => by
    obtain ⟨p, vs, rfl, r1, r2⟩ := h1
    refine ⟨p, k, vs, rfl, h2, e _ _ r1, by omega, by omega, sz _ (by rw [r2.length]; exact h.2), fun l hl => ?_⟩
    have hf : F l = none := by
      cases q : F l with
      | none => rfl
      | some o => rw [e _ _ q] at hl; cases hl
    refine q _ (upd F l _) _ (Ex.new hf) (fun z o hz => ?_) (Ex.new hl) (fun z hz => ?_) ⟨l, _, rfl, upd_same, (rep_flat r2 _).mono (Ex.new hf)⟩
    · by_cases hzl : z = l
      · subst hzl; rw [upd_same] at hz ⊢; exact hz
      · rw [upd_ne hzl] at hz ⊢; exact e _ _ hz
    · by_cases hzl : z = l
      · subst hzl; exact .inr hl
      · rw [upd_ne hzl] at hz; exact .inl hz) ha hb

/-! ### built-ins -/
/-- a built-in of one argument whose answer leans on no heap -/
theorem xe_b1 {n : Str} {id : String} {p : Pos} {r : List V → Hp → VK → Prop} {τ' : Type} [PySc τ'] {w : τ'} (hc : CallR X (.builtin id) r) (hv : bootBuiltins n = some (.builtin id)) (hr : ∀ F H v, Ex F H → rep X.K F v x → ∀ Q : VK, Q (PySc.v w) H → r [v] H Q)
    (hg : Gl X n) (hm : X.mg n = none) (ha : XE X c Γ a x) (hn : n ≠ "__name__" := by decide) (hdb : (n == ("__debug__" : Str)) = false := by decide)
    (hs : starEach [a] X.env = [(false, eval a X.env)] := by rfl) : XE X c Γ (.Call (.Name n p) [a] [] pos) w := by
  obtain ⟨t, h1, h2⟩ := ha
  refine ⟨_, pe_callB hc hg hm hv (pa_cons h1 pa_nil hs) hn hdb hs rfl, fun F H σ fp E Q q => h2 F H σ fp E _ fun v F' H' E' e1 e2 r' => hr F' H' v E'.wd.fh r' _ (q _ F' H' E' e1 e2 (PySc.sc.mpr rfl))⟩
theorem xe_b2 {n : Str} {id : String} {p : Pos} {r : List V → Hp → VK → Prop} {τ' : Type} [PySc τ'] {w : τ'} (hc : CallR X (.builtin id) r) (hv : bootBuiltins n = some (.builtin id)) (hr : ∀ F H u v, Ex F H → rep X.K F u x → rep X.K F v y → ∀ Q : VK, Q (PySc.v w) H → r [u, v] H Q)
    (hg : Gl X n) (hm : X.mg n = none) (ha : XE X c Γ a x) (hb : XE X c Γ b y) (hn : n ≠ "__name__" := by decide) (hdb : (n == ("__debug__" : Str)) = false := by decide)
    (hs : starEach [a, b] X.env = (false, eval a X.env) :: starEach [b] X.env := by rfl) (hs2 : starEach [b] X.env = [(false, eval b X.env)] := by rfl) (hbk : ((backTo pos (starEach [b] X.env)).any fun x => x.fst) = false := by rfl) : XE X c Γ (.Call (.Name n p) [a, b] [] pos) w := by
  obtain ⟨t, h1, h2⟩ := ha
  obtain ⟨u, h3, h4⟩ := hb
  refine ⟨_, pe_callB hc hg hm hv (pa_cons h1 (pa_cons h3 pa_nil hs2) hs) hn hdb hs hbk, fun F H σ fp E Q q => h2 F H σ fp E _ fun v F' H' E' e1 e2 r' => h4 F' H' σ fp E' _ fun v2 F2 H2 E2 e3 e4 r2 => ?_⟩
  exact hr F2 H2 v v2 E2.wd.fh (Py.mono e3 r') r2 _ (q _ F2 H2 E2 (e1.trans e3) (e2.trans e4) (PySc.sc.mpr rfl))
theorem xe_len {s : υ} [PyS υ τ] {p : Pos} (hm : X.mg "len" = none) (ha : XE X c Γ a s) (hg : Gl X "len" := by rfl) (hs : starEach [a] X.env = [(false, eval a X.env)] := by rfl) :
    XE X c Γ (.Call (.Name "len" p) [a] [] pos) (((PyS.li s).length : Nat) : Int) :=
  xe_b1 call_len_seq PySem.boot_len (fun F H v e r Q q => by
    obtain ⟨p, vs, rfl, r1, r2⟩ := PyS.sq r
    rw [← r2.length] at q
    exact ⟨p, vs, rfl, r1.elim (fun h => .inl (e.l h)) (fun h => .inr (e.t h)), q⟩) hg hm ha (by decide) (by decide) hs
theorem xe_lenS {s : Str} {p : Pos} (hm : X.mg "len" = none) (ha : XE X c Γ a s) (hl : s.length ≤ sizeLine) (hg : Gl X "len" := by rfl) (hs : starEach [a] X.env = [(false, eval a X.env)] := by rfl) :
    XE X c Γ (.Call (.Name "len" p) [a] [] pos) ((s.length : Nat) : Int) :=
  xe_b1 call_len_str PySem.boot_len (fun F H v e r Q q => ⟨s, by rw [show v = V.str s from r], hl, q⟩) hg hm ha (by decide) (by decide) hs
theorem min_eq (i j : Int) : (if j < i then j else i) = min i j := by rw [Int.min_def]; split <;> split <;> omega
theorem max_eq (i j : Int) : (if j > i then j else i) = max i j := by rw [Int.max_def]; split <;> split <;> omega
theorem xe_min {i j : Int} {p : Pos} (hm : X.mg "min" = none) (ha : XE X c Γ a i) (hb : XE X c Γ b j) (hc : X.calm = true := by rfl) (hg : Gl X "min" := by rfl)
    (hs : starEach [a, b] X.env = (false, eval a X.env) :: starEach [b] X.env := by rfl) (hs2 : starEach [b] X.env = [(false, eval b X.env)] := by rfl) (hbk : ((backTo pos (starEach [b] X.env)).any fun x => x.fst) = false := by rfl) :
    XE X c Γ (.Call (.Name "min" p) [a, b] [] pos) (min i j) :=
  xe_b2 (call_min2 hc) (by decide +kernel) (fun F H u v e r1 r2 Q q => ⟨i, j, by rw [show u = V.int i from r1, show v = V.int j from r2], by rw [min_eq]; exact q⟩) hg hm ha hb (by decide) (by decide) hs hs2 hbk
theorem xe_max {i j : Int} {p : Pos} (hm : X.mg "max" = none) (ha : XE X c Γ a i) (hb : XE X c Γ b j) (hc : X.calm = true := by rfl) (hg : Gl X "max" := by rfl)
    (hs : starEach [a, b] X.env = (false, eval a X.env) :: starEach [b] X.env := by rfl) (hs2 : starEach [b] X.env = [(false, eval b X.env)] := by rfl) (hbk : ((backTo pos (starEach [b] X.env)).any fun x => x.fst) = false := by rfl) :
    XE X c Γ (.Call (.Name "max" p) [a, b] [] pos) (max i j) :=
  xe_b2 (call_max2 hc) (by decide +kernel) (fun F H u v e r1 r2 Q q => ⟨i, j, by rw [show u = V.int i from r1, show v = V.int j from r2], by rw [max_eq]; exact q⟩) hg hm ha hb (by decide) (by decide) hs hs2 hbk
/-- int(a truth) -/
theorem xe_intB {k : Bool} {p : Pos} (hm : X.mg "int" = none) (ha : XE X c Γ a k) (hg : Gl X "int" := by rfl)
    (hs : starEach [a] X.env = [(false, eval a X.env)] := by rfl) : XE X c Γ (.Call (.Name "int" p) [a] [] pos) (if k then (1 : Int) else 0) := by
  obtain ⟨t, h1, h2⟩ := ha
  refine ⟨_, pe_callTy call_int1 hg hm (by decide +kernel) (pa_cons h1 pa_nil hs) (by decide) (by decide) hs rfl, fun F H σ fp E Q q => h2 F H σ fp E _ fun v F' H' E' e1 e2 r' => .inr ⟨k, by rw [show v = V.bl k from r'], q _ F' H' E' e1 e2 rfl⟩⟩
end
end Fw
namespace Fw
open PySem L2 Py PyProof.Rows
/-! ### defs -/
/-- what a def's arguments leave in its slots -/
class PySl (α : Type) extends PyA α where
  n : Nat
  slots : α → List Slot
  slen : ∀ a, (slots a).length = n
  get : ∀ {K : Fg} {F : Hp} {vs : List V} {a : α}, reps K F vs a → vs.length = n ∧ ∀ (i : Nat) s, (slots a)[i]? = some s → ∃ v, vs[i]? = some v ∧ ∀ H, s.ok K F H (some v) []
instance : PySl Unit where
  n := 0
  slots _ := []
  slen _ := rfl
  get := fun {K F vs a} h => ⟨by rw [show vs = [] from h]; rfl, fun i s h => by simp at h⟩
instance {τ α : Type} [Py τ] [PySl α] : PySl (τ × α) where
  n := PySl.n α + 1
  slots a := .fz a.1 :: PySl.slots a.2
  slen a := by simp [PySl.slen]
  get := fun {K F vs a} h => by
    obtain ⟨u, r, rfl, h1, h2⟩ := h
    obtain ⟨g1, g2⟩ := PySl.get h2
    refine ⟨by simp [g1], fun i s hs => ?_⟩
    cases i with
    | zero => 
      have e : Slot.fz a.1 = s := by simpa using hs
      subst e
      exact ⟨u, rfl, fun H => ⟨rfl, u, rfl, h1⟩⟩
    | succ i =>
      obtain ⟨v, h3, h4⟩ := g2 i s (by simpa using hs)
      exact ⟨v, by simpa using h3, h4⟩

/-- the promise of a def that changes nothing: worth m a of its arguments a, where pre holds -/
def SpP (K : Fg) {α τ : Type} [PySl α] [Py τ] (pre : α → Prop) (m : α → τ) : Sp := fun vs H Q _ => ∃ F a, Ex F H ∧ PyA.reps K F vs a ∧ pre a ∧
  ∀ v F' H', Ex F F' → Ex F' H' → Ex H H' → (∀ b, F' b ≠ none → F b ≠ none ∨ H b = none) → rep K F' v (m a) → Q v H'
/-- a def known by its name -/
structure Fk (P : Program) (w : World) (K : Fg) (mg : Str → Option Value) (base : Heap) (n : Str) (ps : List Str) (ds : List Value) (k : Nat) (sp : Sp) : Prop where
  ex : ∃ f fd, mg n = some (.ref f) ∧ PySem.W.keepIn K (.ref f) = true ∧ Binds K fd ps ds ∧ FnOk P w K mg base CX0 k f fd ps sp
/-- a def of the text -/
structure Df (K : Fg) (mg : Str → Option Value) (n : Str) (st : Stmt) : Prop where
  ex : ∃ f fd, mg n = some (.ref f) ∧ Fun K n n st f fd

theorem env0 {K : Fg} {c : Cw} {F H : Hp} {α : Type} [PySl α] {a : α} {vs : List V} {N : List Str} (w : Wd c F H) (r : PyA.reps K F vs a) (hN : PySl.n α ≤ N.length) : Env K c F H (L2.start N vs) (PySl.slots a ++ List.replicate (N.length - PySl.n α) .no) := by
  obtain ⟨g1, g2⟩ := PySl.get r
  refine ⟨fun _ => [], w, ?_, fun i s hs => ?_, fun i j b h => (by cases h), fun i b h _ => (by cases h), fun i h => rfl⟩
  · unfold L2.start
    simp [g1, PySl.slen]
  · unfold L2.start
    by_cases hi : i < PySl.n α
    · rw [List.getElem?_append_left (by rw [PySl.slen]; exact hi)] at hs
      obtain ⟨v, h1, h2⟩ := g2 i s hs
      refine ⟨some v, ?_, h2 H⟩
      rw [List.getElem?_append_left (by simp [g1]; exact hi)]
      simp [h1]
    · rw [List.getElem?_append_right (by rw [PySl.slen]; omega)] at hs
      rw [List.getElem?_append_right (by simp [g1]; omega)]
      rw [List.getElem?_replicate] at hs
      split at hs
      · rename_i hl
        cases hs
        refine ⟨none, ?_, rfl⟩
        rw [List.getElem?_replicate, if_pos]
        simpa [g1, PySl.slen] using hl
      · cases hs

section
variable {P : Program} {w : World} {K : Fg} {mg : Str → Option Value} {base : Heap}
abbrev RcP (τ : Type) [i : Py τ] : Rc := ⟨τ, i, Unit, fun _ _ => True⟩
/-- THE RULE for a def that changes nothing -/
theorem fn_of_body {n : Str} {st : Stmt} {f : Addr} {fd : FuncData} {N ps : List Str} {k : Nat} {α τ : Type} [PySl α] [Py τ] {pre : α → Prop} {m : α → τ} (F : Fun K n n st f fd) (S : FnScope N ps (defScope st)) (hn : ps.length = PySl.n α)
    (body : ∀ (f : Addr) (cdv : Value) (A : Around) (outer : List PySem.Env) (s : Shared) (H : Hp) (E : XK) (c : Cw) (a : α), Room k (A.deeper (envOfC n (defScope st) s.heap.objs.size f cdv)) → pre a →
      XO (R := RcP τ) (cxOf CX0 P w K mg base N n (defScope st) f cdv A outer s H E).nox c (PySl.slots a ++ List.replicate (N.length - PySl.n α) .no) (defBody st) (S := Empty) (B := Empty) (fun e => e.elim) (fun e => e.elim) (.rt (m a, ()))) :
    FnOk P w K mg base CX0 (k + 1) f fd ps (SpP K pre m) := by
  have hN : PySl.n α ≤ N.length := by
    have q := congrArg List.length S.pre
    rw [List.length_take] at q
    omega
  refine F.ok S (fun vs H Q E h => ?_) (fun cdv A outer s H vs Q E hr h => ?_)
  · obtain ⟨F0, a, _, r, _⟩ := h
    rw [hn]; exact (PySl.get r).1
  · obtain ⟨F0, a, e, r, hp, q⟩ := h
    obtain ⟨t, h1, h2⟩ := body f cdv A outer s H E ⟨F0, H, fun _ => False⟩ a hr hp
    refine ⟨t, h1, h2 F0 H _ (env0 ⟨Ex.refl _, e, fun b o _ h => h, fun b h => .inl h⟩ r hN) _ ?_⟩
    intro v σ' F' H' Γ' E' e1 _ r'
    exact q v F' H' e1 E'.wd.fh (fun b o h => E'.wd.keep b o (fun h => h) h) (fun b hb => (E'.wd.new b hb).imp id (fun h => h.elim (fun h => h.elim) id)) r'
theorem fk_of {n : Str} {st : Stmt} {N ps : List Str} {k : Nat} {α τ : Type} [PySl α] [Py τ] {pre : α → Prop} {m : α → τ} (D : Df K mg n st) (S : FnScope N ps (defScope st)) (hn : ps.length = PySl.n α)
    (hb : ∀ (kV doc pm : Value) (an : Option Addr) (cdv ct : Value) (us : List Value), us.length = ps.length → bindArgs (PySem.W.fnOf n n (defArgs st) (defBody st) (defScope st) .none kV doc pm an cdv ct) ⟨us, []⟩ = pure (ps.zip us))
    (body : ∀ (f : Addr) (cdv : Value) (A : Around) (outer : List PySem.Env) (s : Shared) (H : Hp) (E : XK) (c : Cw) (a : α), Room k (A.deeper (envOfC n (defScope st) s.heap.objs.size f cdv)) → pre a →
      XO (R := RcP τ) (cxOf CX0 P w K mg base N n (defScope st) f cdv A outer s H E).nox c (PySl.slots a ++ List.replicate (N.length - PySl.n α) .no) (defBody st) (S := Empty) (B := Empty) (fun e => e.elim) (fun e => e.elim) (.rt (m a, ()))) :
    Fk P w K mg base n ps [] (k + 1) (SpP K pre m) := by
  obtain ⟨f, fd, hm, F⟩ := D.ex
  exact ⟨f, fd, hm, F.kp, F.binds hb, fn_of_body F S hn body⟩
/-- a def with defaults, known by its name; dvs are those of the parameters that a call leaves out -/
structure FkD (P : Program) (w : World) (K : Fg) (mg : Str → Option Value) (base : Heap) (n : Str) (ps : List Str) (dvs : List V) (k : Nat) (sp : Sp) : Prop where
  ex : ∃ ds, Vals dvs ds ∧ Fk P w K mg base n ps ds k sp
theorem FkD.full {n : Str} {ps : List Str} {k : Nat} {sp : Sp} (G : FkD P w K mg base n ps [] k sp) : Fk P w K mg base n ps [] k sp := by
  obtain ⟨ds, h, g⟩ := G.ex
  cases h
  exact g
/-- a def of the text with defaults dvs -/
structure DfD (K : Fg) (mg : Str → Option Value) (n : Str) (st : Stmt) (dvs : List V) : Prop where
  ex : ∃ f fd, mg n = some (.ref f) ∧ FunD K n n (defArgs st) (defBody st) (defScope st) dvs [] f fd
theorem fkd_of {n : Str} {st : Stmt} {N ps : List Str} {dvs : List V} {k : Nat} {α τ : Type} [PySl α] [Py τ] {pre : α → Prop} {m : α → τ} (D : DfD K mg n st dvs) (S : FnScope N ps (defScope st)) (hn : ps.length = PySl.n α) (j q : Nat) (hd : dvs ≠ []) (hq : q + (dvs.length - j) = ps.length)
    (hb : ∀ (T : Addr) (kV doc pm : Value) (an : Option Addr) (cdv ct : Value) (us its : List Value), us.length = q → its.length = dvs.length →
      ∃ k, bindArgs (PySem.W.fnOf n n (defArgs st) (defBody st) (defScope st) (.ref T) kV doc pm an cdv ct) ⟨us, []⟩ = seqItems? (.ref T) >>= k ∧ k (some its.toArray) = pure (ps.zip (us ++ its.drop j)))
    (body : ∀ (f : Addr) (cdv : Value) (A : Around) (outer : List PySem.Env) (s : Shared) (H : Hp) (E : XK) (c : Cw) (a : α), Room k (A.deeper (envOfC n (defScope st) s.heap.objs.size f cdv)) → pre a →
      XO (R := RcP τ) (cxOf CX0 P w K mg base N n (defScope st) f cdv A outer s H E).nox c (PySl.slots a ++ List.replicate (N.length - PySl.n α) .no) (defBody st) (S := Empty) (B := Empty) (fun e => e.elim) (fun e => e.elim) (.rt (m a, ()))) :
    FkD P w K mg base n ps (dvs.drop j) (k + 1) (SpP K pre m) := by
  obtain ⟨f, fd, hm, F⟩ := D.ex
  obtain ⟨ds, h1, h2⟩ := F.binds1 q j hd hq hb
  have hN : PySl.n α ≤ N.length := by
    have q := congrArg List.length S.pre
    rw [List.length_take] at q
    omega
  refine ⟨ds, h1, f, fd, hm, F.kp, h2, F.ok S (fun vs H Q E h => ?_) (fun cdv A outer s H vs Q E hr h => ?_)⟩
  · obtain ⟨F0, a, _, r, _⟩ := h
    rw [hn]; exact (PySl.get r).1
  · obtain ⟨F0, a, e, r, hp, q⟩ := h
    obtain ⟨t, h1, h2⟩ := body f cdv A outer s H E ⟨F0, H, fun _ => False⟩ a hr hp
    refine ⟨t, h1.nox, h2 F0 H _ (env0 ⟨Ex.refl _, e, fun b o _ h => h, fun b h => .inl h⟩ r hN) _ ?_⟩
    intro v σ' F' H' Γ' E' e1 _ r'
    exact q v F' H' e1 E'.wd.fh (fun b o h => E'.wd.keep b o (fun h => h) h) (fun b hb => (E'.wd.new b hb).imp id (fun h => h.elim (fun h => h.elim) id)) r'
theorem dfd_mk {h : Heap} {n : Str} {st : Stmt} {f Ta : Addr} {oc oc2 : Value} {od an od2 : Option Addr} {osl osl2 : Array (Option Value)} {kV doc pm cdv ct : Value} {its : List Value} {m : Nat} {dvs : List V} (X : K.In h) (G : h.Ns mainGlobals mg) (a : PySem.W.nsIn K mainGlobals n = some (some (.ref f)))
    (l : K.lookup f = some ⟨oc, od, .func (PySem.W.fnOf n n (defArgs st) (defBody st) (defScope st) (.ref Ta) kV doc pm an cdv ct), osl⟩) (c : PySem.W.codeIn K cdv n = true) (k : PySem.W.keepIn K (.ref f) = true) (t : K.lookup Ta = some ⟨oc2, od2, .seq its.toArray m, osl2⟩) (hd : dvs ≠ []) (hv : Vals dvs its) : DfD K mg n st dvs :=
  ⟨f, _, PySem.W.mg_of X G a, ⟨oc, od, .ref Ta, kV, doc, pm, an, cdv, ct, osl, rfl, l, c, .inr ⟨hd, Ta, _, its, m, rfl, t, rfl, hv⟩, .inl rfl⟩, k⟩
/-- .. a procedure: it comes to its end, or returns nothing -/
theorem fk_ofN {n : Str} {st : Stmt} {N ps : List Str} {k : Nat} {α τ : Type} [PySl α] {pre : α → Prop} (D : Df K mg n st) (S : FnScope N ps (defScope st)) (hn : ps.length = PySl.n α)
    (hb : ∀ (kV doc pm : Value) (an : Option Addr) (cdv ct : Value) (us : List Value), us.length = ps.length → bindArgs (PySem.W.fnOf n n (defArgs st) (defBody st) (defScope st) .none kV doc pm an cdv ct) ⟨us, []⟩ = pure (ps.zip us))
    (body : ∀ (f : Addr) (cdv : Value) (A : Around) (outer : List PySem.Env) (s : Shared) (H : Hp) (E : XK) (c : Cw) (a : α), Room k (A.deeper (envOfC n (defScope st) s.heap.objs.size f cdv)) → pre a →
      ∃ o : Out Unit Empty (Unit × Unit), XO (R := RcP Unit) (cxOf CX0 P w K mg base N n (defScope st) f cdv A outer s H E).nox c (PySl.slots a ++ List.replicate (N.length - PySl.n α) .no) (defBody st) (S := Unit) (B := Empty) (fun _ => List.replicate N.length .no) (fun e => e.elim) o) :
    Fk P w K mg base n ps [] (k + 1) (SpP K pre (fun _ => ())) := by
  obtain ⟨f, fd, hm, F⟩ := D.ex
  have hN : PySl.n α ≤ N.length := by
    have q := congrArg List.length S.pre
    rw [List.length_take] at q
    omega
  refine ⟨f, fd, hm, F.kp, F.binds hb, F.ok S (fun vs H Q E h => ?_) (fun cdv A outer s H vs Q E hr h => ?_)⟩
  · obtain ⟨F0, a, _, r, _⟩ := h
    rw [hn]; exact (PySl.get r).1
  · obtain ⟨F0, a, e, r, hp, q⟩ := h
    obtain ⟨o, t, h1, h2⟩ := body f cdv A outer s H E ⟨F0, H, fun _ => False⟩ a hr hp
    refine ⟨t, h1, h2 F0 H _ (env0 ⟨Ex.refl _, e, fun b o _ h => h, fun b h => .inl h⟩ r hN) _ ?_⟩
    have fin : ∀ v F' H' σ' Γ', Env K ⟨F0, H, fun _ => False⟩ F' H' σ' Γ' → Ex F0 F' → v = V.non → Q v H' := fun v F' H' σ' Γ' E' e1 hv =>
      q v F' H' e1 E'.wd.fh (fun b o h => E'.wd.keep b o (fun h => h) h) (fun b hb => (E'.wd.new b hb).imp id (fun h => h.elim (fun h => h.elim) id)) hv
    cases o with
    | nx u => exact fun σ' F' H' E' e1 => fin _ F' H' σ' _ E' e1 rfl
    | rt u => exact fun v σ' F' H' Γ' E' e1 _ r' => fin v F' H' σ' Γ' E' e1 r'
    | bk u => exact u.elim
    | ct u => exact u.elim
end
section
variable {X : Cx} {c : Cw} {Γ Γ' : List Slot} {τ υ ζ : Type} [Py τ] [Py υ] [Py ζ] {a b d e : Expr} {es : List Expr} {x : τ} {y : υ} {z : ζ} {pos : Pos}
/-- a call of such a def -/
theorem xe_callD {α β : Type} [PySl α] [PyA β] {n : Str} {ps : List Str} {dvs : List V} {k j : Nat} {pre : α → Prop} {m : α → τ} {r : α} {r0 : β} {p : Pos} (G : FkD X.prog X.w X.K X.mg X.base n ps dvs k (SpP X.K pre m)) (hr : Room j X.A) (hj : k ≤ j)
    (hD : ∀ F vs, PyA.reps X.K F vs r0 → PyA.reps X.K F (vs ++ dvs) r)
    (ha : XA X c Γ (e :: es) r0) (hp : pre r) (hg : Gl X n := by rfl) (hdb : (n == ("__debug__" : Str)) = false := by decide) (hs : starEach (e :: es) X.env = (false, eval e X.env) :: starEach es X.env := by rfl) (hb : ((backTo pos (starEach es X.env)).any fun x => x.fst) = false := by rfl) :
    XE X c Γ (.Call (.Name n p) (e :: es) [] pos) (m r) := by
  obtain ⟨ds, hd, G⟩ := G.ex
  obtain ⟨f, fd, g1, g2, g3, g4⟩ := G.ex
  obtain ⟨t, h1, h2⟩ := ha
  refine ⟨_, pe_call (E := E0) g4 (hr.mono hj) hg g1 g2 g3 hd pass0 h1 hdb hs hb, fun F H σ fp E Q q => h2 F H σ fp E _ fun vs F1 H1 E1 e1 x1 r1 => ?_⟩
  exact ⟨F1, r, E1.wd.fh, hD _ _ r1, hp, fun v F' H' y1 y2 y3 y4 y5 => q v F' H' (E1.grow y1 y2 y3 y4) (e1.trans y1) (x1.trans ⟨y3, y4⟩) y5⟩
theorem xe_call {α : Type} [PySl α] {n : Str} {ps : List Str} {k j : Nat} {pre : α → Prop} {m : α → τ} {r : α} {p : Pos} (G : Fk X.prog X.w X.K X.mg X.base n ps [] k (SpP X.K pre m)) (hr : Room j X.A) (hj : k ≤ j)
    (ha : XA X c Γ (e :: es) r) (hp : pre r) (hg : Gl X n := by rfl) (hdb : (n == ("__debug__" : Str)) = false := by decide) (hs : starEach (e :: es) X.env = (false, eval e X.env) :: starEach es X.env := by rfl) (hb : ((backTo pos (starEach es X.env)).any fun x => x.fst) = false := by rfl) :
    XE X c Γ (.Call (.Name n p) (e :: es) [] pos) (m r) :=
  xe_callD ⟨[], .nil, G⟩ hr hj (fun F vs h => by rw [List.append_nil]; exact h) ha hp hg hdb hs hb
end
end Fw
namespace Fw
open PySem L2 Py PyProof.Rows
/-- what was made, named -/
def bnd {α β : Type} (s : α) (k : α → β) : β := k s
def Out.val {R : Type} : Out Empty Empty R → R
  | .rt r => r
  | .nx s => s.elim
  | .bk s => s.elim
  | .ct s => s.elim
section
variable {X : Cx} {c : Cw} {Γ Γ' : List Slot} {S S' B υ : Type} [Py υ] {R : Rc} {G : S → List Slot} {G' : S' → List Slot} {GB : B → List Slot} {o : Out S B (R.τ × R.ω)} {pos : Pos} {st : Stmt} {rest : List Stmt} {e d : Expr} {k : Bool}
theorem XO.gam (h : Γ = Γ') (q : XO X c Γ' rest G GB o) : XO X c Γ rest G GB o := h ▸ q
theorem xo_val {GE GF : Empty → List Slot} {o : Out Empty Empty (R.τ × R.ω)} (h : XO X c Γ rest GE GF o) : XO X c Γ rest GE GF (Out.rt o.val : Out Empty Empty (R.τ × R.ω)) := by
  cases o with
  | nx s => exact s.elim
  | rt r => exact h
  | bk s => exact s.elim
  | ct s => exact s.elim
/-- .. then the rest, what was made named -/
theorem xo_nxt {s : S'} {k : S' → Out S B (R.τ × R.ω)} (h : XS X c Γ st G' GB (Out.nx s : Out S' B (R.τ × R.ω))) (hr : ∀ s', s' = s → XO X c (G' s') rest G GB (k s')) : XO X c Γ (st :: rest) G GB (bnd s k) :=
  xo_cons (k := k) h fun s' hs => by
    injection hs with hs
    exact hr s' hs.symm
/-- .. in a block that returns x -/
theorem xr_nxt {s : S'} {kx : S' → R.τ} {w : R.ω} (h : XS X c Γ st G' GB (Out.nx s : Out S' B (R.τ × R.ω))) (hr : ∀ s', s' = s → XO X c (G' s') rest G GB (Out.rt (kx s', w) : Out S B (R.τ × R.ω))) : XO X c Γ (st :: rest) G GB (Out.rt (bnd s kx, w) : Out S B (R.τ × R.ω)) :=
  xo_nxt (k := fun s => Out.rt (kx s, w)) h hr
/-- .. in a block that goes on -/
theorem xn_nxt {s : S'} {kx : S' → S} (h : XS X c Γ st G' GB (Out.nx s : Out S' B (R.τ × R.ω))) (hr : ∀ s', s' = s → XO X c (G' s') rest G GB (Out.nx (kx s') : Out S B (R.τ × R.ω))) : XO X c Γ (st :: rest) G GB (Out.nx (bnd s kx) : Out S B (R.τ × R.ω)) :=
  xo_nxt (k := fun s => Out.nx (kx s)) h hr
theorem xr_val {GE GF : Empty → List Slot} {o : Out Empty Empty (R.τ × R.ω)} (h : XO X c Γ rest GE GF o) : XO X c Γ rest GE GF (Out.rt (o.val.1, o.val.2) : Out Empty Empty (R.τ × R.ω)) := xo_val h
/-- x = e -/
theorem xs_let {x : υ} (i : Nat) {n : Str} {p : Pos} (hN : X.N.Nodup) (he : XE X c Γ e x) (hi : X.N[i]? = some n := by rfl) (hx : Loc X.env.scope n := by first | exact .inl rfl | exact .inr rfl) (hs : swapsWith e (some (.Name n p)) pos.line X.env = pure false := by rfl)
    (hf : X.fn n = true ∨ X.env.scope.names.lookup n = some .local := by first | exact .inl rfl | exact .inr rfl | assumption) : XS X c Γ (.Assign [.Name n p] e pos) (fun x : υ => Γ.set i (.fz x)) GB (Out.nx x : Out υ B (R.τ × R.ω)) := by
  obtain ⟨t, h1, h2⟩ := he
  refine ⟨_, ps_set (i := i) hN hi hx h1 hs hf, fun F H σ ⟨fp, E⟩ D q => h2 F H σ fp E _ fun v F' H' E' e1 e2 r => ?_⟩
  exact q _ F' H' (Env.set ⟨fp, E'⟩ r) e1
/-- target = e -/
theorem xs_lets {x : υ} {tg : Expr} {up : List Slot → υ → List Slot} (he : XE X c Γ e x) {ws : List Nat} (hg : XG X c tg ws up) (hs : swapsWithSole [tg] e pos.line X.env = pure false := by rfl) (hw : swappedStores [tg] e X.env = pure none := by rfl) (h1' : (assignEach [tg] X.env).map (·.2) = [assign tg X.env] := by rfl) :
    XS X c Γ (.Assign [tg] e pos) (fun x : υ => up Γ x) GB (Out.nx x : Out υ B (R.τ × R.ω)) := by
  obtain ⟨t, h1, h2⟩ := he
  obtain ⟨g, h3, h4⟩ := hg
  refine ⟨_, ps_asg h1 h3 hs hw h1', fun F H σ ⟨fp, E⟩ D q => h2 F H σ fp E _ fun v F' H' E' e1 e2 r => h4 F' H' σ fp v _ x E' r _ fun σ' fp' E2 _ _ => q σ' F' H' ⟨fp', E2⟩ e1⟩
/-- both ways go on -/
theorem xs_ifs {A C : List Stmt} {s1 s2 : S} (hd : XT X c Γ d k) (ha : k = true → XO X c Γ A G GB (Out.nx s1 : Out S B (R.τ × R.ω))) (hb : k = false → XO X c Γ C G GB (Out.nx s2 : Out S B (R.τ × R.ω))) :
    XS X c Γ (.If d A C pos) G GB (Out.nx (if k then s1 else s2) : Out S B (R.τ × R.ω)) := by
  cases k with
  | true => exact xs_if (o1 := .nx s1) (o2 := .nx s2) hd (fun _ => ha rfl) (fun h => by cases h)
  | false => exact xs_if (o1 := .nx s1) (o2 := .nx s2) hd (fun h => by cases h) (fun _ => hb rfl)
/-- both ways return -/
theorem xr_if {A : List Stmt} {x1 x2 : R.τ} {w : R.ω} (hd : XT X c Γ d k) (ha : k = true → XO X c Γ A (fun s : Empty => s.elim) GB (Out.rt (x1, w) : Out Empty B (R.τ × R.ω))) (hb : k = false → XO X c Γ rest G GB (Out.rt (x2, w) : Out S B (R.τ × R.ω))) :
    XO X c Γ (.If d A [] pos :: rest) G GB (Out.rt (if k then x1 else x2, w) : Out S B (R.τ × R.ω)) := by
  cases k with
  | true => exact xo_ifx (o1 := .rt (x1, w)) (o2 := .rt (x1, w)) hd (fun _ => ha rfl) (fun h => by cases h)
  | false => exact xo_ifx (o1 := .rt (x2, w)) (o2 := .rt (x2, w)) hd (fun h => by cases h) (fun _ => hb rfl)
theorem xr_ife {A C : List Stmt} {x1 x2 : R.τ} {w : R.ω} (hd : XT X c Γ d k) (ha : k = true → XO X c Γ A G GB (Out.rt (x1, w) : Out S B (R.τ × R.ω))) (hb : k = false → XO X c Γ C G GB (Out.rt (x2, w) : Out S B (R.τ × R.ω))) :
    XS X c Γ (.If d A C pos) G GB (Out.rt (if k then x1 else x2, w) : Out S B (R.τ × R.ω)) := by
  cases k with
  | true => exact xs_if (o1 := .rt (x1, w)) (o2 := .rt (x2, w)) hd (fun _ => ha rfl) (fun h => by cases h)
  | false => exact xs_if (o1 := .rt (x1, w)) (o2 := .rt (x2, w)) hd (fun h => by cases h) (fun _ => hb rfl)
/-- a for whose turns may leave, nothing asked of the data carried -/
theorem xs_for0 {tg it : Expr} {body : List Stmt} {xs : List υ} {up : List Slot → υ → List Slot} {L : S → List Slot} {s0 : S} {f : S → υ → Out S S (R.τ × R.ω)} (hi : XI X c Γ tg it xs) {ws : List Nat} (hg : XG X c tg ws up) (hw : Weak Γ (L s0))
    (hb : ∀ (i : Nat) y s, xs[i]? = some y → XO X c (up (L s) y) body L L (f s y))
    (hc : X.calm = true := by rfl) (hp : PassesOwn (model X.prog X.w) X.A X.env X.xe := by exact PassesOwn.never) (hs : ∀ x, foldedSetIterable it X.env x = pure x := by intro _; rfl) :
    XS X c Γ (.For tg it body [] pos) L GB (runFor f s0 xs : Out S B (R.τ × R.ω)) :=
  xs_for (fun _ _ => True) hi hg hw trivial (fun i y s hx _ => ⟨hb i y s hx, by split <;> trivial⟩) hc hp hs
/-- a for that folds -/
theorem xs_fold {tg it : Expr} {body : List Stmt} {xs : List υ} {up : List Slot → υ → List Slot} {L : S → List Slot} {s0 : S} {g : S → υ → S} (Iv : Nat → S → Prop) (hi : XI X c Γ tg it xs) {ws : List Nat} (hg : XG X c tg ws up) (hw : Weak Γ (L s0))
    (h0 : Iv 0 s0) (hb : ∀ (i : Nat) y s, xs[i]? = some y → Iv i s → XO X c (up (L s) y) body L L (Out.nx (g s y) : Out S S (R.τ × R.ω)) ∧ Iv (i + 1) (g s y))
    (hc : X.calm = true := by rfl) (hp : PassesOwn (model X.prog X.w) X.A X.env X.xe := by exact PassesOwn.never) (hs : ∀ x, foldedSetIterable it X.env x = pure x := by intro _; rfl) :
    XS X c Γ (.For tg it body [] pos) L GB (Out.nx (xs.foldl g s0) : Out S B (R.τ × R.ω)) := by
  have h := xs_for (GB := GB) (R := R) (f := fun s y => .nx (g s y)) Iv hi hg hw h0 (fun i y s hx hI => ⟨(hb i y s hx hI).1, (hb i y s hx hI).2⟩) hc hp hs (pos := pos)
  rw [runFor_nx] at h
  exact h
theorem xs_fold0 {tg it : Expr} {body : List Stmt} {xs : List υ} {up : List Slot → υ → List Slot} {L : S → List Slot} {s0 : S} {g : S → υ → S} (hi : XI X c Γ tg it xs) {ws : List Nat} (hg : XG X c tg ws up) (hw : Weak Γ (L s0))
    (hb : ∀ (i : Nat) y s, xs[i]? = some y → XO X c (up (L s) y) body L L (Out.nx (g s y) : Out S S (R.τ × R.ω)))
    (hc : X.calm = true := by rfl) (hp : PassesOwn (model X.prog X.w) X.A X.env X.xe := by exact PassesOwn.never) (hs : ∀ x, foldedSetIterable it X.env x = pure x := by intro _; rfl) :
    XS X c Γ (.For tg it body [] pos) L GB (Out.nx (xs.foldl g s0) : Out S B (R.τ × R.ω)) :=
  xs_fold (fun _ _ => True) hi hg hw trivial (fun i y s hx _ => ⟨hb i y s hx, trivial⟩) hc hp hs

/-! ### owned lists -/
/-- x = [..], a list that will change -/
theorem xs_own {xs : List υ} {es : List Expr} {lp : Pos} (i : Nat) {n : Str} {p : Pos} (hN : X.N.Nodup) (he : XL X c Γ es xs) (hl : xs.length ≤ 100000) (hiΓ : i < Γ.length := by decide) (hi : X.N[i]? = some n := by rfl) (hx : Loc X.env.scope n := by first | exact .inl rfl | exact .inr rfl) (hs : swapsWith (.List es lp) (some (.Name n p)) pos.line X.env = pure false := by rfl)
    (hf : X.fn n = true ∨ X.env.scope.names.lookup n = some .local := by first | exact .inl rfl | exact .inr rfl | assumption) : XS X c Γ (.Assign [.Name n p] (.List es lp) pos) (fun x : List υ => Γ.set i (.ow (OL.mk x))) GB (Out.nx xs : Out (List υ) B (R.τ × R.ω)) := by
  obtain ⟨t, h1, h2⟩ := he
  refine ⟨_, ps_set (i := i) hN hi hx (pe_lst h1) hs hf, fun F H σ ⟨fp, E⟩ D q => h2 F H σ fp E _ fun vs F1 H1 E1 e1 g1 r1 => ⟨sz _ (by rw [r1.length]; exact hl), fun a ha => ?_⟩⟩
  have hf := E1.ff ha
  have E2 : EnvD X.K c F1 (upd H1 a (.lst vs)) σ Γ fp := E1.grow (Ex.refl _) (E1.wd.fh.upd hf) (Ex.new ha) fun b h => .inl h
  refine q _ F1 _ ⟨_, E2.setO (l := [a]) hiΓ ⟨rfl, hf, vs, upd_same, r1⟩ (fun b hb => ?_) (fun j b _ hb hj => ?_)⟩ e1
  · cases List.mem_singleton.mp hb
    by_cases hw : c.W a
    · exact .inl hw
    · refine .inr ?_
      cases q : c.H0 a with
      | none => rfl
      | some o => rw [E1.wd.keep _ _ hw q] at ha; cases ha
  · cases List.mem_singleton.mp hb
    obtain ⟨_, o, h⟩ := E1.dom hj
    rw [h] at ha; cases ha
/-- an owned list changes -/
theorem EnvD.ol {K : Fg} {F H : Hp} {σ : L2.St} {fp : Nat → List Addr} {xs ys : List υ} {vs : List V} {i : Nat} {a : Addr} (E : EnvD K c F H σ Γ fp) (hi : Γ[i]? = some (.ow (OL.mk xs))) (hs : σ[i]? = some (some (.ref a))) (hv : Reps K F vs ys) :
    EnvD K c F (upd H a (.lst vs)) (σ.set i (some (.ref a))) (Γ.set i (.ow (OL.mk ys))) (fun j => if j = i then [a] else fp j) := by
  obtain ⟨v, h1, a', h2, h3, h4, ws, h5, h6⟩ := E.ok i _ hi
  rw [hs] at h1
  cases h1
  cases h2
  have hil : i < Γ.length := (List.getElem?_eq_some_iff.mp hi).1
  have ha : a ∈ fp i := by rw [h3]; simp
  have E2 : EnvD K c F (upd H a (.lst vs)) σ (Γ.set i .no) (fun j => if j = i then [] else fp j) := by
    refine ⟨⟨E.wd.f0, E.wd.fh.upd h4, fun b o hb h => ?_, E.wd.new⟩, by simp [E.len], fun j s hj => ?_, fun j l b h1 h2 => ?_, fun j b h hn => ?_, fun j h => ?_⟩
    · by_cases hba : b = a
      · subst hba
        rcases E.al i b ha (BrAt.ow hi) with z | z
        · exact absurd z hb
        · rw [z] at h; cases h
      · rw [upd_ne hba]; exact E.wd.keep b o hb h
    · by_cases hji : j = i
      · subst hji
        rw [List.getElem?_set_self hil] at hj
        cases hj
        exact ⟨_, hs, by simp [Slot.ok]⟩
      · rw [List.getElem?_set_ne (Ne.symm hji)] at hj
        rw [if_neg hji]
        obtain ⟨v, q1, q2⟩ := E.ok j s hj
        refine ⟨v, q1, q2.grow (Ex.refl _) fun b hb => ⟨(q2.dom b hb).1, ?_⟩⟩
        rw [upd_ne]
        rintro rfl
        exact hji (E.dis j i b hb ha)
    · split at h1
      · cases h1
      · split at h2
        · cases h2
        · exact E.dis j l b h1 h2
    · split at h
      · cases h
      · rename_i hj
        exact E.al j b h fun z => hn (z.set hj)
    · split
      · rfl
      · exact E.out j (by simpa using h)
  have E3 := E2.setO (x := OL.mk ys) (l := [a]) (i := i) (by simpa using hil) ⟨rfl, h4, vs, upd_same, hv⟩ (fun b hb => by cases List.mem_singleton.mp hb; exact E.al i a ha (BrAt.ow hi)) (fun j b hj hb => by
    cases List.mem_singleton.mp hb
    rw [if_neg hj]
    exact fun h => hj (E.dis j i a h ha))
  rw [List.set_set] at E3
  have e : (fun j => if j = i then [a] else if j = i then ([] : List Addr) else fp j) = (fun j => if j = i then [a] else fp j) := by
    funext j; by_cases hj : j = i <;> simp [hj]
  rw [e] at E3
  exact E3
/-- xs.append(e) -/
theorem xs_append {xs : List υ} {x : υ} {n : Str} {p q1 q2 : Pos} (i : Nat) (he : XE X c Γ e x) (hl : xs.length < 100000) (hN : X.N[i]? = some n := by rfl) (hiΓ : Γ[i]? = some (.ow (OL.mk xs)) := by rfl) (hv : Vis X.env.scope n := by first | exact Or.inl rfl | exact Or.inr (Or.inl rfl) | exact Or.inr (Or.inr rfl))
    (hd : (n == ("__debug__" : Str)) = false := by decide) (hcd : (n == ("__classdict__" : Str)) = false := by decide) (hst : starEach [e] X.env = [(false, eval e X.env)] := by rfl)
    (hs : swapsWith (.Call (.Attribute (.Name n p) "append" q1) [e] [] q2) none pos.line X.env = pure false := by rfl) (hab : attributeBase (.Name n p) "append" X.env (eval (.Name n p) X.env) = eval (.Name n p) X.env := by rfl) (hln : (q1.endLine == q2.line) = true := by rfl)
    (hfew : ((backTo q2 (starEach [e] X.env)).all (fun x => !x.1) && (backToKw q2 (keywordEach [] X.env)).all (fun x => x.1.isSome) && decide (([e] : List Expr).length + ([] : List Keyword).length + (if ([] : List Keyword).isEmpty then 0 else 1) < 30)) = true := by rfl) :
    XS X c Γ (.Expr (.Call (.Attribute (.Name n p) "append" q1) [e] [] q2) pos) (fun ys : List υ => Γ.set i (.ow (OL.mk ys))) GB (Out.nx (xs ++ [x]) : Out (List υ) B (R.τ × R.ω)) := by
  obtain ⟨t, h1, h2⟩ := he
  refine ⟨_, ps_expr (pe_bm PySem.F.plainAttrs_list PySem.F.slot_list_append PySem.F.type_list_append mt_append (pe_var (i := i) hN hv hd hcd) (pa_cons h1 pa_nil hst) hab hfew hln hst rfl) hs, fun F H σ E D q => ?_⟩
  obtain ⟨fp, E⟩ := E
  obtain ⟨v, g1, a, rfl, g3, g4, ws, g5, g6⟩ := E.ok i _ hiΓ
  refine ⟨_, g1, .inl ⟨rfl, _, .inl (.inl g5)⟩, ?_⟩
  refine h2 F H σ fp E _ fun u F1 H1 E1 e1 x1 r1 => ?_
  obtain ⟨v, k1, a', k2, k3, k4, ws', k5, k6⟩ := E1.ok i _ hiΓ
  rw [g1] at k1; cases k1; cases k2
  refine ⟨a, ws', u, rfl, rfl, k5, Nat.lt_of_lt_of_le (by rw [k6.length]; exact hl) (by decide : 100000 ≤ sizeLine), ?_⟩
  have E2 := E1.ol hiΓ g1 (k6.app (Reps.one r1))
  have es : σ.set i (some (.ref a)) = σ := by
    apply List.ext_getElem?
    intro j
    by_cases hj : j = i
    · subst hj
      rw [List.getElem?_set_self (List.getElem?_eq_some_iff.mp g1).1, g1]
    · rw [List.getElem?_set_ne (Ne.symm hj)]
  rw [es] at E2
  exact q σ F1 _ ⟨_, E2⟩ e1
/-- an owned name is handed on: from now on it is frozen -/
theorem Env.freeze {K : Fg} {F H : Hp} {σ : L2.St} {xs : List υ} {i : Nat} (E : Env K c F H σ Γ) (hi : Γ[i]? = some (.ow (OL.mk xs))) : ∃ F', Env K c F' H σ (Γ.set i (.fz xs)) ∧ Ex F F' := by
  obtain ⟨fp, E⟩ := E
  obtain ⟨v, h1, a, rfl, h3, h4, ws, h5, h6⟩ := E.ok i _ hi
  have hil : i < Γ.length := (List.getElem?_eq_some_iff.mp hi).1
  have ha : a ∈ fp i := by rw [h3]; simp
  refine ⟨upd F a (.lst ws), ⟨fun j => if j = i then [] else fp j, ?_, by simp [E.len], fun j s hj => ?_, fun j l b q1 q2 => ?_, fun j b h hn => ?_, fun j h => ?_⟩, Ex.new h4⟩
  · refine ⟨E.wd.f0.trans (Ex.new h4), fun b o hb => ?_, E.wd.keep, fun b hb => ?_⟩
    · by_cases hba : b = a
      · subst hba; rw [upd_same] at hb; cases hb; exact h5
      · rw [upd_ne hba] at hb; exact E.wd.fh _ _ hb
    · by_cases hba : b = a
      · subst hba; exact .inr (E.al i b ha (BrAt.ow hi))
      · rw [upd_ne hba] at hb; exact E.wd.new b hb
  · by_cases hji : j = i
    · subst hji
      rw [List.getElem?_set_self hil] at hj
      cases hj
      exact ⟨_, h1, by simp, _, rfl, a, ws, rfl, upd_same, h6.mono (Ex.new h4)⟩
    · rw [List.getElem?_set_ne (Ne.symm hji)] at hj
      rw [if_neg hji]
      obtain ⟨v, q1, q2⟩ := E.ok j s hj
      refine ⟨v, q1, q2.grow (Ex.new h4) fun b hb => ⟨?_, rfl⟩⟩
      rw [upd_ne]
      · exact (q2.dom b hb).1
      · rintro rfl
        exact hji (E.dis j i b hb ha)
  · split at q1
    · cases q1
    · split at q2
      · cases q2
      · exact E.dis j l b q1 q2
  · split at h
    · cases h
    · rename_i hj
      exact E.al j b h fun z => hn (z.set hj)
  · split
    · rfl
    · exact E.out j (by simpa using h)
/-- a block begins by freezing a name -/
theorem xo_freeze {xs : List υ} (i : Nat) (h : XO X c (Γ.set i (.fz xs)) rest G GB o) (hi : Γ[i]? = some (.ow (OL.mk xs)) := by rfl) : XO X c Γ rest G GB o := by
  obtain ⟨t, h1, h2⟩ := h
  refine ⟨t, h1, fun F H σ E D q => ?_⟩
  obtain ⟨F', E', e⟩ := E.freeze hi
  exact h2 F' H σ E' D (OutOk.ex (o := o) q e)
/-- an owned list is borrowed -/
theorem xb_own {xs : List υ} {n : Str} (i : Nat) (hN : X.N[i]? = some n := by rfl) (hiΓ : Γ[i]? = some (.ow (OL.mk xs)) := by rfl) (hv : Vis X.env.scope n := by first | exact Or.inl rfl | exact Or.inr (Or.inl rfl) | exact Or.inr (Or.inr rfl))
    (hd : (n == ("__debug__" : Str)) = false := by decide) (hcd : (n == ("__classdict__" : Str)) = false := by decide) : XB X c Γ (.Name n pos) xs :=
  ⟨_, pe_var hN hv hd hcd, fun F H σ fp E Q q => by
    obtain ⟨v, g1, a, rfl, g3, g4, ws, g5, g6⟩ := E.ok i _ hiΓ
    exact ⟨_, g1, q _ F H E (Ex.refl _) Nw.refl ⟨a, ws, rfl, g5, g6.mono E.wd.fh⟩⟩⟩
end
end Fw
namespace Fw
open PySem L2 Py PyProof.Rows
/-! ### comprehensions -/
def wipeS (Γ : List Slot) : List Nat → List Slot
  | [] => Γ
  | v :: vs => (wipeS Γ vs).set v .no
theorem EnvD.wipe {K : Fg} {c : Cw} {F H : Hp} {σ : L2.St} {Γ : List Slot} {fp : Nat → List Addr} (E : EnvD K c F H σ Γ fp) : ∀ vs : List Nat, ∃ fp', EnvD K c F H (L2.wipe σ vs) (wipeS Γ vs) fp' ∧ ∀ j b, b ∈ fp' j → b ∈ fp j
  | [] => ⟨fp, E, fun _ _ h => h⟩
  | v :: vs => by
    obtain ⟨fp1, E1, h1⟩ := EnvD.wipe E vs
    refine ⟨_, E1.drop (i := v) (v := none), fun j b hb => ?_⟩
    split at hb
    · cases hb
    · exact h1 j b hb
theorem wipe_get (σ : L2.St) : ∀ (vs : List Nat) (j : Nat), j < σ.length → (L2.wipe σ vs)[j]? = if j ∈ vs then some none else σ[j]?
  | [], j, h => by simp [L2.wipe]
  | v :: vs, j, h => by
    show ((L2.wipe σ vs).set v none)[j]? = _
    by_cases hj : j = v
    · subst hj
      rw [List.getElem?_set_self (by rw [wipe_length]; exact h), if_pos (by simp)]
    · rw [List.getElem?_set_ne (Ne.symm hj), wipe_get σ vs j h]
      by_cases hm : j ∈ vs
      · rw [if_pos hm, if_pos (by simp [hm])]
      · rw [if_neg hm, if_neg (by simp [hm, hj])]
theorem wipe_sm {σ σ2 : L2.St} {ws vs : List Nat} (h : Sm ws (L2.wipe σ vs) σ2) (hs : ∀ w ∈ ws, w ∈ vs) : L2.wipe σ2 vs = L2.wipe σ vs := by
  have hl : σ2.length = σ.length := by rw [h.1, wipe_length]
  apply List.ext_getElem?
  intro j
  by_cases hj : j < σ.length
  · rw [wipe_get σ2 vs j (by omega), wipe_get σ vs j hj]
    by_cases hm : j ∈ vs
    · rw [if_pos hm, if_pos hm]
    · rw [if_neg hm, if_neg hm, h.2 j (fun q => hm (hs j q)), wipe_get σ vs j hj, if_neg hm]
  · rw [List.getElem?_eq_none (by rw [wipe_length]; omega), List.getElem?_eq_none (by rw [wipe_length]; omega)]
theorem EnvD.mutD {K : Fg} {c : Cw} {F H : Hp} {σ : L2.St} {Γ : List Slot} {fp : Nat → List Addr} {D : Addr} {o : HO} (E : EnvD K c F H σ Γ fp) (hF : F D = none) (hD : ∀ j, D ∉ fp j) (ha : c.al D) : EnvD K c F (upd H D o) σ Γ fp := by
  refine ⟨⟨E.wd.f0, E.wd.fh.upd hF, fun b u hb h => ?_, E.wd.new⟩, E.len, fun j s hj => ?_, E.dis, E.al, E.out⟩
  · by_cases hba : b = D
    · subst hba
      rcases ha with z | z
      · exact absurd z hb
      · rw [z] at h; cases h
    · rw [upd_ne hba]; exact E.wd.keep b u hb h
  · obtain ⟨v, q1, q2⟩ := E.ok j s hj
    refine ⟨v, q1, q2.grow (Ex.refl _) fun b hb => ⟨(q2.dom b hb).1, ?_⟩⟩
    rw [upd_ne]
    rintro rfl
    exact hD j hb
theorem Wd.fresh {c : Cw} {F H : Hp} {a : Addr} (w : Wd c F H) (h : H a = none) : c.al a := by
  by_cases hw : c.W a
  · exact .inl hw
  · refine .inr ?_
    cases q : c.H0 a with
    | none => rfl
    | some o => rw [w.keep _ _ hw q] at h; cases h

section
variable {X : Cx} {c : Cw} {Γ Γ' : List Slot} {τ υ ζ : Type} [Py τ] [Py υ] [Py ζ] {a b d e : Expr} {es : List Expr} {x : τ} {y : υ} {z : ζ} {pos : Pos}
/-- within a comprehension's block -/
structure Bq where
  s : Shared
  H : Hp
  C : Addr
  cl : List (Str × Addr)
  fp : List Addr
abbrev Bk (X : Cx) (scope : Scope) (q : Bq) : Cx := X.blk q.s q.H scope (compEnvC scope q.cl q.C X.env) q.fp
theorem Nw.updD {F H F' H' : Hp} {D : Addr} {o : HO} (n : Nw F H F' H') (h : H D = none) : Nw F H F' (upd H' D o) := ⟨n.h.upd h, n.n⟩
theorem Nw.none {F H F' H' : Hp} {D : Addr} (n : Nw F H F' H') (h : F D = none) (h2 : H D ≠ none) : F' D = none := by
  cases q : F' D with
  | none => rfl
  | some o =>
    rcases n.n D (by rw [q]; simp) with z | z
    · exact absurd h z
    · exact absurd z h2
/-- the list of a comprehension, whatever it keeps -/
theorem xe_lcG {elt tg it : Expr} {ifs : List Expr} {scope : Scope} {ws : List Nat} {xs : List υ} {up : List Slot → υ → List Slot} {g : υ → τ} {p : υ → Bool} (own : List (Str × Nat)) (hN : X.N.Nodup) (hi : XI X c Γ tg it xs) (hl : xs.length ≤ 100000)
    (hg : ∀ q : Bq, XG (Bk X scope q) c tg ws up)
    (kt : ∃ tt, (∀ q : Bq, PTs (Bk X scope q) ifs tt) ∧ ∀ (i : Nat) y, xs[i]? = some y → ETr X.K c tt (up (wipeS Γ (own.map (·.2))) y) (p y))
    (he : ∀ (i : Nat) y, xs[i]? = some y → p y = true → ∀ q : Bq, XE (Bk X scope q) c (up (wipeS Γ (own.map (·.2))) y) elt (g y))
    (ok : blkC X.N X.env.scope scope own = true) (hws : ∀ w ∈ ws, w ∈ own.map (·.2)) (hc : X.calm = true) (hs : ∀ x, foldedSetIterable it X.env x = pure x) :
    ∃ wi tgr tt te, PI X tg it wi ∧ (∀ q : Bq, PG (Bk X scope q) tg tgr) ∧ (∀ q : Bq, PTs (Bk X scope q) ifs tt) ∧ (∀ q : Bq, PE (Bk X scope q) elt te) ∧
      ∀ F H σ fp, EnvD X.K c F H σ Γ fp → ∀ Q : VK, (∀ D F' H' vs, EnvD X.K c F' H' σ Γ fp → Ex F F' → Nw F H F' H' → F' D = none → H D = none → (∀ j, D ∉ fp j) → c.al D → H' D = some (.lst vs) → Reps X.K F' vs ((xs.filter p).map g) → Q (.ref D) H') → tLc wi tgr tt te (own.map (·.2)) σ H Q := by
  obtain ⟨wi, i1, i2⟩ := hi
  have kg : ∃ tg', (∀ q : Bq, PG (Bk X scope q) tg tg') ∧ ∀ F1 H1 σ fpE v Γ1 (y : υ), EnvD X.K c F1 H1 σ Γ1 fpE → rep X.K F1 v y → ∀ Q : L2.St → Hp → Prop, (∀ σ' fp', EnvD X.K c F1 H1 σ' (up Γ1 y) fp' → (∀ j b, b ∈ fp' j → b ∈ fpE j) → Sm ws σ σ' → Q σ' H1) → tg' v σ H1 Q := by
    refine ⟨fun v σ H1 Q => ∀ q : Bq, ∃ t, PG (Bk X scope q) tg t ∧ t v σ H1 Q, fun q => ⟨?_⟩, fun F1 H1 σ fpE v Γ1 y E r Q q b => ?_⟩
    · intros
      rename_i h
      obtain ⟨t, h1, h2⟩ := h q
      apply h1.run <;> assumption
    · obtain ⟨t, h1, h2⟩ := hg b
      exact ⟨t, h1, h2 F1 H1 σ fpE v Γ1 y E r Q q⟩
  obtain ⟨tgr, g1, g2⟩ := kg
  obtain ⟨tt, t1, t2⟩ := kt
  have ke : ∃ te, (∀ q : Bq, PE (Bk X scope q) elt te) ∧ ∀ (i : Nat) y, xs[i]? = some y → p y = true → EPr X.K c te (up (wipeS Γ (own.map (·.2))) y) (g y) := by
    refine ⟨fun σ H1 Q => ∀ q : Bq, ∃ t, PE (Bk X scope q) elt t ∧ t σ H1 Q, fun q => ⟨fun pins s1 σ H1 Q I h => ?_⟩, fun i y hx hy F1 H1 σ fpE E Q q b => ?_⟩
    · obtain ⟨t, h1, h2⟩ := h q
      exact h1.run pins s1 σ H1 Q I h2
    · obtain ⟨t, h1, h2⟩ := he i y hx hy b
      exact ⟨t, h1, h2 F1 H1 σ fpE E Q q⟩
  obtain ⟨te, e1, e2⟩ := ke
  refine ⟨wi, tgr, tt, te, i1, g1, t1, e1, fun F H σ fp E Q q => i2 F H σ fp E _ fun J F1 H1 E1 x1 n1 wk D hD => ?_⟩
  obtain ⟨GG, Y, w1, w2, w3⟩ := wk
  have hDf : F1 D = none := E1.ff hD
  have hal : c.al D := E1.wd.fresh hD
  have hDH : H D = none := by
    cases z : H D with
    | none => rfl
    | some o => rw [n1.h _ _ z] at hD; cases hD
  have hDfp : ∀ j, D ∉ fp j := fun j hj => by
    obtain ⟨_, o, h⟩ := E1.dom hj
    rw [hD] at h; cases h
  refine lc_it w1 (fun i H' => ∃ F' vs, Ex F1 F' ∧ Nw F1 H1 F' H' ∧ EnvD X.K c F' H' σ Γ fp ∧ F' D = none ∧ H' D = some (.lst vs) ∧ vs.length ≤ i ∧ Reps X.K F' vs (((xs.take i).filter p).map g))
    ⟨F1, [], Ex.refl _, Nw.refl.updD hD, E1.mutD hDf hDfp hal, hDf, upd_same, Nat.le_refl _, .nil⟩ ?_ ?_ ?_
  · rintro i H' hi ⟨F', vs, y1, y2, y3, _⟩
    exact w2 F' H' y1 y3.wd.fh
  · rintro i v Ha Hb hi ⟨F', vs, y1, y2, y3, y4, y5, y7, y6⟩ hy
    have hx : xs[i]? = some xs[i] := by simp [hi]
    have htake : xs.take (i + 1) = xs.take i ++ [xs[i]] := (List.take_append_getElem hi).symm
    obtain ⟨F2, z1, z2, z3, z4, z5⟩ := w3 i F' Ha v Hb xs[i] y1 y3.wd.fh hy hx
    have E2 : EnvD X.K c F2 Hb σ Γ fp := y3.grow z1 z2 z3 z4
    have n2 : Nw F1 H1 F2 Hb := y2.trans ⟨z3, z4⟩
    have nD2 : F2 D = none := Nw.none ⟨z3, z4⟩ y4 (by rw [y5]; simp)
    have b5 : Hb D = some (.lst vs) := z3 _ _ y5
    obtain ⟨fw2, Ew2, hfw2⟩ := E2.wipe (own.map (·.2))
    refine g2 F2 Hb _ fw2 v _ xs[i] Ew2 z5 _ fun σ2 fp2 E3 hfp2 sm => ⟨wipe_sm sm hws, ?_⟩
    have hD2 : ∀ j, D ∉ fp2 j := fun j hj => hDfp j (hfw2 _ _ (hfp2 _ _ hj))
    refine t2 i xs[i] hx F2 Hb σ2 fp2 E3 _ fun F3 H3 E4 x4 n4 => ?_
    have nD3 : F3 D = none := n4.none nD2 (by rw [b5]; simp)
    -- the frame's own slots over the grown heaps
    have E23 : EnvD X.K c F3 H3 σ Γ fp := E2.grow x4 E4.wd.fh n4.h n4.n
    by_cases hpy : p xs[i] = true
    · rw [if_pos hpy]
      refine e2 i xs[i] hx hpy F3 H3 σ2 fp2 E4 _ fun u F4 H4 E5 x5 n5 r5 => ?_
      have c5 : H4 D = some (.lst vs) := n5.h _ _ (n4.h _ _ b5)
      have nD4 : F4 D = none := n5.none nD3 (by rw [n4.h _ _ b5]; simp)
      have hz : i < 100000 := by omega
      have ez : (100000 : Nat) ≤ sizeLine := by decide
      refine ⟨vs, c5, by omega, F4, vs ++ [u], ((y1.trans z1).trans x4).trans x5, ((n2.trans n4).trans n5).updD hD, (E23.grow x5 E5.wd.fh n5.h n5.n).mutD nD4 hDfp hal, nD4, upd_same, by simp; omega, ?_⟩
      rw [htake, List.filter_append, List.map_append, List.filter_cons_of_pos hpy, List.filter_nil]
      exact (y6.mono (((z1.trans x4)).trans x5)).app (Reps.one r5)
    · rw [if_neg hpy]
      refine ⟨F3, vs, (y1.trans z1).trans x4, n2.trans n4, E23, nD3, n4.h _ _ b5, by omega, ?_⟩
      rw [htake, List.filter_append, List.map_append, List.filter_cons_of_neg hpy, List.filter_nil]
      simpa using y6.mono (z1.trans x4)
  · rintro H' ⟨F', vs, y1, y2, y3, y4, y5, _, y6⟩
    rw [List.take_length] at y6
    exact q D F' H' vs y3 (x1.trans y1) (n1.trans y2) y4 hDH hDfp hal y5 y6
/-- .. frozen at its end -/
theorem lc_fz {F H F' H' : Hp} {σ : L2.St} {fp : Nat → List Addr} {D : Addr} {vs : List V} {xs : List τ} (E : EnvD X.K c F' H' σ Γ fp) (e : Ex F F') (n : Nw F H F' H') (hF : F' D = none) (hH : H D = none) (hD : ∀ j, D ∉ fp j) (ha : c.al D) (hv : H' D = some (.lst vs)) (r : Reps X.K F' vs xs) :
    EnvD X.K c (upd F' D (.lst vs)) H' σ Γ fp ∧ Ex F (upd F' D (.lst vs)) ∧ Nw F H (upd F' D (.lst vs)) H' ∧ rep X.K (upd F' D (.lst vs)) (.ref D) xs := by
  have ef : Ex F' (upd F' D (.lst vs)) := Ex.new hF
  refine ⟨⟨⟨E.wd.f0.trans ef, fun b o hb => ?_, E.wd.keep, fun b hb => ?_⟩, E.len, fun i s hs => ?_, E.dis, E.al, E.out⟩, e.trans ef, ⟨n.h, fun b hb => ?_⟩, D, vs, rfl, upd_same, r.mono ef⟩
  · by_cases hbD : b = D
    · subst hbD; rw [upd_same] at hb; cases hb; exact hv
    · rw [upd_ne hbD] at hb; exact E.wd.fh _ _ hb
  · by_cases hbD : b = D
    · subst hbD; exact .inr ha
    · rw [upd_ne hbD] at hb; exact E.wd.new b hb
  · obtain ⟨v, q1, q2⟩ := E.ok i s hs
    refine ⟨v, q1, q2.grow ef fun b hb => ⟨?_, rfl⟩⟩
    rw [upd_ne (by rintro rfl; exact hD i hb)]
    exact (q2.dom b hb).1
  · by_cases hbD : b = D
    · subst hbD; exact .inr hH
    · rw [upd_ne hbD] at hb; exact n.n b hb
theorem kt_no {scope : Scope} {vs : List Nat} {xs : List υ} {up : List Slot → υ → List Slot} : ∃ tt, (∀ q : Bq, PTs (Bk X scope q) [] tt) ∧ ∀ (i : Nat) y, xs[i]? = some y → ETr X.K c tt (up (wipeS Γ vs) y) ((fun _ => true) y) :=
  ⟨tYes, fun _ => pts_nil, fun _ _ _ F H σ fp E Q q => q F H E (Ex.refl _) Nw.refl⟩
theorem kt_one {scope : Scope} {cond : Expr} {vs : List Nat} {xs : List υ} {p : υ → Bool} {up : List Slot → υ → List Slot} (hp : ∀ (i : Nat) y, xs[i]? = some y → ∀ q : Bq, XT (Bk X scope q) c (up (wipeS Γ vs) y) cond (p y)) :
    ∃ tt, (∀ q : Bq, PTs (Bk X scope q) [cond] tt) ∧ ∀ (i : Nat) y, xs[i]? = some y → ETr X.K c tt (up (wipeS Γ vs) y) (p y) := by
  refine ⟨fun σ H1 Q => ∀ q : Bq, ∃ t, PT (Bk X scope q) cond t ∧ t σ H1 Q, fun q => pts_one ⟨fun pins s1 σ H1 Q I h => ?_⟩, fun i y hx F1 H1 σ fpE E Q q b => ?_⟩
  · obtain ⟨t, h1, h2⟩ := h q
    exact h1.run pins s1 σ H1 Q I h2
  · obtain ⟨t, h1, h2⟩ := hp i y hx b
    exact ⟨t, h1, h2 F1 H1 σ fpE E Q q⟩
/-- [elt for tg in it] -/
theorem xe_lc {elt tg it : Expr} {scope : Scope} {ws : List Nat} {xs : List υ} {up : List Slot → υ → List Slot} {g : υ → τ} (own : List (Str × Nat)) (hN : X.N.Nodup) (hi : XI X c Γ tg it xs) (hl : xs.length ≤ 100000)
    (hg : ∀ q : Bq, XG (Bk X scope q) c tg ws up)
    (he : ∀ (i : Nat) y, xs[i]? = some y → ∀ q : Bq, XE (Bk X scope q) c (up (wipeS Γ (own.map (·.2))) y) elt (g y))
    (ok : blkC X.N X.env.scope scope own = true := by decide +kernel) (hws : ∀ w ∈ ws, w ∈ own.map (·.2) := by decide) (hc : X.calm = true := by rfl) (hs : ∀ x, foldedSetIterable it X.env x = pure x := by intro _; rfl) :
    XE X c Γ (.ListComp elt [⟨tg, it, [], 0⟩] scope pos) (xs.map g) := by
  obtain ⟨wi, tgr, tt, te, i1, g1, t1, e1, h⟩ := xe_lcG (p := fun _ => true) own hN hi hl hg kt_no (fun i y hx _ => he i y hx) ok hws hc hs
  refine ⟨_, pe_lc (own := own) hc hN i1 (blkOk_by ok) (fun s H C cl fp => g1 ⟨s, H, C, cl, fp⟩) (fun s H C cl fp => t1 ⟨s, H, C, cl, fp⟩) (fun s H C cl fp => e1 ⟨s, H, C, cl, fp⟩) hs, fun F H σ fp E Q q => h F H σ fp E Q fun D F' H' vs k1 k2 k3 k4 k5 k6 k7 k8 k9 => ?_⟩
  rw [show xs.filter (fun _ => true) = xs from List.filter_eq_self.mpr fun _ _ => rfl] at k9
  obtain ⟨q1, q2, q3, q4⟩ := lc_fz k1 k2 k3 k4 k5 k6 k7 k8 k9
  exact q _ _ _ q1 q2 q3 q4
/-- [elt for tg in it if cond] -/
theorem xe_lcif {elt tg it cond : Expr} {scope : Scope} {ws : List Nat} {xs : List υ} {up : List Slot → υ → List Slot} {g : υ → τ} {p : υ → Bool} (own : List (Str × Nat)) (hN : X.N.Nodup) (hi : XI X c Γ tg it xs) (hl : xs.length ≤ 100000)
    (hg : ∀ q : Bq, XG (Bk X scope q) c tg ws up)
    (hp : ∀ (i : Nat) y, xs[i]? = some y → ∀ q : Bq, XT (Bk X scope q) c (up (wipeS Γ (own.map (·.2))) y) cond (p y))
    (he : ∀ (i : Nat) y, xs[i]? = some y → p y = true → ∀ q : Bq, XE (Bk X scope q) c (up (wipeS Γ (own.map (·.2))) y) elt (g y))
    (ok : blkC X.N X.env.scope scope own = true := by decide +kernel) (hws : ∀ w ∈ ws, w ∈ own.map (·.2) := by decide) (hc : X.calm = true := by rfl) (hs : ∀ x, foldedSetIterable it X.env x = pure x := by intro _; rfl) :
    XE X c Γ (.ListComp elt [⟨tg, it, [cond], 0⟩] scope pos) ((xs.filter p).map g) := by
  obtain ⟨wi, tgr, tt, te, i1, g1, t1, e1, h⟩ := xe_lcG (p := p) own hN hi hl hg (kt_one hp) he ok hws hc hs
  refine ⟨_, pe_lc (own := own) hc hN i1 (blkOk_by ok) (fun s H C cl fp => g1 ⟨s, H, C, cl, fp⟩) (fun s H C cl fp => t1 ⟨s, H, C, cl, fp⟩) (fun s H C cl fp => e1 ⟨s, H, C, cl, fp⟩) hs, fun F H σ fp E Q q => h F H σ fp E Q fun D F' H' vs k1 k2 k3 k4 k5 k6 k7 k8 k9 => ?_⟩
  obtain ⟨q1, q2, q3, q4⟩ := lc_fz k1 k2 k3 k4 k5 k6 k7 k8 k9
  exact q _ _ _ q1 q2 q3 q4
end
section
variable {X : Cx} {c : Cw} {Γ Γ' : List Slot} {S B τ υ : Type} [Py τ] [Py υ] {R : Rc} {GB : B → List Slot} {pos : Pos}
/-- y = [elt for tg in it if cond] -/
theorem xs_lcif {elt tg it cond : Expr} {scope : Scope} {spos : Pos} {ws : List Nat} {xs : List υ} {up : List Slot → υ → List Slot} {g : υ → τ} {p : υ → Bool} (i : Nat) {y : Str} {py : Pos} (own : List (Str × Nat)) (hN : X.N.Nodup) (hi : XI X c Γ tg it xs) (hl : xs.length ≤ 100000)
    (hg : ∀ q : Bq, XG (Bk X scope q) c tg ws up)
    (hp : ∀ (i : Nat) y, xs[i]? = some y → ∀ q : Bq, XT (Bk X scope q) c (up (wipeS Γ (own.map (·.2))) y) cond (p y))
    (he : ∀ (i : Nat) y, xs[i]? = some y → p y = true → ∀ q : Bq, XE (Bk X scope q) c (up (wipeS Γ (own.map (·.2))) y) elt (g y))
    (hy : X.N[i]? = some y := by rfl) (hyl : X.env.scope.names.lookup y = some .local := by rfl) (hsw : swapsWith (.ListComp elt [⟨tg, it, [cond], 0⟩] scope pos) (some (.Name y py)) spos.line X.env = pure true := by exact sw_true rfl rfl rfl (by decide +kernel))
    (ok : blkC X.N X.env.scope scope own = true := by decide +kernel) (hws : ∀ w ∈ ws, w ∈ own.map (·.2) := by decide) (hc : X.calm = true := by rfl) (hs : ∀ x, foldedSetIterable it X.env x = pure x := by intro _; rfl) :
    XS X c Γ (.Assign [.Name y py] (.ListComp elt [⟨tg, it, [cond], 0⟩] scope pos) spos) (fun x : List τ => Γ.set i (.fz x)) GB (Out.nx ((xs.filter p).map g) : Out (List τ) B (R.τ × R.ω)) := by
  obtain ⟨wi, tgr, tt, te, i1, g1, t1, e1, h⟩ := xe_lcG (p := p) own hN hi hl hg (kt_one hp) he ok hws hc hs
  refine ⟨_, ps_setLc (own := own) (i := i) hc hN hy hyl hsw i1 (blkOk_by ok) (fun s H C cl fp => g1 ⟨s, H, C, cl, fp⟩) (fun s H C cl fp => t1 ⟨s, H, C, cl, fp⟩) (fun s H C cl fp => e1 ⟨s, H, C, cl, fp⟩) hs, fun F H σ ⟨fp, E⟩ D q => h F H σ fp E _ fun D F' H' vs k1 k2 k3 k4 k5 k6 k7 k8 k9 => ?_⟩
  obtain ⟨q1, q2, q3, q4⟩ := lc_fz k1 k2 k3 k4 k5 k6 k7 k8 k9
  exact q _ _ _ (Env.set ⟨fp, q1⟩ q4) q2
theorem xs_lc {elt tg it : Expr} {scope : Scope} {spos : Pos} {ws : List Nat} {xs : List υ} {up : List Slot → υ → List Slot} {g : υ → τ} (i : Nat) {y : Str} {py : Pos} (own : List (Str × Nat)) (hN : X.N.Nodup) (hi : XI X c Γ tg it xs) (hl : xs.length ≤ 100000)
    (hg : ∀ q : Bq, XG (Bk X scope q) c tg ws up)
    (he : ∀ (i : Nat) y, xs[i]? = some y → ∀ q : Bq, XE (Bk X scope q) c (up (wipeS Γ (own.map (·.2))) y) elt (g y))
    (hy : X.N[i]? = some y := by rfl) (hyl : X.env.scope.names.lookup y = some .local := by rfl) (hsw : swapsWith (.ListComp elt [⟨tg, it, [], 0⟩] scope pos) (some (.Name y py)) spos.line X.env = pure true := by exact sw_true rfl rfl rfl (by decide +kernel))
    (ok : blkC X.N X.env.scope scope own = true := by decide +kernel) (hws : ∀ w ∈ ws, w ∈ own.map (·.2) := by decide) (hc : X.calm = true := by rfl) (hs : ∀ x, foldedSetIterable it X.env x = pure x := by intro _; rfl) :
    XS X c Γ (.Assign [.Name y py] (.ListComp elt [⟨tg, it, [], 0⟩] scope pos) spos) (fun x : List τ => Γ.set i (.fz x)) GB (Out.nx (xs.map g) : Out (List τ) B (R.τ × R.ω)) := by
  obtain ⟨wi, tgr, tt, te, i1, g1, t1, e1, h⟩ := xe_lcG (p := fun _ => true) own hN hi hl hg kt_no (fun i y hx _ => he i y hx) ok hws hc hs
  refine ⟨_, ps_setLc (own := own) (i := i) hc hN hy hyl hsw i1 (blkOk_by ok) (fun s H C cl fp => g1 ⟨s, H, C, cl, fp⟩) (fun s H C cl fp => t1 ⟨s, H, C, cl, fp⟩) (fun s H C cl fp => e1 ⟨s, H, C, cl, fp⟩) hs, fun F H σ ⟨fp, E⟩ D q => h F H σ fp E _ fun D F' H' vs k1 k2 k3 k4 k5 k6 k7 k8 k9 => ?_⟩
  rw [show xs.filter (fun _ => true) = xs from List.filter_eq_self.mpr fun _ _ => rfl] at k9
  obtain ⟨q1, q2, q3, q4⟩ := lc_fz k1 k2 k3 k4 k5 k6 k7 k8 k9
  exact q _ _ _ (Env.set ⟨fp, q1⟩ q4) q2
end
end Fw
namespace Fw
open PySem L2 Py PyProof.Rows
section
variable {X : Cx} {c : Cw} {Γ Γ' : List Slot} {τ υ ζ : Type} [Py τ] [Py υ] [Py ζ] {a b d e : Expr} {es : List Expr} {x : τ} {y : υ} {z : ζ} {pos : Pos}
/-- the same thing, told as another kind -/
theorem XE.coe (h : XE X c Γ e x) (k : ∀ F v, rep X.K F v x → rep X.K F v y) : XE X c Γ e y := by
  obtain ⟨t, h1, h2⟩ := h
  exact ⟨t, h1, fun F H σ fp E Q q => h2 F H σ fp E Q fun v F' H' E' e1 e2 r => q v F' H' E' e1 e2 (k _ _ r)⟩
/-! ### chains -/
variable {i j k : Int} {p q : Int → Int → Bool} {o1 o2 : CmpOp}
theorem xe_chain (ho : OpR X (compareOp o1) (rI0 fun i j => .bl (p i j))) (ho' : OpR X (compareOp o2) (rI0 fun i j => .bl (q i j))) (ha : XE X c Γ a i) (hb : XE X c Γ b j) (hc : p i j = true → XE X c Γ d k)
    (hm : lastMarks [o1, o2] [b, d] = false := by with_unfolding_all rfl) : XE X c Γ (.Compare a [o1, o2] [b, d] pos) (p i j && q j k) := by
  obtain ⟨ta, a1, a2⟩ := ha
  obtain ⟨tb, b1, b2⟩ := hb
  cases hp : p i j with
  | true =>
    obtain ⟨tc, c1, c2⟩ := hc hp
    refine ⟨_, pe_chain ho ho' a1 b1 c1 hm, fun F H σ fp E Q k => ?_⟩
    refine a2 F H σ fp E _ fun u F1 H1 E1 e1 g1 r1 => b2 F1 H1 σ fp E1 _ fun v F2 H2 E2 e2 g2 r2 => ⟨i, j, r1, r2, true, by dsimp only; rw [hp], ?_⟩
    rw [if_pos rfl]
    refine c2 F2 H2 σ fp E2 _ fun w F3 H3 E3 e3 g3 r3 => ⟨j, _, r2, r3, ?_⟩
    exact k _ F3 H3 E3 ((e1.trans e2).trans e3) ((g1.trans g2).trans g3) rfl
  | false =>
    refine ⟨_, pe_chain (tc := fun _ _ _ => False) ho ho' a1 b1 ⟨fun _ _ _ _ _ _ (h : False) => h.elim⟩ hm, fun F H σ fp E Q k => ?_⟩
    refine a2 F H σ fp E _ fun u F1 H1 E1 e1 g1 r1 => b2 F1 H1 σ fp E1 _ fun v F2 H2 E2 e2 g2 r2 => ⟨i, j, r1, r2, false, by dsimp only; rw [hp], ?_⟩
    rw [if_neg Bool.false_ne_true]
    exact k _ F2 H2 E2 (e1.trans e2) (g1.trans g2) rfl
theorem xt_chain (ho : OpR X (compareOp o1) (rI0 fun i j => .bl (p i j))) (ho' : OpR X (compareOp o2) (rI0 fun i j => .bl (q i j))) (ha : XE X c Γ a i) (hb : XE X c Γ b j) (hc : p i j = true → XE X c Γ d k)
    (hm : lastMarks [o1, o2] [b, d] = false := by with_unfolding_all rfl) : XT X c Γ (.Compare a [o1, o2] [b, d] pos) (p i j && q j k) := by
  obtain ⟨ta, a1, a2⟩ := ha
  obtain ⟨tb, b1, b2⟩ := hb
  cases hp : p i j with
  | true =>
    obtain ⟨tc, c1, c2⟩ := hc hp
    refine ⟨_, pt_chain ho ho' a1 b1 c1 hm, fun F H σ fp E Q k => ?_⟩
    refine a2 F H σ fp E _ fun u F1 H1 E1 e1 g1 r1 => b2 F1 H1 σ fp E1 _ fun v F2 H2 E2 e2 g2 r2 => ⟨i, j, r1, r2, true, by dsimp only; rw [hp], ?_⟩
    rw [if_pos rfl]
    refine c2 F2 H2 σ fp E2 _ fun w F3 H3 E3 e3 g3 r3 => ⟨j, _, r2, r3, ?_⟩
    exact ⟨_, rfl, k F3 H3 E3 ((e1.trans e2).trans e3) ((g1.trans g2).trans g3)⟩
  | false =>
    refine ⟨_, pt_chain (tc := fun _ _ _ => False) ho ho' a1 b1 ⟨fun _ _ _ _ _ _ (h : False) => h.elim⟩ hm, fun F H σ fp E Q k => ?_⟩
    refine a2 F H σ fp E _ fun u F1 H1 E1 e1 g1 r1 => b2 F1 H1 σ fp E1 _ fun v F2 H2 E2 e2 g2 r2 => ⟨i, j, r1, r2, false, by dsimp only; rw [hp], ?_⟩
    rw [if_neg Bool.false_ne_true]
    exact ⟨_, rfl, k F2 H2 E2 (e1.trans e2) (g1.trans g2)⟩
/-! ### truths by is -/
theorem xc_isB {k l : Bool} (ha : XE X c Γ a k) (hb : XE X c Γ b l) : XC X c Γ .Is a b (decide (k = l)) :=
  xc_of op_is_bl (fun F H u v e h1 h2 Q q => ⟨k, l, h1, h2, q _ F H (Ex.refl _) e (Ex.refl _) (fun _ h => .inl h) rfl⟩) ha hb (nomark _)
theorem xc_isnotB {k l : Bool} (ha : XE X c Γ a k) (hb : XE X c Γ b l) : XC X c Γ .IsNot a b (!decide (k = l)) :=
  xc_of op_isnot_bl (fun F H u v e h1 h2 Q q => ⟨k, l, h1, h2, q _ F H (Ex.refl _) e (Ex.refl _) (fun _ h => .inl h) rfl⟩) ha hb (nomark _)
end

/-! ### things of any kind -/
inductive Dy where
  | non
  | bl (b : Bool)
  | int (i : Int)
  | str (s : Str)
  | lst (l : List Dy)
  | tup (l : List Dy)
  | emp
mutual
def Dy.rep (K : Fg) (F : Hp) : Dy → V → Prop
  | .non, v => v = .non
  | .bl b, v => v = .bl b
  | .int i, v => v = .int i
  | .str s, v => v = .str s
  | .lst l, v => ∃ a vs, v = .ref a ∧ F a = some (.lst vs) ∧ Dy.reps K F l vs
  | .tup l, v => ∃ a vs, v = .ref a ∧ SqT K F a vs ∧ Dy.reps K F l vs
  | .emp, v => ∃ a, v = .ref a ∧ F a = some (.dK [])
def Dy.reps (K : Fg) (F : Hp) : List Dy → List V → Prop
  | [], vs => vs = []
  | d :: r, vs => ∃ u us, vs = u :: us ∧ Dy.rep K F d u ∧ Dy.reps K F r us
end
mutual
theorem Dy.rep_mono {K : Fg} {F F' : Hp} (e : Ex F F') : ∀ (d : Dy) (v : V), Dy.rep K F d v → Dy.rep K F' d v
  | .non, v, h => by unfold Dy.rep at *; exact h
  | .bl b, v, h => by unfold Dy.rep at *; exact h
  | .int b, v, h => by unfold Dy.rep at *; exact h
  | .str b, v, h => by unfold Dy.rep at *; exact h
  | .lst l, v, h => by
    unfold Dy.rep at *
    obtain ⟨a, vs, h1, h2, h3⟩ := h
    exact ⟨a, vs, h1, e _ _ h2, Dy.reps_mono e l vs h3⟩
  | .tup l, v, h => by
    unfold Dy.rep at *
    obtain ⟨a, vs, h1, h2, h3⟩ := h
    exact ⟨a, vs, h1, e.t h2, Dy.reps_mono e l vs h3⟩
  | .emp, v, h => by
    unfold Dy.rep at *
    obtain ⟨a, h1, h2⟩ := h
    exact ⟨a, h1, e _ _ h2⟩
theorem Dy.reps_mono {K : Fg} {F F' : Hp} (e : Ex F F') : ∀ (l : List Dy) (vs : List V), Dy.reps K F l vs → Dy.reps K F' l vs
  | [], vs, h => by unfold Dy.reps at *; exact h
  | d :: r, vs, h => by
    unfold Dy.reps at *
    obtain ⟨u, us, h1, h2, h3⟩ := h
    exact ⟨u, us, h1, Dy.rep_mono e d u h2, Dy.reps_mono e r us h3⟩
end
instance : Py Dy := ⟨fun K F v d => Dy.rep K F d v, fun e h => Dy.rep_mono e _ _ h⟩
instance : Inhabited Dy := ⟨.non⟩
theorem Dy.reps_iff {K : Fg} {F : Hp} : ∀ {l : List Dy} {vs : List V}, Dy.reps K F l vs ↔ Reps K F vs l
  | [], vs => by
    unfold Dy.reps
    exact ⟨fun h => by subst h; exact .nil, fun h => by cases h; rfl⟩
  | d :: r, vs => by
    unfold Dy.reps
    constructor
    · rintro ⟨u, us, rfl, h1, h2⟩
      exact .cons h1 (Dy.reps_iff.mp h2)
    · intro h
      cases h with
      | cons h1 h2 => exact ⟨_, _, rfl, h1, Dy.reps_iff.mpr h2⟩
/-- things that are told as any kind -/
class ToDy (τ : Type) [Py τ] where
  dy : τ → Dy
  ok : ∀ {K : Fg} {F : Hp} {v : V} {x : τ}, rep K F v x → Dy.rep K F (dy x) v
instance : ToDy Int := ⟨.int, fun h => by unfold Dy.rep; exact h⟩
instance : ToDy Bool := ⟨.bl, fun h => by unfold Dy.rep; exact h⟩
instance : ToDy Str := ⟨.str, fun h => by unfold Dy.rep; exact h⟩
instance : ToDy Unit := ⟨fun _ => .non, fun h => by unfold Dy.rep; exact h⟩
instance : ToDy Dy := ⟨fun x => x, fun h => h⟩
theorem ToDy.reps {τ : Type} [Py τ] [ToDy τ] {K : Fg} {F : Hp} : ∀ {vs : List V} {xs : List τ}, Reps K F vs xs → Dy.reps K F (xs.map ToDy.dy) vs
  | _, _, .nil => by simp [Dy.reps]
  | _, _, .cons h t => by
    simp only [List.map_cons, Dy.reps]
    exact ⟨_, _, rfl, ToDy.ok h, ToDy.reps t⟩
instance {τ : Type} [Py τ] [ToDy τ] : ToDy (List τ) := ⟨fun xs => .lst (xs.map ToDy.dy), fun ⟨a, vs, h1, h2, h3⟩ => by unfold Dy.rep; exact ⟨a, vs, h1, h2, ToDy.reps h3⟩⟩
instance {τ : Type} [Py τ] [ToDy τ] : ToDy (Tup τ) := ⟨fun xs => .tup (xs.l.map ToDy.dy), fun ⟨a, vs, h1, h2, h3⟩ => by unfold Dy.rep; exact ⟨a, vs, h1, h2, ToDy.reps h3⟩⟩
instance {α β : Type} [Py α] [Py β] [ToDy α] [ToDy β] : ToDy (α × β) := ⟨fun x => .tup [ToDy.dy x.1, ToDy.dy x.2], fun ⟨p, a, b, h1, h2, h3, h4⟩ => by
  unfold Dy.rep
  refine ⟨p, [a, b], h1, h2, ?_⟩
  unfold Dy.reps Dy.reps Dy.reps
  exact ⟨a, [b], rfl, ToDy.ok h3, b, [], rfl, ToDy.ok h4, rfl⟩⟩
/-! ### isinstance of built-in kinds -/
/-- of such a thing the kind's name -/
class PyTy (τ : Type) [Py τ] where
  ty : τ → String
  ok : ∀ {K : Fg} {F : Hp} {v : V} {x : τ}, rep K F v x → TyX K F v (.type (ty x))
theorem tyx_mono {K : Fg} {F H : Hp} {v : V} {n : String} (e : Ex F H) (h : TyX K F v (.type n)) : TyX K H v (.type n) := by
  generalize hn : Value.type n = t at h ⊢
  cases h with
  | base b =>
    refine .base ?_
    cases b with
    | non => exact .non
    | bl x => exact .bl x
    | int x => exact .int x
    | str x => exact .str x
    | flt x => exact .flt x
    | lst h => exact .lst (e _ _ h)
    | frz h => exact .frz (e _ _ h)
    | tup h => exact .tup (e _ _ h)
    | dK h => exact .dK (e _ _ h)
    | dT h => exact .dT (e _ _ h)
    | ins h1 h2 h3 h4 h5 h6 => cases hn
  | byt x => exact .byt x
  | set h => exact .set (e _ _ h)
  | kList h1 h2 => exact .kList h1 h2
  | kTuple h1 h2 => exact .kTuple h1 h2
  | kDict h1 h2 => exact .kDict h1 h2
  | fTuple h => exact .fTuple (e _ _ h)
  | fDict h => exact .fDict (e _ _ h)
theorem tyx_tup {K : Fg} {H : Hp} {a : Addr} {xs : List V} (h : SqT K H a xs) : TyX K H (.ref a) (.type "tuple") := by
  rcases h with (h | ⟨o, h⟩) | ⟨o, its, n, h1, h2, _⟩
  · exact .base (.tup h)
  · exact .fTuple h
  · exact .kTuple h1 h2
instance : PyTy Int := ⟨fun _ => "int", fun h => by cases (show _ = _ from h); exact .base (.int _)⟩
instance : PyTy Bool := ⟨fun _ => "bool", fun h => by cases (show _ = _ from h); exact .base (.bl _)⟩
instance : PyTy Str := ⟨fun _ => "str", fun h => by cases (show _ = _ from h); exact .base (.str _)⟩
instance : PyTy Unit := ⟨fun _ => "NoneType", fun h => by cases (show _ = _ from h); exact .base .non⟩
instance {τ : Type} [Py τ] : PyTy (List τ) := ⟨fun _ => "list", fun ⟨a, vs, h1, h2, _⟩ => by subst h1; exact .base (.lst h2)⟩
instance {τ : Type} [Py τ] : PyTy (Tup τ) := ⟨fun _ => "tuple", fun ⟨a, vs, h1, h2, _⟩ => by subst h1; exact tyx_tup h2⟩
instance {α β : Type} [Py α] [Py β] : PyTy (α × β) := ⟨fun _ => "tuple", fun ⟨p, a, b, h1, h2, _⟩ => by subst h1; exact tyx_tup h2⟩
instance {α β γ : Type} [Py α] [Py β] [Py γ] : PyTy (T3 α β γ) := ⟨fun _ => "tuple", fun ⟨p, a, b, c, h1, h2, _⟩ => by subst h1; exact tyx_tup h2⟩
instance {α β γ δ : Type} [Py α] [Py β] [Py γ] [Py δ] : PyTy (T4 α β γ δ) := ⟨fun _ => "tuple", fun ⟨p, a, b, c, d, h1, h2, _⟩ => by subst h1; exact tyx_tup h2⟩
instance {α β γ δ ε : Type} [Py α] [Py β] [Py γ] [Py δ] [Py ε] : PyTy (T5 α β γ δ ε) := ⟨fun _ => "tuple", fun ⟨p, a, b, c, d, e, h1, h2, _⟩ => by subst h1; exact tyx_tup h2⟩
instance {τ : Type} [Py τ] [PyTy τ] : PyTy (Option τ) := ⟨fun x => match x with | none => "NoneType" | some y => PyTy.ty y, fun {K F v x} h => by
  cases x with
  | none => cases (show _ = _ from h); exact .base .non
  | some y => exact PyTy.ok (τ := τ) h⟩
def Dy.ty : Dy → String
  | .non => "NoneType"
  | .bl _ => "bool"
  | .int _ => "int"
  | .str _ => "str"
  | .lst _ => "list"
  | .tup _ => "tuple"
  | .emp => "dict"
instance : PyTy Dy := ⟨Dy.ty, fun {K F v x} h => by
  change Dy.rep K F x v at h
  cases x with
  | non => unfold Dy.rep at h; subst h; exact .base .non
  | bl b => unfold Dy.rep at h; subst h; exact .base (.bl _)
  | int b => unfold Dy.rep at h; subst h; exact .base (.int _)
  | str b => unfold Dy.rep at h; subst h; exact .base (.str _)
  | lst l => unfold Dy.rep at h; obtain ⟨a, vs, rfl, h2, _⟩ := h; exact .base (.lst h2)
  | tup l => unfold Dy.rep at h; obtain ⟨a, vs, rfl, h2, _⟩ := h; exact tyx_tup h2
  | emp => unfold Dy.rep at h; obtain ⟨a, rfl, h2⟩ := h; exact .base (.dK h2)⟩
/-- the kinds that are asked for, of the kinds that stand here -/
def kd (a b : String) : Bool := a == b || (a == "bool" && b == "int")
theorem kd_ok {K : Fg} {a b : String} (ha : a = "NoneType" ∨ a = "bool" ∨ a = "int" ∨ a = "str" ∨ a = "list" ∨ a = "tuple" ∨ a = "dict") (hb : b = "bool" ∨ b = "int" ∨ b = "str" ∨ b = "list" ∨ b = "tuple" ∨ b = "dict") : PySem.W.kitOne K (.type a) (.type b) = some (kd a b) := by
  apply kit_ty
  rcases ha with rfl | rfl | rfl | rfl | rfl | rfl | rfl <;> rcases hb with rfl | rfl | rfl | rfl | rfl | rfl <;> decide +kernel
section
variable {X : Cx} {c : Cw} {Γ Γ' : List Slot} {τ υ ζ : Type} [Py τ] [Py υ] [Py ζ] {a b d e : Expr} {es : List Expr} {x : τ} {y : υ} {z : ζ} {pos : Pos}
theorem xe_isi [PyTy τ] {n : Str} {t : String} {p p2 : Pos} (hm : X.mg "isinstance" = none) (hmt : X.mg n = none) (ha : XE X c Γ a x) (hx : PyTy.ty x = "NoneType" ∨ PyTy.ty x = "bool" ∨ PyTy.ty x = "int" ∨ PyTy.ty x = "str" ∨ PyTy.ty x = "list" ∨ PyTy.ty x = "tuple" ∨ PyTy.ty x = "dict")
    (hb : t = "bool" ∨ t = "int" ∨ t = "str" ∨ t = "list" ∨ t = "tuple" ∨ t = "dict") (hv : bootBuiltins n = some (.type t) := by decide +kernel) (hg : Gl X "isinstance" := by rfl) (hgt : Gl X n := by rfl) (hn : n ≠ "__name__" := by decide) (hdb : (n == ("__debug__" : Str)) = false := by decide)
    (hs : starEach [a, .Name n p2] X.env = (false, eval a X.env) :: starEach [.Name n p2] X.env := by rfl) (hs2 : starEach [.Name n p2] X.env = [(false, eval (.Name n p2) X.env)] := by rfl) (hbk : ((backTo pos (starEach [.Name n p2] X.env)).any fun x => x.fst) = false := by rfl) :
    XE X c Γ (.Call (.Name "isinstance" p) [a, .Name n p2] [] pos) (kd (PyTy.ty x) t) := by
  obtain ⟨ta, h1, h2⟩ := ha
  refine ⟨_, pe_callB call_isi hg hm (by decide +kernel) (pa_cons h1 (pa_cons (pe_bltn (v := .ty t) hgt hmt hv rfl hn hdb) pa_nil hs2) hs) (by decide) (by decide) hs hbk, fun F H σ fp E Q q => h2 F H σ fp E _ fun v F' H' E' e1 e2 r => ?_⟩
  exact ⟨v, .ty t, .type (PyTy.ty x), .type t, kd (PyTy.ty x) t, rfl, .ty t, tyx_mono E'.wd.fh (PyTy.ok r), kd_ok hx hb, q _ F' H' E' e1 e2 rfl⟩
theorem dy_ty (x : Dy) : x.ty = "NoneType" ∨ x.ty = "bool" ∨ x.ty = "int" ∨ x.ty = "str" ∨ x.ty = "list" ∨ x.ty = "tuple" ∨ x.ty = "dict" := by cases x <;> simp [Dy.ty]
theorem xe_dy [ToDy τ] (h : XE X c Γ e x) : XE X c Γ e (ToDy.dy x) := h.coe fun F v r => ToDy.ok r
theorem xe_dylst {xs : List Dy} (h : XE X c Γ e xs) : XE X c Γ e (Dy.lst xs) := h.coe fun F v ⟨a, vs, h1, h2, h3⟩ => by
  show Dy.rep X.K F (Dy.lst xs) v
  unfold Dy.rep; exact ⟨a, vs, h1, h2, Dy.reps_iff.mpr h3⟩
theorem xe_dytup {xs : Tup Dy} (h : XE X c Γ e xs) : XE X c Γ e (Dy.tup xs.l) := h.coe fun F v ⟨a, vs, h1, h2, h3⟩ => by
  show Dy.rep X.K F (Dy.tup xs.l) v
  unfold Dy.rep; exact ⟨a, vs, h1, h2, Dy.reps_iff.mpr h3⟩
theorem xe_emp : XE X c Γ (.Dict [] [] pos) Dy.emp := by
  refine ⟨_, pe_dnewK, fun F H σ fp E Q q => ?_⟩
  intro p hp
  refine q _ _ _ (E.lay hp) (Ex.new (E.ff hp)) (Nw.lay hp) ?_
  show Dy.rep X.K _ Dy.emp _
  unfold Dy.rep
  exact ⟨p, rfl, upd_same⟩
end
end Fw
namespace Fw
open PySem L2 Py PyProof.Rows
section
variable {X : Cx} {c : Cw} {Γ Γ' : List Slot} {τ υ ζ : Type} [Py τ] [Py υ] [Py ζ] {a b d e : Expr} {es : List Expr} {x : τ} {y : υ} {z : ζ} {pos : Pos}
theorem xe_ixl [Inhabited τ] {i : Int} {s : List τ} (ha : XE X c Γ a s) (hb : XE X c Γ b i) (h : InB s i) (hs : PlainIx b := by exact fun _ _ => rfl) : XE X c Γ (.Subscript a b pos) (ix s i) := xe_ix ha hb h hs
theorem xe_ixr [Inhabited τ] {i : Int} {s : Scr τ} (ha : XE X c Γ a s) (hb : XE X c Γ b i) (h : InB s.l i) (hs : PlainIx b := by exact fun _ _ => rfl) : XE X c Γ (.Subscript a b pos) (ix s.l i) := xe_ix ha hb h hs
theorem le100 {n : Nat} (h : Nat.ble n 100000 = true) : n ≤ 100000 := Nat.le_of_ble_eq_true h
theorem xe_lenl {s : List τ} {p : Pos} (hm : X.mg "len" = none) (ha : XE X c Γ a s) (hg : Gl X "len" := by rfl) (hs : starEach [a] X.env = [(false, eval a X.env)] := by rfl) : XE X c Γ (.Call (.Name "len" p) [a] [] pos) ((s.length : Nat) : Int) := xe_len hm ha hg hs
theorem xe_lenr {s : Scr τ} {p : Pos} (hm : X.mg "len" = none) (ha : XE X c Γ a s) (hg : Gl X "len" := by rfl) (hs : starEach [a] X.env = [(false, eval a X.env)] := by rfl) : XE X c Γ (.Call (.Name "len" p) [a] [] pos) ((s.l.length : Nat) : Int) := xe_len hm ha hg hs
theorem xe_lent {s : Tup τ} {p : Pos} (hm : X.mg "len" = none) (ha : XE X c Γ a s) (hg : Gl X "len" := by rfl) (hs : starEach [a] X.env = [(false, eval a X.env)] := by rfl) : XE X c Γ (.Call (.Name "len" p) [a] [] pos) ((s.l.length : Nat) : Int) := xe_len hm ha hg hs
theorem xe_adds {s t : Str} (ha : XE X c Γ a s) (hb : XE X c Γ b t) (h : s.length + t.length ≤ sizeLine) : XE X c Γ (.BinOp a .Add b pos) (s ++ t) :=
  xe_op op_add_str (fun F H u v e h1 h2 Q q => ⟨s, t, h1, h2, h, q _ F H (Ex.refl _) e (Ex.refl _) (fun _ h => .inl h) rfl⟩) ha hb
theorem xe_sliceS {lo hi : Option Expr} {i j : Option Int} {s : Str} {p2} (ha : XE X c Γ a s) (h1 : XP X c Γ lo i) (h2 : XP X c Γ hi j) (hl : s.length ≤ sizeLine) : XE X c Γ (.Subscript a (.Slice lo hi none p2) pos) (cutS s i j) := by
  obtain ⟨t, a1, a2⟩ := ha
  obtain ⟨u, b1, b2⟩ := h1
  obtain ⟨w, c1, c2⟩ := h2
  refine ⟨_, pe_slice sl_str a1 b1 c1, fun F H σ fp E Q q => a2 F H σ fp E _ fun v F1 H1 E1 e1 g1 r1 => b2 F1 H1 σ fp E1 _ fun F2 H2 E2 e2 g2 => c2 F2 H2 σ fp E2 _ fun F3 H3 E3 e3 g3 => ?_⟩
  exact ⟨s, r1, hl, q _ _ _ E3 ((e1.trans e2).trans e3) ((g1.trans g2).trans g3) rfl⟩
theorem xe_lenO {s : List τ} {p : Pos} (hm : X.mg "len" = none) (ha : XB X c Γ a s) (hg : Gl X "len" := by rfl) (hs : starEach [a] X.env = [(false, eval a X.env)] := by rfl) :
    XE X c Γ (.Call (.Name "len" p) [a] [] pos) ((s.length : Nat) : Int) := by
  obtain ⟨t, h1, h2⟩ := ha
  refine ⟨_, pe_callB call_len_seq hg hm PySem.boot_len (pa_cons h1 pa_nil hs) (by decide) (by decide) hs rfl, fun F H σ fp E Q q => h2 F H σ fp E _ fun v F' H' E' e1 e2 r => ?_⟩
  obtain ⟨p, vs, rfl, r1, r2⟩ := r
  exact ⟨p, vs, rfl, .inl (sq_of r1), by rw [r2.length]; exact q _ F' H' E' e1 e2 rfl⟩
/-! ### in -/
theorem xc_inSq {υ : Type} [Py υ] [PyS υ τ] [DecidableEq τ] {s : υ} (hf : ∀ {F : Hp} {u v : V} {x y : τ}, rep X.K F u x → rep X.K F v y → flatV u = true ∧ eqV v u = decide (y = x)) (ha : XE X c Γ a x) (hb : XE X c Γ b s) (hm : behindInMarks .In b = false) :
    XC X c Γ .In a b (decide (x ∈ PyS.li s)) :=
  xc_of op_in_seq (fun F H u v e h1 h2 Q q => by
    obtain ⟨p, vs, rfl, r1, r2⟩ := PyS.sq h2
    have key : vs.all flatV = true ∧ inV u vs = decide (x ∈ PyS.li s) := by
      generalize PyS.li s = xs at r2 ⊢
      clear r1 h2
      induction r2 with
      | nil => exact ⟨rfl, rfl⟩
      | cons r t ih =>
        refine ⟨by rw [List.all_cons, (hf r r).1, ih.1]; rfl, ?_⟩
        unfold inV at ih ⊢
        rw [List.any_cons, ih.2, (hf h1 r).2]
        simp only [List.mem_cons]
        rw [Bool.decide_or]
        congr 1
        exact decide_eq_decide.mpr ⟨Eq.symm, Eq.symm⟩
    refine ⟨p, vs, rfl, r1.imp e.l e.t, (hf h1 h1).1, key.1, ?_⟩
    rw [if_neg Bool.false_ne_true, key.2]
    exact q _ F H (Ex.refl _) e (Ex.refl _) (fun _ h => .inl h) rfl) ha hb hm
theorem xc_ninSq {υ : Type} [Py υ] [PyS υ τ] [DecidableEq τ] {s : υ} (hf : ∀ {F : Hp} {u v : V} {x y : τ}, rep X.K F u x → rep X.K F v y → flatV u = true ∧ eqV v u = decide (y = x)) (ha : XE X c Γ a x) (hb : XE X c Γ b s) (hm : behindInMarks .NotIn b = false) :
    XC X c Γ .NotIn a b (!decide (x ∈ PyS.li s)) :=
  xc_of op_notIn_seq (fun F H u v e h1 h2 Q q => by
    obtain ⟨p, vs, rfl, r1, r2⟩ := PyS.sq h2
    have key : vs.all flatV = true ∧ inV u vs = decide (x ∈ PyS.li s) := by
      generalize PyS.li s = xs at r2 ⊢
      clear r1 h2
      induction r2 with
      | nil => exact ⟨rfl, rfl⟩
      | cons r t ih =>
        refine ⟨by rw [List.all_cons, (hf r r).1, ih.1]; rfl, ?_⟩
        unfold inV at ih ⊢
        rw [List.any_cons, ih.2, (hf h1 r).2]
        simp only [List.mem_cons]
        rw [Bool.decide_or]
        congr 1
        exact decide_eq_decide.mpr ⟨Eq.symm, Eq.symm⟩
    refine ⟨p, vs, rfl, r1.imp e.l e.t, (hf h1 h1).1, key.1, ?_⟩
    rw [if_pos rfl, key.2]
    exact q _ F H (Ex.refl _) e (Ex.refl _) (fun _ h => .inl h) rfl) ha hb hm
/-- flat kinds: compared item by item -/
class PyFl (τ : Type) [Py τ] where
  dec : DecidableEq τ
  fl : ∀ {K : Fg} {F : Hp} {u v : V} {x y : τ}, rep K F u x → rep K F v y → flatV u = true ∧ eqV v u = decide (y = x)
instance : PyFl Int := ⟨inferInstance, fun {K F u v x y} h1 h2 => by
  cases (show _ = _ from h1); cases (show _ = _ from h2)
  exact ⟨rfl, by show (y == x) = _; by_cases h : y = x <;> simp [h]⟩⟩
instance : PyFl Str := ⟨inferInstance, fun {K F u v x y} h1 h2 => by
  cases (show _ = _ from h1); cases (show _ = _ from h2)
  exact ⟨rfl, by show (y == x) = _; by_cases h : y = x <;> simp [h]⟩⟩
instance : PyFl (Option Int) := ⟨inferInstance, fun {K F u v x y} h1 h2 => by
  cases x with
  | none =>
    cases (show _ = _ from h1)
    cases y with
    | none => cases (show _ = _ from h2); exact ⟨rfl, rfl⟩
    | some j => cases (show _ = _ from h2); exact ⟨rfl, rfl⟩
  | some i =>
    cases (show _ = _ from h1)
    cases y with
    | none => cases (show _ = _ from h2); exact ⟨rfl, rfl⟩
    | some j => cases (show _ = _ from h2); exact ⟨rfl, by show (j == i) = _; by_cases h : j = i <;> simp [h]⟩⟩
theorem xc_inT [PyFl τ] {xs : List τ} {k : Nat} {tp : Pos} (ha : XE X c Γ a x) (hb : XL X c Γ es xs) (hl : xs.length ≤ 100000) (hm : behindInMarks .In (.Tuple es k tp) = false := by rfl) : XC X c Γ .In a (.Tuple es k tp) (@decide (x ∈ xs) (@List.instDecidableMemOfLawfulBEq τ (@instBEqOfDecidableEq τ PyFl.dec) _ x xs)) := by
  have := @xc_inSq X c Γ τ _ a (.Tuple es k tp) x (Tup τ) _ _ PyFl.dec ⟨xs⟩ (fun h1 h2 => by have := PyFl.fl h1 h2; refine ⟨this.1, this.2.trans ?_⟩; congr) ha (xe_tupL hb hl) hm
  exact this
theorem inT_dec [PyFl τ] [i : DecidableEq τ] {xs : List τ} : (@decide (x ∈ xs) (@List.instDecidableMemOfLawfulBEq τ (@instBEqOfDecidableEq τ PyFl.dec) _ x xs)) = decide (x ∈ xs) := by congr
/-- a text within a text -/
def inS (s t : Str) : Bool := !(Builtin.Str.occurrences t s 0 t.length 1).isEmpty
theorem xc_inS {s t : Str} (ha : XE X c Γ a s) (hb : XE X c Γ b t) (hm : behindInMarks .In b = false := by rfl) : XC X c Γ .In a b (inS s t) :=
  xc_of op_in_str (fun F H u v e h1 h2 Q q => ⟨s, t, h1, h2, q _ F H (Ex.refl _) e (Ex.refl _) (fun _ h => .inl h) rfl⟩) ha hb hm
theorem xc_ninS {s t : Str} (ha : XE X c Γ a s) (hb : XE X c Γ b t) (hm : behindInMarks .NotIn b = false := by rfl) : XC X c Γ .NotIn a b (!inS s t) :=
  xc_of op_notin_str (fun F H u v e h1 h2 Q q => ⟨s, t, h1, h2, q _ F H (Ex.refl _) e (Ex.refl _) (fun _ h => .inl h) rfl⟩) ha hb hm
/-! ### walked: texts, enumerate, zip -/
def signsL (s : Str) : List Str := s.cps.toList.map fun c => ⟨#[c]⟩
theorem xi_str {it tg : Expr} {s : Str} (h : XE X c Γ it s) : XI X c Γ tg it (signsL s) := by
  obtain ⟨t, h1, h2⟩ := h
  refine ⟨_, pi_str h1, fun F H σ fp E R q => h2 F H σ fp E _ fun v F' H' E' e1 e2 r => ⟨s, r, q _ F' H' E' e1 e2 ⟨_, _, (by
    have : (signsL s).length = s.cps.size := by simp [signsL]
    rw [this]; exact walk_str), fun _ _ _ _ => trivial, fun i F1 H1 v H2 y x1 x2 hy hx => ?_⟩⟩⟩
  obtain ⟨rfl, cc, h3, rfl⟩ := hy
  refine ⟨F1, Ex.refl _, x2, Ex.refl _, fun b h => .inl h, ?_⟩
  unfold signsL at hx
  rw [List.getElem?_map, Array.getElem?_toList, h3] at hx
  cases hx
  rfl
def enumL {τ : Type} (xs : List τ) : List (Int × τ) := List.zipWith (fun (i : Nat) x => ((i : Int), x)) (List.range xs.length) xs
theorem enumL_get {τ : Type} {xs : List τ} {i : Nat} {y : Int × τ} (h : (enumL xs)[i]? = some y) : y.1 = i ∧ xs[i]? = some y.2 := by
  unfold enumL at h
  rw [List.getElem?_zipWith] at h
  by_cases hi : i < xs.length
  · rw [List.getElem?_range hi] at h
    simp only [List.getElem?_eq_getElem hi] at h ⊢
    have := Option.some.inj h
    rw [← this]
    exact ⟨rfl, rfl⟩
  · rw [List.getElem?_eq_none (by simp; omega)] at h
    cases h
theorem enumL_len {τ : Type} {xs : List τ} : (enumL xs).length = xs.length := by simp [enumL]
theorem pair_new {K : Fg} {F1 H1 H2 : Hp} {T : Addr} {u w : V} {α β : Type} [Py α] [Py β] {p : α × β} (x2 : Ex F1 H1) (hT : H1 T = none) (h2 : H2 = upd H1 T (.tup [u, w])) (r1 : rep K F1 u p.1) (r2 : rep K F1 w p.2) :
    ∃ F2, Ex F1 F2 ∧ Ex F2 H2 ∧ Ex H1 H2 ∧ (∀ b, F2 b ≠ none → F1 b ≠ none ∨ H1 b = none) ∧ rep K F2 (.ref T) p := by
  subst h2
  have hf : F1 T = none := by
    cases q : F1 T with
    | none => rfl
    | some o => rw [x2 _ _ q] at hT; cases hT
  refine ⟨upd F1 T (.tup [u, w]), Ex.new hf, fun z o hz => ?_, Ex.new hT, (Nw.lay hT).n, T, u, w, rfl, st_of upd_same, Py.mono (Ex.new hf) r1, Py.mono (Ex.new hf) r2⟩
  by_cases hzl : z = T
  · subst hzl; rw [upd_same] at hz ⊢; exact hz
  · rw [upd_ne hzl] at hz ⊢; exact x2 _ _ hz
theorem xi_enum {a : Expr} {p tpos : Pos} {elts : List Expr} {kk : Nat} {α : Type} [Py α] [PyL α υ] {xs : α} (hm : X.mg "enumerate" = none) (h : XE X c Γ a xs) (hg : Gl X "enumerate" := by rfl) (hs : starEach [a] X.env = [(false, eval a X.env)] := by rfl) :
    XI X c Γ (.Tuple elts kk tpos) (.Call (.Name "enumerate" p) [a] [] pos) (enumL (PyL.li xs)) := by
  obtain ⟨t, h1, h2⟩ := h
  refine ⟨_, pi_enum hg hm (pa_cons h1 pa_nil hs) hs, fun F H σ fp E R q => h2 F H σ fp E _ fun v F' H' E' e1 e2 r => ?_⟩
  obtain ⟨ad, vs, rfl, r1, r2⟩ := PyL.sq r
  refine ⟨ad, vs, rfl, E'.wd.fh.l r1, q _ F' H' E' e1 e2 ⟨fun H => SqL X.K H ad vs, _, by rw [enumL_len, ← r2.length]; exact walk_enum, fun F1 H1 x1 x2 => (x1.trans x2).l r1, fun i F1 H1 v H2 y x1 x2 hy hx => ?_⟩⟩
  obtain ⟨T, u, w, rfl, hT, hH, e3, e4⟩ := hy
  obtain ⟨y1, y2⟩ := enumL_get hx
  cases e3
  obtain ⟨y', hy', r3⟩ := Reps.get (i := i) r2 e4
  rw [y2] at hy'
  cases hy'
  exact pair_new x2 hT hH (show V.int _ = V.int _ by rw [y1]) (Py.mono x1 r3)
theorem xi_zip {a b : Expr} {p tpos : Pos} {elts : List Expr} {kk : Nat} {α β : Type} [Py α] [Py β] [PyL α τ] [PyL β υ] {xs : α} {ys : β} (hm : X.mg "zip" = none) (ha : XE X c Γ a xs) (hb : XE X c Γ b ys) (hg : Gl X "zip" := by rfl)
    (hs : starEach [a, b] X.env = (false, eval a X.env) :: starEach [b] X.env := by rfl) (hs2 : starEach [b] X.env = [(false, eval b X.env)] := by rfl) (hpl : (backTo pos (starEach [b] X.env)).any (·.1) = false := by rfl) :
    XI X c Γ (.Tuple elts kk tpos) (.Call (.Name "zip" p) [a, b] [] pos) ((PyL.li xs).zip (PyL.li ys)) := by
  obtain ⟨t, h1, h2⟩ := ha
  obtain ⟨u, h3, h4⟩ := hb
  refine ⟨_, pi_zip hg hm (pa_cons h1 (pa_cons h3 pa_nil hs2) hs) hs hpl, fun F H σ fp E R q => h2 F H σ fp E _ fun v F' H' E' e1 e2 r => h4 F' H' σ fp E' _ fun v2 F2 H2 E2 e3 e4 r2 => ?_⟩
  obtain ⟨ad, vs, rfl, r1, r1'⟩ := PyL.sq (Py.mono e3 r)
  obtain ⟨bd, ws, rfl, s1, s1'⟩ := PyL.sq r2
  refine ⟨ad, bd, vs, ws, rfl, E2.wd.fh.l r1, E2.wd.fh.l s1, q _ F2 H2 E2 (e1.trans e3) (e2.trans e4) ⟨_, _, walk_zip (xs := vs) (ys := ws) (by rw [List.length_zip, r1'.length, s1'.length]), fun F1 H1 x1 x2 => ⟨(x1.trans x2).l r1, (x1.trans x2).l s1⟩, fun i F1 H1 v H2 y x1 x2 hy hx => ?_⟩⟩
  obtain ⟨T, u, w, rfl, hT, hH, e5, e6⟩ := hy
  rw [List.getElem?_zip_eq_some] at hx
  obtain ⟨y', hy', r3⟩ := Reps.get (i := i) r1' e5
  obtain ⟨y2, hy2, r4⟩ := Reps.get (i := i) s1' e6
  rw [hx.1] at hy'; cases hy'
  rw [hx.2] at hy2; cases hy2
  exact pair_new x2 hT hH (Py.mono x1 r3) (Py.mono x1 r4)
theorem bls_of {K : Fg} {F : Hp} : ∀ {vs : List V} {xs : List Bool}, Reps K F vs xs → vs = xs.map V.bl
  | _, _, .nil => rfl
  | _, _, .cons h t => by rw [List.map_cons, ← bls_of t]; exact congrArg (· :: _) h
theorem int_of {K : Fg} {F : Hp} : ∀ {vs : List V} {xs : List Int}, Reps K F vs xs → vs = xs.map V.int
  | _, _, .nil => rfl
  | _, _, .cons h t => by rw [List.map_cons, ← int_of t]; exact congrArg (· :: _) h
theorem str_of {K : Fg} {F : Hp} : ∀ {vs : List V} {xs : List Str}, Reps K F vs xs → vs = xs.map V.str
  | _, _, .nil => rfl
  | _, _, .cons h t => by rw [List.map_cons, ← str_of t]; exact congrArg (· :: _) h
theorem xe_all {xs : List Bool} {p : Pos} (hm : X.mg "all" = none) (ha : XE X c Γ a xs) (hc : X.calm = true := by rfl) (hg : Gl X "all" := by rfl) (hs : starEach [a] X.env = [(false, eval a X.env)] := by rfl) : XE X c Γ (.Call (.Name "all" p) [a] [] pos) (xs.all id) :=
  xe_b1 (cr_all hc) (by decide +kernel) (fun F H v e r Q q => by
    obtain ⟨ad, vs, rfl, r1, r2⟩ := r
    exact ⟨ad, xs, rfl, sq_of (by rw [← bls_of r2]; exact e _ _ r1), q⟩) hg hm ha (by decide) (by decide) hs
theorem xe_any {xs : List Bool} {p : Pos} (hm : X.mg "any" = none) (ha : XE X c Γ a xs) (hc : X.calm = true := by rfl) (hg : Gl X "any" := by rfl) (hs : starEach [a] X.env = [(false, eval a X.env)] := by rfl) : XE X c Γ (.Call (.Name "any" p) [a] [] pos) (xs.any id) :=
  xe_b1 (cr_any hc) (by decide +kernel) (fun F H v e r Q q => by
    obtain ⟨ad, vs, rfl, r1, r2⟩ := r
    exact ⟨ad, xs, rfl, sq_of (by rw [← bls_of r2]; exact e _ _ r1), q⟩) hg hm ha (by decide) (by decide) hs
/-! ### a tuple of texts that the module holds -/
structure Gt (K : Fg) (mg : Str → Option Value) (n : Str) (t : Tup Str) : Prop where
  ex : ∃ (ad : Addr) (o : Obj) (its : Array Value) (k : Nat), mg n = some (.ref ad) ∧ K.lookup ad = some o ∧ o.cls = .type "tuple" ∧ o.data = .seq its k ∧ its.size ≤ sizeLine ∧ Vals (t.l.map V.str) its.toList
theorem xe_gt {n : Str} {t : Tup Str} (h : Gt X.K X.mg n t) (hg : Gl X n := by rfl) (hd : (n == ("__debug__" : Str)) = false := by decide) : XE X c Γ (.Name n pos) t := by
  obtain ⟨ad, o, its, k, h1, h2, h3, h4, h5, h6⟩ := h.ex
  exact xe_glob (v := .ref ad) h1 rfl (fun F => ⟨ad, t.l.map V.str, rfl, .inr ⟨o, its, k, h2, h3, h4, h5, h6⟩, Reps.map (g := V.str) (fun _ => rfl) t.l⟩) hg hd
end
section
variable {X : Cx} {c : Cw} {Γ Γ' : List Slot} {S S' B υ ζ : Type} [Py υ] [Py ζ] {R : Rc} {G : S → List Slot} {GB : B → List Slot} {pos : Pos} {a b e : Expr}
theorem xs_augA {x y : Int} {n : Str} {p : Pos} (i : Nat) (hN : X.N.Nodup) (he : XE X c Γ e y) (hi : X.N[i]? = some n := by rfl) (h0 : Γ[i]? = some (.fz x) := by rfl) (hx : Loc X.env.scope n := by first | exact .inl rfl | exact .inr rfl)
    (hf : X.fn n = true ∨ X.env.scope.names.lookup n = some .local := by first | exact .inl rfl | exact .inr rfl | assumption) : XS X c Γ (.AugAssign (.Name n p) .Add e pos) (fun z : Int => Γ.set i (.fz z)) GB (Out.nx (x + y) : Out Int B (R.τ × R.ω)) := by
  obtain ⟨t, h1, h2⟩ := xs_aug (GB := GB) (R := R) (pos := pos) (p := p) (z := x + y) i hN he ip_add (fun F H u v e h1 h2 Q q => ⟨x, y, h1, h2, q _ F H (Ex.refl _) e (Ex.refl _) (fun _ h => .inl h) rfl⟩) hi h0 hx hf
  exact ⟨t, h1, fun F H σ E D q => h2 F H σ E D q⟩
theorem xs_augS {x y : Int} {n : Str} {p : Pos} (i : Nat) (hN : X.N.Nodup) (he : XE X c Γ e y) (hi : X.N[i]? = some n := by rfl) (h0 : Γ[i]? = some (.fz x) := by rfl) (hx : Loc X.env.scope n := by first | exact .inl rfl | exact .inr rfl)
    (hf : X.fn n = true ∨ X.env.scope.names.lookup n = some .local := by first | exact .inl rfl | exact .inr rfl | assumption) : XS X c Γ (.AugAssign (.Name n p) .Sub e pos) (fun z : Int => Γ.set i (.fz z)) GB (Out.nx (x - y) : Out Int B (R.τ × R.ω)) := by
  obtain ⟨t, h1, h2⟩ := xs_aug (GB := GB) (R := R) (pos := pos) (p := p) (z := x - y) i hN he ip_sub (fun F H u v e h1 h2 Q q => ⟨x, y, h1, h2, q _ F H (Ex.refl _) e (Ex.refl _) (fun _ h => .inl h) rfl⟩) hi h0 hx hf
  exact ⟨t, h1, fun F H σ E D q => h2 F H σ E D q⟩
/-- a, b = e1, e2 -/
theorem xs_par2 {x : υ} {y : ζ} {n1 n2 : Str} {px py pt pt2 : Pos} {kt k2 : Nat} (i j : Nat) (hN : X.N.Nodup) (ha : XE X c Γ a x) (hb : XE X c Γ b y) (hc : X.calm = true := by rfl) (hi : X.N[i]? = some n1 := by rfl) (hj : X.N[j]? = some n2 := by rfl) (hij : i ≠ j := by decide)
    (hx : X.env.scope.names.lookup n1 = some .local := by rfl) (hy : X.env.scope.names.lookup n2 = some .local := by rfl)
    (hw : swappedStores [.Tuple [.Name n1 px, .Name n2 py] kt pt] (.Tuple [a, b] k2 pt2) X.env = pure (some [n1, n2]) := by rfl)
    (hs : swapsWithSole [.Tuple [.Name n1 px, .Name n2 py] kt pt] (.Tuple [a, b] k2 pt2) pos.line X.env = pure false := by rfl)
    (hs1 : starEach [a, b] X.env = (false, eval a X.env) :: starEach [b] X.env := by rfl) (hs2 : starEach [b] X.env = [(false, eval b X.env)] := by rfl) :
    XS X c Γ (.Assign [.Tuple [.Name n1 px, .Name n2 py] kt pt] (.Tuple [a, b] k2 pt2) pos) (fun z : υ × ζ => (Γ.set i (.fz z.1)).set j (.fz z.2)) GB (Out.nx (x, y) : Out (υ × ζ) B (R.τ × R.ω)) := by
  obtain ⟨t, h1, h2⟩ := ha
  obtain ⟨u, h3, h4⟩ := hb
  refine ⟨_, ps_par hc hN hi hj hij hx hy (pa_cons h1 (pa_cons h3 pa_nil hs2) hs1) hw hs, fun F H σ ⟨fp, E⟩ D q => h2 F H σ fp E _ fun v F' H' E' e1 e2 r => h4 F' H' σ fp E' _ fun v2 F2 H2 E2 e3 e4 r2 => ⟨v, v2, rfl, ?_⟩⟩
  exact q _ F2 H2 (Env.set (Env.set ⟨fp, E2⟩ (Py.mono e3 r)) r2) (e1.trans e3)
end

/-! ### the end -/
section
theorem df_mk {K : Fg} {h : Heap} {mg : Str → Option Value} {n : Str} {st : Stmt} {f : Addr} {oc : Value} {od an : Option Addr} {osl : Array (Option Value)} {kV doc pm cdv ct : Value} (X : K.In h) (G : h.Ns mainGlobals mg) (a : PySem.W.nsIn K mainGlobals n = some (some (.ref f)))
    (l : K.lookup f = some ⟨oc, od, .func (PySem.W.fnOf n n (defArgs st) (defBody st) (defScope st) .none kV doc pm an cdv ct), osl⟩) (c : PySem.W.codeIn K cdv n = true) (k : PySem.W.keepIn K (.ref f) = true) : Df K mg n st :=
  ⟨f, _, PySem.W.mg_of X G a, fun_mk l c k⟩
theorem ci_mk {K : Fg} {h : Heap} {mg : Str → Option Value} {n : Str} {i : Int} {t : Tok} (X : K.In h) (G : h.Ns mainGlobals mg) (a : PySem.W.nsIn K mainGlobals n = some (some (.int i t))) : ∃ t, mg n = some (.int i t) := ⟨t, PySem.W.mg_of X G a⟩
theorem cs_mk {K : Fg} {h : Heap} {mg : Str → Option Value} {n : Str} {i : Str} {t : Tok} (X : K.In h) (G : h.Ns mainGlobals mg) (a : PySem.W.nsIn K mainGlobals n = some (some (.str i t))) : ∃ t, mg n = some (.str i t) := ⟨t, PySem.W.mg_of X G a⟩
/-- the script -/
structure Pre (s : Scr Int) : Prop where
  len : s.l.length ≤ 63
  bits : ∀ z ∈ s.l, Builtin.Int.intBits z ≤ 1048576
theorem walk_fw {Tx : Fg → (Str → Option Value) → Prop} {l : PySem.W.OpenLaw} {q : Program} {loose : List Str} {XP : (Str → Option Value) → Heap → Prop} {YP : World → Heap → Prop} {d : DefRec} {K : Params → PySem.W.Frag} {x : Str} {lvl : Nat} {st : Stmt} {m : Scr Int × Unit → Bool} (hn : l.most = some 63) (hdf : d.params.defaults = []) (hr : Room lvl callerA)
    (hd : d.name = "law") (hY : ∀ (w : World) (h : Heap), YP w h → (K w.params).In h)
    (F : ∀ (w : World) (mg : Str → Option Value) (h : Heap), (K w.params).In h → h.Ns mainGlobals mg → Tx (K w.params) mg)
    (hb : ∀ (kV doc pm : Value) (an : Option Addr) (cdv ct : Value) (v : Value), bindArgs (PySem.W.fnOf "law" "law" (defArgs st) (defBody st) (defScope st) .none kV doc pm an cdv ct) ⟨[v], []⟩ = pure [(x, v)])
    (D : ∀ K mg, Tx K mg → Df K mg "law" st)
    (ok : ∀ {P : Program} {w : World} {K : Fg} {mg : Str → Option Value} {base : Heap}, Tx K mg → ∀ f fd, mg "law" = some (.ref f) → Fun K "law" "law" st f fd → FnOk P w K mg base CX0 lvl f fd [x] (SpP K (fun a : Scr Int × Unit => Pre a.1) m))
    (tr : ∀ s : Scr Int, Pre s → m (s, ()) = true) :
    PySem.W.WalkO q loose XP YP l.row.toRowW d [] (fun f vs => PySem.call f vs) := by
  refine L2.walk_ofB (n := 63) (k := lvl) (x := x) (CX := fun _ => CX0) (sp := fun w => SpP (K w.params) (fun a : Scr Int × Unit => Pre a.1) m) hn (by decide) hdf hr hY (fun w mg fa h X G hfa => ?_) (fun w H a ns hl hbits _ hS => ?_) fun _ _ _ _ _ z => z
  · rw [hd] at hfa
    have T := F w mg h X G
    obtain ⟨f, fd, hf, Fu⟩ := (D _ _ T).ex
    rw [hfa] at hf
    cases hf
    refine ⟨fd, fun s u => ?_, fun base _ _ => ok T fa fd hfa Fu⟩
    obtain ⟨oc, od, kV, doc, pm, an, cdv, ct, osl, rfl, _, _⟩ := Fu.ex
    exact .of_eq (hb kV doc pm an cdv ct u)
  · refine ⟨H, (⟨ns⟩, ()), Ex.refl _, ⟨.ref a, [], rfl, ⟨a, ns.map V.int, rfl, hS, Reps.map (g := V.int) (fun _ => rfl) ns⟩, rfl⟩, ⟨hl, hbits⟩, fun v F' H' _ _ _ _ r => ?_⟩
    rw [tr ⟨ns⟩ ⟨hl, hbits⟩] at r
    exact r
end
end Fw
/-! FwT: texts cut, glued, read; the greatest of a list; tuples and lists of a list. -/
namespace Fw
open PySem L2 Py PyProof.Rows
theorem strs_of {K : Fg} {F : Hp} : ∀ {vs : List V} {xs : List Str}, Reps K F vs xs → vs = xs.map V.str
  | _, _, .nil => rfl
  | _, _, .cons h t => by rw [List.map_cons, ← strs_of t]; exact congrArg (· :: _) h
theorem ints_of {K : Fg} {F : Hp} : ∀ {vs : List V} {xs : List Int}, Reps K F vs xs → vs = xs.map V.int
  | _, _, .nil => rfl
  | _, _, .cons h t => by rw [List.map_cons, ← ints_of t]; exact congrArg (· :: _) h
theorem reps_strs {K : Fg} {F : Hp} : ∀ xs : List Str, Reps K F (xs.map V.str) xs
  | [] => .nil
  | x :: r => .cons rfl (reps_strs r)
section
variable {X : Cx} {c : Cw} {Γ Γ' : List Slot} {τ υ ζ : Type} [Py τ] [Py υ] [Py ζ] {a b d e o : Expr} {es : List Expr} {x : τ} {y : υ} {z : ζ} {pos ap : Pos}
theorem xe_split {s t : Str} (ho : XE X c Γ o s) (he : XE X c Γ e t) (h1 : (t.length == 0) = false) (h2 : s.length + 2 ≤ sizeLine) (hs : starEach [e] X.env = [(false, eval e X.env)] := by rfl) (hbase : attributeBase o "split" X.env (eval o X.env) = eval o X.env := by rfl) (hline : (ap.endLine == pos.line) = true := by rfl) :
    XE X c Γ (.Call (.Attribute o "split" ap) [e] [] pos) (Txt.split s t : List Str) := by
  obtain ⟨t1, a1, a2⟩ := ho
  obtain ⟨t2, b1, b2⟩ := he
  refine ⟨_, pe_split a1 b1 hs hbase hline, fun F H σ fp E Q q => a2 F H σ fp E _ fun v F1 H1 E1 e1 g1 r1 => ⟨⟨s, r1⟩, b2 F1 H1 σ fp E1 _ fun u F2 H2 E2 e2 g2 r2 => ⟨s, t, r1, by rw [show u = V.str t from r2], h1, h2, fun p hp => ?_⟩⟩⟩
  have ef : Ex F2 (upd F2 p (.lst ((Txt.split s t).map V.str))) := Ex.new (E2.ff hp)
  exact q _ _ _ (E2.lay hp) ((e1.trans e2).trans ef) ((g1.trans g2).trans (Nw.lay hp)) ⟨p, _, rfl, upd_same, reps_strs _⟩
theorem xe_join {s : Str} {ys : List Str} (ho : XE X c Γ o s) (he : XE X c Γ e ys) (h2 : (ys.map (·.length)).sum + ys.length * s.length ≤ 16777216) (hs : starEach [e] X.env = [(false, eval e X.env)] := by rfl) (hbase : attributeBase o "join" X.env (eval o X.env) = eval o X.env := by rfl) (hline : (ap.endLine == pos.line) = true := by rfl) :
    XE X c Γ (.Call (.Attribute o "join" ap) [e] [] pos) (Txt.join s ys : Str) := by
  obtain ⟨t1, a1, a2⟩ := ho
  obtain ⟨t2, b1, b2⟩ := he
  refine ⟨_, pe_join a1 b1 hs hbase hline, fun F H σ fp E Q q => a2 F H σ fp E _ fun v F1 H1 E1 e1 g1 r1 => ⟨⟨s, r1⟩, b2 F1 H1 σ fp E1 _ fun u F2 H2 E2 e2 g2 r2 => ?_⟩⟩
  obtain ⟨p, vs, rfl, r3, r4⟩ := r2
  exact ⟨s, p, ys, r1, rfl, .inl (sq_of (by rw [← strs_of r4]; exact E2.wd.fh _ _ r3)), h2, q _ _ _ E2 (e1.trans e2) (g1.trans g2) rfl⟩
/-- int(a text) -/
def tint (s : Str) : Int := (PySem.intText? s).getD 0
theorem xe_intS {s : Str} {p : Pos} (hm : X.mg "int" = none) (ha : XE X c Γ a s) (h : (PySem.intText? s).isSome = true) (hl : s.length ≤ 640) (hg : Gl X "int" := by rfl)
    (hs : starEach [a] X.env = [(false, eval a X.env)] := by rfl) : XE X c Γ (.Call (.Name "int" p) [a] [] pos) (tint s) := by
  obtain ⟨t, h1, h2⟩ := ha
  refine ⟨_, pe_callTy call_int_str hg hm (by decide +kernel) (pa_cons h1 pa_nil hs) (by decide) (by decide) hs rfl, fun F H σ fp E Q q => h2 F H σ fp E _ fun v F' H' E' e1 e2 r' => ⟨s, tint s, by rw [show v = V.str s from r'], ?_, hl, q _ F' H' E' e1 e2 rfl⟩⟩
  obtain ⟨n, hn⟩ := Option.isSome_iff_exists.mp h
  unfold tint
  rw [hn]; rfl
/-- s.index(t) -/
def sidx (s t : Str) : Int := ((Builtin.Str.occurrences s t 0 s.length 1).headD 0 : Nat)
theorem xe_sidx {s t : Str} (ho : XE X c Γ o s) (he : XE X c Γ e t) (h : (Builtin.Str.occurrences s t 0 s.length 1).isEmpty = false) (hs : starEach [e] X.env = [(false, eval e X.env)] := by rfl) (hbase : attributeBase o "index" X.env (eval o X.env) = eval o X.env := by rfl) (hline : (ap.endLine == pos.line) = true := by rfl) :
    XE X c Γ (.Call (.Attribute o "index" ap) [e] [] pos) (sidx s t) := by
  obtain ⟨t1, a1, a2⟩ := ho
  obtain ⟨t2, b1, b2⟩ := he
  refine ⟨_, pe_m1 F.slot_str_index F.type_str_index mt_sindex a1 b1 hs hbase hline, fun F H σ fp E Q q => a2 F H σ fp E _ fun v F1 H1 E1 e1 g1 r1 => ⟨⟨s, r1⟩, b2 F1 H1 σ fp E1 _ fun u F2 H2 E2 e2 g2 r2 => ?_⟩⟩
  cases k : Builtin.Str.occurrences s t 0 s.length 1 with
  | nil => rw [k] at h; cases h
  | cons i rest =>
    refine ⟨s, t, i, rest, r1, by rw [show u = V.str t from r2], k, ?_⟩
    have := q (V.int (sidx s t)) F2 H2 E2 (e1.trans e2) (g1.trans g2) rfl
    unfold sidx at this
    rw [k] at this
    exact this
/-- the greatest -/
def maxl (xs : List Int) : Int := xs.foldl max (xs.headD 0)
theorem foldl_max (xs : List Int) : ∀ z : Int, (xs.foldl max z = z ∨ xs.foldl max z ∈ xs) ∧ z ≤ xs.foldl max z ∧ ∀ y ∈ xs, y ≤ xs.foldl max z := by
  induction xs with
  | nil => intro z; exact ⟨.inl rfl, Int.le_refl _, fun _ h => nomatch h⟩
  | cons x r ih =>
    intro z
    rw [List.foldl_cons]
    obtain ⟨h1, h2, h3⟩ := ih (max z x)
    refine ⟨?_, by omega, fun y hy => ?_⟩
    · rcases h1 with h | h
      · rw [h]
        by_cases hz : z ≤ x
        · right; rw [Int.max_eq_right hz]; exact List.mem_cons_self ..
        · left; exact Int.max_eq_left (by omega)
      · exact .inr (List.mem_cons_of_mem _ h)
    · rcases List.mem_cons.mp hy with rfl | hy
      · omega
      · exact h3 y hy
theorem maxl_spec {xs : List Int} (h : 0 < xs.length) : maxl xs ∈ xs ∧ ∀ y ∈ xs, y ≤ maxl xs := by
  unfold maxl
  obtain ⟨h1, h2, h3⟩ := foldl_max xs (xs.headD 0)
  refine ⟨?_, h3⟩
  rcases h1 with e | e
  · rw [e]
    cases xs with
    | nil => cases h
    | cons x r => exact List.mem_cons_self ..
  · exact e
theorem maxl_uniq {xs : List Int} (h : 0 < xs.length) {m : Int} (h1 : m ∈ xs) (h2 : ∀ y ∈ xs, y ≤ m) : m = maxl xs := by
  obtain ⟨g1, g2⟩ := maxl_spec h
  have := g2 m h1
  have := h2 _ g1
  omega
theorem xe_maxl {xs : List Int} {p : Pos} (hm : X.mg "max" = none) (ha : XE X c Γ a xs) (hl : 0 < xs.length) (hc : X.calm = true := by rfl) (hg : Gl X "max" := by rfl) (hs : starEach [a] X.env = [(false, eval a X.env)] := by rfl) : XE X c Γ (.Call (.Name "max" p) [a] [] pos) (maxl xs) :=
  xe_b1 (cr_max hc) (by decide +kernel) (fun F H v e r Q q => by
    obtain ⟨ad, vs, rfl, r1, r2⟩ := r
    refine ⟨ad, xs, rfl, sq_of (by rw [← ints_of r2]; exact e _ _ r1), hl, fun m h1 h2 => ?_⟩
    rw [maxl_uniq hl h1 h2]; exact q) hg hm ha (by decide) (by decide) hs
/-- tuple(xs) -/
theorem xe_tupOf {xs : List τ} {p : Pos} (hm : X.mg "tuple" = none) (ha : XE X c Γ a xs) (hg : Gl X "tuple" := by rfl)
    (hs : starEach [a] X.env = [(false, eval a X.env)] := by rfl) : XE X c Γ (.Call (.Name "tuple" p) [a] [] pos) (Tup.mk xs) := by
  obtain ⟨t, h1, h2⟩ := ha
  refine ⟨_, pe_callTy call_tuple_of hg hm (by decide +kernel) (pa_cons h1 pa_nil hs) (by decide) (by decide) hs rfl, fun F H σ fp E Q q => h2 F H σ fp E _ fun v F' H' E' e1 e2 r' => ?_⟩
  obtain ⟨ad, vs, rfl, r1, r2⟩ := r'
  refine ⟨ad, vs, rfl, .inl ⟨sq_of (E'.wd.fh _ _ r1), fun p hp => ?_⟩⟩
  have ef : Ex F' (upd F' p (.tup vs)) := Ex.new (E'.ff hp)
  exact q _ _ _ (E'.lay hp) (e1.trans ef) (e2.trans (Nw.lay hp)) ⟨p, vs, rfl, st_of upd_same, r2.mono ef⟩
/-- list(xs) -/
theorem xe_listOf {s : υ} [PyS υ τ] {p : Pos} (hm : X.mg "list" = none) (ha : XE X c Γ a s) (hg : Gl X "list" := by rfl)
    (hs : starEach [a] X.env = [(false, eval a X.env)] := by rfl) : XE X c Γ (.Call (.Name "list" p) [a] [] pos) (PyS.li s) := by
  obtain ⟨t, h1, h2⟩ := ha
  refine ⟨_, pe_callTy call_list_of hg hm (by decide +kernel) (pa_cons h1 pa_nil hs) (by decide) (by decide) hs rfl, fun F H σ fp E Q q => h2 F H σ fp E _ fun v F' H' E' e1 e2 r' => ?_⟩
  obtain ⟨ad, vs, rfl, r1, r2⟩ := PyS.sq r'
  refine ⟨ad, vs, rfl, r1.elim (fun h => .inl (E'.wd.fh.l h)) (fun h => .inr (E'.wd.fh.t h)), fun p hp => ?_⟩
  have ef : Ex F' (upd F' p (.lst vs)) := Ex.new (E'.ff hp)
  exact q _ _ _ (E'.lay hp) (e1.trans ef) (e2.trans (Nw.lay hp)) ⟨p, vs, rfl, upd_same, r2.mono ef⟩
/-- what is known not to be None -/
theorem xe_get [Inhabited τ] {o : Option τ} (ha : XE X c Γ a o) (h : o.isSome = true) : XE X c Γ a (o.getD default) := by
  obtain ⟨y, rfl⟩ := Option.isSome_iff_exists.mp h
  obtain ⟨t, h1, h2⟩ := ha
  exact ⟨t, h1, fun F H σ fp E Q q => h2 F H σ fp E Q q⟩
/-- x or k, x a number or None -/
theorem xe_orO {n : Option Int} {k : Int} (ha : XE X c Γ a n) (hb : XE X c Γ b k) : XE X c Γ (.BoolOp .Or [a, b] pos) (match n with | some m => if m = 0 then k else m | none => k) := by
  obtain ⟨t, h1, h2⟩ := ha
  obtain ⟨u, h3, h4⟩ := xe_one (pos := pos) hb
  refine ⟨_, pe_orT h1 h3, fun F H σ fp E Q q => h2 F H σ fp E _ fun v F' H' E' e1 e2 r => ?_⟩
  cases n with
  | none =>
    refine ⟨false, by rw [show v = V.non from r]; rfl, ?_⟩
    rw [if_neg Bool.false_ne_true]
    exact h4 F' H' σ fp E' Q fun v2 F2 H2 E2 e3 e4 r2 => q v2 F2 H2 E2 (e1.trans e3) (e2.trans e4) r2
  | some m =>
    cases (show v = V.int m from r)
    by_cases h : m = 0
    · subst h
      refine ⟨false, rfl, ?_⟩
      rw [if_neg Bool.false_ne_true]
      exact h4 F' H' σ fp E' Q fun v2 F2 H2 E2 e3 e4 r2 => q v2 F2 H2 E2 (e1.trans e3) (e2.trans e4) r2
    · refine ⟨true, (bne_iff_ne.mpr h).symm, ?_⟩
      rw [if_pos rfl]
      dsimp only at q
      rw [if_neg h] at q
      exact q _ F' H' E' e1 e2 rfl
end
end Fw
/-! FwD: == and != of data of any depth. -/
namespace Fw
open PySem L2 Py PyProof.Rows
class PyD (τ : Type) [Py τ] where
  dec : DecidableEq τ
  toD : τ → PyData
  dok : τ → Prop
  dep : Nat
  nn : Bool
  dp : ∀ {K F v x}, rep K F v x → Dp K F v (toD x)
  eqv : ∀ x y, PyData.eqv (toD x) (toD y) = @decide (x = y) (dec x y)
  lay : ∀ x, dok x → (toD x).canLay0 = true
  dle : ∀ x, (toD x).depth ≤ dep
  nno : nn = true → ∀ x, toD x ≠ .none
instance (priority := low) {τ : Type} [Py τ] [i : PyD τ] : DecidableEq τ := i.dec
/-- that may always be laid -/
class PyDn (τ : Type) [Py τ] [PyD τ] : Prop where
  all : ∀ x : τ, PyD.dok x
def dAll {τ : Type} [Py τ] [PyD τ] (xs : List τ) : List PyData := xs.map PyD.toD
section
variable {τ : Type} [Py τ] [i : PyD τ]
theorem dAll_dp {K : Fg} {F : Hp} : ∀ {vs : List V} {xs : List τ}, Reps K F vs xs → DpAll K F vs (dAll xs)
  | _, _, .nil => .nil
  | _, _, .cons h t => .cons (PyD.dp h) (dAll_dp t)
theorem dAll_eqv : ∀ xs ys : List τ, PyData.eqvAll (dAll xs) (dAll ys) = @decide (xs = ys) (@instDecidableEqList _ i.dec xs ys)
  | [], [] => by rw [decide_eq_true (rfl : ([] : List τ) = [])]; rfl
  | [], y :: ys => by rw [decide_eq_false (by intro h; cases h)]; rfl
  | x :: xs, [] => by rw [decide_eq_false (by intro h; cases h)]; rfl
  | x :: xs, y :: ys => by
    show (PyData.eqv (PyD.toD x) (PyD.toD y) && PyData.eqvAll (dAll xs) (dAll ys)) = _
    rw [PyD.eqv, dAll_eqv xs ys, Bool.eq_iff_iff, Bool.and_eq_true, decide_eq_true_eq, decide_eq_true_eq, decide_eq_true_eq, List.cons.injEq]
theorem dAll_lay : ∀ xs : List τ, (∀ x ∈ xs, PyD.dok x) → PyData.canLayAll0 (dAll xs) = true
  | [], _ => rfl
  | x :: xs, h => by
    show ((PyD.toD x).canLay0 && PyData.canLayAll0 (dAll xs)) = true
    rw [PyD.lay x (h x (List.mem_cons_self ..)), dAll_lay xs fun z hz => h z (List.mem_cons_of_mem _ hz)]; rfl
theorem dAll_dle : ∀ xs : List τ, PyData.depthAll (dAll xs) ≤ PyD.dep τ
  | [] => Nat.zero_le _
  | x :: xs => Nat.max_le.mpr ⟨PyD.dle x, dAll_dle xs⟩
end
instance : PyD Int := ⟨inferInstance, .int, fun _ => True, 0, true, fun {K F v x} h => by rw [show v = V.int x from h]; exact .int x, fun x y => rfl, fun _ _ => rfl, fun _ => Nat.le_refl _, fun _ x h => by cases h⟩
instance : PyD Bool := ⟨inferInstance, .bool, fun _ => True, 0, true, fun {K F v x} h => by rw [show v = V.bl x from h]; exact .bl x, fun x y => by cases x <;> cases y <;> rfl, fun _ _ => rfl, fun _ => Nat.le_refl _, fun _ x h => by cases h⟩
instance : PyD Str := ⟨inferInstance, .str, fun x => PyData.strOk x = true, 0, true, fun {K F v x} h => by rw [show v = V.str x from h]; exact .str x, fun x y => by
  show (x == y) = _
  rw [Bool.eq_iff_iff, beq_iff_eq, decide_eq_true_eq], fun _ h => h, fun _ => Nat.le_refl _, fun _ x h => by cases h⟩
instance : PyD Unit := ⟨inferInstance, fun _ => .none, fun _ => True, 0, false, fun {K F v x} h => by rw [show v = V.non from h]; exact .non, fun x y => rfl, fun _ _ => rfl, fun _ => Nat.le_refl _, fun h => by cases h⟩
theorem eqv_none_l {d : PyData} (h : d ≠ .none) : PyData.eqv .none d = false := by cases d <;> first | rfl | exact absurd rfl h
theorem eqv_none_r {d : PyData} (h : d ≠ .none) : PyData.eqv d .none = false := by cases d <;> first | rfl | exact absurd rfl h
/-- what is never None -/
class PyNN (τ : Type) [Py τ] [PyD τ] : Prop where
  nn : PyD.nn τ = true
instance : PyNN Int := ⟨rfl⟩
instance : PyNN Bool := ⟨rfl⟩
instance : PyNN Str := ⟨rfl⟩
instance {τ : Type} [Py τ] [i : PyD τ] [n : PyNN τ] : PyD (Option τ) where
  dec := fun a b => match a, b with
    | none, none => .isTrue rfl
    | none, some _ => .isFalse (by intro h; cases h)
    | some _, none => .isFalse (by intro h; cases h)
    | some x, some y => match i.dec x y with
      | .isTrue h => .isTrue (by rw [h])
      | .isFalse h => .isFalse fun z => h (by injection z)
  toD := fun x => match x with | none => .none | some y => PyD.toD y
  dok := fun x => ∀ y, x = some y → PyD.dok y
  dep := PyD.dep τ
  nn := false
  dp := fun {K F v x} h => by
    cases x with
    | none => rw [show v = V.non from h]; exact .non
    | some y => exact PyD.dp (show rep K F v y from h)
  eqv := fun x y => by
    cases x with
    | none => cases y with
      | none => rw [decide_eq_true (rfl : (none : Option τ) = none)]; rfl
      | some y => rw [decide_eq_false (by intro h; cases h)]; exact eqv_none_l (PyD.nno n.nn y)
    | some x => cases y with
      | none => rw [decide_eq_false (by intro h; cases h)]; exact eqv_none_r (PyD.nno n.nn x)
      | some y =>
        show PyData.eqv (PyD.toD x) (PyD.toD y) = _
        rw [PyD.eqv, Bool.eq_iff_iff, decide_eq_true_eq, decide_eq_true_eq, Option.some.injEq]
  lay := fun x h => by
    cases x with
    | none => rfl
    | some y => exact PyD.lay y (h y rfl)
  dle := fun x => by
    cases x with
    | none => exact Nat.zero_le _
    | some y => exact PyD.dle y
  nno := fun h => by cases h
instance {τ : Type} [Py τ] [i : PyD τ] : PyD (List τ) where
  dec := @instDecidableEqList _ i.dec
  toD := fun x => .list (dAll x)
  dok := fun x => ∀ y ∈ x, PyD.dok y
  dep := PyD.dep τ + 1
  nn := true
  dp := fun ⟨a, vs, h1, h2, h3⟩ => h1 ▸ .lst (sq_of h2) (dAll_dp h3)
  eqv := dAll_eqv
  lay := dAll_lay
  dle := fun x => Nat.succ_le_succ (dAll_dle x)
  nno := fun _ x h => by cases h
instance {τ : Type} [Py τ] [i : PyD τ] : PyD (Tup τ) where
  dec := inferInstance
  toD := fun x => .tuple (dAll x.l)
  dok := fun x => ∀ y ∈ x.l, PyD.dok y
  dep := PyD.dep τ + 1
  nn := true
  dp := fun ⟨a, vs, h1, h2, h3⟩ => h1 ▸ .tup h2 (dAll_dp h3)
  eqv := fun x y => by
    obtain ⟨x⟩ := x
    obtain ⟨y⟩ := y
    refine (dAll_eqv x y).trans ?_
    rw [Bool.eq_iff_iff, decide_eq_true_eq, decide_eq_true_eq, Tup.mk.injEq]
  lay := fun x h => dAll_lay x.l h
  dle := fun x => Nat.succ_le_succ (dAll_dle x.l)
  nno := fun _ x h => by cases h
instance {τ : Type} [Py τ] [PyD τ] : PyNN (List τ) := ⟨rfl⟩
instance {τ : Type} [Py τ] [PyD τ] : PyNN (Tup τ) := ⟨rfl⟩
section
variable {α β γ δ ε : Type} [Py α] [Py β] [Py γ] [Py δ] [Py ε] [i1 : PyD α] [i2 : PyD β] [i3 : PyD γ] [i4 : PyD δ] [i5 : PyD ε]
instance : PyD (α × β) where
  dec := @instDecidableEqProd _ _ i1.dec i2.dec
  toD := fun x => .tuple [PyD.toD x.1, PyD.toD x.2]
  dok := fun x => PyD.dok x.1 ∧ PyD.dok x.2
  dep := max (PyD.dep α) (PyD.dep β) + 1
  nn := true
  dp := fun ⟨p, a, b, h1, h2, h3, h4⟩ => h1 ▸ .tup h2 (.cons (PyD.dp h3) (.cons (PyD.dp h4) .nil))
  eqv := fun x y => by
    obtain ⟨a, b⟩ := x
    obtain ⟨a', b'⟩ := y
    show (PyData.eqv (PyD.toD a) (PyD.toD a') && (PyData.eqv (PyD.toD b) (PyD.toD b') && true)) = _
    rw [PyD.eqv, PyD.eqv, Bool.and_true, Bool.eq_iff_iff, Bool.and_eq_true, decide_eq_true_eq, decide_eq_true_eq, decide_eq_true_eq, Prod.mk.injEq]
  lay := fun x h => by
    show ((PyD.toD x.1).canLay0 && ((PyD.toD x.2).canLay0 && true)) = true
    rw [PyD.lay _ h.1, PyD.lay _ h.2]; rfl
  dle := fun x => by
    have h1 := PyD.dle x.1
    have h2 := PyD.dle x.2
    show max (PyD.toD x.1).depth (max (PyD.toD x.2).depth 0) + 1 ≤ _
    omega
  nno := fun _ x h => by cases h
instance : PyD (T3 α β γ) where
  dec := inferInstance
  toD := fun x => .tuple [PyD.toD x.a, PyD.toD x.b, PyD.toD x.c]
  dok := fun x => PyD.dok x.a ∧ PyD.dok x.b ∧ PyD.dok x.c
  dep := max (PyD.dep α) (max (PyD.dep β) (PyD.dep γ)) + 1
  nn := true
  dp := fun ⟨p, a, b, c, h1, h2, h3, h4, h5⟩ => h1 ▸ .tup h2 (.cons (PyD.dp h3) (.cons (PyD.dp h4) (.cons (PyD.dp h5) .nil)))
  eqv := fun x y => by
    obtain ⟨a, b, c⟩ := x
    obtain ⟨a', b', c'⟩ := y
    show (PyData.eqv (PyD.toD a) (PyD.toD a') && (PyData.eqv (PyD.toD b) (PyD.toD b') && (PyData.eqv (PyD.toD c) (PyD.toD c') && true))) = _
    rw [PyD.eqv, PyD.eqv, PyD.eqv, Bool.and_true, Bool.eq_iff_iff, Bool.and_eq_true, Bool.and_eq_true, decide_eq_true_eq, decide_eq_true_eq, decide_eq_true_eq, decide_eq_true_eq, T3.mk.injEq]
  lay := fun x h => by
    show ((PyD.toD x.a).canLay0 && ((PyD.toD x.b).canLay0 && ((PyD.toD x.c).canLay0 && true))) = true
    rw [PyD.lay _ h.1, PyD.lay _ h.2.1, PyD.lay _ h.2.2]; rfl
  dle := fun x => by
    have h1 := PyD.dle x.a
    have h2 := PyD.dle x.b
    have h3 := PyD.dle x.c
    show max (PyD.toD x.a).depth (max (PyD.toD x.b).depth (max (PyD.toD x.c).depth 0)) + 1 ≤ _
    omega
  nno := fun _ x h => by cases h
instance : PyD (T5 α β γ δ ε) where
  dec := inferInstance
  toD := fun x => .tuple [PyD.toD x.a, PyD.toD x.b, PyD.toD x.c, PyD.toD x.d, PyD.toD x.e]
  dok := fun x => PyD.dok x.a ∧ PyD.dok x.b ∧ PyD.dok x.c ∧ PyD.dok x.d ∧ PyD.dok x.e
  dep := max (PyD.dep α) (max (PyD.dep β) (max (PyD.dep γ) (max (PyD.dep δ) (PyD.dep ε)))) + 1
  nn := true
  dp := fun ⟨p, a, b, c, d, e, h1, h2, h3, h4, h5, h6, h7⟩ => h1 ▸ .tup h2 (.cons (PyD.dp h3) (.cons (PyD.dp h4) (.cons (PyD.dp h5) (.cons (PyD.dp h6) (.cons (PyD.dp h7) .nil)))))
  eqv := fun x y => by
    obtain ⟨a, b, c, d, e⟩ := x
    obtain ⟨a', b', c', d', e'⟩ := y
    show (PyData.eqv (PyD.toD a) (PyD.toD a') && (PyData.eqv (PyD.toD b) (PyD.toD b') && (PyData.eqv (PyD.toD c) (PyD.toD c') && (PyData.eqv (PyD.toD d) (PyD.toD d') && (PyData.eqv (PyD.toD e) (PyD.toD e') && true))))) = _
    rw [PyD.eqv, PyD.eqv, PyD.eqv, PyD.eqv, PyD.eqv, Bool.and_true, Bool.eq_iff_iff, Bool.and_eq_true, Bool.and_eq_true, Bool.and_eq_true, Bool.and_eq_true, decide_eq_true_eq, decide_eq_true_eq, decide_eq_true_eq, decide_eq_true_eq, decide_eq_true_eq, decide_eq_true_eq, T5.mk.injEq]
  lay := fun x h => by
    show ((PyD.toD x.a).canLay0 && ((PyD.toD x.b).canLay0 && ((PyD.toD x.c).canLay0 && ((PyD.toD x.d).canLay0 && ((PyD.toD x.e).canLay0 && true))))) = true
    rw [PyD.lay _ h.1, PyD.lay _ h.2.1, PyD.lay _ h.2.2.1, PyD.lay _ h.2.2.2.1, PyD.lay _ h.2.2.2.2]; rfl
  dle := fun x => by
    have h1 := PyD.dle x.a
    have h2 := PyD.dle x.b
    have h3 := PyD.dle x.c
    have h4 := PyD.dle x.d
    have h5 := PyD.dle x.e
    show max (PyD.toD x.a).depth (max (PyD.toD x.b).depth (max (PyD.toD x.c).depth (max (PyD.toD x.d).depth (max (PyD.toD x.e).depth 0)))) + 1 ≤ _
    omega
  nno := fun _ x h => by cases h
instance : PyNN (α × β) := ⟨rfl⟩
instance : PyNN (T3 α β γ) := ⟨rfl⟩
instance : PyNN (T5 α β γ δ ε) := ⟨rfl⟩
instance [PyDn α] [PyDn β] : PyDn (α × β) := ⟨fun x => ⟨PyDn.all _, PyDn.all _⟩⟩
instance [PyDn α] [PyDn β] [PyDn γ] : PyDn (T3 α β γ) := ⟨fun x => ⟨PyDn.all _, PyDn.all _, PyDn.all _⟩⟩
instance [PyDn α] : PyDn (List α) := ⟨fun x y _ => PyDn.all _⟩
instance [PyDn α] : PyDn (Tup α) := ⟨fun x y _ => PyDn.all _⟩
instance [PyNN α] [PyDn α] : PyDn (Option α) := ⟨fun x y _ => PyDn.all _⟩
end
instance : PyDn Int := ⟨fun _ => trivial⟩
instance : PyDn Bool := ⟨fun _ => trivial⟩
instance : PyDn Unit := ⟨fun _ => trivial⟩
section
variable {X : Cx} {c : Cw} {Γ Γ' : List Slot} {τ υ ζ : Type} [Py τ] [Py υ] [Py ζ] {a b d e o : Expr} {es : List Expr} {x y : τ} {pos ap : Pos}
theorem shaped_of [PyD τ] {x : τ} (h : PyD.dok x) (hd : PyD.dep τ ≤ 64) : SeqAt.shaped (PyD.toD x) = true := by
  unfold SeqAt.shaped
  rw [PyD.lay x h, decide_eq_true (Nat.le_trans (PyD.dle x) hd)]; rfl
/-- are they equal -/
def eqb {τ : Type} [Py τ] [i : PyD τ] (x y : τ) : Bool := @decide (x = y) (i.dec x y)
theorem eqb_iff {τ : Type} [Py τ] [i : PyD τ] {x y : τ} : eqb x y = true ↔ x = y := by
  unfold eqb; exact decide_eq_true_iff
theorem eqb_refl {τ : Type} [Py τ] [i : PyD τ] (x : τ) : eqb x x = true := eqb_iff.mpr rfl
theorem xb_of (h : XE X c Γ e x) : XB X c Γ e x := by
  obtain ⟨t, h1, h2⟩ := h
  exact ⟨t, h1, fun F H σ fp E Q q => h2 F H σ fp E _ fun v F' H' E' e1 e2 r => q v F' H' E' e1 e2 (Py.mono E'.wd.fh r)⟩
theorem xc_eqB [i : PyD τ] (hu : X.A.units + 64 < cLine) (ha : XB X c Γ a x) (hb : XB X c Γ b y) (hx : PyD.dok x) (hy : PyD.dok y) (hd : PyD.dep τ ≤ 64 := by decide) : XC X c Γ .Eq a b (eqb x y) :=
  xc_ofB (op_eqD hu) (fun H u v h1 h2 Q q => by
    refine ⟨_, _, PyD.dp h1, PyD.dp h2, shaped_of hx hd, shaped_of hy hd, ?_⟩
    rw [PyD.eqv]; exact q _ rfl) ha hb (nomark _)
theorem xc_neB [i : PyD τ] (hu : X.A.units + 64 < cLine) (ha : XB X c Γ a x) (hb : XB X c Γ b y) (hx : PyD.dok x) (hy : PyD.dok y) (hd : PyD.dep τ ≤ 64 := by decide) : XC X c Γ .NotEq a b (!eqb x y) :=
  xc_ofB (op_neD hu) (fun H u v h1 h2 Q q => by
    refine ⟨_, _, PyD.dp h1, PyD.dp h2, shaped_of hx hd, shaped_of hy hd, ?_⟩
    rw [PyD.eqv]; exact q _ rfl) ha hb (nomark _)
theorem xc_eqD [i : PyD τ] (hu : X.A.units + 64 < cLine) (ha : XE X c Γ a x) (hb : XE X c Γ b y) (hx : PyD.dok x) (hy : PyD.dok y) (hd : PyD.dep τ ≤ 64 := by decide) : XC X c Γ .Eq a b (eqb x y) := xc_eqB hu (xb_of ha) (xb_of hb) hx hy hd
theorem xc_neD [i : PyD τ] (hu : X.A.units + 64 < cLine) (ha : XE X c Γ a x) (hb : XE X c Γ b y) (hx : PyD.dok x) (hy : PyD.dok y) (hd : PyD.dep τ ≤ 64 := by decide) : XC X c Γ .NotEq a b (!eqb x y) := xc_neB hu (xb_of ha) (xb_of hb) hx hy hd
/-- what never lies as None -/
class PyNv (τ : Type) [Py τ] : Prop where
  nv : ∀ {K F v} {x : τ}, rep K F v x → v ≠ .non
instance : PyNv Int := ⟨fun {K F v x} h => by rw [show v = V.int x from h]; intro z; cases z⟩
instance : PyNv Bool := ⟨fun {K F v x} h => by rw [show v = V.bl x from h]; intro z; cases z⟩
instance : PyNv Str := ⟨fun {K F v x} h => by rw [show v = V.str x from h]; intro z; cases z⟩
instance {τ : Type} [Py τ] : PyNv (List τ) := ⟨fun ⟨a, vs, h1, _⟩ z => by rw [h1] at z; cases z⟩
instance {τ : Type} [Py τ] : PyNv (Tup τ) := ⟨fun ⟨a, vs, h1, _⟩ z => by rw [h1] at z; cases z⟩
instance {α β : Type} [Py α] [Py β] : PyNv (α × β) := ⟨fun ⟨a, _, _, h1, _⟩ z => by rw [h1] at z; cases z⟩
instance {α β γ : Type} [Py α] [Py β] [Py γ] : PyNv (T3 α β γ) := ⟨fun ⟨a, _, _, _, h1, _⟩ z => by rw [h1] at z; cases z⟩
theorem opt_nv {τ : Type} [Py τ] [n : PyNv τ] {K : Fg} {F : Hp} {u : V} {x : Option τ} (h : rep K F u x) : decide (u = V.non) = x.isNone := by
  cases x with
  | none => rw [show u = V.non from h]; rfl
  | some y => rw [decide_eq_false (n.nv (show rep K F u y from h))]; rfl
theorem xc_isNoneG {τ : Type} [Py τ] [PyNv τ] {x : Option τ} {j p} (ha : XE X c Γ a x) : XC X c Γ .Is a (.Constant .none j p) (x.isNone) :=
  xc_of (y := ()) op_isN (fun F H u v e h1 h2 Q q => ⟨h2, q _ F H (Ex.refl _) e (Ex.refl _) (fun _ h => .inl h) (by
    show V.bl _ = V.bl _
    rw [← opt_nv h1])⟩) ha xe_nil (nomark _)
theorem xc_notNoneG {τ : Type} [Py τ] [PyNv τ] {x : Option τ} {j p} (ha : XE X c Γ a x) : XC X c Γ .IsNot a (.Constant .none j p) (x.isSome) :=
  xc_of (y := ()) op_notN (fun F H u v e h1 h2 Q q => ⟨h2, q _ F H (Ex.refl _) e (Ex.refl _) (fun _ h => .inl h) (by
    show V.bl _ = V.bl _
    have := opt_nv h1
    rw [this]
    cases x <;> rfl)⟩) ha xe_nil (nomark _)
/-- a text so many times -/
def repS (s : Str) (n : Int) : Str := if n < 1 then Str.empty else if (n == 1 || s.length == 0) = true then s else ⟨(List.replicate n.toNat s.cps).foldl (· ++ ·) #[]⟩
theorem fold_rep_size (x : Array Nat) : ∀ (k : Nat) (z : Array Nat), ((List.replicate k x).foldl (· ++ ·) z).size = z.size + k * x.size
  | 0, z => by simp
  | k + 1, z => by
    rw [List.replicate_succ, List.foldl_cons, fold_rep_size x k, Array.size_append, Nat.succ_mul]; omega
theorem op_repS : OpR X (binaryOp .Mult) (fun x y H Q => ∃ s n, x = V.str s ∧ y = V.int n ∧ (0 ≤ n ∧ n < 100000) ∧ s.length < 100 ∧ Q (V.str (repS s n)) H) := by
  intro pins s σ H x y v u Q I rx ry h
  obtain ⟨a, n, rfl, rfl, hn, hl, q⟩ := h
  obtain ⟨t, rfl⟩ := rx
  obtain ⟨t2, rfl⟩ := ry
  refine PySem.P.mul_str (by simp; omega) (fun _ _ => ?_) (fun _ _ => ?_) ?_
  · have h1 : (a.length : Int) * n ≤ 100 * 100000 := Int.mul_le_mul (by omega) (by omega) (by omega) (by omega)
    have h2 : (a.length : Int) ≤ (2 ^ 63 - 1) / n := (Int.le_ediv_iff_mul_le (by omega)).mpr (by omega)
    omega
  · have h1 : a.length * n.toNat ≤ 100 * 100000 := Nat.mul_le_mul (by omega) (by omega)
    have h2 : (100 * 100000 : Nat) ≤ sizeLine := by decide
    unfold Builtin.Str.tooLong
    exact decide_eq_false (by omega)
  · unfold repS at q
    split
    · rename_i h
      rw [if_pos h] at q
      exact ⟨Nat.zero_le _, V.str Str.empty, H, I.tok _, ⟨_, rfl⟩, q⟩
    · rename_i h
      rw [if_neg h] at q
      split
      · rename_i h2
        rw [if_pos h2] at q
        exact ⟨V.str a, H, I, ⟨_, rfl⟩, q⟩
      · rename_i h2
        rw [if_neg h2] at q
        refine ⟨?_, V.str _, H, I.tok _, ⟨_, rfl⟩, q⟩
        have h1 : a.length * n.toNat ≤ 100 * 100000 := Nat.mul_le_mul (by omega) (by omega)
        have h3 : (100 * 100000 : Nat) ≤ sizeLine := by decide
        have h4 : (Str.mk ((List.replicate n.toNat a.cps).foldl (· ++ ·) #[])).length = n.toNat * a.length := by
          show ((List.replicate n.toNat a.cps).foldl (· ++ ·) #[]).size = _
          rw [fold_rep_size]; simp [Str.length]
        rw [h4, Nat.mul_comm]; omega
theorem xe_repS {s : Str} {n : Int} (ha : XE X c Γ a s) (hb : XE X c Γ b n) (h : 0 ≤ n ∧ n < 100000) (hl : s.length < 100) : XE X c Γ (.BinOp a .Mult b pos) (repS s n) :=
  xe_op op_repS (fun F H u v e h1 h2 Q q => ⟨s, n, h1, h2, h, hl, q _ F H (Ex.refl _) e (Ex.refl _) (fun _ h => .inl h) rfl⟩) ha hb
end
end Fw
/-! FwB: how great a number is, by bits. -/
namespace Fw
open PySem L2 Py PyProof.Rows
@[irreducible] def Bit (n : Nat) (z : Int) : Prop := z.natAbs < 2 ^ n
theorem Bit.mono {n m : Nat} {z : Int} (h : Bit n z) (k : n ≤ m) : Bit m z := by
  unfold Bit at h ⊢
  exact Nat.lt_of_lt_of_le h (Nat.pow_le_pow_right (by decide) k)
theorem Bit.add {n : Nat} {a b : Int} (h : Bit n a) (k : Bit n b) : Bit (n + 1) (a + b) := by
  have h1 : (a + b).natAbs ≤ a.natAbs + b.natAbs := Int.natAbs_add_le a b
  unfold Bit at h k ⊢
  rw [Nat.pow_succ]
  omega
theorem Bit.mul {n m : Nat} {a b : Int} (h : Bit n a) (k : Bit m b) : Bit (n + m) (a * b) := by
  unfold Bit at h k ⊢
  rw [Int.natAbs_mul, Nat.pow_add]
  exact Nat.mul_lt_mul'' h k
theorem Bit.of {n : Nat} {z : Int} (h : Builtin.Int.intBits z ≤ n) : Bit n z := by
  unfold Bit
  exact PySem.intBits_le_iff.mp h
theorem Bit.ok {n m : Nat} {a b : Int} (h : Bit n a) (k : Bit m b) (l : n + m ≤ 134217728) : IntMulOk a b := by
  unfold Bit at h k
  exact CMulX.ok (mulx_ok h k l)
theorem Bit.sm {n : Nat} {z : Int} (h : -(2 ^ 64) < z ∧ z < 2 ^ 64) (k : 64 ≤ n) : Bit n z := by
  refine Bit.mono (n := 64) ?_ k
  unfold Bit
  omega
theorem Bit.scr {s : Scr Int} (h : Pre s) {z : Int} (hz : z ∈ s.l) : Bit 1048576 z := Bit.of (h.bits z hz)
section
variable {X : Cx} {c : Cw} {Γ : List Slot} {rest : List Stmt}
theorem xr_valU {τ : Type} [i : Py τ] {GE GF : Empty → List Slot} {o : Out Empty Empty ((RcP τ).τ × (RcP τ).ω)} (h : XO (R := RcP τ) X c Γ rest GE GF o) : XO (R := RcP τ) X c Γ rest GE GF (Out.rt (o.val.1, ()) : Out Empty Empty ((RcP τ).τ × (RcP τ).ω)) := xo_val h
theorem xs_retU {S B : Type} {G : S → List Slot} {GB : B → List Slot} {e : Expr} {pos : Pos} {τ : Type} [i : Py τ] {x : τ} (he : XE X c Γ e x) : XS (R := RcP τ) X c Γ (.Return (some e) pos) G GB (Out.rt (x, ()) : Out S B ((RcP τ).τ × (RcP τ).ω)) := xs_ret (R := RcP τ) he trivial
end
/-! ### what lies in a list, a text -/
section
variable {τ : Type}
theorem ix_mem [Inhabited τ] {xs : List τ} {i : Int} (h : InB xs i) : ix xs i ∈ xs := by
  have e := atI_ix h
  unfold atI at e
  cases q : ixN xs.length i with
  | none => rw [q] at e; cases e
  | some j => rw [q] at e; exact List.mem_of_getElem? e
theorem ix_all [Inhabited τ] {p : τ → Prop} {xs : List τ} {i : Int} (h : ∀ x ∈ xs, p x) (hi : InB xs i) : p (ix xs i) := h _ (ix_mem hi)
theorem inB_of {xs : List τ} {i : Int} (n : Nat) (hn : xs.length = n) (h : 0 ≤ i ∧ i < n) : InB xs i := by unfold InB; omega
theorem sum_le {b : Nat} : ∀ {ys : List Str}, (∀ y ∈ ys, y.length ≤ b) → (ys.map (·.length)).sum ≤ ys.length * b
  | [], _ => Nat.zero_le _
  | y :: r, h => by
    have h1 := h y (List.mem_cons_self ..)
    have h2 := sum_le (ys := r) fun z hz => h z (List.mem_cons_of_mem _ hz)
    show y.length + (r.map (·.length)).sum ≤ (r.length + 1) * b
    rw [Nat.succ_mul]; omega
theorem join_le {ys : List Str} {sep : Str} (b n m : Nat) (h : ∀ y ∈ ys, y.length ≤ b) (hn : ys.length ≤ n) (hs : sep.length ≤ m) (hm : n * b + n * m ≤ 16777216) : (ys.map (·.length)).sum + ys.length * sep.length ≤ 16777216 := by
  have h1 := sum_le h
  have h2 : ys.length * b ≤ n * b := Nat.mul_le_mul_right _ hn
  have h3 : ys.length * sep.length ≤ n * m := Nat.mul_le_mul hn hs
  omega
end
/-- a text's signs -/
abbrev tl (s : Str) : List Nat := s.cps.toList
theorem tl_len (s : Str) : (tl s).length = s.length := by simp [tl, Str.length]
theorem tl_cat (s t : Str) : tl (s ++ t) = tl s ++ tl t := TL.tl_append s t
theorem tl_joinL (s : Str) (ys : List Str) : tl (Txt.join s ys) = TL.joinL (tl s) (ys.map tl) := by
  rw [TL.join_eq]; exact TL.tl_join s ys
theorem joinL_mem {sep : List Nat} {c : Nat} : ∀ {ps : List (List Nat)}, c ∈ TL.joinL sep ps → c ∈ sep ∨ ∃ p ∈ ps, c ∈ p
  | [], h => nomatch h
  | [p], h => .inr ⟨p, by simp, h⟩
  | p :: q :: r, h => by
    have h' : c ∈ p ++ (sep ++ TL.joinL sep (q :: r)) := h
    rw [List.mem_append, List.mem_append] at h'
    rcases h' with h' | h' | h'
    · exact .inr ⟨p, by simp, h'⟩
    · exact .inl h'
    · exact (joinL_mem h').imp id fun ⟨z, hz, h⟩ => ⟨z, List.mem_cons_of_mem _ hz, h⟩
theorem joinL_len {sep : List Nat} {b m : Nat} (hs : sep.length ≤ m) : ∀ {ps : List (List Nat)}, (∀ p ∈ ps, p.length ≤ b) → (TL.joinL sep ps).length ≤ ps.length * (b + m)
  | [], _ => Nat.zero_le _
  | [p], h => by
    have := h p (by simp)
    show p.length ≤ _
    simp; omega
  | p :: q :: r, h => by
    have h1 := h p (by simp)
    have h2 := joinL_len hs (ps := q :: r) fun z hz => h z (List.mem_cons_of_mem _ hz)
    show (p ++ (sep ++ TL.joinL sep (q :: r))).length ≤ _
    rw [List.length_append, List.length_append]
    have : (p :: q :: r).length * (b + m) = (q :: r).length * (b + m) + (b + m) := by rw [List.length_cons (a := p), Nat.succ_mul]
    omega
theorem fold_rep_mem (x : Array Nat) (c : Nat) : ∀ (k : Nat) (z : Array Nat), c ∈ ((List.replicate k x).foldl (· ++ ·) z).toList → c ∈ z.toList ∨ c ∈ x.toList
  | 0, z, h => .inl h
  | k + 1, z, h => by
    rw [List.replicate_succ, List.foldl_cons] at h
    rcases fold_rep_mem x c k _ h with h | h
    · rw [Array.toList_append, List.mem_append] at h; exact h
    · exact .inr h
theorem repS_mem {s : Str} {n : Int} {c : Nat} (h : c ∈ tl (repS s n)) : c ∈ tl s := by
  unfold repS at h
  split at h
  · cases (show c ∈ ([] : List Nat) from h)
  · split at h
    · exact h
    · rcases fold_rep_mem _ _ _ _ h with h | h
      · cases (show c ∈ ([] : List Nat) from h)
      · exact h
theorem repS_len {s : Str} {n : Int} : (repS s n).length ≤ n.toNat * s.length := by
  unfold repS
  split
  · exact Nat.zero_le _
  · split
    · rename_i h1 h2
      rw [Bool.or_eq_true] at h2
      rcases h2 with h | h
      · rw [eq_of_beq h]; simp
      · rw [eq_of_beq h]; simp
    · show ((List.replicate n.toNat s.cps).foldl (· ++ ·) #[]).size ≤ _
      rw [fold_rep_size]; simp [Str.length]
theorem ixS_len (s : Str) (i : Int) : (ixS s i).length = 1 := rfl
theorem tl_ixS (s : Str) (i : Int) : tl (ixS s i) = [ix (tl s) i] := rfl
end Fw
namespace Me
open PySem L2 Fw

/-- a text of figures and semicolons -/
def Body (n : Nat) (s : Str) : Prop := (tl s).length ≤ n ∧ ∀ c ∈ tl s, c = 59 ∨ (48 ≤ c ∧ c ≤ 57)
def Figs (n : Nat) (s : Str) : Prop := (tl s).length ≤ n ∧ ∀ c ∈ tl s, 48 ≤ c ∧ c ≤ 57
theorem Body.mono {n m : Nat} {s : Str} (h : Body n s) (k : n ≤ m) : Body m s := ⟨Nat.le_trans h.1 k, h.2⟩
theorem spl_hit9 (acc r : List Nat) : TL.spl [59] 0 acc (59 :: r) = acc :: TL.spl [59] 0 [] r := TL.spl_hit rfl
theorem spl_miss9 {c : Nat} (acc r : List Nat) (h : c ≠ 59) : TL.spl [59] 0 acc (c :: r) = TL.spl [59] 0 (acc ++ [c]) r := TL.spl_miss (by
  show ([c] == [59]) = false
  simp [h])
theorem spl_facts : ∀ l acc : List Nat, TL.spl [59] 0 acc l ≠ [] ∧ (TL.spl [59] 0 acc l).length ≤ l.length + 1 ∧ ∀ w ∈ TL.spl [59] 0 acc l, w.length ≤ acc.length + l.length ∧ ∀ c ∈ w, c ∈ acc ∨ (c ∈ l ∧ c ≠ 59)
  | [], acc => by
    refine ⟨by simp [TL.spl], by simp [TL.spl], fun w hw => ?_⟩
    rw [show TL.spl [59] 0 acc [] = [acc] from rfl, List.mem_singleton] at hw
    subst hw
    exact ⟨by simp, fun c hc => .inl hc⟩
  | x :: r, acc => by
    by_cases hx : x = 59
    · subst hx
      obtain ⟨h0, h1, h2⟩ := spl_facts r []
      rw [spl_hit9]
      refine ⟨by simp, by simp; omega, fun w hw => ?_⟩
      rcases List.mem_cons.mp hw with rfl | hw
      · exact ⟨by omega, fun c hc => .inl hc⟩
      · obtain ⟨q1, q2⟩ := h2 w hw
        refine ⟨by simp at q1 ⊢; omega, fun c hc => ?_⟩
        rcases q2 c hc with z | z
        · cases z
        · exact .inr ⟨List.mem_cons_of_mem _ z.1, z.2⟩
    · obtain ⟨h0, h1, h2⟩ := spl_facts r (acc ++ [x])
      rw [spl_miss9 _ _ hx]
      refine ⟨h0, by simp; omega, fun w hw => ?_⟩
      obtain ⟨q1, q2⟩ := h2 w hw
      refine ⟨by simp at q1 ⊢; omega, fun c hc => ?_⟩
      rcases q2 c hc with z | z
      · rcases List.mem_append.mp z with z | z
        · exact .inl z
        · rw [List.mem_singleton] at z; subst z; exact .inr ⟨List.mem_cons_self .., hx⟩
      · exact .inr ⟨List.mem_cons_of_mem _ z.1, z.2⟩
theorem split_semi (s : Str) : Txt.split s (";" : Str) = (TL.spl [59] 0 [] (tl s)).map SX.S := by
  have e := SX.split_S (a := tl s) (b := [59]) (by simp) (by decide)
  rw [SX.S_tl] at e
  exact e
theorem word_ok {body word : Str} {words : List Str} {i : Nat} (hp : Body 600 body) (hw : words = Txt.split body (";" : Str)) (hx : words[i]? = some word) : word.length ≤ 600 ∧ Figs 600 word := by
  subst hw
  have hm := List.mem_of_getElem? hx
  rw [split_semi, List.mem_map] at hm
  obtain ⟨w, hw, rfl⟩ := hm
  obtain ⟨h1, h2⟩ := (spl_facts (tl body) []).2.2 w hw
  have h3 := hp.1
  have h4 : w.length ≤ 0 + (tl body).length := h1
  refine ⟨by rw [SX.S_len]; omega, by show w.length ≤ _; omega, fun c hc => ?_⟩
  rcases h2 c hc with z | z
  · cases z
  · exact (hp.2 c z.1).resolve_left z.2
theorem words_n {body : Str} {words : List Str} (hp : Body 600 body) (hw : words = Txt.split body (";" : Str)) : 0 < words.length ∧ words.length ≤ 601 := by
  subst hw
  rw [split_semi, List.length_map]
  obtain ⟨h0, h1, _⟩ := spl_facts (tl body) []
  have := hp.1
  exact ⟨List.length_pos_iff.mpr h0, by omega⟩
theorem int_ok {w : Str} (h : Figs 600 w) (hne : w ≠ ("" : Str)) : PySem.intText? w = some ((PySem.NumText.digitsVal (tl w) : Nat) : Int) :=
  PySem.intText_digits h.2 (fun e => hne (by rw [← SX.S_tl w]; rw [e]; rfl)) (by have := h.1; rw [tl_len] at this; omega)
theorem foldl_inv {S τ : Type} {f : S → τ → S} (Iv : Nat → S → Prop) : ∀ (xs : List τ) (k : Nat) (s : S), Iv k s → (∀ i y s, xs[i]? = some y → Iv (k + i) s → Iv (k + i + 1) (f s y)) → Iv (k + xs.length) (xs.foldl f s)
  | [], k, s, h, _ => h
  | x :: r, k, s, h, st => by
    have h1 := st 0 x s rfl h
    have h2 := foldl_inv Iv r (k + 1) (f s x) h1 fun i y s hy hI => by
      have := st (i + 1) y s (by simpa using hy) (by rwa [show k + (i + 1) = k + 1 + i by omega])
      rwa [show k + (i + 1) + 1 = k + 1 + i + 1 by omega] at this
    rw [List.foldl_cons, List.length_cons, show k + (r.length + 1) = k + 1 + r.length by omega]
    exact h2
theorem figs_all : ∀ c ∈ tl ("0123456789" : Str), 48 ≤ c ∧ c ≤ 57 := by decide
theorem sidx_fin : ∀ i : Fin 10, (Builtin.Str.occurrences ("0123456789" : Str) ⟨#[48 + i.val]⟩ 0 ("0123456789" : Str).length 1).isEmpty = false ∧ sidx ("0123456789" : Str) ⟨#[48 + i.val]⟩ = ((i.val : Nat) : Int) := by decide +kernel
theorem sidx_ok {c : Nat} (h : 48 ≤ c ∧ c ≤ 57) : (Builtin.Str.occurrences ("0123456789" : Str) ⟨#[c]⟩ 0 ("0123456789" : Str).length 1).isEmpty = false ∧ sidx ("0123456789" : Str) ⟨#[c]⟩ = ((c - 48 : Nat) : Int) := by
  have := sidx_fin ⟨c - 48, by omega⟩
  rwa [show 48 + (⟨c - 48, by omega⟩ : Fin 10).val = c by show 48 + (c - 48) = c; omega] at this
theorem sign_mem {s x : Str} {i : Nat} (h : (signsL s)[i]? = some x) : ∃ c, x = ⟨#[c]⟩ ∧ c ∈ tl s := by
  have := List.mem_of_getElem? h
  unfold signsL at this
  rw [List.mem_map] at this
  obtain ⟨c, h1, h2⟩ := this
  exact ⟨c, h2.symm, h1⟩
def top (i : Nat) : Stmt := PySem.Challenge.pw_signscreen_k05_parted_numbers.main.body.getD i (.Pass ⟨0, 0, 0, 0⟩)
structure Txt (K : PySem.W.Frag) (mg : Str → Option Value) : Prop where
  d_parted : Df K mg "parted" (top 3)
  d__law_cell_at : Df K mg "_law_cell_at" (top 5)
  d__law_mixed : Df K mg "_law_mixed" (top 6)
  d__law_figures : Df K mg "_law_figures" (top 7)
  d__law_body : Df K mg "_law_body" (top 8)
  d__law_parted : Df K mg "_law_parted" (top 9)
  d__law_is : Df K mg "_law_is" (top 10)
  d_law : Df K mg "law" (top 11)
  c_MOST_FIGURES : ∃ t, mg "MOST_FIGURES" = some (.int 3 t)
  c_MOST_NUMBERS : ∃ t, mg "MOST_NUMBERS" = some (.int 6 t)
  b_all : mg "all" = none
  b_bool : mg "bool" = none
  b_int : mg "int" = none
  b_isinstance : mg "isinstance" = none
  b_len : mg "len" = none
  b_max : mg "max" = none
  b_min : mg "min" = none
  b_range : mg "range" = none
  b_tuple : mg "tuple" = none
section
variable {P : Program} {w : World} {K : PySem.W.Frag} {mg : Str → Option Value} {base : Heap}
/-! ## parted -/
abbrev s_parted : Stmt := top 3
def m_parted (body : Str) : Option (Tup (Option Int)) :=
  bnd ((Txt.split body (";" : Str))) fun (words : List Str) =>
  if ((decide (((words.length : Nat) : Int) > 6)) || (decide ((maxl (words.map (fun word : Str => ((word.length : Nat) : Int)))) > 3))) then (
  (none : Option (Tup (Option Int))))
  else
  (some (Tup.mk (words.map (fun word' : Str => (if (!decide (word' = ("" : Str))) then (some (tint word')) else (none : Option Int))))))
theorem sc_parted : FnScope ["body", "words", "word"] ["body"] (defScope s_parted) := ⟨rfl, rfl, rfl, by decide +kernel, rfl, by decide +kernel, by decide +kernel⟩
set_option maxHeartbeats 4000000 in
theorem ok_parted (T : Txt K mg) : Fk P w K mg base "parted" ["body"] [] 1 (SpP K (fun a : Str × Unit => Body 600 a.1) (fun a => m_parted a.1)) := by
  refine fk_of T.d_parted sc_parted rfl (fun _ _ _ _ _ _ us hl => match us, hl with | [_], _ => rfl) ?_
  intro f cdv A outer s H E c a hr hp
  obtain ⟨body, ⟨⟩⟩ := a
  have nd := (sc_parted).nd
  have hp : Body 600 body := hp
  refine XO.gam (Γ' := [.fz (body : Str), .no, .no]) rfl ?_
  exact XO.eq (xr_nxt (xs_let 1 nd (xe_split (xe_var 0) xe_str (by first | rfl | decide) (by have h1 := hp.1; rw [tl_len] at h1; have h9 : (700 : Nat) ≤ sizeLine := (by decide); omega)))
(fun (words : List Str) h_words => (xr_if (XW.t (xw_or (xt_c (xc_gt (xe_lenl T.b_len (xe_var 1)) (xe_gi T.c_MOST_NUMBERS))) (fun h_c => (xw_or1 (xt_c (xc_gt (xe_maxl T.b_max (xe_lc (g := fun word : Str => ((word.length : Nat) : Int)) [("word", 2)] nd (xi_list (xe_var 1)) (by have h2 := words_n hp h_words; show words.length ≤ 100000; omega) (fun q => (xg_name 2 nd)) (fun i (word : Str) hx q => (xe_eq (xe_lenS T.b_len (xe_var 2) (by have h1 := hp.1; rw [tl_len] at h1; have h9 : (700 : Nat) ≤ sizeLine := (by decide); have h2 := (word_ok hp h_words hx).1; omega)) (by rfl))) (ok := by show blkC ["body", "words", "word"] (defScope s_parted) _ _ = true; decide +kernel)) (by rw [List.length_map]; exact (words_n hp h_words).1)) (xe_gi T.c_MOST_FIGURES))))))) (fun h_c => (xo_one (xs_retU xe_none)))
(fun h_c => (xo_one (xs_retU (xe_some (xe_tupOf T.b_tuple (xe_lc (g := fun word' : Str => (if (!decide (word' = ("" : Str))) then (some (tint word')) else (none : Option Int))) [("word", 2)] nd (xi_list (xe_var 1)) (by have h2 := words_n hp h_words; show words.length ≤ 100000; omega) (fun q => (xg_name 2 nd)) (fun i (word' : Str) hx q => (xe_eq (xe_if (xt_c (xc_neS (xe_var 2) xe_str)) (fun h_c => (xe_some (xe_intS T.b_int (xe_var 2) (by rw [int_ok (word_ok hp h_words hx).2 (by simpa using h_c)]; rfl) (by have h2 := (word_ok hp h_words hx).1; omega)))) (fun h_c => xe_none)) (by rfl))) (ok := by show blkC ["body", "words", "word"] (defScope s_parted) _ _ = true; decide +kernel)))))))))) (by rfl)


theorem parted_len {b : Str} (hb : Body 600 b) : ∀ t, m_parted b = some t → t.l.length ≤ 1000 := fun t h => by
  unfold m_parted bnd at h
  dsimp only at h
  split at h
  · cases h
  · injection h with h
    subst h
    have := words_n hb rfl
    rw [List.length_map]; omega


/-! ## _law_cell_at -/
abbrev s__law_cell_at : Stmt := top 5
def m_l_cell_at (script : Scr Int) (k : Int) : Int :=
  if (decide (k < ((script.l.length : Nat) : Int))) then (
  (ix script.l k))
  else
  0
theorem sc__law_cell_at : FnScope ["_law_script", "_law_k"] ["_law_script", "_law_k"] (defScope s__law_cell_at) := ⟨rfl, rfl, rfl, by decide +kernel, rfl, by decide +kernel, by decide +kernel⟩
set_option maxHeartbeats 4000000 in
theorem ok__law_cell_at (T : Txt K mg) : Fk P w K mg base "_law_cell_at" ["_law_script", "_law_k"] [] 1 (SpP K (fun a : (Scr Int) × Int × Unit => 0 ≤ a.2.1) (fun a => m_l_cell_at a.1 a.2.1)) := by
  refine fk_of T.d__law_cell_at sc__law_cell_at rfl (fun _ _ _ _ _ _ us hl => match us, hl with | [_, _], _ => rfl) ?_
  intro f cdv A outer s H E c a hr hp
  obtain ⟨script, k, ⟨⟩⟩ := a
  have nd := (sc__law_cell_at).nd
  have hp : 0 ≤ k := hp
  refine XO.gam (Γ' := [.fz (script : Scr Int), .fz (k : Int)]) rfl ?_
  exact XO.eq (xr_if (xt_c (xc_lt (xe_var 1) (xe_lenr T.b_len (xe_var 0)))) (fun h_c => (xo_one (xs_retU (xe_ixr (xe_var 0) (xe_var 1) (by first | decide | (unfold InB; simp only [List.length_cons, List.length_nil, List.length_append, List.length_map, izs_len]; omega) | (unfold InB; (try simp only [decide_eq_true_eq, decide_eq_false_iff_not, Bool.and_eq_true, Bool.or_eq_true, Bool.not_eq_true', Bool.not_eq_false', Bool.not_eq_true, Bool.not_eq_false, Int.not_lt, Int.not_le, gt_iff_lt, ge_iff_le] at *); (try simp only [List.length_cons, List.length_nil]); omega))))))
(fun h_c => (xo_one (xs_retU xe_int)))) (by rfl)


theorem cell_bit {s : Scr Int} (h : Pre s) {k : Int} (hk : 0 ≤ k) : Bit 1048576 (m_l_cell_at s k) := by
  unfold m_l_cell_at
  split
  · rename_i h1
    have h2 := of_decide_eq_true h1
    exact Bit.scr h (ix_mem (by unfold InB; omega))
  · exact Bit.sm (by omega) (by omega)


/-! ## _law_mixed -/
abbrev s__law_mixed : Stmt := top 6
def m_l_mixed (cell : Int) (k : Int) : Int :=
  bnd (((cell + (7919 * k)) + 3)) fun (number : Int) =>
  ((((number * number) % 2147483647) * 48271) % 2147483647)
theorem sc__law_mixed : FnScope ["_law_cell", "_law_k", "_law_number"] ["_law_cell", "_law_k"] (defScope s__law_mixed) := ⟨rfl, rfl, rfl, by decide +kernel, rfl, by decide +kernel, by decide +kernel⟩
set_option maxHeartbeats 4000000 in
theorem ok__law_mixed (T : Txt K mg) : Fk P w K mg base "_law_mixed" ["_law_cell", "_law_k"] [] 1 (SpP K (fun a : Int × Int × Unit => Bit 1048580 a.1 ∧ 0 ≤ a.2.1 ∧ a.2.1 ≤ 1000) (fun a => m_l_mixed a.1 a.2.1)) := by
  refine fk_of T.d__law_mixed sc__law_mixed rfl (fun _ _ _ _ _ _ us hl => match us, hl with | [_, _], _ => rfl) ?_
  intro f cdv A outer s H E c a hr hp
  obtain ⟨cell, k, ⟨⟩⟩ := a
  have nd := (sc__law_mixed).nd
  have hp : Bit 1048580 cell ∧ 0 ≤ k ∧ k ≤ 1000 := hp
  refine XO.gam (Γ' := [.fz (cell : Int), .fz (k : Int), .no]) rfl ?_
  exact XO.eq (xr_nxt (xs_let 2 nd (xe_add (xe_add (xe_var 0) (xe_mul xe_int (xe_var 1) (.inl (by decide)))) xe_int))
(fun (number : Int) h_number => (xo_one (xs_retU (xe_mod (xe_mul (xe_mod (xe_mulG (xe_var 2) (xe_var 2) (by have hb : Bit 1048582 number := (by subst h_number; exact Bit.add (n := 1048581) (Bit.add (n := 1048580) hp.1 (Bit.sm (by omega) (by omega))) (Bit.sm (by omega) (by omega))); exact Bit.ok hb hb (by omega))) xe_int (by decide)) xe_int (.inr (by decide))) xe_int (by decide)))))) (by rfl)


theorem mixed_lt (c k : Int) : 0 ≤ m_l_mixed c k ∧ m_l_mixed c k < 2147483647 := by
  unfold m_l_mixed bnd; dsimp only; omega


/-! ## _law_figures -/
abbrev s__law_figures : Stmt := top 7
def m_l_figures (cell : Int) (many : Int) : Str :=
  (Txt.join ("" : Str) ((izs 0 (many : Int).toNat).map (fun j : Int => (ixS ("0123456789" : Str) (((m_l_mixed cell j) / 8) % 10)))))
theorem sc__law_figures : FnScope ["_law_cell", "_law_many", "_law_j"] ["_law_cell", "_law_many"] (defScope s__law_figures) := ⟨rfl, rfl, rfl, by decide +kernel, rfl, by decide +kernel, by decide +kernel⟩
set_option maxHeartbeats 4000000 in
theorem ok__law_figures (T : Txt K mg) : Fk P w K mg base "_law_figures" ["_law_cell", "_law_many"] [] 2 (SpP K (fun a : Int × Int × Unit => Bit 1048580 a.1 ∧ 0 ≤ a.2.1 ∧ a.2.1 ≤ 100) (fun a => m_l_figures a.1 a.2.1)) := by
  refine fk_of T.d__law_figures sc__law_figures rfl (fun _ _ _ _ _ _ us hl => match us, hl with | [_, _], _ => rfl) ?_
  intro f cdv A outer s H E c a hr hp
  obtain ⟨cell, many, ⟨⟩⟩ := a
  have nd := (sc__law_figures).nd
  have hp : Bit 1048580 cell ∧ 0 ≤ many ∧ many ≤ 100 := hp
  refine XO.gam (Γ' := [.fz (cell : Int), .fz (many : Int), .no]) rfl ?_
  exact XO.eq (xo_one (xs_retU (xe_join xe_str (xe_lc (g := fun j : Int => (ixS ("0123456789" : Str) (((m_l_mixed cell j) / 8) % 10))) [("_law_j", 2)] nd (xi_range1 T.b_range (xe_var 1) (by first | decide | omega | ((try simp only [decide_eq_true_eq, decide_eq_false_iff_not, Bool.and_eq_true, Bool.or_eq_true, Bool.not_eq_true', Bool.not_eq_false', Bool.not_eq_true, Bool.not_eq_false, Int.not_lt, Int.not_le, gt_iff_lt, ge_iff_le] at *); omega))) (by rw [izs_len]; omega) (fun q => (xg_name 2 nd)) (fun i (j : Int) hx q => (have hr_j := izs_get hx; (xe_eq (xe_ixS xe_str (xe_mod (xe_div (xe_call (ok__law_mixed T) hr (by decide) (xa_cons (xe_var 0) (xa_cons (xe_var 2) xa_nil)) (by exact ⟨hp.1, (by dsimp only; omega), (by dsimp only; omega)⟩)) xe_int ⟨by decide, by decide⟩) xe_int (by decide)) (by exact inB_of 10 (by decide) (by omega)) (by first | decide | omega)) (by rfl)))) (ok := by show blkC ["_law_cell", "_law_many", "_law_j"] (defScope s__law_figures) _ _ = true; decide +kernel)) (by refine join_le 1 100 0 (fun y hy => ?_) (by rw [List.length_map, izs_len]; omega) (by decide) (by decide); rw [List.mem_map] at hy; obtain ⟨z, _, rfl⟩ := hy; exact Nat.le_refl 1)))) (by rfl)


theorem figs_ok (cell : Int) {many : Int} {n : Nat} (h : 0 ≤ many ∧ many ≤ n) : Figs n (m_l_figures cell many) := by
  unfold m_l_figures
  refine ⟨?_, fun c hc => ?_⟩
  · rw [tl_joinL]
    have := joinL_len (sep := tl ("" : Str)) (b := 1) (m := 0) (by decide) (ps := ((izs 0 (many : Int).toNat).map fun j : Int => ixS ("0123456789" : Str) ((m_l_mixed cell j) / 8 % 10)).map tl) (fun p hp => by
      rw [List.map_map, List.mem_map] at hp
      obtain ⟨z, _, rfl⟩ := hp
      exact Nat.le_refl 1)
    rw [List.length_map, List.length_map, izs_len] at this
    omega
  · rw [tl_joinL] at hc
    rcases joinL_mem hc with h1 | ⟨p, h1, h2⟩
    · cases (show c ∈ ([] : List Nat) from h1)
    · rw [List.map_map, List.mem_map] at h1
      obtain ⟨z, _, rfl⟩ := h1
      have h3 : c = ix (tl ("0123456789" : Str)) (m_l_mixed cell z / 8 % 10) := List.mem_singleton.mp h2
      rw [h3]
      exact figs_all _ (ix_mem (inB_of 10 (by decide) (by omega)))


/-! ## _law_body -/
abbrev s__law_body : Stmt := top 8
def m_l_body_f1 (cell : Int) (number : Int) (s1 : (List Str)) (k : Int) : (List Str) :=
  bnd (((m_l_mixed cell (43 + k)) / 8)) fun (more : Int) =>
  bnd ((s1 ++ [(m_l_figures more (ix ([0, 1, 1, 2, 3, 3, 0, (ix ([4, 5, 2, 1] : List Int) ((number / 64) % 4))] : List Int) (more % 8)))])) fun (words' : List Str) =>
  words'
def m_l_body (cell : Int) : Str :=
  bnd (((m_l_mixed cell 41) / 8)) fun (number : Int) =>
  bnd ((ix ([1, 1, 2, 3, 4, 6, 7, 9] : List Int) (number % 8))) fun (many : Int) =>
  bnd ([]) fun (words : List Str) =>
  bnd (((izs 0 (many : Int).toNat).foldl (m_l_body_f1 cell number) words)) fun (r1 : (List Str)) =>
  if (decide (((number / 512) % 8) = 1)) then (
  (ix ([(repS (";" : Str) 29), (m_l_figures number 60), (repS ("0" : Str) 61), ((Txt.join (";" : Str) r1) ++ (repS (";" : Str) 20))] : List Str) ((number / 4096) % 4)))
  else
  (Txt.join (";" : Str) r1)
theorem many_le (x : Int) : 1 ≤ ix ([1, 1, 2, 3, 4, 6, 7, 9] : List Int) (x % 8) ∧ ix ([1, 1, 2, 3, 4, 6, 7, 9] : List Int) (x % 8) ≤ 9 :=
  ix_all (p := fun x : Int => 1 ≤ x ∧ x ≤ 9) (by decide) (inB_of 8 rfl (by omega))
theorem fig_le (x y : Int) : 0 ≤ ix ([0, 1, 1, 2, 3, 3, 0, ix ([4, 5, 2, 1] : List Int) (x / 64 % 4)] : List Int) (y % 8) ∧ ix ([0, 1, 1, 2, 3, 3, 0, ix ([4, 5, 2, 1] : List Int) (x / 64 % 4)] : List Int) (y % 8) ≤ 5 := by
  have h1 : 0 ≤ ix ([4, 5, 2, 1] : List Int) (x / 64 % 4) ∧ ix ([4, 5, 2, 1] : List Int) (x / 64 % 4) ≤ 5 := ix_all (p := fun x : Int => 0 ≤ x ∧ x ≤ 5) (by decide) (inB_of 4 rfl (by omega))
  generalize ix ([4, 5, 2, 1] : List Int) (x / 64 % 4) = z at h1 ⊢
  refine ix_all (p := fun x : Int => 0 ≤ x ∧ x ≤ 5) (fun y hy => ?_) (inB_of 8 rfl (by omega))
  simp only [List.mem_cons, List.not_mem_nil, or_false] at hy
  omega
def Ws (n : Nat) (ws : List Str) : Prop := ws.length = n ∧ ∀ w ∈ ws, Figs 5 w
theorem ws_step (cell number : Int) {i : Nat} {ws : List Str} (y : Int) (h : Ws i ws) : Ws (i + 1) (m_l_body_f1 cell number ws y) := by
  unfold m_l_body_f1 bnd
  refine ⟨by simp [h.1], fun w hw => ?_⟩
  rcases List.mem_append.mp hw with hw | hw
  · exact h.2 w hw
  · rw [List.mem_singleton.mp hw]
    exact figs_ok _ (fig_le _ _)
theorem ws_ok (cell number : Int) (n : Nat) : Ws n ((izs 0 n).foldl (m_l_body_f1 cell number) []) := by
  have := foldl_inv (f := m_l_body_f1 cell number) Ws (izs 0 n) 0 [] ⟨rfl, fun _ h => nomatch h⟩ (fun i y s _ hI => ws_step cell number y hI)
  rwa [izs_len, Nat.zero_add] at this
theorem ws_join {n : Nat} {ws : List Str} (h : Ws n ws) (hn : n ≤ 9) : (ws.map (·.length)).sum + ws.length * (";" : Str).length ≤ 16777216 :=
  join_le 5 9 1 (fun y hy => by have := (h.2 y hy).1; rwa [tl_len] at this) (by rw [h.1]; exact hn) (by decide) (by decide)
theorem ws_body {n : Nat} {ws : List Str} (h : Ws n ws) (hn : n ≤ 9) : Body 60 (Txt.join (";" : Str) ws) := by
  unfold Body
  rw [tl_joinL]
  refine ⟨?_, fun c hc => ?_⟩
  · have := joinL_len (sep := tl (";" : Str)) (b := 5) (m := 1) (by decide) (ps := ws.map tl) (fun p hp => by
      obtain ⟨w, hw, rfl⟩ := List.mem_map.mp hp
      exact (h.2 w hw).1)
    rw [List.length_map, h.1] at this
    omega
  · rcases joinL_mem hc with h1 | ⟨p, h1, h2⟩
    · exact .inl (List.mem_singleton.mp (show c ∈ [59] from h1))
    · obtain ⟨w, hw, rfl⟩ := List.mem_map.mp h1
      exact .inr ((h.2 w hw).2 c h2)
theorem b_join {cell number many : Int} {words r1 : List Str} (h_many : many = ix ([1, 1, 2, 3, 4, 6, 7, 9] : List Int) (number % 8)) (h_words : words = []) (h_r1 : r1 = (izs 0 many.toNat).foldl (m_l_body_f1 cell number) words) : (r1.map (·.length)).sum + r1.length * (";" : Str).length ≤ 16777216 := by
  have hm := many_le number
  rw [← h_many] at hm
  subst h_words
  have h5 := ws_join (ws_ok cell number many.toNat) (by omega)
  rw [← h_r1] at h5
  exact h5
theorem b_cat {cell number many : Int} {words r1 : List Str} (h_many : many = ix ([1, 1, 2, 3, 4, 6, 7, 9] : List Int) (number % 8)) (h_words : words = []) (h_r1 : r1 = (izs 0 many.toNat).foldl (m_l_body_f1 cell number) words) : (Txt.join (";" : Str) r1).length + (repS (";" : Str) 20).length ≤ sizeLine := by
  have hm := many_le number
  rw [← h_many] at hm
  subst h_words
  have h1 := (ws_body (ws_ok cell number many.toNat) (by omega)).1
  rw [← h_r1, tl_len] at h1
  have h2 : (repS (";" : Str) 20).length ≤ 20 := repS_len
  have h3 : (80 : Nat) ≤ sizeLine := by decide
  omega

theorem sc__law_body : FnScope ["_law_cell", "_law_number", "_law_many", "_law_words", "_law_k", "_law_more"] ["_law_cell"] (defScope s__law_body) := ⟨rfl, rfl, rfl, by decide +kernel, rfl, by decide +kernel, by decide +kernel⟩
set_option maxHeartbeats 4000000 in
theorem ok__law_body (T : Txt K mg) : Fk P w K mg base "_law_body" ["_law_cell"] [] 3 (SpP K (fun a : Int × Unit => Bit 1048579 a.1) (fun a => m_l_body a.1)) := by
  refine fk_of T.d__law_body sc__law_body rfl (fun _ _ _ _ _ _ us hl => match us, hl with | [_], _ => rfl) ?_
  intro f cdv A outer s H E c a hr hp
  obtain ⟨cell, ⟨⟩⟩ := a
  have nd := (sc__law_body).nd
  have hp : Bit 1048579 cell := hp
  refine XO.gam (Γ' := [.fz (cell : Int), .no, .no, .no, .no, .no]) rfl ?_
  exact XO.eq (xr_nxt (xs_let 1 nd (xe_div (xe_call (ok__law_mixed T) hr (by decide) (xa_cons (xe_var 0) (xa_cons xe_int xa_nil)) (by exact ⟨Bit.mono hp (by omega), (by dsimp only; omega), (by dsimp only; omega)⟩)) xe_int ⟨by decide, by decide⟩))
(fun (number : Int) h_number => (xr_nxt (xs_let 2 nd (xe_ixl (xe_lst (xl_cons xe_int (xl_cons xe_int (xl_cons xe_int (xl_cons xe_int (xl_cons xe_int (xl_cons xe_int (xl_cons xe_int (xl_cons xe_int xl_nil)))))))) (le100 rfl)) (xe_mod (xe_var 1) xe_int (by decide)) (by first | decide | (unfold InB; simp only [List.length_cons, List.length_nil, List.length_append, List.length_map, izs_len]; omega) | (unfold InB; (try simp only [decide_eq_true_eq, decide_eq_false_iff_not, Bool.and_eq_true, Bool.or_eq_true, Bool.not_eq_true', Bool.not_eq_false', Bool.not_eq_true, Bool.not_eq_false, Int.not_lt, Int.not_le, gt_iff_lt, ge_iff_le] at *); (try simp only [List.length_cons, List.length_nil]); omega))))
(fun (many : Int) h_many => (xr_nxt (xs_own (xs := ([] : List Str)) 3 nd xl_nil (le100 rfl) (hiΓ := by exact Nat.le_of_ble_eq_true rfl))
(fun (words : List Str) h_words => (xr_nxt (xs_fold (g := m_l_body_f1 cell number) (L := (fun s1 : (List Str) => [.fz (cell : Int), .fz (number : Int), .fz (many : Int), .ow (OL.mk (s1 : List Str)), .no, .no])) (s0 := words) Ws (xi_range1 T.b_range (xe_var 2) (by have hm := many_le number; rw [← h_many] at hm; omega)) (xg_name 4 nd) (by exact (.same (.same (.same (.same (.same (.same .nil))))))) (by subst h_words; exact ⟨rfl, fun _ h => nomatch h⟩) (fun i (k : Int) (s1 : (List Str)) hx hI => ⟨(XO.eq (have hr_k := izs_get hx; (xn_nxt (xs_let 5 nd (xe_div (xe_call (ok__law_mixed T) hr (by decide) (xa_cons (xe_var 0) (xa_cons (xe_add xe_int (xe_var 4)) xa_nil)) (by have hm := many_le number; rw [← h_many] at hm; exact ⟨Bit.mono hp (by omega), (by dsimp only; omega), (by dsimp only; omega)⟩)) xe_int ⟨by decide, by decide⟩))
(fun (more : Int) h_more => (xn_nxt (xs_append (xs := s1) 3 (xe_call (ok__law_figures T) hr (by decide) (xa_cons (xe_var 5) (xa_cons (xe_ixl (xe_lst (xl_cons xe_int (xl_cons xe_int (xl_cons xe_int (xl_cons xe_int (xl_cons xe_int (xl_cons xe_int (xl_cons xe_int (xl_cons (xe_ixl (xe_lst (xl_cons xe_int (xl_cons xe_int (xl_cons xe_int (xl_cons xe_int xl_nil)))) (le100 rfl)) (xe_mod (xe_div (xe_var 1) xe_int ⟨by decide, by decide⟩) xe_int (by decide)) (by first | decide | (unfold InB; simp only [List.length_cons, List.length_nil, List.length_append, List.length_map, izs_len]; omega) | (unfold InB; (try simp only [decide_eq_true_eq, decide_eq_false_iff_not, Bool.and_eq_true, Bool.or_eq_true, Bool.not_eq_true', Bool.not_eq_false', Bool.not_eq_true, Bool.not_eq_false, Int.not_lt, Int.not_le, gt_iff_lt, ge_iff_le] at *); (try simp only [List.length_cons, List.length_nil]); omega))) xl_nil)))))))) (le100 rfl)) (xe_mod (xe_var 5) xe_int (by decide)) (by first | decide | (unfold InB; simp only [List.length_cons, List.length_nil, List.length_append, List.length_map, izs_len]; omega) | (unfold InB; (try simp only [decide_eq_true_eq, decide_eq_false_iff_not, Bool.and_eq_true, Bool.or_eq_true, Bool.not_eq_true', Bool.not_eq_false', Bool.not_eq_true, Bool.not_eq_false, Int.not_lt, Int.not_le, gt_iff_lt, ge_iff_le] at *); (try simp only [List.length_cons, List.length_nil]); omega))) xa_nil)) (by have h1 := mixed_lt cell (43 + k); have h3 : more = m_l_mixed cell (43 + k) / 8 := h_more; have h2 := fig_le number more; exact ⟨Bit.sm (by dsimp only; omega) (by omega), h2.1, (by dsimp only; omega)⟩)) (by have hm := many_le number; rw [← h_many] at hm; have h1 := hI.1; omega))
(fun (words' : List Str) h_words' => (xo_end (s := words') (by exact (.same (.same (.same (.same (.no (.no .nil))))))))))))) (by rfl)), by exact ws_step cell number k hI⟩))
(fun (r1 : (List Str)) h_r1 => (xr_if (xt_c (xc_eqS (xe_mod (xe_div (xe_var 1) xe_int ⟨by decide, by decide⟩) xe_int (by decide)) xe_int)) (fun h_c => (xo_freeze 3 (xo_one (xs_retU (xe_ixl (xe_lst (xl_cons (xe_repS xe_str xe_int (by first | decide | omega) (by first | decide | omega)) (xl_cons (xe_call (ok__law_figures T) hr (by decide) (xa_cons (xe_var 1) (xa_cons xe_int xa_nil)) (by have h1 := mixed_lt cell 41; have h3 : number = m_l_mixed cell 41 / 8 := h_number; exact ⟨Bit.sm (by dsimp only; omega) (by omega), (by dsimp only; omega), (by dsimp only; omega)⟩)) (xl_cons (xe_repS xe_str xe_int (by first | decide | omega) (by first | decide | omega)) (xl_cons (xe_adds (xe_join xe_str (xe_var 3) (by exact b_join h_many h_words h_r1)) (xe_repS xe_str xe_int (by first | decide | omega) (by first | decide | omega)) (by exact b_cat h_many h_words h_r1)) xl_nil)))) (le100 rfl)) (xe_mod (xe_div (xe_var 1) xe_int ⟨by decide, by decide⟩) xe_int (by decide)) (by first | decide | (unfold InB; simp only [List.length_cons, List.length_nil, List.length_append, List.length_map, izs_len]; omega) | (unfold InB; (try simp only [decide_eq_true_eq, decide_eq_false_iff_not, Bool.and_eq_true, Bool.or_eq_true, Bool.not_eq_true', Bool.not_eq_false', Bool.not_eq_true, Bool.not_eq_false, Int.not_lt, Int.not_le, gt_iff_lt, ge_iff_le] at *); (try simp only [List.length_cons, List.length_nil]); omega)))))))
(fun h_c => (xo_freeze 3 (xo_one (xs_retU (xe_join xe_str (xe_var 3) (by exact b_join h_many h_words h_r1))))))))))))))) (by rfl)


theorem body_ok (cell : Int) : Body 600 (m_l_body cell) := by
  unfold m_l_body bnd
  dsimp only
  have hm := many_le (m_l_mixed cell 41 / 8)
  have hw := ws_ok cell (m_l_mixed cell 41 / 8) (ix ([1, 1, 2, 3, 4, 6, 7, 9] : List Int) (m_l_mixed cell 41 / 8 % 8)).toNat
  have hb := ws_body hw (by omega)
  generalize (izs 0 _).foldl (m_l_body_f1 cell (m_l_mixed cell 41 / 8)) [] = ws at hw hb ⊢
  have rep : ∀ (n : Int) (s : Str), s.length = 1 → (∀ c ∈ tl s, c = 59 ∨ (48 ≤ c ∧ c ≤ 57)) → n ≤ 100 → Body 100 (repS s n) := fun n s h1 h2 h3 => ⟨by
    have := repS_len (s := s) (n := n)
    rw [h1] at this
    rw [tl_len]; omega, fun c hc => h2 c (repS_mem hc)⟩
  split
  · refine ix_all (p := Body 600) (fun y hy => ?_) (inB_of 4 rfl (by omega))
    simp only [List.mem_cons, List.not_mem_nil, or_false] at hy
    rcases hy with rfl | rfl | rfl | rfl
    · exact (rep 29 _ rfl (by decide) (by decide)).mono (by decide)
    · have := figs_ok (m_l_mixed cell 41 / 8) (many := 60) (n := 60) (by decide)
      exact ⟨Nat.le_trans this.1 (by decide), fun c hc => .inr (this.2 c hc)⟩
    · exact (rep 61 _ rfl (by decide) (by decide)).mono (by decide)
    · have h2 := rep 20 (";" : Str) rfl (by decide) (by decide)
      unfold Body
      rw [tl_cat]
      refine ⟨by rw [List.length_append]; have := hb.1; have := h2.1; omega, fun c hc => ?_⟩
      rcases List.mem_append.mp hc with h | h
      · exact hb.2 c h
      · exact h2.2 c h
  · exact hb.mono (by decide)


/-! ## _law_parted -/
abbrev s__law_parted : Stmt := top 9
def m_l_parted_f2 (s2 : (Option Int)) (figure : Str) : (Option Int) :=
  bnd ((some ((10 * (match s2 with | some m => if m = 0 then 0 else m | none => 0)) + (sidx ("0123456789" : Str) figure)))) fun (number' : Option Int) =>
  number'
def m_l_parted_f1 (s1 : Str × (List (Option Int))) (sign : Str) : Out (Str × (List (Option Int))) (Str × (List (Option Int))) ((Option (Tup (Option Int))) × Unit) :=
  if (!decide (sign = (";" : Str))) then (Out.up (bnd ((s1.1 ++ sign)) fun (word' : Str) =>
  .ct (word', s1.2) : Out Empty (Str × (List (Option Int))) (Option (Tup (Option Int)) × Unit)))
  else
  if (decide (((s1.1.length : Nat) : Int) > 3)) then .rt ((none : Option (Tup (Option Int))), ())
  else
  bnd ((none : Option Int)) fun (number : Option Int) =>
  bnd (((signsL s1.1).foldl (m_l_parted_f2) number)) fun (r2 : (Option Int)) =>
  bnd ((s1.2 ++ [r2])) fun (numbers' : List (Option Int)) =>
  bnd (("" : Str)) fun (word'' : Str) =>
  .nx (word'', numbers')
def m_l_parted (body_here : Str) : Option (Tup (Option Int)) :=
  bnd ([]) fun (numbers : List (Option Int)) =>
  bnd (("" : Str)) fun (word : Str) =>
  (Out.val ((runFor (B := Empty) (m_l_parted_f1) (word, numbers) (signsL (body_here ++ (";" : Str)))).bind (fun r1 => Out.rt (
  (if (decide (((r1.2.length : Nat) : Int) < 7)) then (some (Tup.mk r1.2)) else (none : Option (Tup (Option Int)))), ())))).1
def Iv (i : Nat) (s : Str × List (Option Int)) : Prop := (tl s.1).length ≤ i ∧ s.2.length ≤ i ∧ ∀ c ∈ tl s.1, 48 ≤ c ∧ c ≤ 57
theorem in_body {b x : Str} (hp : Body 600 b) {i : Nat} (hx : (signsL (b ++ (";" : Str)))[i]? = some x) : i ≤ 600 ∧ ∃ c, x = ⟨#[c]⟩ ∧ (c = 59 ∨ (48 ≤ c ∧ c ≤ 57)) := by
  obtain ⟨c, h1, h2⟩ := sign_mem hx
  have hi := (List.getElem?_eq_some_iff.mp hx).1
  unfold signsL at hi
  rw [List.length_map] at hi
  rw [show (b ++ (";" : Str)).cps.toList = tl b ++ [59] from tl_cat _ _, List.length_append] at hi
  rw [tl_cat, List.mem_append] at h2
  have := hp.1
  refine ⟨by have : i < (tl b).length + 1 := hi
             omega, c, h1, ?_⟩
  rcases h2 with h | h
  · exact hp.2 c h
  · exact .inl (List.mem_singleton.mp (show c ∈ [59] from h))
theorem f1_ct (w : Str) (N : List (Option Int)) {c : Nat} (h : c ≠ 59) : m_l_parted_f1 (w, N) ⟨#[c]⟩ = .ct (w ++ (⟨#[c]⟩ : Str), N) := by
  have e2 : ((⟨#[c]⟩ : Str) = (";" : Str)) = False := eq_false fun z => h (by injection z with z; injection z with z; injection z)
  have hk : (!decide ((⟨#[c]⟩ : Str) = (";" : Str))) = true := by rw [decide_eq_false (by rw [e2]; exact id)]; rfl
  exact (if_pos hk).trans rfl
theorem f1_hit (w : Str) (N : List (Option Int)) : m_l_parted_f1 (w, N) ⟨#[59]⟩ = if (decide (((w.length : Nat) : Int) > 3)) = true then .rt (none, ()) else .nx (("" : Str), N ++ [(signsL w).foldl m_l_parted_f2 none]) := by
  have hk : ¬ (!decide ((⟨#[59]⟩ : Str) = (";" : Str))) = true := by decide
  exact (if_neg hk).trans rfl
theorem iv_step {b x : Str} (hp : Body 600 b) {i : Nat} (hx : (signsL (b ++ (";" : Str)))[i]? = some x) {s : Str × List (Option Int)} (h : Iv i s) {z : Str × List (Option Int)} (hz : m_l_parted_f1 s x = .nx z ∨ m_l_parted_f1 s x = .ct z) : Iv (i + 1) z := by
  obtain ⟨_, c, rfl, hc⟩ := in_body hp hx
  obtain ⟨w, N⟩ := s
  obtain ⟨h1, h2, h3⟩ := h
  dsimp only at h1 h2 h3
  by_cases e : c = 59
  · subst e
    rw [f1_hit] at hz
    by_cases hd : (decide (((w.length : Nat) : Int) > 3)) = true
    · rw [if_pos hd] at hz; rcases hz with hz | hz <;> cases hz
    · rw [if_neg hd] at hz
      rcases hz with hz | hz
      rotate_left
      · cases hz
      cases hz
      exact ⟨Nat.zero_le _, by dsimp only; rw [List.length_append]; simp; omega, fun c hc => nomatch hc⟩
  · rw [f1_ct _ _ e] at hz
    rcases hz with hz | hz
    · cases hz
    cases hz
    refine ⟨?_, by dsimp only; omega, fun d hd => ?_⟩
    · show (tl (w ++ (⟨#[c]⟩ : Str))).length ≤ _
      rw [tl_cat, List.length_append]; show _ + 1 ≤ _; omega
    · have hd : d ∈ tl (w ++ (⟨#[c]⟩ : Str)) := hd
      rw [tl_cat, List.mem_append] at hd
      rcases hd with hd | hd
      · exact h3 d hd
      · rw [List.mem_singleton.mp (show d ∈ [c] from hd)]; exact hc.resolve_left e

theorem sc__law_parted : FnScope ["_law_body_here", "_law_numbers", "_law_word", "_law_sign", "_law_number", "_law_figure"] ["_law_body_here"] (defScope s__law_parted) := ⟨rfl, rfl, rfl, by decide +kernel, rfl, by decide +kernel, by decide +kernel⟩
set_option maxHeartbeats 4000000 in
theorem ok__law_parted (T : Txt K mg) : Fk P w K mg base "_law_parted" ["_law_body_here"] [] 1 (SpP K (fun a : Str × Unit => Body 600 a.1) (fun a => m_l_parted a.1)) := by
  refine fk_of T.d__law_parted sc__law_parted rfl (fun _ _ _ _ _ _ us hl => match us, hl with | [_], _ => rfl) ?_
  intro f cdv A outer s H E c a hr hp
  obtain ⟨body_here, ⟨⟩⟩ := a
  have nd := (sc__law_parted).nd
  have hp : Body 600 body_here := hp
  refine XO.gam (Γ' := [.fz (body_here : Str), .no, .no, .no, .no, .no]) rfl ?_
  exact XO.eq (xr_nxt (xs_own (xs := ([] : List (Option Int))) 1 nd xl_nil (le100 rfl) (hiΓ := by exact Nat.le_of_ble_eq_true rfl))
(fun (numbers : List (Option Int)) h_numbers => (xr_nxt (xs_let 2 nd xe_str)
(fun (word : Str) h_word => (XO.eq (xr_valU (xo_cons (xs_for (R := RcP (Option (Tup (Option Int)))) (f := m_l_parted_f1) (L := (fun s1 : Str × (List (Option Int)) => [.fz (body_here : Str), .ow (OL.mk (s1.2 : List (Option Int))), .fz (s1.1 : Str), .no, .no, .no])) (s0 := (word, numbers)) Iv (xi_str (xe_adds (xe_var 0) xe_str (by have h1 := hp.1; rw [tl_len] at h1; have h9 : (700 : Nat) ≤ sizeLine := (by decide); show body_here.length + 1 ≤ _; omega))) (xg_name 3 nd) (by exact (.same (.same (.same (.same (.same (.same .nil))))))) (by subst h_word h_numbers; exact ⟨Nat.le_refl 0, Nat.le_refl 0, fun _ h => nomatch h⟩) (fun i (sign : Str) (s1 : Str × (List (Option Int))) hx hI => ⟨(XO.eq (xo_ifx (xt_c (xc_neS (xe_var 3) xe_str)) (fun h_c => (xo_nxt (xs_let 2 nd (xe_adds (xe_var 2) (xe_var 3) (by have h7 := (in_body hp hx).1; have h8 := hI.1; rw [tl_len] at h8; obtain ⟨_, c, rfl, _⟩ := in_body hp hx; have h9 : (700 : Nat) ≤ sizeLine := (by decide); show s1.1.length + 1 ≤ _; omega)))
(fun (word' : Str) h_word' => (xo_one (xs_cnt (s := (word', s1.2)) (by exact (.same (.same (.same (.no (.same (.same .nil))))))))))))
(fun h_c => (xo_ifx (xt_c (xc_gt (xe_lenS T.b_len (xe_var 2) (by have h7 := (in_body hp hx).1; have h8 := hI.1; rw [tl_len] at h8; have h9 : (700 : Nat) ≤ sizeLine := (by decide); omega)) xe_int)) (fun h_c => (xo_one (xs_retU xe_none)))
(fun h_c => (xo_nxt (xs_let 4 nd xe_none)
(fun (number : Option Int) h_number => (xo_nxt (xs_fold0 (g := m_l_parted_f2) (L := (fun s2 : (Option Int) => [.fz (body_here : Str), .ow (OL.mk (s1.2 : List (Option Int))), .fz (s1.1 : Str), .fz (sign : Str), .fz (s2 : Option Int), .no])) (s0 := number) (xi_str (xe_var 2)) (xg_name 5 nd) (by exact (.same (.same (.same (.same (.same (.same .nil))))))) (fun i (figure : Str) (s2 : (Option Int)) hx => (XO.eq (xn_nxt (xs_let 4 nd (xe_some (xe_add (xe_mul xe_int (xe_orO (xe_var 4) xe_int) (.inl (by decide))) (xe_sidx xe_str (xe_var 5) (by obtain ⟨c, rfl, hc⟩ := sign_mem hx; exact (sidx_ok (hI.2.2 c hc)).1)))))
(fun (number' : Option Int) h_number' => (xo_end (s := number') (by exact (.same (.same (.same (.same (.same (.no .nil)))))))))) (by rfl))))
(fun (r2 : (Option Int)) h_r2 => (xo_nxt (xs_append (xs := s1.2) 1 (xe_var 4) (by have h7 := (in_body hp hx).1; have h8 := hI.2.1; omega))
(fun (numbers' : List (Option Int)) h_numbers' => (xo_nxt (xs_let 2 nd xe_str)
(fun (word'' : Str) h_word'' => (xo_end (s := (word'', numbers')) (by exact (.same (.same (.same (.no (.no (.same .nil)))))))))))))))))))) (by rfl)), by (generalize hz : m_l_parted_f1 s1 sign = o; cases o with | nx z => exact iv_step hp hx hI (.inl hz) | ct z => exact iv_step hp hx hI (.inr hz) | rt z => trivial | bk z => trivial)⟩))
(fun (r1 : Str × (List (Option Int))) h_r1 => (xo_freeze 1 (xo_one (xs_retU (xe_if (xt_c (xc_lt (xe_lenl T.b_len (xe_var 1)) xe_int)) (fun h_c => (xe_some (xe_tupOf T.b_tuple (xe_var 1)))) (fun h_c => xe_none)))))))) (by rfl)))))) (by rfl)


/-! ## _law_is -/
abbrev s__law_is : Stmt := top 10
def m_l_is (found : Option (Tup (Option Int))) (due : Option (Tup (Option Int))) : Bool :=
  if (due.isNone || found.isNone) then (
  (found.isNone && due.isNone))
  else
  if ((!(kd (PyTy.ty (found : Option (Tup (Option Int)))) "tuple")) || (!eqb found due)) then (
  false)
  else
  (((found.getD default).l.map (fun one : Option Int => (one.isNone || ((kd (PyTy.ty (one : Option Int)) "int") && (!(kd (PyTy.ty (one : Option Int)) "bool")))))).all id)
theorem sc__law_is : FnScope ["_law_found", "_law_due", "_law_one"] ["_law_found", "_law_due"] (defScope s__law_is) := ⟨rfl, rfl, rfl, by decide +kernel, rfl, by decide +kernel, by decide +kernel⟩
set_option maxHeartbeats 4000000 in
theorem ok__law_is (T : Txt K mg) : Fk P w K mg base "_law_is" ["_law_found", "_law_due"] [] 1 (SpP K (fun a : (Option (Tup (Option Int))) × (Option (Tup (Option Int))) × Unit => ∀ t, a.1 = some t → t.l.length ≤ 1000) (fun a => m_l_is a.1 a.2.1)) := by
  refine fk_of T.d__law_is sc__law_is rfl (fun _ _ _ _ _ _ us hl => match us, hl with | [_, _], _ => rfl) ?_
  intro f cdv A outer s H E c a hr hp
  obtain ⟨found, due, ⟨⟩⟩ := a
  have nd := (sc__law_is).nd
  have hp : ∀ t, found = some t → t.l.length ≤ 1000 := hp
  refine XO.gam (Γ' := [.fz (found : Option (Tup (Option Int))), .fz (due : Option (Tup (Option Int))), .no]) rfl ?_
  exact XO.eq (xr_if (XW.t (xw_or (xt_c (xc_isNoneG (xe_var 1))) (fun h_c => (xw_or1 (xt_c (xc_isNoneG (xe_var 0))))))) (fun h_c => (xo_one (xs_retU (xe_and (xe_c (xc_isNoneG (xe_var 0))) (fun h_c => (xe_one (xe_c (xc_isNoneG (xe_var 1)))))))))
(fun h_c => (xr_if (XW.t (xw_or (xt_not (xt_val (xe_isi (t := "tuple") T.b_isinstance T.b_tuple (xe_var 0) (by cases found with | none => exact .inl rfl | some _ => exact .inr (.inr (.inr (.inr (.inr (.inl rfl)))))) (by decide)))) (fun h_c => (xw_or1 (xt_c (xc_neD hr.units (xe_var 0) (xe_var 1) (by first | exact PyDn.all _ | trivial | (simp; done)) (by first | exact PyDn.all _ | trivial | (simp; done)))))))) (fun h_c => (xo_one (xs_retU xe_bl)))
(fun h_c => (xo_one (xs_retU (xe_all T.b_all (xe_lc (g := fun one : Option Int => (one.isNone || ((kd (PyTy.ty (one : Option Int)) "int") && (!(kd (PyTy.ty (one : Option Int)) "bool"))))) [("_law_one", 2)] nd (xi_tup (xe_get (xe_var 0) (by cases found with | none => simp_all | some _ => rfl))) (by cases found with | none => exact Nat.zero_le _ | some t => exact Nat.le_trans (hp t rfl) (by decide)) (fun q => (xg_name 2 nd)) (fun i (one : Option Int) hx q => (xe_eq (xe_or (xe_c (xc_isNone (xe_var 2))) (fun h_c => (xe_one (xe_and (xe_isi (t := "int") T.b_isinstance T.b_int (xe_var 2) (by cases one with | none => exact .inl rfl | some _ => exact .inr (.inr (.inl rfl))) (by decide)) (fun h_c => (xe_one (xe_not (xe_isi (t := "bool") T.b_isinstance T.b_bool (xe_var 2) (by cases one with | none => exact .inl rfl | some _ => exact .inr (.inr (.inl rfl))) (by decide))))))))) (by rfl))) (ok := by show blkC ["_law_found", "_law_due", "_law_one"] (defScope s__law_is) _ _ = true; decide +kernel))))))))) (by rfl)


/-! ## law -/
abbrev s_law : Stmt := top 11
def m_law_f1 (script : Scr Int) (s1 : Unit) (k : Int) : Out (Unit) (Unit) (Bool × Unit) :=
  bnd ((m_l_body ((m_l_cell_at script k) + (97 * k)))) fun (body_here : Str) =>
  bnd ((m_l_parted body_here)) fun (due : Option (Tup (Option Int))) =>
  if ((!(m_l_is (m_parted body_here) due)) || (!(m_l_is (m_parted body_here) due))) then .rt (false, ())
  else
  .nx ()
def m_law (script : Scr Int) : Bool :=
  (Out.val ((runFor (B := Empty) (m_law_f1 script) () (izs 0 ((max 6 (min 63 ((script.l.length : Nat) : Int))) : Int).toNat)).bind (fun r1 => Out.rt (
  ((m_l_is (m_parted ("" : Str)) (some (Tup.mk [(none : Option Int)]))) && (m_l_is (m_parted ("3;;7" : Str)) (some (Tup.mk [(some 3), (none : Option Int), (some 7)])))), ())))).1
theorem sc_law : FnScope ["_law_script", "_law_k", "_law_body_here", "_law_due"] ["_law_script"] (defScope s_law) := ⟨rfl, rfl, rfl, by decide +kernel, rfl, by decide +kernel, by decide +kernel⟩
set_option maxHeartbeats 4000000 in
theorem ok_law (T : Txt K mg) {f : Addr} {fd : FuncData} (F : Fun K "law" "law" s_law f fd) : FnOk P w K mg base CX0 4 f fd ["_law_script"] (SpP K (fun a : (Scr Int) × Unit => Pre a.1) (fun a => m_law a.1)) := by
  refine fn_of_body F sc_law rfl ?_
  intro f cdv A outer s H E c a hr hp
  obtain ⟨script, ⟨⟩⟩ := a
  have nd := (sc_law).nd
  have hp : Pre script := hp
  refine XO.gam (Γ' := [.fz (script : Scr Int), .no, .no, .no]) rfl ?_
  exact XO.eq (XO.eq (xr_valU (xo_cons (xs_for0 (R := RcP (Bool)) (f := m_law_f1 script) (L := (fun s1 : Unit => [.fz (script : Scr Int), .no, .no, .no])) (s0 := ()) (xi_range1 T.b_range (xe_max T.b_max xe_int (xe_min T.b_min xe_int (xe_lenr T.b_len (xe_var 0)))) (by first | decide | omega | ((try simp only [decide_eq_true_eq, decide_eq_false_iff_not, Bool.and_eq_true, Bool.or_eq_true, Bool.not_eq_true', Bool.not_eq_false', Bool.not_eq_true, Bool.not_eq_false, Int.not_lt, Int.not_le, gt_iff_lt, ge_iff_le] at *); omega))) (xg_name 1 nd) (by exact (.same (.same (.same (.same .nil))))) (fun i (k : Int) (s1 : Unit) hx => (XO.eq (have hr_k := izs_get hx; (xo_nxt (xs_let 2 nd (xe_call (ok__law_body T) hr (by decide) (xa_cons (xe_add (xe_call (ok__law_cell_at T) hr (by decide) (xa_cons (xe_var 0) (xa_cons (xe_var 1) xa_nil)) (by dsimp only; omega)) (xe_mul xe_int (xe_var 1) (.inl (by decide)))) xa_nil) (by exact Bit.add (n := 1048578) (Bit.mono (cell_bit hp (by dsimp only; omega)) (by omega)) (Bit.sm (by omega) (by omega)))))
(fun (body_here : Str) h_body_here => (xo_nxt (xs_let 3 nd (xe_call (ok__law_parted T) hr (by decide) (xa_cons (xe_var 2) xa_nil) (by rw [h_body_here]; exact body_ok _)))
(fun (due : Option (Tup (Option Int))) h_due => (xo_ifx (XW.t (xw_or (xt_not (xt_val (xe_call (ok__law_is T) hr (by decide) (xa_cons (xe_call (ok_parted T) hr (by decide) (xa_cons (xe_var 2) xa_nil) (by rw [h_body_here]; exact body_ok _)) (xa_cons (xe_var 3) xa_nil)) (by exact parted_len (h_body_here ▸ body_ok _))))) (fun h_c => (xw_or1 (xt_not (xt_val (xe_call (ok__law_is T) hr (by decide) (xa_cons (xe_call (ok_parted T) hr (by decide) (xa_cons (xe_var 2) xa_nil) (by rw [h_body_here]; exact body_ok _)) (xa_cons (xe_var 3) xa_nil)) (by exact parted_len (h_body_here ▸ body_ok _))))))))) (fun h_c => (xo_one (xs_retU xe_bl)))
(fun h_c => (xo_end (s := ()) (by exact (.same (.no (.no (.no .nil))))))))))))) (by rfl))))
(fun (r1 : Unit) h_r1 => (xo_one (xs_retU (xe_and (xe_call (ok__law_is T) hr (by decide) (xa_cons (xe_call (ok_parted T) hr (by decide) (xa_cons xe_str xa_nil) (by exact ⟨by decide, by decide⟩)) (xa_cons (xe_some (xe_tupL (xl_cons xe_none xl_nil) (le100 rfl))) xa_nil)) (by exact parted_len (b := ("" : Str)) ⟨by decide, by decide⟩)) (fun h_c => (xe_one (xe_call (ok__law_is T) hr (by decide) (xa_cons (xe_call (ok_parted T) hr (by decide) (xa_cons xe_str xa_nil) (by exact ⟨by decide, by decide⟩)) (xa_cons (xe_some (xe_tupL (xl_cons (xe_some xe_int) (xl_cons xe_none (xl_cons (xe_some xe_int) xl_nil))) (le100 rfl))) xa_nil)) (by exact parted_len (b := ("3;;7" : Str)) ⟨by decide, by decide⟩)))))))))) (by rfl)) (by rfl)

end

theorem runFor_all {S B R τ : Type} {f : S → τ → Out S S R} {s : S} : ∀ {xs : List τ}, (∀ y ∈ xs, f s y = .nx s) → runFor (B := B) f s xs = .nx s
  | [], _ => rfl
  | y :: r, h => by
    show (match f s y with | .nx s' => runFor f s' r | .ct s' => runFor f s' r | .bk s' => .nx s' | .rt x => .rt x) = _
    rw [h y (by simp)]
    exact runFor_all fun z hz => h z (by simp [hz])
section
variable {S B R τ : Type} {f : S → τ → Out S S R} {s s' : S} {y : τ} {r : List τ} {x : R}
theorem run_ct (h : f s y = .ct s') : runFor (B := B) f s (y :: r) = runFor f s' r := by
  show (match f s y with | .nx s' => runFor f s' r | .ct s' => runFor f s' r | .bk s' => .nx s' | .rt x => .rt x) = _
  rw [h]
theorem run_nx (h : f s y = .nx s') : runFor (B := B) f s (y :: r) = runFor f s' r := by
  show (match f s y with | .nx s' => runFor f s' r | .ct s' => runFor f s' r | .bk s' => .nx s' | .rt x => .rt x) = _
  rw [h]
theorem run_rt (h : f s y = .rt x) : runFor (B := B) f s (y :: r) = .rt x := by
  show (match f s y with | .nx s' => runFor f s' r | .ct s' => runFor f s' r | .bk s' => .nx s' | .rt x => .rt x) = _
  rw [h]
end
theorem mem_izs {lo : Int} {n : Nat} {y : Int} (h : y ∈ izs lo n) : lo ≤ y ∧ y < lo + n := by
  obtain ⟨i, hi⟩ := List.getElem?_of_mem h
  have := izs_get hi
  omega
def mk1 (c : Nat) : Str := ⟨#[c]⟩
abbrev Dg (cs : List Nat) : Prop := ∀ c ∈ cs, 48 ≤ c ∧ c ≤ 57
theorem f2_step {s : Option Int} {n : Nat} (hs : (match s with | some m => if m = 0 then 0 else m | none => 0) = (n : Int)) {c : Nat} (hc : 48 ≤ c ∧ c ≤ 57) : m_l_parted_f2 s (mk1 c) = some ((n * 10 + (c - 48) : Nat) : Int) := by
  unfold m_l_parted_f2 bnd
  dsimp only
  rw [hs, show sidx ("0123456789" : Str) (mk1 c) = ((c - 48 : Nat) : Int) from (sidx_ok hc).2]
  congr 1
  omega
theorem f2_fold : ∀ (cs : List Nat) (n : Nat), Dg cs → (cs.map mk1).foldl m_l_parted_f2 (some (n : Int)) = some ((cs.foldl (fun a c => a * 10 + (c - 48)) n : Nat) : Int)
  | [], n, _ => rfl
  | c :: r, n, h => by
    rw [List.map_cons, List.foldl_cons, f2_step (n := n) (by dsimp only; split <;> omega) (h c (List.mem_cons_self ..))]
    exact f2_fold r _ fun d hd => h d (List.mem_cons_of_mem _ hd)
def tn (w : List Nat) : Option Int := if w = [] then none else some ((PySem.NumText.digitsVal w : Nat) : Int)
theorem signs_S (w : List Nat) : signsL (SX.S w) = w.map mk1 := rfl
theorem f2_word {w : List Nat} (h : Dg w) : (signsL (SX.S w)).foldl m_l_parted_f2 none = tn w := by
  rw [signs_S]
  cases w with
  | nil => rfl
  | cons c r =>
    rw [List.map_cons, List.foldl_cons, f2_step (s := none) (n := 0) rfl (h c (List.mem_cons_self ..)), f2_fold r _ fun d hd => h d (List.mem_cons_of_mem _ hd)]
    rfl
abbrev Sp1 (acc l : List Nat) : List (List Nat) := TL.spl [59] 0 acc l
theorem hit_val {acc : List Nat} (N : List (Option Int)) (h : Dg acc) : m_l_parted_f1 (SX.S acc, N) (mk1 59) = if 3 < acc.length then .rt (none, ()) else .nx (("" : Str), N ++ [tn acc]) := by
  have e := f1_hit (SX.S acc) N
  rw [f2_word h, SX.S_len] at e
  refine e.trans ?_
  by_cases h3 : 3 < acc.length
  · rw [if_pos h3, if_pos (decide_eq_true (by omega))]
  · rw [if_neg h3, if_neg (by rw [decide_eq_false (by omega)]; exact Bool.false_ne_true)]
theorem run_ok : ∀ (l acc : List Nat) (N : List (Option Int)), (∀ c ∈ l, c = 59 ∨ (48 ≤ c ∧ c ≤ 57)) → Dg acc →
    runFor (B := Empty) m_l_parted_f1 (SX.S acc, N) ((l ++ [59]).map mk1) = if (Sp1 acc l).any (fun w => decide (3 < w.length)) = true then .rt (none, ()) else .nx (("" : Str), N ++ (Sp1 acc l).map tn)
  | [], acc, N, _, ha => by
    have e := hit_val N ha
    by_cases h3 : 3 < acc.length
    · rw [if_pos h3] at e
      refine (run_rt e).trans ?_
      rw [if_pos (by show (decide (3 < acc.length) || false) = true; rw [decide_eq_true h3]; rfl)]
    · rw [if_neg h3] at e
      refine (run_nx e).trans ?_
      rw [if_neg (by show ¬ (decide (3 < acc.length) || false) = true; rw [decide_eq_false h3]; exact Bool.false_ne_true)]
      rfl
  | x :: r, acc, N, hl, ha => by
    have hr : ∀ c ∈ r, c = 59 ∨ (48 ≤ c ∧ c ≤ 57) := fun c hc => hl c (List.mem_cons_of_mem _ hc)
    rw [List.cons_append, List.map_cons]
    by_cases hx : x = 59
    · subst hx
      have e := hit_val N ha
      rw [show Sp1 acc (59 :: r) = acc :: Sp1 [] r from spl_hit9 acc r]
      by_cases h3 : 3 < acc.length
      · rw [if_pos h3] at e
        rw [run_rt e, if_pos (by rw [List.any_cons, decide_eq_true h3]; rfl)]
      · rw [if_neg h3] at e
        rw [run_nx e, List.any_cons, decide_eq_false h3, Bool.false_or]
        have := run_ok r [] (N ++ [tn acc]) hr (fun _ h => nomatch h)
        refine Eq.trans this ?_
        split
        · rfl
        · rw [List.map_cons, List.append_assoc]; rfl
    · have hd := (hl x (List.mem_cons_self ..)).resolve_left hx
      rw [show Sp1 acc (x :: r) = Sp1 (acc ++ [x]) r from spl_miss9 acc r hx, run_ct (show m_l_parted_f1 (SX.S acc, N) (mk1 x) = _ from f1_ct (SX.S acc) N hx)]
      rw [show SX.S acc ++ (⟨#[x]⟩ : Str) = SX.S (acc ++ [x]) from SX.S_cat acc [x]]
      exact run_ok r (acc ++ [x]) N hr fun c hc => by
        rcases List.mem_append.mp hc with h | h
        · exact ha c h
        · rw [List.mem_singleton.mp h]; exact hd
theorem max_any {ws : List (List Nat)} (hne : 0 < ws.length) : decide (maxl ((ws.map SX.S).map (fun word : Str => ((word.length : Nat) : Int))) > 3) = ws.any (fun w => decide (3 < w.length)) := by
  have hs := maxl_spec (xs := (ws.map SX.S).map (fun word : Str => ((word.length : Nat) : Int))) (by simpa using hne)
  generalize maxl _ = m at hs ⊢
  obtain ⟨h1, h2⟩ := hs
  rw [Bool.eq_iff_iff, decide_eq_true_eq, List.any_eq_true]
  constructor
  · intro h
    rw [List.map_map, List.mem_map] at h1
    obtain ⟨w, hw, rfl⟩ := h1
    refine ⟨w, hw, decide_eq_true ?_⟩
    have h' : (((SX.S w).length : Nat) : Int) > 3 := h
    rw [SX.S_len] at h'; omega
  · rintro ⟨w, hw, h3⟩
    have h3 := of_decide_eq_true h3
    have := h2 (((SX.S w).length : Nat) : Int) (by rw [List.map_map]; exact List.mem_map_of_mem hw)
    rw [SX.S_len] at this; omega
theorem sp_figs {b : Str} (hb : Body 600 b) : ∀ w ∈ Sp1 [] (tl b), Dg w ∧ w.length ≤ 600 := fun w hw => by
  obtain ⟨h1, h2⟩ := (spl_facts (tl b) []).2.2 w hw
  have h3 := hb.1
  have h4 : w.length ≤ 0 + (tl b).length := h1
  refine ⟨fun c hc => ?_, by omega⟩
  rcases h2 c hc with z | z
  · cases z
  · exact (hb.2 c z.1).resolve_left z.2
theorem word_val {w : List Nat} (h : Dg w) (hl : w.length ≤ 600) : (if (!decide (SX.S w = ("" : Str))) = true then some (tint (SX.S w)) else (none : Option Int)) = tn w := by
  unfold tn
  by_cases hw : w = []
  · subst hw; rfl
  · have hne : SX.S w ≠ ("" : Str) := fun e => hw (SX.S_inj (b := []) e)
    rw [if_neg hw, decide_eq_false hne]
    show some (tint (SX.S w)) = _
    unfold tint
    rw [int_ok (w := SX.S w) ⟨hl, h⟩ hne]
    rfl
theorem parted_eq {b : Str} (hb : Body 600 b) : m_l_parted b = m_parted b := by
  have hf := sp_figs hb
  have hr := run_ok (tl b) [] [] hb.2 (fun _ h => nomatch h)
  have h0 := (spl_facts (tl b) []).1
  have hs := split_semi b
  have hsig : signsL (b ++ (";" : Str)) = (tl b ++ [59]).map mk1 := by
    unfold signsL
    rw [show (b ++ (";" : Str)).cps.toList = tl b ++ [59] from tl_cat _ _]; rfl
  have hw : (Txt.split b (";" : Str)) = (Sp1 [] (tl b)).map SX.S := hs
  unfold m_l_parted m_parted bnd
  dsimp only
  rw [hsig, hw]
  rw [show ((("" : Str), ([] : List (Option Int))) : Str × List (Option Int)) = (SX.S [], []) from rfl, hr]
  have hne : 0 < (Sp1 [] (tl b)).length := List.length_pos_iff.mpr h0
  generalize Sp1 [] (tl b) = ws at hf hne ⊢
  rw [max_any hne]
  cases ha : ws.any (fun w => decide (3 < w.length)) with
  | true =>
    rw [if_pos rfl, Bool.or_true, if_pos rfl]
    rfl
  | false =>
    rw [if_neg Bool.false_ne_true, Bool.or_false]
    have hm : (ws.map SX.S).map (fun word' : Str => if (!decide (word' = ("" : Str))) = true then some (tint word') else (none : Option Int)) = ws.map tn := by
      rw [List.map_map]
      exact List.map_congr_left fun w hw => word_val (hf w hw).1 (hf w hw).2
    rw [hm]
    show (if decide (((([] ++ ws.map tn).length : Nat) : Int) < 7) = true then some (Tup.mk ([] ++ ws.map tn)) else none) = _
    rw [List.nil_append, List.length_map, List.length_map]
    by_cases h7 : ws.length < 7
    · rw [if_pos (decide_eq_true (by omega)), if_neg (by rw [decide_eq_false (by omega)]; exact Bool.false_ne_true)]
    · rw [if_neg (by rw [decide_eq_false (by omega)]; exact Bool.false_ne_true), if_pos (decide_eq_true (by omega))]
theorem is_refl (x : Option (Tup (Option Int))) : m_l_is x x = true := by
  unfold m_l_is
  cases x with
  | none => rfl
  | some t =>
    rw [if_neg (by show ¬ (false || false) = true; exact Bool.false_ne_true)]
    rw [if_neg (by rw [eqb_refl]; exact (by decide : ¬ ((!true) || !true) = true))]
    rw [List.all_eq_true]
    intro z hz
    rw [List.mem_map] at hz
    obtain ⟨o, _, rfl⟩ := hz
    cases o with
    | none => rfl
    | some i => rfl
theorem end1 : m_parted ("" : Str) = some (Tup.mk [none]) := by decide +kernel
theorem end2 : m_parted ("3;;7" : Str) = some (Tup.mk [some 3, none, some 7]) := by decide +kernel
theorem law_true (s : Scr Int) (h : Pre s) : m_law s = true := by
  unfold m_law
  rw [runFor_all fun y hy => by
    unfold m_law_f1 bnd
    dsimp only
    rw [parted_eq (body_ok _), is_refl]
    rfl]
  rw [end1, end2, is_refl, is_refl]
  rfl
theorem walk {l : PySem.W.OpenLaw} {q : Program} {loose : List Str} {XP : (Str → Option Value) → Heap → Prop} {YP : World → Heap → Prop} {d : DefRec} {K : Params → PySem.W.Frag} (hn : l.most = some 63) (hdf : d.params.defaults = []) (hd : d.name = "law")
    (hY : ∀ (w : World) (h : Heap), YP w h → (K w.params).In h)
    (F : ∀ (w : World) (mg : Str → Option Value) (h : Heap), (K w.params).In h → h.Ns mainGlobals mg → Txt (K w.params) mg) :
    PySem.W.WalkO q loose XP YP l.row.toRowW d [] (fun f vs => PySem.call f vs) :=
  walk_fw (Tx := Txt) (x := "_law_script") (lvl := 4) (st := s_law) (m := fun a => m_law a.1) hn hdf ⟨rfl, by decide, by decide⟩ hd hY F (fun _ _ _ _ _ _ v => rfl) (fun _ _ T => T.d_law) (fun T f fd _ Fu => ok_law T Fu) law_true
end Me
open PySem PySem.W PyProof.Rows in
set_option maxRecDepth 100000 in
set_option maxHeartbeats 0 in
theorem PySem.Challenge.cw_signscreen_k05_parted_numbers_holds : PySem.Challenge.rw_signscreen_k05_parted_numbers.Holds := by
  w_on; o_law; k_head; (case hw => w_witness2)
  k_fill
  refine Me.walk (l := PySem.Challenge.rw_signscreen_k05_parted_numbers) rfl rfl rfl (fun w h Y => PySem.W.kIn_of Y) ?F
  case F =>
    intro w mg h KX G
    refine Me.Txt.mk ?d_parted ?d__law_cell_at ?d__law_mixed ?d__law_figures ?d__law_body ?d__law_parted ?d__law_is ?d_law ?c_MOST_FIGURES ?c_MOST_NUMBERS ?b_all ?b_bool ?b_int ?b_isinstance ?b_len ?b_max ?b_min ?b_range ?b_tuple
    case d_parted => (refine' Fw.df_mk KX G ?a ?l ?c ?k; (case a => k_is); (case l => k_is); (case c => k_is); (case k => k_is))
    case d__law_cell_at => (refine' Fw.df_mk KX G ?a ?l ?c ?k; (case a => k_is); (case l => k_is); (case c => k_is); (case k => k_is))
    case d__law_mixed => (refine' Fw.df_mk KX G ?a ?l ?c ?k; (case a => k_is); (case l => k_is); (case c => k_is); (case k => k_is))
    case d__law_figures => (refine' Fw.df_mk KX G ?a ?l ?c ?k; (case a => k_is); (case l => k_is); (case c => k_is); (case k => k_is))
    case d__law_body => (refine' Fw.df_mk KX G ?a ?l ?c ?k; (case a => k_is); (case l => k_is); (case c => k_is); (case k => k_is))
    case d__law_parted => (refine' Fw.df_mk KX G ?a ?l ?c ?k; (case a => k_is); (case l => k_is); (case c => k_is); (case k => k_is))
    case d__law_is => (refine' Fw.df_mk KX G ?a ?l ?c ?k; (case a => k_is); (case l => k_is); (case c => k_is); (case k => k_is))
    case d_law => (refine' Fw.df_mk KX G ?a ?l ?c ?k; (case a => k_is); (case l => k_is); (case c => k_is); (case k => k_is))
    case c_MOST_FIGURES => (refine' Fw.ci_mk KX G ?a; (case a => k_is))
    case c_MOST_NUMBERS => (refine' Fw.ci_mk KX G ?a; (case a => k_is))
    case b_all => (refine' PySem.W.mg_none_of KX G ?a; (case a => k_is))
    case b_bool => (refine' PySem.W.mg_none_of KX G ?a; (case a => k_is))
    case b_int => (refine' PySem.W.mg_none_of KX G ?a; (case a => k_is))
    case b_isinstance => (refine' PySem.W.mg_none_of KX G ?a; (case a => k_is))
    case b_len => (refine' PySem.W.mg_none_of KX G ?a; (case a => k_is))
    case b_max => (refine' PySem.W.mg_none_of KX G ?a; (case a => k_is))
    case b_min => (refine' PySem.W.mg_none_of KX G ?a; (case a => k_is))
    case b_range => (refine' PySem.W.mg_none_of KX G ?a; (case a => k_is))
    case b_tuple => (refine' PySem.W.mg_none_of KX G ?a; (case a => k_is))
