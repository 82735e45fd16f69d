import PyProof.Rows.All
import Wide.All
import OpenK.AllK
import Wide.FinOn
import HandS.ForMost
import HandS.IsInst
import HandS.Wide
import HandS.EndBits
import HandS.Walk
import HandS.ForExc
import HandS.WordsExc
import HandS.Finally
import HandS.More
import HandS.Exc
import HandS.ExcOwn
import HandS.TryOnly
import HandS.Defaults
import HandS.TupLe
import HandS.Codes
import HandS.Replace
import HandS.Flow
import KE.IntTextLaws
import KE.IntBitsLaws
import HandS.WideBits
import KE.GoesEnum
import HandS.SortInts
import HandS.Style
import HandS.SortKw
import HandS.DictComp
import KE.DataMinMax
import HandS.Conv
import HandS.ExcIs
import HandS.Steps
import HandS.CallSlots
import HandS.SetFor
import KE.KDictZip
import HandS.FStr
import HandS.Strs
import KE.GoesMore
import KE.GoesZip
import PyProof.ListNew
import HandS.GenBody
import KE.KDictPairs
import KE.KDictCopyH
import PySem.Challenge.RW_signscreen_k27_ways_done
set_option Elab.async false
set_option linter.all false
set_option maxRecDepth 100000
set_option maxHeartbeats 4000000
/-! Fw: data as it lies in the heap (frozen F, all H), slots, expressions and statements by what they are worth. -/
namespace Fw
open PySem L2
abbrev Fg := PySem.W.Frag

def Ex (H H' : Hp) : Prop := ∀ a o, H a = some o → H' a = some o
theorem Ex.refl (H : Hp) : Ex H H := fun _ _ h => h
theorem Ex.trans {H H1 H2 : Hp} (a : Ex H H1) (b : Ex H1 H2) : Ex H H2 := fun x o h => b x o (a x o h)
theorem Ex.new {H : Hp} {p : Addr} {o : HO} (h : H p = none) : Ex H (upd H p o) := fun a u e => by
  rw [upd_ne (ne_of_none e h)]; exact e
theorem Ex.upd {F H : Hp} {p : Addr} {o : HO} (e : Ex F H) (h : F p = none) : Ex F (upd H p o) := fun a u ha => by
  rw [upd_ne (ne_of_none ha h)]; exact e a u ha
theorem Ex.rd {H H' : Hp} {a : Addr} {u : HO} (e : Ex H H') (h : Rd H a u) : Rd H' a u := by
  rcases h with h | ⟨o, h⟩
  · exact .inl (e _ _ h)
  · exact .inr ⟨o, e _ _ h⟩
theorem Ex.l {K : Fg} {H H' : Hp} {a : Addr} {xs : List V} (e : Ex H H') (h : SqL K H a xs) : SqL K H' a xs := by
  rcases h with h | h
  · exact .inl (e.rd h)
  · exact .inr h
theorem Ex.t {K : Fg} {H H' : Hp} {a : Addr} {xs : List V} (e : Ex H H') (h : SqT K H a xs) : SqT K H' a xs := by
  rcases h with h | h
  · exact .inl (e.rd h)
  · exact .inr h

/-- what is new in the frozen part was nowhere before -/
structure Nw (F H F' H' : Hp) : Prop where
  h : Ex H H'
  n : ∀ b, F' b ≠ none → F b ≠ none ∨ H b = none
theorem Nw.refl {F H : Hp} : Nw F H F H := ⟨Ex.refl _, fun _ h => .inl h⟩
theorem Nw.trans {F H F1 H1 F2 H2 : Hp} (a : Nw F H F1 H1) (b : Nw F1 H1 F2 H2) : Nw F H F2 H2 := ⟨a.h.trans b.h, fun x hx => by
  rcases b.n x hx with q | q
  · exact a.n x q
  · refine .inr ?_
    cases z : H x with
    | none => rfl
    | some o => rw [a.h _ _ z] at q; cases q⟩
theorem Nw.lay {F H : Hp} {p : Addr} {o : HO} (hp : H p = none) : Nw F H (upd F p o) (upd H p o) := ⟨Ex.new hp, fun b hb => by
  by_cases ha : b = p
  · subst ha; exact .inr hp
  · rw [upd_ne ha] at hb; exact .inl hb⟩
/-! ### data -/
class Py (τ : Type) where
  rep : Fg → Hp → V → τ → Prop
  mono : ∀ {K : Fg} {F F' : Hp} {v : V} {x : τ}, Ex F F' → rep K F v x → rep K F' v x
open Py
def Reps {τ : Type} [Py τ] (K : Fg) (F : Hp) : List V → List τ → Prop := Paired (rep K F)
theorem Reps.mono {τ : Type} [Py τ] {K : Fg} {F F' : Hp} (e : Ex F F') : ∀ {vs : List V} {xs : List τ}, Reps K F vs xs → Reps K F' vs xs
  | _, _, .nil => .nil
  | _, _, .cons r t => .cons (Py.mono e r) (Reps.mono e t)
theorem Reps.length {τ : Type} [Py τ] {K : Fg} {F : Hp} {vs : List V} {xs : List τ} (r : Reps K F vs xs) : vs.length = xs.length := Paired.length r
theorem Reps.get {τ : Type} [Py τ] {K : Fg} {F : Hp} : ∀ {vs : List V} {xs : List τ} {i : Nat} {v : V}, Reps K F vs xs → vs[i]? = some v → ∃ x, xs[i]? = some x ∧ rep K F v x
  | _, _, _, _, .nil, e => by simp at e
  | _, _, 0, _, .cons r _, e => by simp at e; subst e; exact ⟨_, rfl, r⟩
  | _, _, i + 1, v, .cons _ t, e => by
    obtain ⟨x, h1, h2⟩ := Reps.get (i := i) (v := v) t (by simpa using e)
    exact ⟨x, by simpa using h1, h2⟩
theorem Reps.get' {τ : Type} [Py τ] {K : Fg} {F : Hp} : ∀ {vs : List V} {xs : List τ} {i : Nat} {x : τ}, Reps K F vs xs → xs[i]? = some x → ∃ v, vs[i]? = some v ∧ rep K F v x
  | _, _, _, _, .nil, e => by simp at e
  | _, _, 0, _, .cons r _, e => by simp at e; subst e; exact ⟨_, rfl, r⟩
  | _, _, i + 1, v, .cons _ t, e => by
    obtain ⟨x, h1, h2⟩ := Reps.get' (i := i) (x := v) t (by simpa using e)
    exact ⟨x, by simpa using h1, h2⟩
theorem Reps.app {τ : Type} [Py τ] {K : Fg} {F : Hp} : ∀ {vs ws : List V} {xs ys : List τ}, Reps K F vs xs → Reps K F ws ys → Reps K F (vs ++ ws) (xs ++ ys)
  | _, _, _, _, .nil, s => s
  | _, _, _, _, .cons r t, s => .cons r (Reps.app t s)
theorem Reps.one {τ : Type} [Py τ] {K : Fg} {F : Hp} {v : V} {x : τ} (r : rep K F v x) : Reps K F [v] [x] := .cons r .nil
theorem Reps.take {τ : Type} [Py τ] {K : Fg} {F : Hp} : ∀ {vs : List V} {xs : List τ} (n : Nat), Reps K F vs xs → Reps K F (vs.take n) (xs.take n)
  | _, _, 0, _ => .nil
  | _, _, _ + 1, .nil => .nil
  | _, _, n + 1, .cons r t => .cons r (Reps.take n t)
theorem Reps.drop {τ : Type} [Py τ] {K : Fg} {F : Hp} : ∀ {vs : List V} {xs : List τ} (n : Nat), Reps K F vs xs → Reps K F (vs.drop n) (xs.drop n)
  | _, _, 0, r => r
  | _, _, _ + 1, .nil => .nil
  | _, _, n + 1, .cons _ t => Reps.drop n t
theorem Reps.set {τ : Type} [Py τ] {K : Fg} {F : Hp} {v : V} {x : τ} (q : rep K F v x) : ∀ {vs : List V} {xs : List τ} (n : Nat), Reps K F vs xs → Reps K F (vs.set n v) (xs.set n x)
  | _, _, _, .nil => .nil
  | _, _, 0, .cons _ t => .cons q t
  | _, _, n + 1, .cons r t => .cons r (Reps.set q n t)
theorem Reps.map {τ : Type} [Py τ] {K : Fg} {F : Hp} {g : τ → V} (hg : ∀ x, rep K F (g x) x) : ∀ xs : List τ, Reps K F (xs.map g) xs
  | [] => .nil
  | x :: r => .cons (hg x) (Reps.map hg r)

instance : Py Int := ⟨fun _ _ v x => v = .int x, fun _ h => h⟩
instance : Py Bool := ⟨fun _ _ v x => v = .bl x, fun _ h => h⟩
instance : Py Str := ⟨fun _ _ v x => v = .str x, fun _ h => h⟩
instance : Py Unit := ⟨fun _ _ v _ => v = .non, fun _ h => h⟩
instance {τ : Type} [Py τ] : Py (Option τ) := ⟨fun K F v x => match x with
  | none => v = .non
  | some y => rep K F v y, fun {K F F' v x} e h => by
    cases x with
    | none => exact h
    | some y => exact Py.mono e h⟩
instance {τ : Type} [Py τ] : Py (List τ) := ⟨fun K F v x => ∃ a vs, v = .ref a ∧ F a = some (.lst vs) ∧ Reps K F vs x,
  fun e ⟨a, vs, h1, h2, h3⟩ => ⟨a, vs, h1, e _ _ h2, h3.mono e⟩⟩
/-- a list that is only read (the script, a list of the module) -/
structure Scr (τ : Type) where
  l : List τ
instance {τ : Type} [Py τ] : Py (Scr τ) := ⟨fun K F v x => ∃ a vs, v = .ref a ∧ SqL K F a vs ∧ Reps K F vs x.l,
  fun e ⟨a, vs, h1, h2, h3⟩ => ⟨a, vs, h1, e.l h2, h3.mono e⟩⟩
theorem sq_of {K : Fg} {H : Hp} {a : Addr} {xs : List V} (h : H a = some (.lst xs)) : SqL K H a xs := Or.inl (Or.inl h)
theorem st_of {K : Fg} {H : Hp} {a : Addr} {xs : List V} (h : H a = some (.tup xs)) : SqT K H a xs := Or.inl (Or.inl h)
/-- lists that are read, of either kind -/
class PyL (υ : Type) (τ : outParam Type) [Py υ] [Py τ] where
  li : υ → List τ
  sq : ∀ {K : Fg} {F : Hp} {v : V} {x : υ}, rep K F v x → ∃ a vs, v = .ref a ∧ SqL K F a vs ∧ Reps K F vs (li x)
instance {τ : Type} [Py τ] : PyL (List τ) τ := ⟨fun x => x, fun ⟨a, vs, h1, h2, h3⟩ => ⟨a, vs, h1, sq_of h2, h3⟩⟩
instance {τ : Type} [Py τ] : PyL (Scr τ) τ := ⟨Scr.l, fun ⟨a, vs, h1, h2, h3⟩ => ⟨a, vs, h1, h2, h3⟩⟩
/-- a tuple of one kind -/
structure Tup (τ : Type) where
  l : List τ
  deriving DecidableEq
instance {τ : Type} [Py τ] : Py (Tup τ) := ⟨fun K F v x => ∃ a vs, v = .ref a ∧ SqT K F a vs ∧ Reps K F vs x.l,
  fun e ⟨a, vs, h1, h2, h3⟩ => ⟨a, vs, h1, e.t h2, h3.mono e⟩⟩
structure T3 (α β γ : Type) where
  a : α
  b : β
  c : γ
  deriving DecidableEq
structure T4 (α β γ δ : Type) where
  a : α
  b : β
  c : γ
  d : δ
  deriving DecidableEq
structure T5 (α β γ δ ε : Type) where
  a : α
  b : β
  c : γ
  d : δ
  e : ε
  deriving DecidableEq
instance {α β γ : Type} [Inhabited α] [Inhabited β] [Inhabited γ] : Inhabited (T3 α β γ) := ⟨⟨default, default, default⟩⟩
instance {α β γ δ : Type} [Inhabited α] [Inhabited β] [Inhabited γ] [Inhabited δ] : Inhabited (T4 α β γ δ) := ⟨⟨default, default, default, default⟩⟩
instance {α β γ δ ε : Type} [Inhabited α] [Inhabited β] [Inhabited γ] [Inhabited δ] [Inhabited ε] : Inhabited (T5 α β γ δ ε) := ⟨⟨default, default, default, default, default⟩⟩
instance {α : Type} : Inhabited (Tup α) := ⟨⟨[]⟩⟩
section
variable {α β γ δ ε : Type} [Py α] [Py β] [Py γ] [Py δ] [Py ε]
instance : Py (α × β) := ⟨fun K F v x => ∃ p a b, v = .ref p ∧ SqT K F p [a, b] ∧ rep K F a x.1 ∧ rep K F b x.2,
  fun e ⟨p, a, b, h1, h2, h3, h4⟩ => ⟨p, a, b, h1, e.t h2, Py.mono e h3, Py.mono e h4⟩⟩
instance : Py (T3 α β γ) := ⟨fun K F v x => ∃ p a b c, v = .ref p ∧ SqT K F p [a, b, c] ∧ rep K F a x.a ∧ rep K F b x.b ∧ rep K F c x.c,
  fun e ⟨p, a, b, c, h1, h2, h3, h4, h5⟩ => ⟨p, a, b, c, h1, e.t h2, Py.mono e h3, Py.mono e h4, Py.mono e h5⟩⟩
instance : Py (T4 α β γ δ) := ⟨fun K F v x => ∃ p a b c d, v = .ref p ∧ SqT K F p [a, b, c, d] ∧ rep K F a x.a ∧ rep K F b x.b ∧ rep K F c x.c ∧ rep K F d x.d,
  fun e ⟨p, a, b, c, d, h1, h2, h3, h4, h5, h6⟩ => ⟨p, a, b, c, d, h1, e.t h2, Py.mono e h3, Py.mono e h4, Py.mono e h5, Py.mono e h6⟩⟩
instance : Py (T5 α β γ δ ε) := ⟨fun K F v x => ∃ p a b c d q, v = .ref p ∧ SqT K F p [a, b, c, d, q] ∧ rep K F a x.a ∧ rep K F b x.b ∧ rep K F c x.c ∧ rep K F d x.d ∧ rep K F q x.e,
  fun e ⟨p, a, b, c, d, q, h1, h2, h3, h4, h5, h6, h7⟩ => ⟨p, a, b, c, d, q, h1, e.t h2, Py.mono e h3, Py.mono e h4, Py.mono e h5, Py.mono e h6, Py.mono e h7⟩⟩
end

/-! ### owned things: trees of objects that may change -/
inductive Kind where
  | lst
  | ins (C : Addr) (ns : List Str)
  | dK (ks : List Key)
  | dT (ks : List (List Key))
/-- a tree: frozen data, a hole, an object with its parts -/
inductive OT : Type 1 where
  | fz {τ : Type} [inst : Py τ] (x : τ)
  | hole (a : Addr)
  | nd (k : Kind) (ts : List OT)
/-- the object o is of kind k, with the parts vs -/
def KO (K : Fg) : Kind → HO → List V → Prop
  | .lst, o, vs => o = .lst vs
  | .ins C ns, o, vs => (Cls K C ∧ ∀ n ∈ ns, NoAttr K C n) ∧ ns.length = vs.length ∧ ∃ dx, o = .ins C dx (ns.zip vs)
  | .dK ks, o, vs => ks.length = vs.length ∧ o = .dK (ks.zip vs)
  | .dT ks, o, vs => ks.length = vs.length ∧ o = .dT (ks.zip vs)
def kids : HO → List V
  | .lst vs => vs
  | .ins _ _ fs => fs.map (·.2)
  | .dK kvs => kvs.map (·.2)
  | .dT kvs => kvs.map (·.2)
  | _ => []
theorem KO.kids {K : Fg} {k : Kind} {o : HO} {vs : List V} (h : KO K k o vs) : kids o = vs := by
  cases k with
  | lst => subst h; rfl
  | ins C ns =>
    obtain ⟨_, hl, dx, rfl⟩ := h
    show (ns.zip vs).map Prod.snd = vs
    rw [List.map_snd_zip]; omega
  | dK ks =>
    obtain ⟨hl, rfl⟩ := h
    show (ks.zip vs).map Prod.snd = vs
    rw [List.map_snd_zip]; omega
  | dT ks =>
    obtain ⟨hl, rfl⟩ := h
    show (ks.zip vs).map Prod.snd = vs
    rw [List.map_snd_zip]; omega
/-- three rows in step -/
def L3 (P : V → List Addr → OT → Prop) (vs : List V) (fps : List (List Addr)) (ts : List OT) : Prop :=
  vs.length = ts.length ∧ fps.length = ts.length ∧ ∀ (i : Nat) v l t, vs[i]? = some v → fps[i]? = some l → ts[i]? = some t → P v l t
inductive OA (K : Fg) (F H : Hp) : V → List Addr → OT → Prop where
  | fz {τ : Type} [Py τ] {x : τ} {v : V} (r : rep K F v x) : OA K F H v [] (.fz x)
  | hole {a : Addr} : OA K F H (.ref a) [] (.hole a)
  | nd {a : Addr} {o : HO} {k : Kind} {vs : List V} {ts : List OT} (fps : List (List Addr)) (hF : F a = none) (hH : H a = some o) (ko : KO K k o vs)
      (l1 : vs.length = ts.length) (l2 : fps.length = ts.length) (hc : ∀ (i : Nat) v l t, vs[i]? = some v → fps[i]? = some l → ts[i]? = some t → OA K F H v l t) (nd : (a :: fps.flatten).Nodup) : OA K F H (.ref a) (a :: fps.flatten) (.nd k ts)
section L3
variable {P : V → List Addr → OT → Prop} {vs ws : List V} {fps gps : List (List Addr)} {ts us : List OT}
theorem L3.nil : L3 P [] [] [] := ⟨rfl, rfl, fun i v l t h => by simp at h⟩
theorem L3.cons {v : V} {l : List Addr} {t : OT} (h : P v l t) (r : L3 P vs fps ts) : L3 P (v :: vs) (l :: fps) (t :: ts) := ⟨by simp [r.1], by simp [r.2.1], fun i => by
  cases i with
  | zero => intro v' l' t' h1 h2 h3; simp at h1 h2 h3; subst h1; subst h2; subst h3; exact h
  | succ i => intro v' l' t' h1 h2 h3; exact r.2.2 i v' l' t' (by simpa using h1) (by simpa using h2) (by simpa using h3)⟩
theorem L3.head {v : V} {l : List Addr} {t : OT} (r : L3 P (v :: vs) (l :: fps) (t :: ts)) : P v l t := r.2.2 0 v l t rfl rfl rfl
theorem L3.tail {v : V} {l : List Addr} {t : OT} (r : L3 P (v :: vs) (l :: fps) (t :: ts)) : L3 P vs fps ts := ⟨by simpa using r.1, by simpa using r.2.1, fun i v' l' t' h1 h2 h3 => r.2.2 (i + 1) v' l' t' (by simpa using h1) (by simpa using h2) (by simpa using h3)⟩
theorem L3.imp {Q : V → List Addr → OT → Prop} (r : L3 P vs fps ts) (h : ∀ v l t, l ∈ fps → P v l t → Q v l t) : L3 Q vs fps ts := ⟨r.1, r.2.1, fun i v l t h1 h2 h3 => h v l t (List.mem_of_getElem? h2) (r.2.2 i v l t h1 h2 h3)⟩
theorem L3.app (r : L3 P vs fps ts) (q : L3 P ws gps us) : L3 P (vs ++ ws) (fps ++ gps) (ts ++ us) := by
  induction vs generalizing fps ts with
  | nil =>
    have h1 := r.1; have h2 := r.2.1
    cases ts with
    | nil => cases fps with
      | nil => exact q
      | cons => simp at h2
    | cons => simp at h1
  | cons v vs ih =>
    have h1 := r.1; have h2 := r.2.1
    cases ts with
    | nil => simp at h1
    | cons t ts => cases fps with
      | nil => simp at h2
      | cons l fps => exact .cons r.head (ih r.tail)
theorem L3.get (r : L3 P vs fps ts) {i : Nat} {t : OT} (h : ts[i]? = some t) : ∃ v l, vs[i]? = some v ∧ fps[i]? = some l ∧ P v l t := by
  have hi := (List.getElem?_eq_some_iff.mp h).1
  have h1 := r.1; have h2 := r.2.1
  exact ⟨vs[i], fps[i], by simp [h1, hi], by simp [h2, hi], r.2.2 i _ _ _ (by simp [h1, hi]) (by simp [h2, hi]) h⟩
theorem L3.take (r : L3 P vs fps ts) (n : Nat) : L3 P (vs.take n) (fps.take n) (ts.take n) := by
  refine ⟨by simp [r.1], by simp [r.2.1], fun i v l t h1 h2 h3 => ?_⟩
  rw [List.getElem?_take] at h1 h2 h3
  split at h1
  · rename_i hi
    rw [if_pos hi] at h2 h3
    exact r.2.2 i v l t h1 h2 h3
  · cases h1
theorem L3.drop (r : L3 P vs fps ts) (n : Nat) : L3 P (vs.drop n) (fps.drop n) (ts.drop n) := by
  refine ⟨by simp [r.1], by simp [r.2.1], fun i v l t h1 h2 h3 => ?_⟩
  rw [List.getElem?_drop] at h1 h2 h3
  exact r.2.2 _ v l t h1 h2 h3
theorem L3.set (r : L3 P vs fps ts) (i : Nat) {v : V} {l : List Addr} {t : OT} (h : P v l t) : L3 P (vs.set i v) (fps.set i l) (ts.set i t) := by
  refine ⟨by simp [r.1], by simp [r.2.1], fun j v' l' t' h1 h2 h3 => ?_⟩
  by_cases hj : j = i
  · subst hj
    have hj : j < ts.length := by
      have := (List.getElem?_eq_some_iff.mp h3).1
      simpa using this
    rw [List.getElem?_set_self (by rw [r.1]; exact hj)] at h1
    rw [List.getElem?_set_self (by rw [r.2.1]; exact hj)] at h2
    rw [List.getElem?_set_self hj] at h3
    cases h1; cases h2; cases h3
    exact h
  · rw [List.getElem?_set_ne (Ne.symm hj)] at h1 h2 h3
    exact r.2.2 j v' l' t' h1 h2 h3
theorem L3.erase (r : L3 P vs fps ts) (i : Nat) : L3 P (vs.eraseIdx i) (fps.eraseIdx i) (ts.eraseIdx i) := by
  rw [List.eraseIdx_eq_take_drop_succ, List.eraseIdx_eq_take_drop_succ, List.eraseIdx_eq_take_drop_succ]
  exact (r.take i).app (r.drop (i + 1))
end L3
theorem flat_set {fps : List (List Addr)} {i : Nat} {l l' : List Addr} (h : fps[i]? = some l) : (fps.flatten).Perm (l ++ (fps.eraseIdx i).flatten) ∧ ((fps.set i l').flatten).Perm (l' ++ (fps.eraseIdx i).flatten) := by
  induction fps generalizing i with
  | nil => simp at h
  | cons x r ih =>
    cases i with
    | zero => 
      simp at h; subst h
      exact ⟨by simp, by simp⟩
    | succ i =>
      obtain ⟨h1, h2⟩ := ih (by simpa using h)
      constructor
      · simp only [List.flatten_cons, List.eraseIdx_cons_succ]
        refine (List.Perm.append_left x h1).trans ?_
        rw [← List.append_assoc, ← List.append_assoc]
        exact List.Perm.append_right _ List.perm_append_comm
      · simp only [List.set_cons_succ, List.flatten_cons, List.eraseIdx_cons_succ]
        refine (List.Perm.append_left x h2).trans ?_
        rw [← List.append_assoc, ← List.append_assoc]
        exact List.Perm.append_right _ List.perm_append_comm
section
variable {K : Fg} {F F' H H' : Hp} {v : V} {l : List Addr} {t u : OT}
theorem OA.l3 {k : Kind} {ts : List OT} (h : OA K F H v l (.nd k ts)) : ∃ a o vs fps, v = .ref a ∧ l = a :: fps.flatten ∧ F a = none ∧ H a = some o ∧ KO K k o vs ∧ L3 (OA K F H) vs fps ts ∧ (a :: fps.flatten).Nodup := by
  cases h with
  | nd fps hF hH ko l1 l2 hc nd => exact ⟨_, _, _, fps, rfl, rfl, hF, hH, ko, ⟨l1, l2, hc⟩, nd⟩
theorem OA.mk {a : Addr} {o : HO} {k : Kind} {vs : List V} {ts : List OT} {fps : List (List Addr)} (hF : F a = none) (hH : H a = some o) (ko : KO K k o vs) (hc : L3 (OA K F H) vs fps ts) (nd : (a :: fps.flatten).Nodup) : OA K F H (.ref a) (a :: fps.flatten) (.nd k ts) := .nd fps hF hH ko hc.1 hc.2.1 hc.2.2 nd
theorem OA.grow (h : OA K F H v l t) (e : Ex F F') : (∀ b ∈ l, F' b = none ∧ H' b = H b) → OA K F' H' v l t := by
  induction h with
  | fz r => exact fun _ => .fz (Py.mono e r)
  | hole => exact fun _ => .hole
  | nd fps hF hH ko l1 l2 hc nd ih =>
    intro k
    obtain ⟨k1, k2⟩ := k _ (List.mem_cons_self ..)
    exact .nd fps k1 (k2.trans hH) ko l1 l2 (fun i v l t h1 h2 h3 => ih i v l t h1 h2 h3 fun b hb => k b (List.mem_cons_of_mem _ (List.mem_flatten.mpr ⟨l, List.mem_of_getElem? h2, hb⟩))) nd
theorem OA.dom (h : OA K F H v l t) : ∀ b ∈ l, F b = none ∧ ∃ o, H b = some o := by
  induction h with
  | fz r => intro b hb; cases hb
  | hole => intro b hb; cases hb
  | nd fps hF hH ko l1 l2 hc nd ih =>
    intro b hb
    rcases List.mem_cons.mp hb with rfl | hb
    · exact ⟨hF, _, hH⟩
    · obtain ⟨l, hl, hb⟩ := List.mem_flatten.mp hb
      obtain ⟨i, hi⟩ := List.getElem?_of_mem hl
      have h0 : i < fps.length := (List.getElem?_eq_some_iff.mp hi).1
      exact ih i _ l _ (by rw [List.getElem?_eq_getElem (by omega)]) hi (by rw [List.getElem?_eq_getElem (by omega)]) b hb
theorem OA.nodup (h : OA K F H v l t) : l.Nodup := by
  cases h with
  | fz r => exact List.nodup_nil
  | hole => exact List.nodup_nil
  | nd fps hF hH ko l1 l2 hc nd => exact nd
/-! places in a tree -/
def OT.get? : OT → List Nat → Option OT
  | t, [] => some t
  | .nd _ ts, i :: p => match ts[i]? with
    | some t => t.get? p
    | none => none
  | _, _ :: _ => none
def OT.put : OT → List Nat → OT → OT
  | _, [], u => u
  | .nd k ts, i :: p, u => match ts[i]? with
    | some t => .nd k (ts.set i (t.put p u))
    | none => .nd k ts
  | t, _ :: _, _ => t
def follow (H : Hp) : V → List Nat → Option V
  | v, [] => some v
  | .ref a, i :: p => match H a with
    | some o => match (kids o)[i]? with
      | some w => follow H w p
      | none => none
    | none => none
  | _, _ :: _ => none
theorem follow_ex {H H' : Hp} (e : Ex H H') : ∀ {p : List Nat} {v w : V}, follow H v p = some w → follow H' v p = some w
  | [], v, w, h => by simpa [follow] using h
  | i :: p, v, w, h => by
    cases v with
    | ref a =>
      unfold follow at h ⊢
      cases q : H a with
      | none => rw [q] at h; cases h
      | some o =>
        rw [q] at h
        rw [e _ _ q]
        dsimp only at h ⊢
        cases q2 : (kids o)[i]? with
        | none => rw [q2] at h; cases h
        | some z => rw [q2] at h; exact follow_ex e h
    | _ => unfold follow at h; cases h
/-- a part of a tree taken, changed where it stands -/
theorem OA.focus : ∀ {p : List Nat} {v : V} {l : List Addr} {t : OT}, OA K F H v l t → t.get? p = some u → ∃ w l2 l1, follow H v p = some w ∧ OA K F H w l2 u ∧ l.Perm (l2 ++ l1) ∧
    ∀ F' H' l2' u', Ex F F' → (∀ b ∈ l1, F' b = none ∧ H' b = H b) → OA K F' H' w l2' u' → (∀ b ∈ l2', b ∉ l1) → ∃ l', OA K F' H' v l' (t.put p u') ∧ l'.Perm (l2' ++ l1)
  | [], v, l, t, h, g => by
    cases (show some t = some u from g)
    exact ⟨v, l, [], by unfold follow; rfl, h, by simp, fun F' H' l2' u' e k h' d => ⟨l2', h', by simp⟩⟩
  | i :: p, v, l, t, h, g => by
    cases t with
    | fz x => unfold OT.get? at g; cases g
    | hole a => unfold OT.get? at g; cases g
    | nd k ts =>
      unfold OT.get? at g
      cases q : ts[i]? with
      | none => rw [q] at g; cases g
      | some t =>
        rw [q] at g
        obtain ⟨a, o, vs, fps, rfl, rfl, hF, hH, ko, hc, nd⟩ := h.l3
        obtain ⟨x, lx, g1, g2, g3⟩ := hc.get q
        obtain ⟨w, l2, l1, f1, f2, f3, f4⟩ := OA.focus (p := p) g3 g
        refine ⟨w, l2, a :: (l1 ++ (fps.eraseIdx i).flatten), ?_, f2, ?_, fun F' H' l2' u' e kk h' d => ?_⟩
        · unfold follow
          rw [hH]
          dsimp only
          rw [ko.kids, g1]
          exact f1
        · have fs := flat_set (l' := lx) g2
          refine (List.Perm.cons a (fs.1.trans (List.Perm.append_right _ f3))).trans ?_
          rw [List.append_assoc]
          exact List.perm_middle.symm
        · obtain ⟨l', k1, k2⟩ := f4 F' H' l2' u' e (fun b hb => kk b (by simp [hb])) h' (fun b hb hb2 => d b hb (by simp [hb2]))
          have fs := flat_set (l' := l') g2
          have er := hc.erase i
          obtain ⟨ka1, ka2⟩ := kk a (by simp)
          have pm : (a :: (fps.set i l').flatten).Perm (l2' ++ (a :: (l1 ++ (fps.eraseIdx i).flatten))) := by
            refine (List.Perm.cons a (fs.2.trans (List.Perm.append_right _ k2))).trans ?_
            rw [List.append_assoc]
            exact List.perm_middle.symm
          have n0 : (a :: (l1 ++ (fps.eraseIdx i).flatten)).Nodup := by
            have h1 : (a :: fps.flatten).Perm (l2 ++ (a :: (l1 ++ (fps.eraseIdx i).flatten))) := by
              refine (List.Perm.cons a (fs.1.trans (List.Perm.append_right _ f3))).trans ?_
              rw [List.append_assoc]
              exact List.perm_middle.symm
            exact (List.nodup_append.mp (h1.nodup_iff.mp nd)).2.1
          refine ⟨a :: (fps.set i l').flatten, ?_, pm⟩
          unfold OT.put
          rw [q]
          dsimp only
          have cs : L3 (OA K F' H') (vs.set i x) (fps.set i l') (ts.set i (t.put p u')) := by
            refine ⟨by simp [hc.1], by simp [hc.2.1], fun j v' m t' h1 h2 h3 => ?_⟩
            by_cases hj : j = i
            · subst hj
              have hj : j < ts.length := (List.getElem?_eq_some_iff.mp q).1
              rw [List.getElem?_set_self (by rw [hc.1]; exact hj)] at h1
              rw [List.getElem?_set_self (by rw [hc.2.1]; exact hj)] at h2
              rw [List.getElem?_set_self hj] at h3
              cases h1; cases h2; cases h3
              exact k1
            · rw [List.getElem?_set_ne (Ne.symm hj)] at h1 h2 h3
              refine (hc.2.2 j v' m t' h1 h2 h3).grow e fun b hb => kk b ?_
              refine List.mem_cons_of_mem _ (List.mem_append_right _ (List.mem_flatten.mpr ⟨m, ?_, hb⟩))
              rw [List.mem_eraseIdx_iff_getElem?]
              exact ⟨j, hj, h2⟩
          have vx : vs.set i x = vs := by
            apply List.ext_getElem?
            intro j
            by_cases hj : j = i
            · subst hj
              rw [List.getElem?_set_self (List.getElem?_eq_some_iff.mp g1).1, g1]
            · rw [List.getElem?_set_ne (Ne.symm hj)]
          rw [vx] at cs
          refine OA.mk ka1 (ka2.trans hH) ko cs (pm.nodup_iff.mpr (List.nodup_append.mpr ⟨h'.nodup, n0, fun b hb c hc e => d b hb (e ▸ hc)⟩))
end

/-! ### slots -/
inductive Slot : Type 1 where
  | no
  | fz {τ : Type} [inst : Py τ] (x : τ)
  | ow (oa : Option Addr) (t : OT)
def Slot.ok (K : Fg) (F H : Hp) (v : Option V) (fp : List Addr) : Slot → Prop
  | .no => fp = []
  | @Slot.fz _ _ x => fp = [] ∧ ∃ u, v = some u ∧ rep K F u x
  | .ow oa t => ∃ u, v = some u ∧ OA K F H u fp t ∧ ∀ a, oa = some a → u = .ref a
/-- where a def began: what was frozen, all that stood, what it may change -/
structure Cw where
  F0 : Hp
  H0 : Hp
  W : Addr → Prop
def Cw.al (c : Cw) (b : Addr) : Prop := c.W b ∨ c.H0 b = none
structure Wd (c : Cw) (F H : Hp) : Prop where
  f0 : Ex c.F0 F
  fh : Ex F H
  keep : ∀ b o, ¬ c.W b → c.H0 b = some o → H b = some o
  new : ∀ b, F b ≠ none → c.F0 b ≠ none ∨ c.al b
theorem Wd.fresh {c : Cw} {F H : Hp} {a : Addr} (w : Wd c F H) (h : H a = none) : c.al a := by
  by_cases hw : c.W a
  · exact .inl hw
  · refine .inr ?_
    cases q : c.H0 a with
    | none => rfl
    | some o => rw [w.keep _ _ hw q] at h; cases h
structure EnvD (K : Fg) (c : Cw) (F H : Hp) (σ : L2.St) (Γ : List Slot) (fp : Nat → List Addr) : Prop where
  wd : Wd c F H
  len : σ.length = Γ.length
  ok : ∀ (i : Nat) (s : Slot), Γ[i]? = some s → ∃ v, σ[i]? = some v ∧ s.ok K F H v (fp i)
  dis : ∀ i j b, b ∈ fp i → b ∈ fp j → i = j
  al : ∀ i b, b ∈ fp i → c.al b
  out : ∀ i, Γ.length ≤ i → fp i = []
def Env (K : Fg) (c : Cw) (F H : Hp) (σ : L2.St) (Γ : List Slot) : Prop := ∃ fp, EnvD K c F H σ Γ fp

section
variable {K : Fg} {c : Cw} {F F' H H' : Hp} {σ : L2.St} {Γ Γ' : List Slot} {fp : Nat → List Addr}
theorem Slot.ok.grow {s : Slot} {v : Option V} {l : List Addr} (h : s.ok K F H v l) (e : Ex F F') (k : ∀ b ∈ l, F' b = none ∧ H' b = H b) : s.ok K F' H' v l := by
  cases s with
  | no => exact h
  | fz x => obtain ⟨rfl, u, h1, h2⟩ := h; exact ⟨rfl, u, h1, Py.mono e h2⟩
  | ow oa t => obtain ⟨u, h1, h2, h3⟩ := h; exact ⟨u, h1, h2.grow e k, h3⟩
theorem Slot.ok.dom {s : Slot} {v : Option V} {l : List Addr} (h : s.ok K F H v l) : ∀ b ∈ l, F b = none ∧ ∃ o, H b = some o := by
  cases s with
  | no => cases (show l = [] from h); intro b hb; cases hb
  | fz x => obtain ⟨rfl, _⟩ := h; intro b hb; cases hb
  | ow oa t => obtain ⟨u, h1, h2, _⟩ := h; exact h2.dom
theorem EnvD.dom (E : EnvD K c F H σ Γ fp) {i : Nat} {b : Addr} (hb : b ∈ fp i) : F b = none ∧ ∃ o, H b = some o := by
  by_cases hi : i < Γ.length
  · obtain ⟨v, _, h⟩ := E.ok i Γ[i] (by simp [hi])
    exact h.dom b hb
  · rw [E.out i (by omega)] at hb; cases hb
theorem EnvD.ff (E : EnvD K c F H σ Γ fp) {p : Addr} (hp : H p = none) : F p = none := by
  cases q : F p with
  | none => rfl
  | some u => rw [E.wd.fh _ _ q] at hp; cases hp
theorem EnvD.fresh (E : EnvD K c F H σ Γ fp) {p : Addr} (hp : H p = none) (j : Nat) : p ∉ fp j := fun hj => by
  obtain ⟨_, o, h⟩ := E.dom hj
  rw [hp] at h; cases h
/-- some slots change, I; the others stay -/
theorem EnvD.chg (E : EnvD K c F H σ Γ fp) (I : Nat → Prop) {fp' : Nat → List Addr} {σ' : L2.St} (e1 : Ex F F') (e2 : Ex F' H') (ch : ∀ b u, (∀ i, I i → b ∉ fp i) → H b = some u → H' b = some u)
    (fr : ∀ b, F' b ≠ none → F b ≠ none ∨ (∃ i, I i ∧ b ∈ fp i) ∨ H b = none) (hs : σ'.length = σ.length) (hl : Γ'.length = Γ.length) (same : ∀ i, ¬ I i → Γ'[i]? = Γ[i]? ∧ σ'[i]? = σ[i]? ∧ fp' i = fp i)
    (new : ∀ i s, I i → Γ'[i]? = some s → ∃ v, σ'[i]? = some v ∧ s.ok K F' H' v (fp' i)) (hf : ∀ i b, I i → b ∈ fp' i → (∃ j, I j ∧ b ∈ fp j) ∨ (c.al b ∧ ∀ j, b ∉ fp j)) (dis : ∀ i j b, I i → I j → b ∈ fp' i → b ∈ fp' j → i = j) (out : ∀ i, I i → Γ.length ≤ i → fp' i = []) :
    EnvD K c F' H' σ' Γ' fp' := by
  have key : ∀ i j b, I i → ¬ I j → b ∈ fp' i → b ∉ fp' j := fun i j b hi hj h1 h2 => by
    rw [(same j hj).2.2] at h2
    rcases hf i b hi h1 with ⟨k, hk, h3⟩ | h3
    · exact hj ((E.dis j k b h2 h3) ▸ hk)
    · exact h3.2 j h2
  refine ⟨⟨E.wd.f0.trans e1, e2, fun b o h1 h2 => ?_, fun b hb => ?_⟩, by rw [hs, hl, E.len], fun i s h => ?_, fun i j b h1 h2 => ?_, fun i b h => ?_, fun i h => ?_⟩
  · refine ch b o (fun i _ hb => ?_) (E.wd.keep b o h1 h2)
    rcases E.al i b hb with z | z
    · exact h1 z
    · rw [z] at h2; cases h2
  · rcases fr b hb with h | ⟨i, _, h⟩ | h
    · exact E.wd.new b h
    · exact .inr (E.al i b h)
    · exact .inr (E.wd.fresh h)
  · by_cases hi : I i
    · exact new i s hi h
    · obtain ⟨s1, s2, s3⟩ := same i hi
      rw [s1] at h
      obtain ⟨v, q1, q2⟩ := E.ok i s h
      refine ⟨v, s2.trans q1, ?_⟩
      rw [s3]
      refine q2.grow e1 fun b hb => ?_
      obtain ⟨d1, u, d2⟩ := q2.dom b hb
      have nb : ∀ j, I j → b ∉ fp j := fun j hj h => hi ((E.dis i j b hb h) ▸ hj)
      refine ⟨?_, (ch b u nb d2).trans d2.symm⟩
      cases q : F' b with
      | none => rfl
      | some w =>
        rcases fr b (by rw [q]; simp) with h | ⟨j, hj, h⟩ | h
        · exact absurd d1 h
        · exact absurd h (nb j hj)
        · rw [d2] at h; cases h
  · by_cases hi : I i
    · by_cases hj : I j
      · exact dis i j b hi hj h1 h2
      · exact absurd h2 (key i j b hi hj h1)
    · by_cases hj : I j
      · exact absurd h1 (key j i b hj hi h2)
      · rw [(same i hi).2.2] at h1
        rw [(same j hj).2.2] at h2
        exact E.dis i j b h1 h2
  · by_cases hi : I i
    · rcases hf i b hi h with ⟨j, _, z⟩ | z
      · exact E.al j b z
      · exact z.1
    · rw [(same i hi).2.2] at h
      exact E.al i b h
  · rw [hl] at h
    by_cases hi : I i
    · exact out i hi h
    · rw [(same i hi).2.2]; exact E.out i h
/-- the frozen part and the heap grow -/
theorem EnvD.grow (E : EnvD K c F H σ Γ fp) (e1 : Ex F F') (e2 : Ex F' H') (e3 : Ex H H') (fr : ∀ b, F' b ≠ none → F b ≠ none ∨ H b = none) : EnvD K c F' H' σ Γ fp :=
  E.chg (fun _ => False) e1 e2 (fun b u _ h => e3 _ _ h) (fun b hb => (fr b hb).imp id .inr) rfl rfl (fun _ _ => ⟨rfl, rfl, rfl⟩) (fun _ _ h => h.elim) (fun _ _ h => h.elim) (fun _ _ _ h => h.elim) (fun _ h => h.elim)
theorem Env.grow (E : Env K c F H σ Γ) (e1 : Ex F F') (e2 : Ex F' H') (e3 : Ex H H') (fr : ∀ b, F' b ≠ none → F b ≠ none ∨ H b = none) : Env K c F' H' σ Γ := let ⟨fp, E⟩ := E; ⟨fp, E.grow e1 e2 e3 fr⟩
theorem Env.wd (E : Env K c F H σ Γ) : Wd c F H := let ⟨_, E⟩ := E; E.wd
/-- a new object is laid, frozen -/
theorem EnvD.lay (E : EnvD K c F H σ Γ fp) {p : Addr} {o : HO} (hp : H p = none) : EnvD K c (upd F p o) (upd H p o) σ Γ fp := by
  refine E.grow (Ex.new (E.ff hp)) (fun a u h => ?_) (Ex.new hp) fun b hb => ?_
  · by_cases ha : a = p
    · subst ha; rw [upd_same] at h ⊢; exact h
    · rw [upd_ne ha] at h ⊢; exact E.wd.fh _ _ h
  · by_cases ha : b = p
    · subst ha; exact .inr hp
    · rw [upd_ne ha] at hb; exact .inl hb
/-- a frozen slot is read -/
theorem EnvD.get {τ : Type} [Py τ] {x : τ} {i : Nat} (E : EnvD K c F H σ Γ fp) (h : Γ[i]? = some (.fz x)) : ∃ v, σ[i]? = some (some v) ∧ rep K F v x := by
  obtain ⟨v, h1, _, u, h2, h3⟩ := E.ok i _ h
  subst h2
  exact ⟨u, h1, h3⟩
theorem EnvD.geto {oa : Option Addr} {t : OT} {i : Nat} (E : EnvD K c F H σ Γ fp) (h : Γ[i]? = some (.ow oa t)) : ∃ v, σ[i]? = some (some v) ∧ OA K F H v (fp i) t ∧ ∀ a, oa = some a → v = .ref a := by
  obtain ⟨v, h1, u, rfl, h3, h4⟩ := E.ok i _ h
  exact ⟨u, h1, h3, h4⟩
/-- a slot is set -/
theorem EnvD.put {s : Slot} {v : Option V} {i : Nat} {l : List Addr} (E : EnvD K c F H σ Γ fp) (r : s.ok K F H v l) (hl : ∀ b ∈ l, H b ≠ none → b ∈ fp i) (h0 : Γ.length ≤ i → l = []) : EnvD K c F H (σ.set i v) (Γ.set i s) (fun j => if j = i then l else fp j) := by
  have hn : ∀ b ∈ l, b ∈ fp i := fun b hb => hl b hb (by obtain ⟨_, o, h⟩ := r.dom b hb; rw [h]; simp)
  refine E.chg (· = i) (Ex.refl _) E.wd.fh (fun b u _ h => h) (fun b hb => .inl hb) (by simp) (by simp) (fun j hj => ⟨List.getElem?_set_ne (Ne.symm hj), List.getElem?_set_ne (Ne.symm hj), if_neg hj⟩) (fun j s' hj hs => ?_) (fun j b hj hb => ?_) (fun j k b hj hk _ _ => hj.trans hk.symm) (fun j hj h => ?_)
  · subst hj
    have hl : j < Γ.length := by
      have := (List.getElem?_eq_some_iff.mp hs).1
      simpa using this
    rw [List.getElem?_set_self hl] at hs
    cases hs
    refine ⟨v, by rw [List.getElem?_set_self (by rw [E.len]; exact hl)], ?_⟩
    rw [if_pos rfl]; exact r
  · subst hj
    rw [if_pos rfl] at hb
    exact .inl ⟨j, rfl, hn b hb⟩
  · subst hj
    rw [if_pos rfl]; exact h0 h
theorem EnvD.set {τ : Type} [Py τ] {x : τ} {v : V} {i : Nat} (E : EnvD K c F H σ Γ fp) (r : rep K F v x) : EnvD K c F H (σ.set i (some v)) (Γ.set i (.fz x)) (fun j => if j = i then [] else fp j) :=
  E.put (s := .fz x) ⟨rfl, v, rfl, r⟩ (fun b hb => by cases hb) (fun _ => rfl)
theorem Env.set {τ : Type} [Py τ] {x : τ} {v : V} {i : Nat} (E : Env K c F H σ Γ) (r : rep K F v x) : Env K c F H (σ.set i (some v)) (Γ.set i (.fz x)) := let ⟨_, E⟩ := E; ⟨_, E.set r⟩
/-- a slot is forgotten -/
theorem EnvD.drop {i : Nat} {v : Option V} (E : EnvD K c F H σ Γ fp) : EnvD K c F H (σ.set i v) (Γ.set i .no) (fun j => if j = i then [] else fp j) :=
  E.put (s := .no) rfl (fun b hb => by cases hb) (fun _ => rfl)
/-- a slot is set, a thing that stands apart -/
theorem EnvD.setO {s : Slot} {v : V} {i : Nat} {l : List Addr} (E : EnvD K c F H σ Γ fp) (hi : i < Γ.length) (r : s.ok K F H (some v) l) (ha : ∀ b ∈ l, c.al b) (hd : ∀ j b, j ≠ i → b ∈ l → b ∉ fp j) :
    EnvD K c F H (σ.set i (some v)) (Γ.set i s) (fun j => if j = i then l else fp j) := by
  refine ⟨E.wd, by simp [E.len], fun j s' hs => ?_, fun j k b h1 h2 => ?_, fun j b h => ?_, fun j h => ?_⟩
  · by_cases hj : j = i
    · subst hj
      rw [List.getElem?_set_self hi] at hs
      cases hs
      refine ⟨some v, by rw [List.getElem?_set_self (by rw [E.len]; exact hi)], ?_⟩
      rw [if_pos rfl]; exact r
    · rw [List.getElem?_set_ne (Ne.symm hj)] at hs
      rw [List.getElem?_set_ne (Ne.symm hj), if_neg hj]
      exact E.ok j s' hs
  · split at h1
    · rename_i e1
      split at h2
      · rename_i e2; exact e1.trans e2.symm
      · rename_i e2; exact absurd h2 (hd k b e2 h1)
    · rename_i e1
      split at h2
      · exact absurd h1 (hd j b e1 h2)
      · exact E.dis j k b h1 h2
  · split at h
    · exact ha b h
    · exact E.al j b h
  · have hl : Γ.length ≤ j := by simpa using h
    rw [if_neg (by omega)]
    exact E.out j hl
/-- an owned slot changes, in place: at p stood u at w -/
theorem EnvD.mutAt {oa : Option Addr} {t u : OT} {p : List Nat} {i : Nat} (E : EnvD K c F H σ Γ fp) (hs : Γ[i]? = some (.ow oa t)) (hg : t.get? p = some u) :
    ∃ v w l2, σ[i]? = some (some v) ∧ follow H v p = some w ∧ OA K F H w l2 u ∧ (∀ b ∈ l2, b ∈ fp i) ∧ (∀ a, oa = some a → v = .ref a) ∧
      ∀ F' H' l2' u', Ex F F' → Ex F' H' → (∀ b z, b ∉ l2 → H b = some z → H' b = some z) → (∀ b, F' b ≠ none → F b ≠ none ∨ b ∈ l2 ∨ H b = none) → OA K F' H' w l2' u' → (∀ b ∈ l2', b ∈ l2 ∨ (c.al b ∧ ∀ j, b ∉ fp j)) →
        ∃ fp', EnvD K c F' H' σ (Γ.set i (.ow oa (t.put p u'))) fp' ∧ (∀ j, j ≠ i → fp' j = fp j) ∧ ∀ j b, b ∈ fp' j → b ∈ fp j ∨ b ∈ l2' := by
  obtain ⟨v, h1, h2, h3⟩ := E.geto hs
  obtain ⟨w, l2, l1, f1, f2, f3, f4⟩ := h2.focus hg
  have hil : i < Γ.length := (List.getElem?_eq_some_iff.mp hs).1
  have sub2 : ∀ b ∈ l2, b ∈ fp i := fun b hb => f3.mem_iff.mpr (by simp [hb])
  have sub1 : ∀ b ∈ l1, b ∈ fp i := fun b hb => f3.mem_iff.mpr (by simp [hb])
  have dj : ∀ b ∈ l1, b ∉ l2 := fun b hb h => (List.nodup_append.mp (f3.nodup_iff.mp h2.nodup)).2.2 b h b hb rfl
  refine ⟨v, w, l2, h1, f1, f2, sub2, h3, fun F' H' l2' u' e1 e2 ch fr hu hl => ?_⟩
  have st : ∀ b ∈ l1, F' b = none ∧ H' b = H b := fun b hb => by
    obtain ⟨d1, z, d2⟩ := h2.dom b (sub1 b hb)
    refine ⟨?_, (ch b z (dj b hb) d2).trans d2.symm⟩
    cases q : F' b with
    | none => rfl
    | some y =>
      rcases fr b (by rw [q]; simp) with h | h | h
      · exact absurd d1 h
      · exact absurd h (dj b hb)
      · rw [d2] at h; cases h
  obtain ⟨l', k1, k2⟩ := f4 F' H' l2' u' e1 st hu (fun b hb hb1 => by
    rcases hl b hb with z | z
    · exact dj b hb1 z
    · exact z.2 i (sub1 b hb1))
  have hl' : ∀ b ∈ l', b ∈ fp i ∨ (c.al b ∧ ∀ j, b ∉ fp j) := fun b hb => by
    rcases List.mem_append.mp (k2.mem_iff.mp hb) with z | z
    · exact (hl b z).imp (sub2 b) id
    · exact .inl (sub1 b z)
  refine ⟨fun j => if j = i then l' else fp j, E.chg (· = i) e1 e2 (fun b z hb hz => ch b z (fun h => hb i rfl (sub2 b h)) hz) (fun b hb => ?_) rfl (by simp) (fun j hj => ⟨List.getElem?_set_ne (Ne.symm hj), rfl, if_neg hj⟩) (fun j s' hj hs' => ?_) (fun j b hj hb => ?_) (fun j k b hj hk _ _ => hj.trans hk.symm) (fun j hj h => ?_), (fun j hj => if_neg hj), fun j b hb => ?_⟩
  · rcases fr b hb with h | h | h
    · exact .inl h
    · exact .inr (.inl ⟨i, rfl, sub2 b h⟩)
    · exact .inr (.inr h)
  · subst hj
    rw [List.getElem?_set_self hil] at hs'
    cases hs'
    refine ⟨_, h1, ?_⟩
    rw [if_pos rfl]
    exact ⟨v, rfl, k1, h3⟩
  · subst hj
    rw [if_pos rfl] at hb
    exact (hl' b hb).imp (fun h => ⟨j, rfl, h⟩) id
  · subst hj; omega
  · dsimp only at hb
    split at hb
    · rename_i e; subst e
      rcases List.mem_append.mp (k2.mem_iff.mp hb) with z | z
      · exact .inr z
      · exact .inl (sub1 b z)
    · exact .inl hb
/-- an object at a place of an owned slot, and how it changes -/
theorem EnvD.node {oa : Option Addr} {t : OT} {k : Kind} {ts : List OT} {p : List Nat} {i : Nat} (E : EnvD K c F H σ Γ fp) (hs : Γ[i]? = some (.ow oa t)) (hg : t.get? p = some (.nd k ts)) :
    ∃ v a o vs fps, σ[i]? = some (some v) ∧ follow H v p = some (.ref a) ∧ F a = none ∧ H a = some o ∧ KO K k o vs ∧ L3 (OA K F H) vs fps ts ∧ (a :: fps.flatten).Nodup ∧ (∀ b ∈ a :: fps.flatten, b ∈ fp i) ∧
      ∀ o' k' vs' fps' ts', KO K k' o' vs' → L3 (OA K F H) vs' fps' ts' → (a :: fps'.flatten).Nodup → (∀ b ∈ fps'.flatten, b ∈ fps.flatten ∨ (c.al b ∧ ∀ j, b ∉ fp j)) →
        ∃ fp', EnvD K c F (upd H a o') σ (Γ.set i (.ow oa (t.put p (.nd k' ts')))) fp' ∧ (∀ j, j ≠ i → fp' j = fp j) ∧ ∀ j b, b ∈ fp' j → b ∈ fp j ∨ b ∈ fps'.flatten := by
  obtain ⟨v, w, l2, h1, h2, h3, h4, h5, h6⟩ := E.mutAt hs hg
  obtain ⟨a, o, vs, fps, rfl, rfl, hF, hH, ko, hc, nd⟩ := h3.l3
  refine ⟨v, a, o, vs, fps, h1, h2, hF, hH, ko, hc, nd, h4, fun o' k' vs' fps' ts' ko' hc' nd' hn => ?_⟩
  have na : ∀ b ∈ fps'.flatten, b ≠ a := fun b hb e => (List.nodup_cons.mp nd').1 (e ▸ hb)
  obtain ⟨fp', q1, q2, q3⟩ := h6 F (upd H a o') (a :: fps'.flatten) (.nd k' ts') (Ex.refl _) (E.wd.fh.upd hF) (fun b z hb hz => by rw [upd_ne (fun e => hb (by rw [e]; simp))]; exact hz) (fun b hb => .inl hb)
    (OA.mk hF upd_same ko' (hc'.imp fun v l t hl o => o.grow (Ex.refl _) fun b hb => ⟨(o.dom b hb).1, upd_ne (na b (List.mem_flatten.mpr ⟨l, hl, hb⟩))⟩) nd')
    (fun b hb => by
      rcases List.mem_cons.mp hb with rfl | hb
      · exact .inl (by simp)
      · exact (hn b hb).imp (fun h => by simp [h]) id)
  refine ⟨fp', q1, q2, fun j b hb => ?_⟩
  rcases q3 j b hb with z | z
  · exact .inl z
  · rcases List.mem_cons.mp z with rfl | z
    · by_cases hj : j = i
      · subst hj; exact .inl (h4 _ (by simp))
      · rw [q2 j hj] at hb; exact .inl hb
    · exact .inr z
end
end Fw
namespace Fw
open PySem L2 Py PyProof.Rows
/-- data whose value leans on no heap -/
class PySc (τ : Type) extends Py τ where
  v : τ → V
  sc : ∀ {K : Fg} {F : Hp} {u : V} {x : τ}, rep K F u x ↔ u = v x
instance : PySc Int := { v := .int, sc := Iff.rfl }
instance : PySc Bool := { v := .bl, sc := Iff.rfl }
instance : PySc Str := { v := .str, sc := Iff.rfl }
instance : PySc Unit := { v := fun _ => .non, sc := Iff.rfl }
def optV {τ : Type} [PySc τ] : Option τ → V
  | none => .non
  | some y => PySc.v y
theorem optV_sc {τ : Type} [PySc τ] {K : Fg} {F : Hp} {u : V} {x : Option τ} : rep K F u x ↔ u = optV x := by
  cases x with
  | none => exact Iff.rfl
  | some y => exact PySc.sc (τ := τ)
instance {τ : Type} [PySc τ] : PySc (Option τ) := { v := optV, sc := optV_sc }

section
variable (X : Cx) (c : Cw) (Γ : List Slot)
def EPr (K : Fg) (c : Cw) (te : TE) (Γ : List Slot) {τ : Type} [Py τ] (x : τ) : Prop :=
  ∀ F H σ fp, EnvD K c F H σ Γ fp → ∀ Q : VK, (∀ v F' H', EnvD K c F' H' σ Γ fp → Ex F F' → Nw F H F' H' → rep K F' v x → Q v H') → te σ H Q
def EBr (K : Fg) (c : Cw) (te : TE) (Γ : List Slot) {τ : Type} [Py τ] (x : τ) : Prop :=
  ∀ F H σ fp, EnvD K c F H σ Γ fp → ∀ Q : VK, (∀ v F' H', EnvD K c F' H' σ Γ fp → Ex F F' → Nw F H F' H' → rep K H' v x → Q v H') → te σ H Q
def ETr (K : Fg) (c : Cw) (tt : TT) (Γ : List Slot) (b : Bool) : Prop :=
  ∀ F H σ fp, EnvD K c F H σ Γ fp → ∀ Q : Bool → Hp → Prop, (∀ F' H', EnvD K c F' H' σ Γ fp → Ex F F' → Nw F H F' H' → Q b H') → tt σ H Q
/-- an expression is worth x, in frozen data; the same, borrowed; a test is worth b -/
def XE {τ : Type} [Py τ] (e : Expr) (x : τ) : Prop := ∃ t, PE X e t ∧ EPr X.K c t Γ x
def XB {τ : Type} [Py τ] (e : Expr) (x : τ) : Prop := ∃ t, PE X e t ∧ EBr X.K c t Γ x
def XT (e : Expr) (b : Bool) : Prop := ∃ t, PT X e t ∧ ETr X.K c t Γ b
def XW (e : Expr) (b : Bool) : Prop := ∃ t, PW X e t ∧ ETr X.K c t Γ b
/-- arguments: frozen data, one by one -/
class PyA (α : Type) where
  reps : Fg → Hp → List V → α → Prop
  mono : ∀ {K : Fg} {F F' : Hp} {v : List V} {x : α}, Ex F F' → reps K F v x → reps K F' v x
instance : PyA Unit := ⟨fun _ _ v _ => v = [], fun _ h => h⟩
instance {τ α : Type} [Py τ] [PyA α] : PyA (τ × α) := ⟨fun K F v x => ∃ u r, v = u :: r ∧ rep K F u x.1 ∧ PyA.reps K F r x.2,
  fun e ⟨u, r, h1, h2, h3⟩ => ⟨u, r, h1, Py.mono e h2, PyA.mono e h3⟩⟩
/-- a tuple of n things as a row of n arguments -/
class PyT (υ : Type) (α : outParam Type) [Py υ] [PyA α] where
  ar : Nat
  toA : υ → α
  ofA : α → υ
  to : ∀ {K : Fg} {F : Hp} {v : V} {x : υ}, rep K F v x → ∃ a vs, v = .ref a ∧ SqT K F a vs ∧ vs.length = ar ∧ PyA.reps K F vs (toA x)
  of : ∀ {K : Fg} {F : Hp} {a : Addr} {vs : List V} {x : α}, SqT K F a vs → PyA.reps K F vs x → rep K F (.ref a) (ofA x)
  len : ∀ {K : Fg} {F : Hp} {vs : List V} {x : α}, PyA.reps K F vs x → vs.length = ar
  small : ar ≤ 100
section
variable {α β γ δ ε : Type} [Py α] [Py β] [Py γ] [Py δ] [Py ε]
instance : PyT (α × β) (α × β × Unit) where
  ar := 2
  toA x := (x.1, x.2, ())
  ofA x := (x.1, x.2.1)
  to := fun ⟨p, a, b, h1, h2, h3, h4⟩ => ⟨p, [a, b], h1, h2, rfl, a, [b], rfl, h3, b, [], rfl, h4, rfl⟩
  of := by
    rintro K F a vs x h ⟨u1, _, rfl, r1, u2, _, rfl, r2, rfl⟩
    exact ⟨a, u1, u2, rfl, h, r1, r2⟩
  len := by
    rintro K F vs x ⟨u1, _, rfl, r1, u2, _, rfl, r2, rfl⟩
    rfl
  small := by decide
instance : PyT (T3 α β γ) (α × β × γ × Unit) where
  ar := 3
  toA x := (x.a, x.b, x.c, ())
  ofA x := ⟨x.1, x.2.1, x.2.2.1⟩
  to := fun ⟨p, a, b, c, h1, h2, h3, h4, h5⟩ => ⟨p, [a, b, c], h1, h2, rfl, a, [b, c], rfl, h3, b, [c], rfl, h4, c, [], rfl, h5, rfl⟩
  of := by
    rintro K F a vs x h ⟨u1, _, rfl, r1, u2, _, rfl, r2, u3, _, rfl, r3, rfl⟩
    exact ⟨a, u1, u2, u3, rfl, h, r1, r2, r3⟩
  len := by
    rintro K F vs x ⟨u1, _, rfl, r1, u2, _, rfl, r2, u3, _, rfl, r3, rfl⟩
    rfl
  small := by decide
instance : PyT (T4 α β γ δ) (α × β × γ × δ × Unit) where
  ar := 4
  toA x := (x.a, x.b, x.c, x.d, ())
  ofA x := ⟨x.1, x.2.1, x.2.2.1, x.2.2.2.1⟩
  to := fun ⟨p, a, b, c, d, h1, h2, h3, h4, h5, h6⟩ => ⟨p, [a, b, c, d], h1, h2, rfl, a, [b, c, d], rfl, h3, b, [c, d], rfl, h4, c, [d], rfl, h5, d, [], rfl, h6, rfl⟩
  of := by
    rintro K F a vs x h ⟨u1, _, rfl, r1, u2, _, rfl, r2, u3, _, rfl, r3, u4, _, rfl, r4, rfl⟩
    exact ⟨a, u1, u2, u3, u4, rfl, h, r1, r2, r3, r4⟩
  len := by
    rintro K F vs x ⟨u1, _, rfl, r1, u2, _, rfl, r2, u3, _, rfl, r3, u4, _, rfl, r4, rfl⟩
    rfl
  small := by decide
instance : PyT (T5 α β γ δ ε) (α × β × γ × δ × ε × Unit) where
  ar := 5
  toA x := (x.a, x.b, x.c, x.d, x.e, ())
  ofA x := ⟨x.1, x.2.1, x.2.2.1, x.2.2.2.1, x.2.2.2.2.1⟩
  to := fun ⟨p, a, b, c, d, q, h1, h2, h3, h4, h5, h6, h7⟩ => ⟨p, [a, b, c, d, q], h1, h2, rfl, a, [b, c, d, q], rfl, h3, b, [c, d, q], rfl, h4, c, [d, q], rfl, h5, d, [q], rfl, h6, q, [], rfl, h7, rfl⟩
  of := by
    rintro K F a vs x h ⟨u1, _, rfl, r1, u2, _, rfl, r2, u3, _, rfl, r3, u4, _, rfl, r4, u5, _, rfl, r5, rfl⟩
    exact ⟨a, u1, u2, u3, u4, u5, rfl, h, r1, r2, r3, r4, r5⟩
  len := by
    rintro K F vs x ⟨u1, _, rfl, r1, u2, _, rfl, r2, u3, _, rfl, r3, u4, _, rfl, r4, u5, _, rfl, r5, rfl⟩
    rfl
  small := by decide
end
def XA {α : Type} [PyA α] (es : List Expr) (a : α) : Prop := ∃ t, PA X es t ∧
  ∀ F H σ fp, EnvD X.K c F H σ Γ fp → ∀ Q : List V → Hp → Prop, (∀ v F' H', EnvD X.K c F' H' σ Γ fp → Ex F F' → Nw F H F' H' → PyA.reps X.K F' v a → Q v H') → t σ H Q
end

section
variable {X : Cx} {c : Cw} {Γ Γ' : List Slot} {τ υ ζ : Type} [Py τ] [Py υ] [Py ζ] {a b d e : Expr} {x : τ} {y : υ} {z : ζ} {pos : Pos}
theorem XE.bo (h : XE X c Γ e x) : XB X c Γ e x := by
  obtain ⟨t, h1, h2⟩ := h
  exact ⟨t, h1, fun F H σ fp E Q q => h2 F H σ fp E Q fun v F' H' E' e1 e2 r => q v F' H' E' e1 e2 (Py.mono E'.wd.fh r)⟩
theorem XB.ex {τ : Type} [i : PySc τ] {x : τ} (h : XB X c Γ e x) : XE X c Γ e x := by
  obtain ⟨t, h1, h2⟩ := h
  exact ⟨t, h1, fun F H σ fp E Q q => h2 F H σ fp E Q fun v F' H' E' e1 e2 r => q v F' H' E' e1 e2 (PySc.sc.mpr (PySc.sc.mp r))⟩
/-- a frozen name -/
theorem xe_var (i : Nat) {n : Str} (hN : X.N[i]? = some n := by rfl) (h : Γ[i]? = some (.fz x) := by rfl) (hv : Vis X.env.scope n := by first | exact Or.inl rfl | exact Or.inr (Or.inl rfl) | exact Or.inr (Or.inr rfl))
    (hd : (n == ("__debug__" : Str)) = false := by decide) (hcd : (n == ("__classdict__" : Str)) = false := by decide) : XE X c Γ (.Name n pos) x :=
  ⟨_, pe_var hN hv hd hcd, fun F H σ fp E Q q => by
    obtain ⟨v, h1, r⟩ := E.get h
    exact ⟨v, h1, q v F H E (Ex.refl _) Nw.refl r⟩⟩
theorem xe_C {v : V} (h : PE X e (tC v)) (r : ∀ F, rep X.K F v x) : XE X c Γ e x :=
  ⟨_, h, fun F H σ fp E Q q => q v F H E (Ex.refl _) Nw.refl (r F)⟩
theorem xe_int {i : Int} {j} : XE X c Γ (.Constant (.int i) j pos) i := xe_C pe_int fun _ => rfl
theorem xe_bl {i : Bool} {j} : XE X c Γ (.Constant (.bool i) j pos) i := xe_C pe_bl fun _ => rfl
theorem xe_str {i : Str} {j} : XE X c Γ (.Constant (.str i) j pos) i := xe_C pe_str fun _ => rfl
theorem xe_nil {j} : XE X c Γ (.Constant .none j pos) () := xe_C pe_non fun _ => rfl
theorem xe_none {j} : XE X c Γ (.Constant .none j pos) (none : Option τ) := xe_C pe_non fun _ => rfl
theorem xe_some (h : XE X c Γ e x) : XE X c Γ e (some x) := by
  obtain ⟨t, h1, h2⟩ := h
  exact ⟨t, h1, fun F H σ fp E Q q => h2 F H σ fp E Q fun v F' H' E' e1 e2 r => q v F' H' E' e1 e2 r⟩
theorem xe_eq {x' : τ} (h : XE X c Γ e x) (q : x = x') : XE X c Γ e x' := q ▸ h
theorem xt_eq {k k' : Bool} (h : XT X c Γ e k) (q : k = k') : XT X c Γ e k' := q ▸ h
/-- a constant of the module -/
theorem xe_glob {n : Str} {v : V} {u : Value} (hm : X.mg n = some u) (r : RelV v u) (hr : ∀ F, rep X.K F v x) (hg : Gl X n := by rfl) (hd : (n == ("__debug__" : Str)) = false := by decide) : XE X c Γ (.Name n pos) x :=
  xe_C (pe_glob hg hm r hd) hr
theorem xe_gi {n : Str} {i : Int} (hm : ∃ t, X.mg n = some (.int i t)) (hg : Gl X n := by rfl) (hd : (n == ("__debug__" : Str)) = false := by decide) : XE X c Γ (.Name n pos) i :=
  let ⟨t, h⟩ := hm; xe_glob (v := .int i) h ⟨t, rfl⟩ (fun _ => rfl) hg hd
theorem xe_gs {n : Str} {i : Str} (hm : ∃ t, X.mg n = some (.str i t)) (hg : Gl X n := by rfl) (hd : (n == ("__debug__" : Str)) = false := by decide) : XE X c Γ (.Name n pos) i :=
  let ⟨t, h⟩ := hm; xe_glob (v := .str i) h ⟨t, rfl⟩ (fun _ => rfl) hg hd

/-! ### operators -/
/-- a rule on values, on frozen data -/
def ROp (K : Fg) (r : R2) (x : τ) (y : υ) (z : ζ) : Prop := ∀ F H u v, Ex F H → rep K F u x → rep K F v y → ∀ Q : VK,
  (∀ w F' H', Ex F F' → Ex F' H' → Ex H H' → (∀ b, F' b ≠ none → F b ≠ none ∨ H b = none) → rep K F' w z → Q w H') → r u v H Q
def RBp (K : Fg) (r : R2) (x : τ) (y : υ) (z : ζ) : Prop := ∀ H u v, rep K H u x → rep K H v y → ∀ Q : VK, (∀ w, rep K H w z → Q w H) → r u v H Q
theorem xe_bin {t : TE → TE → TE} {r : R2} (ht : ∀ {ta tb}, PE X a ta → PE X b tb → PE X d (tOp r ta tb)) (hr : ROp X.K r x y z) (ha : XE X c Γ a x) (hb : XE X c Γ b y) : XE X c Γ d z := by
  obtain ⟨ta, a1, a2⟩ := ha
  obtain ⟨tb, b1, b2⟩ := hb
  refine ⟨_, ht a1 b1, fun F H σ fp E Q q => ?_⟩
  refine a2 F H σ fp E _ fun u F1 H1 E1 e1 g1 r1 => ?_
  refine b2 F1 H1 σ fp E1 _ fun v F2 H2 E2 e2 g2 r2 => ?_
  refine hr F2 H2 u v E2.wd.fh (Py.mono e2 r1) r2 Q fun w F' H' p1 p2 p3 p4 p5 => ?_
  exact q w F' H' (E2.grow p1 p2 p3 p4) ((e1.trans e2).trans p1) ((g1.trans g2).trans ⟨p3, p4⟩) p5
theorem xb_bin {t : TE → TE → TE} {r : R2} (ht : ∀ {ta tb}, PE X a ta → PE X b tb → PE X d (tOp r ta tb)) (hr : RBp X.K r x y z) (ha : XB X c Γ a x) (hb : XB X c Γ b y) : XB X c Γ d z := by
  obtain ⟨ta, a1, a2⟩ := ha
  obtain ⟨tb, b1, b2⟩ := hb
  refine ⟨_, ht a1 b1, fun F H σ fp E Q q => ?_⟩
  refine a2 F H σ fp E _ fun u F1 H1 E1 e1 g1 r1 => ?_
  refine b2 F1 H1 σ fp E1 _ fun v F2 H2 E2 e2 g2 r2 => ?_
  refine hr H2 u v (Py.mono g2.h r1) r2 Q fun w p5 => ?_
  exact q w F2 H2 E2 (e1.trans e2) (g1.trans g2) p5
theorem xe_op {op : Operator} {r : R2} (ho : OpR X (binaryOp op) r) (hr : ROp X.K r x y z) (ha : XE X c Γ a x) (hb : XE X c Γ b y) : XE X c Γ (.BinOp a op b pos) z :=
  xe_bin (t := fun a _ => a) (fun h1 h2 => pe_op ho h1 h2) hr ha hb
theorem xb_op {op : Operator} {r : R2} (ho : OpR X (binaryOp op) r) (hr : RBp X.K r x y z) (ha : XB X c Γ a x) (hb : XB X c Γ b y) : XB X c Γ (.BinOp a op b pos) z :=
  xb_bin (t := fun a _ => a) (fun h1 h2 => pe_op ho h1 h2) hr ha hb
theorem xe_cmp {op : CmpOp} {r : R2} (ho : OpR X (compareOp op) r) (hr : ROp X.K r x y z) (ha : XE X c Γ a x) (hb : XE X c Γ b y) (hm : behindInMarks op b = false) : XE X c Γ (.Compare a [op] [b] pos) z :=
  xe_bin (t := fun a _ => a) (fun h1 h2 => pe_cmpR ho h1 h2 hm) hr ha hb
theorem xb_cmp {op : CmpOp} {r : R2} (ho : OpR X (compareOp op) r) (hr : RBp X.K r x y z) (ha : XB X c Γ a x) (hb : XB X c Γ b y) (hm : behindInMarks op b = false) : XB X c Γ (.Compare a [op] [b] pos) z :=
  xb_bin (t := fun a _ => a) (fun h1 h2 => pe_cmpR ho h1 h2 hm) hr ha hb
/-- a comparison is worth k -/
def XC (X : Cx) (c : Cw) (Γ : List Slot) (op : CmpOp) (a b : Expr) (k : Bool) : Prop := ∃ r ta tb, OpR X (compareOp op) r ∧ PE X a ta ∧ PE X b tb ∧ behindInMarks op b = false ∧ EPr X.K c (tOp r ta tb) Γ k
theorem xc_of {op : CmpOp} {r : R2} {k : Bool} (ho : OpR X (compareOp op) r) (hr : ROp X.K r x y k) (ha : XE X c Γ a x) (hb : XE X c Γ b y) (hm : behindInMarks op b = false) : XC X c Γ op a b k := by
  obtain ⟨ta, a1, a2⟩ := ha
  obtain ⟨tb, b1, b2⟩ := hb
  refine ⟨r, ta, tb, ho, a1, b1, hm, fun F H σ fp E Q q => ?_⟩
  refine a2 F H σ fp E _ fun u F1 H1 E1 e1 g1 r1 => ?_
  refine b2 F1 H1 σ fp E1 _ fun v F2 H2 E2 e2 g2 r2 => ?_
  refine hr F2 H2 u v E2.wd.fh (Py.mono e2 r1) r2 Q fun w F' H' p1 p2 p3 p4 p5 => ?_
  exact q w F' H' (E2.grow p1 p2 p3 p4) ((e1.trans e2).trans p1) ((g1.trans g2).trans ⟨p3, p4⟩) p5
theorem xc_ofB {op : CmpOp} {r : R2} {k : Bool} (ho : OpR X (compareOp op) r) (hr : RBp X.K r x y k) (ha : XB X c Γ a x) (hb : XB X c Γ b y) (hm : behindInMarks op b = false) : XC X c Γ op a b k := by
  obtain ⟨ta, a1, a2⟩ := ha
  obtain ⟨tb, b1, b2⟩ := hb
  refine ⟨r, ta, tb, ho, a1, b1, hm, fun F H σ fp E Q q => ?_⟩
  refine a2 F H σ fp E _ fun u F1 H1 E1 e1 g1 r1 => ?_
  refine b2 F1 H1 σ fp E1 _ fun v F2 H2 E2 e2 g2 r2 => ?_
  refine hr H2 u v (Py.mono g2.h r1) r2 Q fun w p5 => ?_
  exact q w F2 H2 E2 (e1.trans e2) (g1.trans g2) p5
theorem xe_c {op : CmpOp} {k : Bool} (h : XC X c Γ op a b k) : XE X c Γ (.Compare a [op] [b] pos) k := by
  obtain ⟨r, ta, tb, ho, a1, b1, hm, q⟩ := h
  exact ⟨_, pe_cmpR ho a1 b1 hm, q⟩
theorem xt_c {op : CmpOp} {k : Bool} (h : XC X c Γ op a b k) : XT X c Γ (.Compare a [op] [b] pos) k := by
  obtain ⟨r, ta, tb, ho, a1, b1, hm, q⟩ := h
  exact ⟨_, pt_cmpR ho a1 b1 hm, fun F H σ fp E Q k => q F H σ fp E _ fun v F' H' E' e1 e2 r => ⟨_, r, k F' H' E' e1 e2⟩⟩
theorem xt_of {t : Bool} {f : TE → TT} (hp : ∀ {te}, PE X e te → PT X e (tB te)) (h : XE X c Γ e t) : XT X c Γ e t := by
  obtain ⟨te, h1, h2⟩ := h
  exact ⟨_, hp h1, fun F H σ fp E Q q => h2 F H σ fp E _ fun v F' H' E' e1 e2 r => ⟨t, r, q F' H' E' e1 e2⟩⟩
/-- a truth as a test -/
theorem xt_val {t : Bool} (h : XE X c Γ e t) (he : ∀ whole, isTrue e X.env whole = (do let v ← whole; standAt e.pos; holding [v] (truthy v)) := by intro _; rfl) : XT X c Γ e t :=
  xt_of (f := tB) (fun h => pt_val h he) h

section ii
variable {i j : Int}
theorem ro_I0 {g : Int → Int → V} {k : ζ} (hk : ∀ F, rep X.K F (g i j) k) : ROp X.K (rI0 g) i j k := fun F H u v e h1 h2 Q q => ⟨i, j, h1, h2, q _ F H (Ex.refl _) e (Ex.refl _) (fun _ h => .inl h) (hk F)⟩
theorem ro_I {C : Int → Int → Prop} {g : Int → Int → V} {k : ζ} (hc : C i j) (hk : ∀ F, rep X.K F (g i j) k) : ROp X.K (rI C g) i j k := fun F H u v e h1 h2 Q q => ⟨i, j, h1, h2, hc, q _ F H (Ex.refl _) e (Ex.refl _) (fun _ h => .inl h) (hk F)⟩
theorem xe_add (ha : XE X c Γ a i) (hb : XE X c Γ b j) : XE X c Γ (.BinOp a .Add b pos) (i + j) := xe_op op_add (ro_I0 fun _ => rfl) ha hb
theorem xe_sub (ha : XE X c Γ a i) (hb : XE X c Γ b j) : XE X c Γ (.BinOp a .Sub b pos) (i - j) := xe_op op_sub (ro_I0 fun _ => rfl) ha hb
theorem op_mulG : OpR X (binaryOp .Mult) (rI IntMulOk fun i j => .int (i * j)) := opI fun _ _ _ _ _ _ _ hc q => mul_int q hc
theorem xe_mulG (ha : XE X c Γ a i) (hb : XE X c Γ b j) (h : IntMulOk i j) : XE X c Γ (.BinOp a .Mult b pos) (i * j) := xe_op op_mulG (ro_I h fun _ => rfl) ha hb
theorem xe_mul (ha : XE X c Γ a i) (hb : XE X c Γ b j) (h : CMul i j) : XE X c Γ (.BinOp a .Mult b pos) (i * j) := xe_op op_mul (ro_I h fun _ => rfl) ha hb
theorem xe_div (ha : XE X c Γ a i) (hb : XE X c Γ b j) (h : CDiv i j) : XE X c Γ (.BinOp a .FloorDiv b pos) (i / j) := xe_op op_fdiv (ro_I h fun _ => rfl) ha hb
theorem xe_mod (ha : XE X c Γ a i) (hb : XE X c Γ b j) (h : 0 < j) : XE X c Γ (.BinOp a .Mod b pos) (i % j) := xe_op op_mod (ro_I h fun _ => rfl) ha hb
theorem xe_pow (ha : XE X c Γ a i) (hb : XE X c Γ b j) (h : CPow i j) : XE X c Γ (.BinOp a .Pow b pos) (i ^ j.toNat) := xe_op op_pow (ro_I h fun _ => rfl) ha hb
theorem xe_shl (ha : XE X c Γ a i) (hb : XE X c Γ b j) (h : CPow i j) : XE X c Γ (.BinOp a .LShift b pos) (i * 2 ^ j.toNat) := xe_op op_shl (ro_I h fun _ => rfl) ha hb
theorem xe_shr (ha : XE X c Γ a i) (hb : XE X c Γ b j) (h : 0 ≤ j) : XE X c Γ (.BinOp a .RShift b pos) (i / 2 ^ j.toNat) := xe_op op_shr (ro_I h fun _ => rfl) ha hb
theorem xe_band (ha : XE X c Γ a i) (hb : XE X c Γ b j) : XE X c Γ (.BinOp a .BitAnd b pos) (Builtin.bitAnd i j) := xe_op op_and (ro_I0 fun _ => rfl) ha hb
theorem xe_bor (ha : XE X c Γ a i) (hb : XE X c Γ b j) : XE X c Γ (.BinOp a .BitOr b pos) (Builtin.bitOr i j) := xe_op op_or (ro_I0 fun _ => rfl) ha hb
theorem xe_bxor (ha : XE X c Γ a i) (hb : XE X c Γ b j) : XE X c Γ (.BinOp a .BitXor b pos) (Builtin.bitXor i j) := xe_op op_xor (ro_I0 fun _ => rfl) ha hb
theorem xc_lt (ha : XE X c Γ a i) (hb : XE X c Γ b j) : XC X c Γ .Lt a b (decide (i < j)) := xc_of op_lt (ro_I0 fun _ => rfl) ha hb (nomark _)
theorem xc_le (ha : XE X c Γ a i) (hb : XE X c Γ b j) : XC X c Γ .LtE a b (decide (i ≤ j)) := xc_of op_le (ro_I0 fun _ => rfl) ha hb (nomark _)
theorem xc_gt (ha : XE X c Γ a i) (hb : XE X c Γ b j) : XC X c Γ .Gt a b (decide (i > j)) := xc_of op_gt (ro_I0 fun _ => rfl) ha hb (nomark _)
theorem xc_ge (ha : XE X c Γ a i) (hb : XE X c Γ b j) : XC X c Γ .GtE a b (decide (i ≥ j)) := xc_of op_ge (ro_I0 fun _ => rfl) ha hb (nomark _)
theorem xe_neg (ha : XE X c Γ a i) : XE X c Γ (.UnaryOp .USub a pos) (-i) := by
  obtain ⟨t, h1, h2⟩ := ha
  exact ⟨_, pe_un un_neg h1, fun F H σ fp E Q q => h2 F H σ fp E _ fun v F' H' E' e1 e2 r => ⟨i, r, q _ F' H' E' e1 e2 rfl⟩⟩
end ii

/-! ### scalars compared: ints, truths, texts, None -/
/-- scalars of one kind -/
class PyEq (τ : Type) extends PySc τ where
  dec : DecidableEq τ
  ok : ∀ a b : τ, scal (v a) (v b) = true
  inj : ∀ a b : τ, v a = v b → a = b
instance (priority := low) {τ : Type} [i : PyEq τ] : DecidableEq τ := i.dec
instance : PyEq Int := { dec := inferInstance, ok := fun a b => rfl, inj := fun a b h => by injection h }
instance : PyEq Bool := { dec := inferInstance, ok := fun a b => rfl, inj := fun a b h => by injection h }
instance : PyEq Str := { dec := inferInstance, ok := fun a b => rfl, inj := fun a b h => by injection h }
theorem xc_eqS {τ : Type} [i : PyEq τ] {x y : τ} (ha : XE X c Γ a x) (hb : XE X c Γ b y) : XC X c Γ .Eq a b (decide (x = y)) :=
  xc_of op_eq (fun F H u v e h1 h2 Q q => by
    have e1 := PySc.sc.mp h1
    have e2 := PySc.sc.mp h2
    subst e1; subst e2
    refine ⟨PyEq.ok x y, q _ F H (Ex.refl _) e (Ex.refl _) (fun _ h => .inl h) ?_⟩
    show V.bl _ = V.bl _
    congr 1
    exact decide_eq_decide.mpr ⟨PyEq.inj x y, fun h => by rw [h]⟩) ha hb (nomark _)
theorem xc_neS {τ : Type} [i : PyEq τ] {x y : τ} (ha : XE X c Γ a x) (hb : XE X c Γ b y) : XC X c Γ .NotEq a b (!decide (x = y)) :=
  xc_of op_ne (fun F H u v e h1 h2 Q q => by
    have e1 := PySc.sc.mp h1
    have e2 := PySc.sc.mp h2
    subst e1; subst e2
    refine ⟨PyEq.ok x y, q _ F H (Ex.refl _) e (Ex.refl _) (fun _ h => .inl h) ?_⟩
    show V.bl _ = V.bl _
    congr 2
    exact decide_eq_decide.mpr ⟨PyEq.inj x y, fun h => by rw [h]⟩) ha hb (nomark _)
/-- None | x against None -/
theorem opt_non {τ : Type} [i : PySc τ] (hn : ∀ z : τ, PySc.v z ≠ .non) (x : Option τ) : decide (optV x = V.non) = x.isNone := by
  cases x with
  | none => rfl
  | some z => exact decide_eq_false (hn z)
theorem xc_isNone {τ : Type} [i : PySc τ] {x : Option τ} {j p} (ha : XE X c Γ a x) (hn : ∀ z : τ, PySc.v z ≠ .non := by intro z h; cases h) : XC X c Γ .Is a (.Constant .none j p) (x.isNone) :=
  xc_of (y := ()) op_isN (fun F H u v e h1 h2 Q q => ⟨h2, q _ F H (Ex.refl _) e (Ex.refl _) (fun _ h => .inl h) (by
    have e := PySc.sc.mp h1
    subst e
    show V.bl _ = V.bl _
    rw [← opt_non hn x]; rfl)⟩) ha xe_nil (nomark _)
theorem xc_notNone {τ : Type} [i : PySc τ] {x : Option τ} {j p} (ha : XE X c Γ a x) (hn : ∀ z : τ, PySc.v z ≠ .non := by intro z h; cases h) : XC X c Γ .IsNot a (.Constant .none j p) (x.isSome) :=
  xc_of (y := ()) op_notN (fun F H u v e h1 h2 Q q => ⟨h2, q _ F H (Ex.refl _) e (Ex.refl _) (fun _ h => .inl h) (by
    have e := PySc.sc.mp h1
    subst e
    show V.bl _ = V.bl _
    have := opt_non hn x
    cases x with
    | none => rfl
    | some z => 
      show V.bl (!decide (PySc.v z = V.non)) = V.bl true
      rw [decide_eq_false (hn z)]; rfl)⟩) ha xe_nil (nomark _)
/-- None or an int against an int -/
theorem xc_eqO {τ : Type} [i : PyEq τ] {x : Option τ} {y : τ} (ha : XE X c Γ a x) (hb : XE X c Γ b y) (hn : ∀ z : τ, PySc.v z ≠ .non := by intro z h; cases h) (hs : ∀ z : τ, scal .non (PySc.v z) = true := by intro z; rfl) : XC X c Γ .Eq a b (decide (x = some y)) :=
  xc_of op_eq (fun F H u v e h1 h2 Q q => by
    have e1 := PySc.sc.mp h1
    have e2 := PySc.sc.mp h2
    subst e1; subst e2
    cases x with
    | none =>
      refine ⟨hs y, q _ F H (Ex.refl _) e (Ex.refl _) (fun _ h => .inl h) ?_⟩
      show V.bl (decide (V.non = PySc.v y)) = V.bl _
      rw [decide_eq_false (fun h => hn y h.symm), decide_eq_false (by simp)]
    | some z =>
      refine ⟨PyEq.ok z y, q _ F H (Ex.refl _) e (Ex.refl _) (fun _ h => .inl h) ?_⟩
      show V.bl _ = V.bl _
      congr 1
      exact decide_eq_decide.mpr ⟨fun h => by rw [PyEq.inj z y h], fun h => by injection h with h; rw [h]; rfl⟩) ha hb (nomark _)

/-! ### and, or, not, if else -/
variable {k l : Bool}
theorem xw_and1 (ha : XT X c Γ a k) : XW X c Γ (.BoolOp .And [a] pos) k := by
  obtain ⟨t, h1, h2⟩ := ha
  exact ⟨t, pw_and1 h1, h2⟩
theorem xw_or1 (ha : XT X c Γ a k) : XW X c Γ (.BoolOp .Or [a] pos) k := by
  obtain ⟨t, h1, h2⟩ := ha
  exact ⟨t, pw_or1 h1, h2⟩
theorem xw_and {rest : List Expr} (ha : XT X c Γ a k) (hb : k = true → XW X c Γ (.BoolOp .And (b :: rest) pos) l) : XW X c Γ (.BoolOp .And (a :: b :: rest) pos) (k && l) := by
  obtain ⟨t, h1, h2⟩ := ha
  cases k with
  | false =>
    refine ⟨tAnd t _, pw_and h1 ⟨fun _ _ _ _ _ _ _ (h : False) => h.elim⟩, fun F H σ fp E Q q => h2 F H σ fp E _ fun F' H' E' e1 e2 => ?_⟩
    rw [if_neg Bool.false_ne_true]
    exact q F' H' E' e1 e2
  | true =>
    obtain ⟨u, h3, h4⟩ := hb rfl
    refine ⟨tAnd t u, pw_and h1 h3, fun F H σ fp E Q q => h2 F H σ fp E _ fun F' H' E' e1 e2 => ?_⟩
    rw [if_pos rfl]
    exact h4 F' H' σ fp E' Q fun F2 H2 E2 e3 e4 => q F2 H2 E2 (e1.trans e3) (e2.trans e4)
theorem xw_or {rest : List Expr} (ha : XT X c Γ a k) (hb : k = false → XW X c Γ (.BoolOp .Or (b :: rest) pos) l) : XW X c Γ (.BoolOp .Or (a :: b :: rest) pos) (k || l) := by
  obtain ⟨t, h1, h2⟩ := ha
  cases k with
  | true =>
    refine ⟨tOr t _, pw_or h1 ⟨fun _ _ _ _ _ _ _ (h : False) => h.elim⟩, fun F H σ fp E Q q => h2 F H σ fp E _ fun F' H' E' e1 e2 => ?_⟩
    rw [if_pos rfl]
    exact q F' H' E' e1 e2
  | false =>
    obtain ⟨u, h3, h4⟩ := hb rfl
    refine ⟨tOr t u, pw_or h1 h3, fun F H σ fp E Q q => h2 F H σ fp E _ fun F' H' E' e1 e2 => ?_⟩
    rw [if_neg Bool.false_ne_true]
    exact h4 F' H' σ fp E' Q fun F2 H2 E2 e3 e4 => q F2 H2 E2 (e1.trans e3) (e2.trans e4)
theorem XW.t (h : XW X c Γ e k) : XT X c Γ e k := let ⟨t, h1, h2⟩ := h; ⟨t, h1.pt, h2⟩
theorem xt_not (ha : XT X c Γ a k) : XT X c Γ (.UnaryOp .Not a pos) (!k) := by
  obtain ⟨t, h1, h2⟩ := ha
  exact ⟨_, pt_not h1, fun F H σ fp E Q q => h2 F H σ fp E _ fun F' H' E' e1 e2 => q F' H' E' e1 e2⟩
theorem xe_one {op} (ha : XE X c Γ a x) : XE X c Γ (.BoolOp op [a] pos) x := by
  obtain ⟨t, h1, h2⟩ := ha
  exact ⟨t, pe_one h1, h2⟩
theorem xe_and {rest : List Expr} (ha : XE X c Γ a k) (hb : k = true → XE X c Γ (.BoolOp .And (b :: rest) pos) l) : XE X c Γ (.BoolOp .And (a :: b :: rest) pos) (k && l) := by
  obtain ⟨t, h1, h2⟩ := ha
  cases k with
  | false =>
    refine ⟨tAndV t _, pe_and h1 ⟨fun _ _ _ _ _ _ (h : False) => h.elim⟩, fun F H σ fp E Q q => h2 F H σ fp E _ fun v F' H' E' e1 e2 r => ⟨false, r, ?_⟩⟩
    rw [if_neg Bool.false_ne_true]
    exact q _ F' H' E' e1 e2 rfl
  | true =>
    obtain ⟨u, h3, h4⟩ := hb rfl
    refine ⟨tAndV t u, pe_and h1 h3, fun F H σ fp E Q q => h2 F H σ fp E _ fun v F' H' E' e1 e2 r => ⟨true, r, ?_⟩⟩
    rw [if_pos rfl]
    exact h4 F' H' σ fp E' Q fun v F2 H2 E2 e3 e4 r => q v F2 H2 E2 (e1.trans e3) (e2.trans e4) r
theorem xe_or {rest : List Expr} (ha : XE X c Γ a k) (hb : k = false → XE X c Γ (.BoolOp .Or (b :: rest) pos) l) : XE X c Γ (.BoolOp .Or (a :: b :: rest) pos) (k || l) := by
  obtain ⟨t, h1, h2⟩ := ha
  cases k with
  | true =>
    refine ⟨tOrV t _, pe_or h1 ⟨fun _ _ _ _ _ _ (h : False) => h.elim⟩, fun F H σ fp E Q q => h2 F H σ fp E _ fun v F' H' E' e1 e2 r => ⟨true, r, ?_⟩⟩
    rw [if_pos rfl]
    exact q _ F' H' E' e1 e2 rfl
  | false =>
    obtain ⟨u, h3, h4⟩ := hb rfl
    refine ⟨tOrV t u, pe_or h1 h3, fun F H σ fp E Q q => h2 F H σ fp E _ fun v F' H' E' e1 e2 r => ⟨false, r, ?_⟩⟩
    rw [if_neg Bool.false_ne_true]
    exact h4 F' H' σ fp E' Q fun v F2 H2 E2 e3 e4 r => q v F2 H2 E2 (e1.trans e3) (e2.trans e4) r
theorem xe_not (ha : XE X c Γ a k) : XE X c Γ (.UnaryOp .Not a pos) (!k) := by
  obtain ⟨t, h1, h2⟩ := ha
  exact ⟨_, pe_not h1, fun F H σ fp E Q q => h2 F H σ fp E _ fun v F' H' E' e1 e2 r => ⟨k, r, q _ F' H' E' e1 e2 rfl⟩⟩
theorem xe_if {y : τ} (hd : XT X c Γ d k) (ha : k = true → XE X c Γ a x) (hb : k = false → XE X c Γ b y) : XE X c Γ (.IfExp d a b pos) (if k then x else y) := by
  obtain ⟨t, h1, h2⟩ := hd
  cases k with
  | true =>
    obtain ⟨u, h3, h4⟩ := ha rfl
    refine ⟨tIf t u _, pe_ifExp h1 h3 ⟨fun _ _ _ _ _ _ (h : False) => h.elim⟩, fun F H σ fp E Q q => h2 F H σ fp E _ fun F' H' E' e1 e2 => ?_⟩
    rw [if_pos rfl]
    exact h4 F' H' σ fp E' Q fun v F2 H2 E2 e3 e4 r => q v F2 H2 E2 (e1.trans e3) (e2.trans e4) r
  | false =>
    obtain ⟨u, h3, h4⟩ := hb rfl
    refine ⟨tIf t _ u, pe_ifExp h1 ⟨fun _ _ _ _ _ _ (h : False) => h.elim⟩ h3, fun F H σ fp E Q q => h2 F H σ fp E _ fun F' H' E' e1 e2 => ?_⟩
    rw [if_neg Bool.false_ne_true]
    exact h4 F' H' σ fp E' Q fun v F2 H2 E2 e3 e4 r => q v F2 H2 E2 (e1.trans e3) (e2.trans e4) r
end
end Fw
namespace Fw
open PySem L2 Py PyProof.Rows

/-! ### statements -/
/-- how a block ends: behind it, returned, broken off, on to the next turn -/
inductive Out (S B R : Type) where
  | nx (s : S)
  | rt (r : R)
  | bk (s : B)
  | ct (s : B)
def Out.bind {S S' B R : Type} (o : Out S B R) (k : S → Out S' B R) : Out S' B R := match o with
  | .nx s => k s
  | .rt r => .rt r
  | .bk s => .bk s
  | .ct s => .ct s
def Out.up {S B R : Type} (o : Out Empty B R) : Out S B R := match o with
  | .nx s => s.elim
  | .rt r => .rt r
  | .bk s => .bk s
  | .ct s => .ct s
def runFor {S B R τ : Type} (f : S → τ → Out S S R) : S → List τ → Out S B R
  | s, [] => .nx s
  | s, y :: r => match f s y with
    | .nx s' => runFor f s' r
    | .ct s' => runFor f s' r
    | .bk s' => .nx s'
    | .rt x => .rt x
  theorem runFor_nx {S B R τ : Type} (g : S → τ → S) : ∀ (xs : List τ) (s : S), runFor (B := B) (R := R) (fun s y => .nx (g s y)) s xs = .nx (xs.foldl g s)
  | [], s => rfl
  | y :: r, s => runFor_nx g r (g s y)

/-- what a def hands back: a datum, what it says of the slots at the end, and of the answer -/
structure Rc : Type 1 where
  ρ : Type
  RG : ρ → List Slot → Prop
  RS : ρ → Slot
  xn : ρ → Option Str
/-- what is wished of an error that leaves, the slots then -/
structure Wx : Type 1 where
  W : WX
  Γ : List Slot
def OutOk (X : Cx) (w : Wx) (c : Cw) (D : Ends) {S B : Type} {R : Rc} (F : Hp) (G : S → List Slot) (GB : B → List Slot) : Out S B R.ρ → Prop
  | .nx s => ∀ σ' F' H', Env X.K c F' H' σ' (G s) → Ex F F' → D.nx σ' H'
  | .bk s => ∀ σ' F' H', Env X.K c F' H' σ' (GB s) → Ex F F' → D.bk σ' H'
  | .ct s => ∀ σ' F' H', Env X.K c F' H' σ' (GB s) → Ex F F' → D.ct σ' H'
  | .rt r => (R.xn r = none → ∀ v σ' F' H' Γ' fp' l, EnvD X.K c F' H' σ' Γ' fp' → Ex F F' → R.RG r Γ' → (R.RS r).ok X.K F' H' (some v) l → (∀ b ∈ l, c.al b ∧ ∀ j, b ∉ fp' j) → D.rt v H') ∧
    (∀ n, R.xn r = some n → ∀ C σ' F' H', X.mg n = some (.ref C) → Env X.K c F' H' σ' w.Γ → Ex F F' → w.W (.ref C) none σ' H')

def XO (X : Cx) (w : Wx) (c : Cw) (Γ : List Slot) (sts : List Stmt) {S B : Type} {R : Rc} (G : S → List Slot) (GB : B → List Slot) (o : Out S B R.ρ) : Prop :=
  ∃ t, PSs X sts t ∧ ∀ F H σ, Env X.K c F H σ Γ → ∀ D : Ends, OutOk X w c D F G GB o → t D σ H
def XS (X : Cx) (w : Wx) (c : Cw) (Γ : List Slot) (st : Stmt) {S B : Type} {R : Rc} (G : S → List Slot) (GB : B → List Slot) (o : Out S B R.ρ) : Prop :=
  ∃ t, PS X st t ∧ ∀ F H σ, Env X.K c F H σ Γ → ∀ D : Ends, OutOk X w c D F G GB o → t D σ H

/-- slots forgotten -/
inductive Weak : List Slot → List Slot → Prop where
  | nil : Weak [] []
  | same {s : Slot} {l m : List Slot} (h : Weak l m) : Weak (s :: l) (s :: m)
  | no {s : Slot} {l m : List Slot} (h : Weak l m) : Weak (s :: l) (.no :: m)
theorem Weak.refl : ∀ l, Weak l l
  | [] => .nil
  | _ :: r => .same (Weak.refl r)
theorem Weak.len {l m : List Slot} (h : Weak l m) : l.length = m.length := by
  induction h with
  | nil => rfl
  | same _ ih => simp [ih]
  | no _ ih => simp [ih]
theorem Weak.get {l m : List Slot} (h : Weak l m) : ∀ (i : Nat) (s : Slot), m[i]? = some s → l[i]? = some s ∨ (s = .no ∧ i < l.length) := by
  induction h with
  | nil => intro i s h; simp at h
  | same _ ih =>
    intro i s h
    cases i with
    | zero => exact .inl (by simpa using h)
    | succ i => rcases ih i s (by simpa using h) with q | ⟨q, z⟩
                · exact .inl (by simpa using q)
                · exact .inr ⟨q, by simpa using z⟩
  | no _ ih =>
    intro i s h
    cases i with
    | zero => exact .inr ⟨by simpa using h.symm, by simp⟩
    | succ i => rcases ih i s (by simpa using h) with q | ⟨q, z⟩
                · exact .inl (by simpa using q)
                · exact .inr ⟨q, by simpa using z⟩
theorem EnvD.weak {K : Fg} {c : Cw} {F H : Hp} {σ : L2.St} {Γ Γ' : List Slot} {fp : Nat → List Addr} (E : EnvD K c F H σ Γ fp) (w : Weak Γ Γ') : ∃ fp', EnvD K c F H σ Γ' fp' ∧ ∀ j b, b ∈ fp' j → b ∈ fp j := by
  classical
  refine ⟨fun i => if Γ'[i]? = Γ[i]? then fp i else [], E.chg (fun i => Γ'[i]? ≠ Γ[i]?) (Ex.refl _) E.wd.fh (fun b u _ h => h) (fun b hb => .inl hb) rfl w.len.symm (fun i hi => ⟨Classical.not_not.mp hi, rfl, if_pos (Classical.not_not.mp hi)⟩) (fun i s hi hs => ?_) (fun i b hi hb => ?_) (fun i j b hi hj h1 h2 => ?_) (fun i hi h => ?_), fun j b hb => ?_⟩
  · rcases w.get i s hs with q | ⟨q, z⟩
    · exact absurd (hs.trans q.symm) hi
    · subst q
      obtain ⟨v, h1, h2⟩ := E.ok i Γ[i] (by simp [z])
      exact ⟨v, h1, if_neg hi⟩
  · rw [if_neg hi] at hb; cases hb
  · rw [if_neg hi] at h1; cases h1
  · exact if_neg hi
  · dsimp only at hb
    split at hb
    · exact hb
    · cases hb
theorem Env.weak {K : Fg} {c : Cw} {F H : Hp} {σ : L2.St} {Γ Γ' : List Slot} (E : Env K c F H σ Γ) (w : Weak Γ Γ') : Env K c F H σ Γ' := by
  obtain ⟨fp, E⟩ := E
  obtain ⟨fp', E', _⟩ := E.weak w
  exact ⟨fp', E'⟩

section
variable {X : Cx} {w : Wx} {c : Cw} {Γ Γ' : List Slot} {S S' B υ : Type} [Py υ] {R : Rc} {G : S → List Slot} {G' : S' → List Slot} {GB : B → List Slot} {o : Out S B R.ρ} {pos : Pos} {st : Stmt} {rest : List Stmt} {e d : Expr} {k : Bool}
theorem XO.eq {o' : Out S B R.ρ} (h : XO X w c Γ rest G GB o) (q : o = o') : XO X w c Γ rest G GB o' := q ▸ h
theorem XO.weak (wk : Weak Γ Γ') (h : XO X w c Γ' rest G GB o) : XO X w c Γ rest G GB o := by
  obtain ⟨t, h1, h2⟩ := h
  exact ⟨t, h1, fun F H σ E D q => h2 F H σ (E.weak wk) D q⟩
theorem xo_nil {s : S} (h : G s = Γ) : XO X w c Γ [] G GB (Out.nx s : Out S B R.ρ) := ⟨_, pss_nil, fun F H σ E D q => q σ F H (h ▸ E) (Ex.refl _)⟩
theorem xo_end {s : S} (h : Weak Γ (G s)) : XO X w c Γ [] G GB (Out.nx s : Out S B R.ρ) := ⟨_, pss_nil, fun F H σ E D q => q σ F H (E.weak h) (Ex.refl _)⟩
theorem OutOk.ex {D : Ends} {F F1 : Hp} (q : OutOk X w c D F G GB o) (e : Ex F F1) : OutOk X w c D F1 G GB o := by
  cases o with
  | nx s => exact fun σ' F' H' E x => q σ' F' H' E (e.trans x)
  | bk s => exact fun σ' F' H' E x => q σ' F' H' E (e.trans x)
  | ct s => exact fun σ' F' H' E x => q σ' F' H' E (e.trans x)
  | rt r => exact ⟨fun hn v σ' F' H' Γ' fp' l E x => q.1 hn v σ' F' H' Γ' fp' l E (e.trans x), fun n hn C σ' F' H' h E x => q.2 n hn C σ' F' H' h E (e.trans x)⟩
theorem xo_cons {o1 : Out S' B R.ρ} {k : S' → Out S B R.ρ} (h : XS X w c Γ st G' GB o1) (hr : ∀ s, o1 = .nx s → XO X w c (G' s) rest G GB (k s)) : XO X w c Γ (st :: rest) G GB (o1.bind k) := by
  obtain ⟨t, h1, h2⟩ := h
  cases o1 with
  | nx s =>
    obtain ⟨u, h3, h4⟩ := hr s rfl
    refine ⟨_, pss_cons h1 h3, fun F H σ E D q => h2 F H σ E _ fun σ' F' H' E' x => ?_⟩
    exact h4 F' H' σ' E' D (OutOk.ex (o := k s) q x)
  | bk s => exact ⟨_, pss_cons h1 pss_never, fun F H σ E D q => h2 F H σ E _ q⟩
  | ct s => exact ⟨_, pss_cons h1 pss_never, fun F H σ E D q => h2 F H σ E _ q⟩
  | rt s => exact ⟨_, pss_cons h1 pss_never, fun F H σ E D q => h2 F H σ E _ q⟩
/-- .. a statement that just goes on -/
theorem xo_next {o : Out S B R.ρ} (h : XS X w c Γ st (S := Unit) (fun _ => Γ') GB (Out.nx () : Out Unit B R.ρ)) (hr : XO X w c Γ' rest G GB o) : XO X w c Γ (st :: rest) G GB o := xo_cons (k := fun _ => o) h fun _ _ => hr
theorem xo_one (h : XS X w c Γ st G GB o) : XO X w c Γ [st] G GB o := by
  obtain ⟨t, h1, h2⟩ := h
  exact ⟨t, pss_one h1, h2⟩
/-- x = e -/
theorem xs_set {x : υ} (i : Nat) {n : Str} {p : Pos} (hN : X.N.Nodup) (he : XE X c Γ e x) (hi : X.N[i]? = some n := by rfl) (hx : Loc X.env.scope n := by first | exact .inl rfl | exact .inr rfl) (hs : swapsWith e (some (.Name n p)) pos.line X.env = pure false := by rfl)
    (hf : X.fn n = true ∨ X.env.scope.names.lookup n = some .local := by first | exact .inl rfl | exact .inr rfl | assumption) : XS X w c Γ (.Assign [.Name n p] e pos) (S := Unit) (fun _ => Γ.set i (.fz x)) GB (Out.nx () : Out Unit B R.ρ) := by
  obtain ⟨t, h1, h2⟩ := he
  refine ⟨_, ps_set (i := i) hN hi hx h1 hs hf, fun F H σ ⟨fp, E⟩ D q => h2 F H σ fp E _ fun v F' H' E' e1 e2 r => ?_⟩
  exact q _ F' H' (Env.set ⟨fp, E'⟩ r) e1
theorem xs_expr {x : υ} (he : XE X c Γ e x) (hs : swapsWith e none pos.line X.env = pure false := by rfl) : XS X w c Γ (.Expr e pos) (S := Unit) (fun _ => Γ) GB (Out.nx () : Out Unit B R.ρ) := by
  obtain ⟨t, h1, h2⟩ := he
  exact ⟨_, ps_expr h1 hs, fun F H σ ⟨fp, E⟩ D q => h2 F H σ fp E _ fun v F' H' E' e1 e2 r => q _ F' H' ⟨fp, E'⟩ e1⟩
theorem xs_pass : XS X w c Γ (.Pass pos) (S := Unit) (fun _ => Γ) GB (Out.nx () : Out Unit B R.ρ) := ⟨_, ps_pass, fun F H σ E D q => q _ F H E (Ex.refl _)⟩
theorem xs_ret {r : R.ρ} {x : υ} (he : XE X c Γ e x) (hw : R.RG r Γ) (hv : R.RS r = .fz x) (hx : R.xn r = none) : XS X w c Γ (.Return (some e) pos) G GB (Out.rt r : Out S B R.ρ) := by
  obtain ⟨t, h1, h2⟩ := he
  exact ⟨_, ps_ret h1, fun F H σ ⟨fp, E⟩ D q => h2 F H σ fp E _ fun v F' H' E' e1 e2 rr => q.1 hx v σ F' H' _ fp [] E' e1 hw (by rw [hv]; exact ⟨rfl, v, rfl, rr⟩) (fun b hb => by cases hb)⟩
theorem xs_retN {r : R.ρ} (hw : R.RG r Γ) (hv : R.RS r = .fz ()) (hx : R.xn r = none) : XS X w c Γ (.Return none pos) G GB (Out.rt r : Out S B R.ρ) :=
  ⟨_, ps_retN, fun F H σ ⟨fp, E⟩ D q => q.1 hx .non σ F H _ fp [] E (Ex.refl _) hw (by rw [hv]; exact ⟨rfl, _, rfl, rfl⟩) (fun b hb => by cases hb)⟩
theorem xs_brk {s : B} (h : Weak Γ (GB s)) : XS X w c Γ (.Break pos) G GB (Out.bk s : Out S B R.ρ) := ⟨_, ps_break, fun F H σ E D q => q σ F H (E.weak h) (Ex.refl _)⟩
theorem xs_cnt {s : B} (h : Weak Γ (GB s)) : XS X w c Γ (.Continue pos) G GB (Out.ct s : Out S B R.ρ) := ⟨_, ps_continue, fun F H σ E D q => q σ F H (E.weak h) (Ex.refl _)⟩
/-- if .. else -/
theorem xs_if {A C : List Stmt} {o1 o2 : Out S B R.ρ} (hd : XT X c Γ d k) (ha : k = true → XO X w c Γ A G GB o1) (hb : k = false → XO X w c Γ C G GB o2) : XS X w c Γ (.If d A C pos) G GB (if k then o1 else o2) := by
  obtain ⟨t, h1, h2⟩ := hd
  cases k with
  | true =>
    obtain ⟨u, h3, h4⟩ := ha rfl
    refine ⟨_, ps_if h1 h3 pss_never, fun F H σ ⟨fp, E⟩ D q => h2 F H σ fp E _ fun F' H' E' e1 e2 => ?_⟩
    rw [if_pos rfl]
    exact h4 F' H' σ ⟨fp, E'⟩ D (OutOk.ex (o := o1) q e1)
  | false =>
    obtain ⟨u, h3, h4⟩ := hb rfl
    refine ⟨_, ps_if h1 pss_never h3, fun F H σ ⟨fp, E⟩ D q => h2 F H σ fp E _ fun F' H' E' e1 e2 => ?_⟩
    rw [if_neg Bool.false_ne_true]
    exact h4 F' H' σ ⟨fp, E'⟩ D (OutOk.ex (o := o2) q e1)
/-- if d: A, A never comes to its end; then the rest -/
theorem OutOk.up {D : Ends} {F : Hp} {nx : L2.St → Hp → Prop} {G0 : Empty → List Slot} {o : Out Empty B R.ρ} (q : OutOk X w c D F G GB (o.up : Out S B R.ρ)) : OutOk X w c { D with nx := nx } F G0 GB o := by
  cases o with
  | nx s => exact s.elim
  | bk s => exact q
  | ct s => exact q
  | rt r => exact q
theorem xo_ifx {A : List Stmt} {o1 : Out Empty B R.ρ} {o2 : Out S B R.ρ} (hd : XT X c Γ d k) (ha : k = true → XO X w c Γ A (fun s : Empty => s.elim) GB o1) (hb : k = false → XO X w c Γ rest G GB o2) :
    XO X w c Γ (.If d A [] pos :: rest) G GB (if k then o1.up else o2) := by
  obtain ⟨t, h1, h2⟩ := hd
  cases k with
  | true =>
    obtain ⟨u, h3, h4⟩ := ha rfl
    refine ⟨_, pss_cons (ps_if h1 h3 pss_never) pss_never, fun F H σ ⟨fp, E⟩ D q => h2 F H σ fp E _ fun F' H' E' e1 e2 => ?_⟩
    rw [if_pos rfl]
    exact h4 F' H' σ ⟨fp, E'⟩ _ (OutOk.up (OutOk.ex (o := o1.up) q e1))
  | false =>
    obtain ⟨u, h3, h4⟩ := hb rfl
    refine ⟨_, pss_cons (ps_if h1 pss_never pss_nil) h3, fun F H σ ⟨fp, E⟩ D q => h2 F H σ fp E _ fun F' H' E' e1 e2 => ?_⟩
    rw [if_neg Bool.false_ne_true]
    exact h4 F' H' σ ⟨fp, E'⟩ D (OutOk.ex (o := o2) q e1)
/-- if d: A else: C, both go on, to one row of slots -/
theorem xs_ifj {A C : List Stmt} {Γ1 : Bool → List Slot} (hd : XT X c Γ d k) (ha : k = true → XO X w c Γ A (S := Unit) (fun _ => Γ1 true) GB (Out.nx () : Out Unit B R.ρ)) (hb : k = false → XO X w c Γ C (S := Unit) (fun _ => Γ1 false) GB (Out.nx () : Out Unit B R.ρ)) :
    XS X w c Γ (.If d A C pos) (S := Unit) (fun _ => Γ1 k) GB (Out.nx () : Out Unit B R.ρ) := by
  cases k with
  | true => exact xs_if (o1 := .nx ()) (o2 := .nx ()) hd (fun _ => ha rfl) (fun h => by cases h)
  | false => exact xs_if (o1 := .nx ()) (o2 := .nx ()) hd (fun h => by cases h) (fun _ => hb rfl)

/-! ### what is bound -/
/-- the slots but some are as they were -/
def Sm (ws : List Nat) (σ σ' : L2.St) : Prop := σ'.length = σ.length ∧ ∀ j, j ∉ ws → σ'[j]? = σ[j]?
def XG (X : Cx) (c : Cw) (tg : Expr) (ws : List Nat) (up : List Slot → υ → List Slot) : Prop := ∃ g, PG X tg g ∧ ∀ F H σ fp v Γ (y : υ), EnvD X.K c F H σ Γ fp → rep X.K F v y → ∀ Q : L2.St → Hp → Prop,
  (∀ σ' fp', EnvD X.K c F H σ' (up Γ y) fp' → (∀ j b, b ∈ fp' j → b ∈ fp j) → Sm ws σ σ' → Q σ' H) → g v σ H Q
theorem xg_name (i : Nat) {n : Str} (hN : X.N.Nodup) (hi : X.N[i]? = some n := by rfl) (hx : Loc X.env.scope n := by first | exact .inl rfl | exact .inr rfl) (hf : X.fn n = true ∨ X.env.scope.names.lookup n = some .local := by first | exact .inl rfl | exact .inr rfl | assumption) :
    XG X c (.Name n pos) [i] (fun Γ (y : υ) => Γ.set i (.fz y)) := ⟨_, pg_name (i := i) hN hi hx hf, fun F H σ fp v Γ y E r Q q => q _ _ (E.set r) (fun j b hb => by split at hb; cases hb; exact hb) ⟨by simp, fun j hj => by
      rw [List.getElem?_set_ne]; rintro rfl; exact hj (by simp)⟩⟩
def XGs (X : Cx) (c : Cw) {α : Type} [PyA α] (tgs : List Expr) (ws : List Nat) (up : List Slot → α → List Slot) : Prop := ∃ g, PGs X tgs g ∧ ∀ F H σ fp vs Γ (y : α), EnvD X.K c F H σ Γ fp → PyA.reps X.K F vs y → ∀ Q : L2.St → Hp → Prop,
  (∀ σ' fp', EnvD X.K c F H σ' (up Γ y) fp' → (∀ j b, b ∈ fp' j → b ∈ fp j) → Sm ws σ σ' → Q σ' H) → g vs σ H Q
theorem xgs_nil : XGs X c [] [] (fun Γ (_ : Unit) => Γ) := ⟨_, pgs_nil, fun F H σ fp vs Γ y E r Q q => ⟨r, q σ fp E (fun _ _ h => h) ⟨rfl, fun _ _ => rfl⟩⟩⟩
theorem xgs_cons {α : Type} [PyA α] {tg : Expr} {tgs : List Expr} {w1 w2 : List Nat} {u1 : List Slot → υ → List Slot} {u2 : List Slot → α → List Slot} (h1 : XG X c tg w1 u1) (h2 : XGs X c tgs w2 u2) (hs : (assignEach (tg :: tgs) X.env).map (·.2) = assign tg X.env :: (assignEach tgs X.env).map (·.2) := by rfl) :
    XGs X c (tg :: tgs) (w1 ++ w2) (fun Γ (y : υ × α) => u2 (u1 Γ y.1) y.2) := by
  obtain ⟨g1, p1, q1⟩ := h1
  obtain ⟨g2, p2, q2⟩ := h2
  refine ⟨_, pgs_cons p1 p2 hs, fun F H σ fp vs Γ y E r Q q => ?_⟩
  obtain ⟨u, rs, rfl, r1, r2⟩ := r
  exact ⟨u, rs, rfl, q1 F H σ fp u Γ y.1 E r1 _ fun σ1 fp1 E1 i1 s1 => q2 F H σ1 fp1 rs _ y.2 E1 r2 Q fun σ2 fp2 E2 i2 s2 => q σ2 fp2 E2 (fun j b h => i1 j b (i2 j b h)) ⟨s2.1.trans s1.1, fun j hj => (s2.2 j fun h => hj (List.mem_append_right _ h)).trans (s1.2 j fun h => hj (List.mem_append_left _ h))⟩⟩
theorem xg_tup {α : Type} [PyA α] [PyT υ α] {es : List Expr} {ws : List Nat} {u : List Slot → α → List Slot} {x1} (h : XGs X c es ws u)
    (hc : X.calm = true := by rfl) (hn : (assignEach es X.env).length = PyT.ar υ := by rfl) (hst : (assignEach es X.env).findIdx? (·.1) = none := by rfl) : XG X c (.Tuple es x1 pos) ws (fun Γ (y : υ) => u Γ (PyT.toA y)) := by
  obtain ⟨g, p, q⟩ := h
  refine ⟨_, pg_tup hc p hn hst, fun F H σ fp v Γ y E r Q k => ?_⟩
  obtain ⟨a, vs, rfl, r1, r2, r3⟩ := PyT.to (α := α) r
  exact ⟨a, vs, rfl, E.wd.fh.t r1, r2, q F H σ fp vs Γ _ E r3 Q k⟩
/-- target = e -/
theorem xs_asg {x : υ} {tg : Expr} {up : List Slot → υ → List Slot} (he : XE X c Γ e x) {ws : List Nat} (hg : XG X c tg ws up) (hs : swapsWithSole [tg] e pos.line X.env = pure false := by rfl) (hw : swappedStores [tg] e X.env = pure none := by rfl) (h1' : (assignEach [tg] X.env).map (·.2) = [assign tg X.env] := by rfl) :
    XS X w c Γ (.Assign [tg] e pos) (S := Unit) (fun _ => up Γ x) GB (Out.nx () : Out Unit B R.ρ) := by
  obtain ⟨t, h1, h2⟩ := he
  obtain ⟨g, h3, h4⟩ := hg
  refine ⟨_, ps_asg h1 h3 hs hw h1', fun F H σ ⟨fp, E⟩ D q => h2 F H σ fp E _ fun v F' H' E' e1 e2 r => h4 F' H' σ fp v _ x E' r _ fun σ' fp' E2 _ _ => q σ' F' H' ⟨fp', E2⟩ e1⟩
/-- x += e -/
theorem xs_aug {op : Operator} {x z : υ} {y : S'} [Py S'] {ti : TIp} (i : Nat) {n : Str} {p : Pos} (hN : X.N.Nodup) (he : XE X c Γ e y) (ho : PIp X op ti) (hr : ROp X.K ti x y z) (hi : X.N[i]? = some n := by rfl) (h0 : Γ[i]? = some (.fz x) := by rfl) (hx : Loc X.env.scope n := by first | exact .inl rfl | exact .inr rfl)
    (hf : X.fn n = true ∨ X.env.scope.names.lookup n = some .local := by first | exact .inl rfl | exact .inr rfl | assumption) :
    XS X w c Γ (.AugAssign (.Name n p) op e pos) (S := Unit) (fun _ => Γ.set i (.fz z)) GB (Out.nx () : Out Unit B R.ρ) := by
  obtain ⟨t, h1, h2⟩ := he
  refine ⟨_, ps_aug (i := i) hN hi hx h1 ho hf, fun F H σ ⟨fp, E⟩ D q => ?_⟩
  obtain ⟨u, h3, r⟩ := E.get h0
  refine ⟨u, h3, h2 F H σ fp E _ fun v F' H' E' e1 e2 r2 => hr F' H' u v E'.wd.fh (Py.mono e1 r) r2 _ fun w F2 H2 p1 p2 p3 p4 p5 => ?_⟩
  exact q _ F2 H2 (Env.set ⟨fp, E'.grow p1 p2 p3 p4⟩ p5) (e1.trans p1)

/-! ### loops -/
/-- what is walked, frozen: items xs -/
structure Wk (K : Fg) (J : It) (xs : List υ) (F : Hp) : Prop where
  ex : ∃ (G : Hp → Prop) (Y : Nat → Hp → V → Hp → Prop), Walk J xs.length G Y ∧ (∀ F1 H1, Ex F F1 → Ex F1 H1 → G H1) ∧
    ∀ i F1 H1 v H2 y, Ex F F1 → Ex F1 H1 → Y i H1 v H2 → xs[i]? = some y → ∃ F2, Ex F1 F2 ∧ Ex F2 H2 ∧ Ex H1 H2 ∧ (∀ b, F2 b ≠ none → F1 b ≠ none ∨ H1 b = none) ∧ rep K F2 v y
def XI (X : Cx) (c : Cw) (Γ : List Slot) (tg it : Expr) (xs : List υ) : Prop := ∃ wi, PI X tg it wi ∧ ∀ F H σ fp, EnvD X.K c F H σ Γ fp → ∀ R : It → Hp → Prop, (∀ J F' H', EnvD X.K c F' H' σ Γ fp → Ex F F' → Nw F H F' H' → Wk X.K J xs F' → R J H') → wi σ H R
theorem xi_list {it : Expr} {tg : Expr} {α : Type} [Py α] [PyL α υ] {xs : α} (h : XE X c Γ it xs) : XI X c Γ tg it (PyL.li xs) := by
  obtain ⟨t, h1, h2⟩ := h
  refine ⟨_, pi_list h1, fun F H σ fp E R q => h2 F H σ fp E _ fun v F' H' E' e1 e2 r => ?_⟩
  obtain ⟨a, vs, rfl, r1, r2⟩ := PyL.sq r
  refine ⟨a, rfl, ⟨vs, E'.wd.fh.l r1⟩, q _ F' H' E' e1 e2 ⟨fun H => SqL X.K H a vs, YAt vs, by rw [← r2.length]; exact walk_list, fun F1 H1 x1 x2 => (x1.trans x2).l r1, fun i F1 H1 v H2 y x1 x2 hy hx => ?_⟩⟩
  obtain ⟨rfl, hv⟩ := hy
  obtain ⟨y', hy', r3⟩ := Reps.get (i := i) r2 hv
  rw [hx] at hy'
  cases hy'
  exact ⟨F1, Ex.refl _, x2, Ex.refl _, fun b h => .inl h, Py.mono x1 r3⟩
theorem xi_tup {it : Expr} {tg : Expr} {xs : Tup υ} (h : XE X c Γ it xs) : XI X c Γ tg it xs.l := by
  obtain ⟨t, h1, h2⟩ := h
  refine ⟨_, pi_tup h1, fun F H σ fp E R q => h2 F H σ fp E _ fun v F' H' E' e1 e2 r => ?_⟩
  obtain ⟨a, vs, rfl, r1, r2⟩ := r
  refine ⟨a, rfl, ⟨vs, E'.wd.fh.t r1⟩, q _ F' H' E' e1 e2 ⟨fun H => SqT X.K H a vs, YAt vs, by rw [← r2.length]; exact walk_tup, fun F1 H1 x1 x2 => (x1.trans x2).t r1, fun i F1 H1 v H2 y x1 x2 hy hx => ?_⟩⟩
  obtain ⟨rfl, hv⟩ := hy
  obtain ⟨y', hy', r3⟩ := Reps.get (i := i) r2 hv
  rw [hx] at hy'
  cases hy'
  exact ⟨F1, Ex.refl _, x2, Ex.refl _, fun b h => .inl h, Py.mono x1 r3⟩
/-- the izs from lo on -/
def izs (lo : Int) (n : Nat) : List Int := (List.range n).map fun i => lo + (i : Nat)
theorem izs_len {lo : Int} {n : Nat} : (izs lo n).length = n := by simp [izs]
theorem izs_get {lo : Int} {n i : Nat} {y : Int} (h : (izs lo n)[i]? = some y) : i < n ∧ y = lo + i := by
  unfold izs at h
  rw [List.getElem?_map] at h
  by_cases hi : i < n
  · rw [List.getElem?_range hi] at h
    exact ⟨hi, (Option.some.inj h).symm⟩
  · rw [List.getElem?_eq_none (by simp; omega)] at h
    cases h
theorem wk_range {K : Fg} {lo : Int} {n : Nat} {F : Hp} : Wk K (Itr lo n) (izs lo n) F := by
  refine ⟨fun _ => True, YFn fun i => .int (lo + i), by rw [izs_len]; exact walk_range, fun _ _ _ _ => trivial, fun i F1 H1 v H2 y x1 x2 hy hx => ?_⟩
  obtain ⟨rfl, rfl⟩ := hy
  obtain ⟨_, rfl⟩ := izs_get hx
  exact ⟨F1, Ex.refl _, x2, Ex.refl _, fun b h => .inl h, rfl⟩
theorem xi_range1 {a tg : Expr} {p : Pos} {j : Int} (hm : X.mg "range" = none) (ha : XE X c Γ a j) (hj : -(2 ^ 62) ≤ j ∧ j < 2 ^ 62) (hg : Gl X "range" := by rfl) (hs : starEach [a] X.env = [(false, eval a X.env)] := by rfl) :
    XI X c Γ tg (.Call (.Name "range" p) [a] [] pos) (izs 0 j.toNat) := by
  obtain ⟨t, h1, h2⟩ := ha
  refine ⟨_, pi_range1 hg hm (pa_cons h1 pa_nil hs) hs, fun F H σ fp E R q => h2 F H σ fp E _ fun v F' H' E' e1 e2 r => ?_⟩
  exact ⟨j, by rw [show v = V.int j from r], hj.1, hj.2, q _ F' H' E' e1 e2 wk_range⟩
theorem xi_range2 {a b tg : Expr} {p : Pos} {i j : Int} (hm : X.mg "range" = none) (ha : XE X c Γ a i) (hb : XE X c Γ b j) (hj : -(2 ^ 62) ≤ i ∧ i < 2 ^ 62 ∧ -(2 ^ 62) ≤ j ∧ j < 2 ^ 62) (hg : Gl X "range" := by rfl) (hs : starEach [a, b] X.env = [(false, eval a X.env), (false, eval b X.env)] := by rfl) (hs2 : starEach [b] X.env = [(false, eval b X.env)] := by rfl) :
    XI X c Γ tg (.Call (.Name "range" p) [a, b] [] pos) (izs i (j - i).toNat) := by
  obtain ⟨t, h1, h2⟩ := ha
  obtain ⟨u, h3, h4⟩ := hb
  refine ⟨_, pi_range2 hg hm (pa_cons h1 (pa_cons h3 pa_nil hs2) (hs.trans (by rw [hs2]))) hs hs2, fun F H σ fp E R q => h2 F H σ fp E _ fun v F' H' E' e1 e2 r => h4 F' H' σ fp E' _ fun w F2 H2 E2 e3 e4 r2 => ?_⟩
  exact ⟨i, j, by rw [show v = V.int i from r, show w = V.int j from r2], hj, q _ F2 H2 E2 (e1.trans e3) (e2.trans e4) wk_range⟩

/-- a for whose turns may leave: L tells the slots by the data carried -/
theorem xs_for {tg it : Expr} {body : List Stmt} {xs : List υ} {up : List Slot → υ → List Slot} {L : S → List Slot} {s0 : S} {f : S → υ → Out S S R.ρ} (Iv : Nat → S → Prop) (hi : XI X c Γ tg it xs) {ws : List Nat} (hg : XG X c tg ws up) (hw : Weak Γ (L s0))
    (h0 : Iv 0 s0) (hb : ∀ i y s, xs[i]? = some y → Iv i s → XO X w c (up (L s) y) body L L (f s y) ∧ match f s y with | .nx s' => Iv (i + 1) s' | .ct s' => Iv (i + 1) s' | _ => True)
    (hc : X.calm = true := by rfl) (hp : PassesOwn (model X.prog X.w) X.A X.env X.xe := by exact PassesOwn.never) (hs : ∀ x, foldedSetIterable it X.env x = pure x := by intro _; rfl) :
    XS X w c Γ (.For tg it body [] pos) L GB (runFor f s0 xs : Out S B R.ρ) := by
  obtain ⟨wi, h1, h2⟩ := hi
  obtain ⟨g, g1, g2⟩ := hg
  classical
  have key : ∃ tb, PSs X body tb ∧ ∀ i y s, xs[i]? = some y → Iv i s → ∀ F H σ, Env X.K c F H σ (up (L s) y) → ∀ D : Ends, OutOk X w c D F L L (f s y) → tb D σ H := by
    refine ⟨fun D σ H => ∃ (t : TS), PSs X body t ∧ t D σ H, ⟨fun pins s σ H D I h => ?_⟩, fun i y s hx hI F H σ E D q => ?_⟩
    · obtain ⟨t, p, q⟩ := h
      exact p.run pins s σ H D I q
    · obtain ⟨⟨t, p, q'⟩, _⟩ := hb i y s hx hI
      exact ⟨t, p, q' F H σ E D q⟩
  obtain ⟨tb, b1, b2⟩ := key
  refine ⟨_, ps_for hp hc h1 g1 b1 hs, fun F H σ ⟨fp0, E⟩ D q => h2 F H σ fp0 E _ fun J F1 H1 E1 e1 _ wk => ?_⟩
  obtain ⟨GG, Y, w1, w2, w3⟩ := wk
  obtain ⟨fin, hfin⟩ : ∃ fin, runFor (B := B) f s0 xs = fin := ⟨_, rfl⟩
  rw [hfin] at q
  -- the word: at turn i some data s with what is left giving the same end
  refine for_it w1 (fun i σ' H' => ∃ s F', Ex F1 F' ∧ Iv i s ∧ Env X.K c F' H' σ' (L s) ∧ runFor (B := B) f s (xs.drop i) = fin) ⟨s0, F1, Ex.refl _, h0, Env.weak ⟨fp0, E1⟩ hw, by rw [← hfin]; simp⟩ ?_ ?_ ?_
  · rintro i σ' H' hi ⟨s, F', x1, _, E', _⟩
    exact w2 F' H' x1 E'.wd.fh
  · rintro i v σ' Ha Hb hi ⟨s, F', x1, hI, E', hr⟩ hy
    have hx : xs[i]? = some xs[i] := by simp [hi]
    obtain ⟨F2, y1, y2, y3, y4, y5⟩ := w3 i F' Ha v Hb xs[i] x1 E'.wd.fh hy hx
    obtain ⟨fpE, E'⟩ := E'
    refine g2 F2 Hb σ' fpE v _ xs[i] (E'.grow y1 y2 y3 y4) y5 _ fun σ2 fp2 E2 _ _ => ?_
    have hIv := (hb i xs[i] s hx hI).2
    have hdr : xs.drop i = xs[i] :: xs.drop (i + 1) := List.drop_eq_getElem_cons hi
    rw [hdr] at hr
    refine b2 i xs[i] s hx hI F2 Hb σ2 ⟨fp2, E2⟩ _ ?_
    unfold runFor at hr
    cases hf : f s xs[i] with
    | nx s' =>
      rw [hf] at hr hIv
      exact fun σ3 F3 H3 E3 x3 => ⟨s', F3, (x1.trans y1).trans x3, hIv, E3, hr⟩
    | ct s' =>
      rw [hf] at hr hIv
      exact fun σ3 F3 H3 E3 x3 => ⟨s', F3, (x1.trans y1).trans x3, hIv, E3, hr⟩
    | bk s' =>
      rw [hf] at hr
      rw [← hr] at q
      exact fun σ3 F3 H3 E3 x3 => q σ3 F3 H3 E3 (((e1.trans x1).trans y1).trans x3)
    | rt r =>
      rw [hf] at hr
      rw [← hr] at q
      exact OutOk.ex (o := Out.rt r) (G := L) (GB := L) q ((e1.trans x1).trans y1)
  · rintro σ' H' ⟨s, F', x1, _, E', hr⟩
    rw [List.drop_length] at hr
    unfold runFor at hr
    rw [← hr] at q
    exact q σ' F' H' E' (e1.trans x1)
end
end Fw
namespace Fw
open PySem L2 Py PyProof.Rows
/-! ### items by place -/
def ix {τ : Type} [Inhabited τ] (xs : List τ) (i : Int) : τ := (atI xs i).getD default
def InB {τ : Type} (xs : List τ) (i : Int) : Prop := -(xs.length : Int) ≤ i ∧ i < xs.length
instance {τ : Type} (xs : List τ) (i : Int) : Decidable (InB xs i) := inferInstanceAs (Decidable (_ ∧ _))
theorem ixN_some {n : Nat} {i : Int} (h : -(n : Int) ≤ i ∧ i < n) : ∃ j, ixN n i = some j ∧ j < n := by
  unfold ixN
  by_cases h0 : 0 ≤ i
  · rw [if_pos h0, if_pos h.2]; exact ⟨_, rfl, by omega⟩
  · rw [if_neg h0, if_pos h.1]; exact ⟨_, rfl, by omega⟩
theorem atI_ix {τ : Type} [Inhabited τ] {xs : List τ} {i : Int} (h : InB xs i) : atI xs i = some (ix xs i) := by
  obtain ⟨j, e, hj⟩ := ixN_some h
  unfold ix atI
  rw [e]
  show xs[j]? = some ((xs[j]?).getD default)
  simp [hj]
theorem ix_nat {τ : Type} [Inhabited τ] {xs : List τ} {i : Int} (h0 : 0 ≤ i) : ix xs i = (xs[i.toNat]?).getD default := by
  unfold ix atI ixN
  rw [if_pos h0]
  by_cases h : i < xs.length
  · rw [if_pos h]; rfl
  · rw [if_neg h, List.getElem?_eq_none (by omega)]; rfl
theorem atI_reps {τ : Type} [Py τ] {K : Fg} {F : Hp} {vs : List V} {xs : List τ} {i : Int} {x : τ} (r : Reps K F vs xs) (h : atI xs i = some x) : ∃ v, atI vs i = some v ∧ rep K F v x := by
  unfold atI at h ⊢
  rw [r.length]
  cases e : ixN xs.length i with
  | none => rw [e] at h; cases h
  | some j =>
    rw [e] at h
    exact Reps.get' (i := j) r h
/-- sequences: lists, read lists, tuples of one kind -/
class PyS (υ : Type) (τ : outParam Type) [Py υ] [Py τ] where
  li : υ → List τ
  sq : ∀ {K : Fg} {F : Hp} {v : V} {x : υ}, rep K F v x → ∃ a vs, v = .ref a ∧ (SqL K F a vs ∨ SqT K F a vs) ∧ Reps K F vs (li x)
instance {τ : Type} [Py τ] : PyS (List τ) τ := ⟨fun x => x, fun ⟨a, vs, h1, h2, h3⟩ => ⟨a, vs, h1, .inl (sq_of h2), h3⟩⟩
instance {τ : Type} [Py τ] : PyS (Scr τ) τ := ⟨Scr.l, fun ⟨a, vs, h1, h2, h3⟩ => ⟨a, vs, h1, .inl h2, h3⟩⟩
instance {τ : Type} [Py τ] : PyS (Tup τ) τ := ⟨Tup.l, fun ⟨a, vs, h1, h2, h3⟩ => ⟨a, vs, h1, .inr h2, h3⟩⟩

section
variable {X : Cx} {c : Cw} {Γ Γ' : List Slot} {τ υ ζ : Type} [Py τ] [Py υ] [Py ζ] {a b d e : Expr} {es : List Expr} {x : τ} {y : υ} {z : ζ} {pos : Pos}
theorem xa_nil : XA X c Γ [] () := ⟨_, pa_nil, fun F H σ fp E Q q => q [] F H E (Ex.refl _) Nw.refl rfl⟩
theorem xa_cons {α : Type} [PyA α] {r : α} (h : XE X c Γ e x) (hr : XA X c Γ es r) (hs : starEach (e :: es) X.env = (false, eval e X.env) :: starEach es X.env := by rfl) : XA X c Γ (e :: es) (x, r) := by
  obtain ⟨t, h1, h2⟩ := h
  obtain ⟨u, h3, h4⟩ := hr
  refine ⟨_, pa_cons h1 h3 hs, fun F H σ fp E Q q => h2 F H σ fp E _ fun v F1 H1 E1 e1 g1 r1 => h4 F1 H1 σ fp E1 _ fun vs F2 H2 E2 e2 g2 r2 => ?_⟩
  exact q _ F2 H2 E2 (e1.trans e2) (g1.trans g2) ⟨v, vs, rfl, Py.mono e2 r1, r2⟩
/-- a row of things of one kind -/
def XL (X : Cx) (c : Cw) (Γ : List Slot) {τ : Type} [Py τ] (es : List Expr) (xs : List τ) : Prop := ∃ t, PA X es t ∧
  ∀ F H σ fp, EnvD X.K c F H σ Γ fp → ∀ Q : List V → Hp → Prop, (∀ v F' H', EnvD X.K c F' H' σ Γ fp → Ex F F' → Nw F H F' H' → Reps X.K F' v xs → Q v H') → t σ H Q
theorem xl_nil : XL X c Γ [] ([] : List τ) := ⟨_, pa_nil, fun F H σ fp E Q q => q [] F H E (Ex.refl _) Nw.refl .nil⟩
theorem xl_cons {xs : List τ} (h : XE X c Γ e x) (hr : XL X c Γ es xs) (hs : starEach (e :: es) X.env = (false, eval e X.env) :: starEach es X.env := by rfl) : XL X c Γ (e :: es) (x :: xs) := by
  obtain ⟨t, h1, h2⟩ := h
  obtain ⟨u, h3, h4⟩ := hr
  refine ⟨_, pa_cons h1 h3 hs, fun F H σ fp E Q q => h2 F H σ fp E _ fun v F1 H1 E1 e1 g1 r1 => h4 F1 H1 σ fp E1 _ fun vs F2 H2 E2 e2 g2 r2 => ?_⟩
  exact q _ F2 H2 E2 (e1.trans e2) (g1.trans g2) (.cons (Py.mono e2 r1) r2)
theorem sz (n : Nat) (h : n ≤ 100000) : n ≤ sizeLine := Nat.le_trans h (by decide)
theorem lay_l {F H : Hp} {vs : List V} {xs : List τ} {p : Addr} (r : Reps X.K F vs xs) (e : Ex F (upd F p (.lst vs))) : rep X.K (upd F p (.lst vs)) (.ref p) xs := ⟨p, vs, rfl, upd_same, r.mono e⟩
theorem xe_lst {xs : List τ} (h : XL X c Γ es xs) (hl : xs.length ≤ 100000) : XE X c Γ (.List es pos) xs := by
  obtain ⟨t, h1, h2⟩ := h
  refine ⟨_, pe_lst h1, fun F H σ fp E Q q => h2 F H σ fp E _ fun vs F1 H1 E1 e1 g1 r1 => ⟨sz _ (by rw [r1.length]; exact hl), fun p hp => ?_⟩⟩
  have ef : Ex F1 (upd F1 p (.lst vs)) := Ex.new (E1.ff hp)
  exact q _ _ _ (E1.lay hp) (e1.trans ef) (g1.trans (Nw.lay hp)) ⟨p, vs, rfl, upd_same, r1.mono ef⟩
theorem xe_tup {α : Type} [PyA α] [PyT υ α] {k} {r : α} (h : XA X c Γ es r) : XE X c Γ (.Tuple es k pos) (PyT.ofA r : υ) := by
  obtain ⟨t, h1, h2⟩ := h
  refine ⟨_, pe_tup h1, fun F H σ fp E Q q => h2 F H σ fp E _ fun vs F1 H1 E1 e1 g1 r1 => ⟨sz _ (by rw [PyT.len (υ := υ) r1]; exact Nat.le_trans (PyT.small (υ := υ)) (show 100 ≤ 100000 by decide)), fun p hp => ?_⟩⟩
  have ef : Ex F1 (upd F1 p (.tup vs)) := Ex.new (E1.ff hp)
  exact q _ _ _ (E1.lay hp) (e1.trans ef) (g1.trans (Nw.lay hp)) (PyT.of (st_of upd_same) (PyA.mono ef r1))
theorem xe_tupL {k} {xs : List τ} (h : XL X c Γ es xs) (hl : xs.length ≤ 100000) : XE X c Γ (.Tuple es k pos) (Tup.mk xs) := by
  obtain ⟨t, h1, h2⟩ := h
  refine ⟨_, pe_tup h1, fun F H σ fp E Q q => h2 F H σ fp E _ fun vs F1 H1 E1 e1 g1 r1 => ⟨sz _ (by rw [r1.length]; exact hl), fun p hp => ?_⟩⟩
  have ef : Ex F1 (upd F1 p (.tup vs)) := Ex.new (E1.ff hp)
  exact q _ _ _ (E1.lay hp) (e1.trans ef) (g1.trans (Nw.lay hp)) ⟨p, vs, rfl, st_of upd_same, r1.mono ef⟩

/-! ### subscripts, slices, lengths -/
theorem xe_ix0 {i : Int} {y : τ} {s : υ} [PyL υ τ] (ha : XE X c Γ a s) (hb : XE X c Γ b i) (h : atI (PyL.li s) i = some y) (hs : PlainIx b := by exact fun _ _ => rfl) : XE X c Γ (.Subscript a b pos) y :=
  xe_bin (t := fun a _ => a) (fun h1 h2 => pe_ix ix_list h1 h2 hs) (fun F H u v e h1 h2 Q q => by
    obtain ⟨p, vs, rfl, r1, r2⟩ := PyL.sq h1
    obtain ⟨w, h3, h4⟩ := atI_reps r2 h
    exact ⟨p, vs, i, w, rfl, h2, e.l r1, h3, q w F H (Ex.refl _) e (Ex.refl _) (fun _ h => .inl h) h4⟩) ha hb
theorem xe_ix [Inhabited τ] {i : Int} {s : υ} [PyL υ τ] (ha : XE X c Γ a s) (hb : XE X c Γ b i) (h : InB (PyL.li s) i) (hs : PlainIx b := by exact fun _ _ => rfl) : XE X c Γ (.Subscript a b pos) (ix (PyL.li s) i) := xe_ix0 ha hb (atI_ix h) hs
theorem xe_ixT [Inhabited τ] {i : Int} {s : Tup τ} (ha : XE X c Γ a s) (hb : XE X c Γ b i) (h : InB s.l i) (hs : PlainIx b := by exact fun _ _ => rfl) : XE X c Γ (.Subscript a b pos) (ix s.l i) :=
  xe_bin (t := fun a _ => a) (fun h1 h2 => pe_ix ix_tup h1 h2 hs) (fun F H u v e h1 h2 Q q => by
    obtain ⟨p, vs, rfl, r1, r2⟩ := h1
    obtain ⟨w, h3, h4⟩ := atI_reps r2 (atI_ix h)
    exact ⟨p, vs, i, w, rfl, h2, e.t r1, h3, q w F H (Ex.refl _) e (Ex.refl _) (fun _ h => .inl h) h4⟩) ha hb
/-- t[0], t[1], .. of a tuple of n things -/
theorem xe_fst {p : τ × υ} (ha : XE X c Γ a p) {j q} (hs : PlainIx (.Constant (.int 0) j q) := by exact fun _ _ => rfl) : XE X c Γ (.Subscript a (.Constant (.int 0) j q) pos) p.1 :=
  xe_bin (t := fun a _ => a) (y := (0 : Int)) (fun h1 h2 => pe_ix ix_tup h1 h2 hs) (fun F H u v e h1 h2 Q q => by
    obtain ⟨p, v1, v2, rfl, r1, r2, r3⟩ := h1
    exact ⟨p, [v1, v2], 0, v1, rfl, h2, e.t r1, rfl, q _ F H (Ex.refl _) e (Ex.refl _) (fun _ h => .inl h) r2⟩) ha xe_int
theorem xe_snd {p : τ × υ} (ha : XE X c Γ a p) {j q} (hs : PlainIx (.Constant (.int 1) j q) := by exact fun _ _ => rfl) : XE X c Γ (.Subscript a (.Constant (.int 1) j q) pos) p.2 :=
  xe_bin (t := fun a _ => a) (y := (1 : Int)) (fun h1 h2 => pe_ix ix_tup h1 h2 hs) (fun F H u v e h1 h2 Q q => by
    obtain ⟨p, v1, v2, rfl, r1, r2, r3⟩ := h1
    exact ⟨p, [v1, v2], 1, v2, rfl, h2, e.t r1, rfl, q _ F H (Ex.refl _) e (Ex.refl _) (fun _ h => .inl h) r3⟩) ha xe_int
section
variable {p3 : T3 τ υ ζ}
theorem xe_t3a (ha : XE X c Γ a p3) {j q} (hs : PlainIx (.Constant (.int 0) j q) := by exact fun _ _ => rfl) : XE X c Γ (.Subscript a (.Constant (.int 0) j q) pos) p3.a :=
  xe_bin (t := fun a _ => a) (y := (0 : Int)) (fun h1 h2 => pe_ix ix_tup h1 h2 hs) (fun F H u v e h1 h2 Q q => by
    obtain ⟨p, v1, v2, v3, rfl, r1, r2, r3, r4⟩ := h1
    exact ⟨p, [v1, v2, v3], 0, v1, rfl, h2, e.t r1, rfl, q _ F H (Ex.refl _) e (Ex.refl _) (fun _ h => .inl h) r2⟩) ha xe_int
theorem xe_t3b (ha : XE X c Γ a p3) {j q} (hs : PlainIx (.Constant (.int 1) j q) := by exact fun _ _ => rfl) : XE X c Γ (.Subscript a (.Constant (.int 1) j q) pos) p3.b :=
  xe_bin (t := fun a _ => a) (y := (1 : Int)) (fun h1 h2 => pe_ix ix_tup h1 h2 hs) (fun F H u v e h1 h2 Q q => by
    obtain ⟨p, v1, v2, v3, rfl, r1, r2, r3, r4⟩ := h1
    exact ⟨p, [v1, v2, v3], 1, v2, rfl, h2, e.t r1, rfl, q _ F H (Ex.refl _) e (Ex.refl _) (fun _ h => .inl h) r3⟩) ha xe_int
theorem xe_t3c (ha : XE X c Γ a p3) {j q} (hs : PlainIx (.Constant (.int 2) j q) := by exact fun _ _ => rfl) : XE X c Γ (.Subscript a (.Constant (.int 2) j q) pos) p3.c :=
  xe_bin (t := fun a _ => a) (y := (2 : Int)) (fun h1 h2 => pe_ix ix_tup h1 h2 hs) (fun F H u v e h1 h2 Q q => by
    obtain ⟨p, v1, v2, v3, rfl, r1, r2, r3, r4⟩ := h1
    exact ⟨p, [v1, v2, v3], 2, v3, rfl, h2, e.t r1, rfl, q _ F H (Ex.refl _) e (Ex.refl _) (fun _ h => .inl h) r4⟩) ha xe_int
end
/-- one sign of a text -/
def ixS (s : Str) (i : Int) : Str := ⟨#[ix s.cps.toList i]⟩
theorem xe_ixS {i : Int} {s : Str} (ha : XE X c Γ a s) (hb : XE X c Γ b i) (h : InB s.cps.toList i) (hl : s.length ≤ 100000) (hs : PlainIx b := by exact fun _ _ => rfl) : XE X c Γ (.Subscript a b pos) (ixS s i) :=
  xe_bin (t := fun a _ => a) (fun h1 h2 => pe_ix ix_str h1 h2 hs) (fun F H u v e h1 h2 Q q => by
    exact ⟨s, i, _, h1, h2, sz _ hl, atI_ix h, q _ F H (Ex.refl _) e (Ex.refl _) (fun _ h => .inl h) rfl⟩) ha hb
/-- the parts of a slice -/
def XP (X : Cx) (c : Cw) (Γ : List Slot) (e : Option Expr) (i : Option Int) : Prop := ∃ t, PO X e t ∧
  ∀ F H σ fp, EnvD X.K c F H σ Γ fp → ∀ Q : Option Int → Hp → Prop, (∀ F' H', EnvD X.K c F' H' σ Γ fp → Ex F F' → Nw F H F' H' → Q i H') → t σ H Q
theorem xp_none : XP X c Γ none none := ⟨_, po_none, fun F H σ fp E Q q => q F H E (Ex.refl _) Nw.refl⟩
theorem xp_some {i : Int} (h : XE X c Γ e i) : XP X c Γ (some e) (some i) := by
  obtain ⟨t, h1, h2⟩ := h
  exact ⟨_, po_some h1, fun F H σ fp E Q q => h2 F H σ fp E _ fun v F' H' E' e1 e2 r => ⟨i, r, q F' H' E' e1 e2⟩⟩
def cutL {τ : Type} (xs : List τ) (lo hi : Option Int) : List τ := (xs.drop (HT.sIx xs.length 0 lo)).take (HT.sIx xs.length xs.length hi - HT.sIx xs.length 0 lo)
theorem reps_cut {K : Fg} {F : Hp} {vs : List V} {xs : List τ} (r : Reps K F vs xs) (lo hi : Option Int) : Reps K F (cutV vs lo hi) (cutL xs lo hi) := by
  unfold cutV cutL
  rw [r.length]
  exact (r.drop _).take _
theorem xe_slice {lo hi : Option Expr} {i j : Option Int} {s : υ} [PyL υ τ] {p2} (ha : XE X c Γ a s) (h1 : XP X c Γ lo i) (h2 : XP X c Γ hi j) : XE X c Γ (.Subscript a (.Slice lo hi none p2) pos) (cutL (PyL.li s) i j) := by
  obtain ⟨t, a1, a2⟩ := ha
  obtain ⟨u, b1, b2⟩ := h1
  obtain ⟨w, c1, c2⟩ := h2
  refine ⟨_, pe_slice sl_list a1 b1 c1, fun F H σ fp E Q q => a2 F H σ fp E _ fun v F1 H1 E1 e1 g1 r1 => b2 F1 H1 σ fp E1 _ fun F2 H2 E2 e2 g2 => c2 F2 H2 σ fp E2 _ fun F3 H3 E3 e3 g3 => ?_⟩
  obtain ⟨p, vs, rfl, r2, r3⟩ := PyL.sq (Py.mono (e2.trans e3) r1)
  refine ⟨p, vs, rfl, E3.wd.fh.l r2, fun l hl => ?_⟩
  have ef : Ex F3 (upd F3 l (.lst (cutV vs i j))) := Ex.new (E3.ff hl)
  exact q _ _ _ (E3.lay hl) (((e1.trans e2).trans e3).trans ef) (((g1.trans g2).trans g3).trans (Nw.lay hl)) ⟨l, _, rfl, upd_same, (reps_cut r3 i j).mono ef⟩
theorem xe_cat {xs ys : List τ} (ha : XE X c Γ a xs) (hb : XE X c Γ b ys) (h : xs.length + ys.length ≤ 100000) : XE X c Γ (.BinOp a .Add b pos) (xs ++ ys) :=
  xe_op op_cat (fun F H u v e h1 h2 Q q => by
    obtain ⟨p, vs, rfl, r1, r2⟩ := h1
    obtain ⟨p', ws, rfl, s1, s2⟩ := h2
    refine ⟨p, p', vs, ws, rfl, rfl, e _ _ r1, e _ _ s1, sz _ (by rw [r2.length, s2.length]; exact h), fun l hl => ?_⟩
    have hf : F l = none := by
      cases q : F l with
      | none => rfl
      | some o => rw [e _ _ q] at hl; cases hl
    refine q _ (upd F l _) _ (Ex.new hf) (fun z o hz => ?_) (Ex.new hl) (fun z hz => ?_) ⟨l, _, rfl, upd_same, (r2.app s2).mono (Ex.new hf)⟩
    · by_cases hzl : z = l
      · subst hzl; rw [upd_same] at hz ⊢; exact hz
      · rw [upd_ne hzl] at hz ⊢; exact e _ _ hz
    · by_cases hzl : z = l
      · subst hzl; exact .inr hl
      · rw [upd_ne hzl] at hz; exact .inl hz) ha hb
theorem rep_flat {K : Fg} {F : Hp} {vs : List V} {xs : List τ} (r : Reps K F vs xs) : ∀ n : Nat, Reps K F (List.replicate n vs).flatten (List.replicate n xs).flatten
  | 0 => .nil
  | n + 1 => by
    rw [List.replicate_succ, List.replicate_succ, List.flatten_cons, List.flatten_cons]
    exact r.app (rep_flat r n)
theorem xe_rep {xs : List τ} {k : Int} (ha : XE X c Γ a xs) (hb : XE X c Γ b k) (h : k ≤ 100000 ∧ xs.length * k.toNat ≤ 100000) (h0 : -100000 ≤ k) : XE X c Γ (.BinOp a .Mult b pos) (List.replicate k.toNat xs).flatten :=
  xe_op op_rep (fun F H u v e h1 h2 Q q => by
    obtain ⟨p, vs, rfl, r1, r2⟩ := h1
    refine ⟨p, k, vs, rfl, h2, e _ _ r1, by omega, by omega, sz _ (by rw [r2.length]; exact h.2), fun l hl => ?_⟩
    have hf : F l = none := by
      cases q : F l with
      | none => rfl
      | some o => rw [e _ _ q] at hl; cases hl
    refine q _ (upd F l _) _ (Ex.new hf) (fun z o hz => ?_) (Ex.new hl) (fun z hz => ?_) ⟨l, _, rfl, upd_same, (rep_flat r2 _).mono (Ex.new hf)⟩
    · by_cases hzl : z = l
      · subst hzl; rw [upd_same] at hz ⊢; exact hz
      · rw [upd_ne hzl] at hz ⊢; exact e _ _ hz
    · by_cases hzl : z = l
      · subst hzl; exact .inr hl
      · rw [upd_ne hzl] at hz; exact .inl hz) ha hb

/-! ### built-ins -/
/-- a built-in of one argument whose answer leans on no heap -/
theorem xe_b1 {n : Str} {id : String} {p : Pos} {r : List V → Hp → VK → Prop} {τ' : Type} [PySc τ'] {w : τ'} (hc : CallR X (.builtin id) r) (hv : bootBuiltins n = some (.builtin id)) (hr : ∀ F H v, Ex F H → rep X.K F v x → ∀ Q : VK, Q (PySc.v w) H → r [v] H Q)
    (hg : Gl X n) (hm : X.mg n = none) (ha : XE X c Γ a x) (hn : n ≠ "__name__" := by decide) (hdb : (n == ("__debug__" : Str)) = false := by decide)
    (hs : starEach [a] X.env = [(false, eval a X.env)] := by rfl) : XE X c Γ (.Call (.Name n p) [a] [] pos) w := by
  obtain ⟨t, h1, h2⟩ := ha
  refine ⟨_, pe_callB hc hg hm hv (pa_cons h1 pa_nil hs) hn hdb hs rfl, fun F H σ fp E Q q => h2 F H σ fp E _ fun v F' H' E' e1 e2 r' => hr F' H' v E'.wd.fh r' _ (q _ F' H' E' e1 e2 (PySc.sc.mpr rfl))⟩
theorem xe_b2 {n : Str} {id : String} {p : Pos} {r : List V → Hp → VK → Prop} {τ' : Type} [PySc τ'] {w : τ'} (hc : CallR X (.builtin id) r) (hv : bootBuiltins n = some (.builtin id)) (hr : ∀ F H u v, Ex F H → rep X.K F u x → rep X.K F v y → ∀ Q : VK, Q (PySc.v w) H → r [u, v] H Q)
    (hg : Gl X n) (hm : X.mg n = none) (ha : XE X c Γ a x) (hb : XE X c Γ b y) (hn : n ≠ "__name__" := by decide) (hdb : (n == ("__debug__" : Str)) = false := by decide)
    (hs : starEach [a, b] X.env = (false, eval a X.env) :: starEach [b] X.env := by rfl) (hs2 : starEach [b] X.env = [(false, eval b X.env)] := by rfl) (hbk : ((backTo pos (starEach [b] X.env)).any fun x => x.fst) = false := by rfl) : XE X c Γ (.Call (.Name n p) [a, b] [] pos) w := by
  obtain ⟨t, h1, h2⟩ := ha
  obtain ⟨u, h3, h4⟩ := hb
  refine ⟨_, pe_callB hc hg hm hv (pa_cons h1 (pa_cons h3 pa_nil hs2) hs) hn hdb hs hbk, fun F H σ fp E Q q => h2 F H σ fp E _ fun v F' H' E' e1 e2 r' => h4 F' H' σ fp E' _ fun v2 F2 H2 E2 e3 e4 r2 => ?_⟩
  exact hr F2 H2 v v2 E2.wd.fh (Py.mono e3 r') r2 _ (q _ F2 H2 E2 (e1.trans e3) (e2.trans e4) (PySc.sc.mpr rfl))
theorem xe_len {s : υ} [PyS υ τ] {p : Pos} (hm : X.mg "len" = none) (ha : XE X c Γ a s) (hg : Gl X "len" := by rfl) (hs : starEach [a] X.env = [(false, eval a X.env)] := by rfl) :
    XE X c Γ (.Call (.Name "len" p) [a] [] pos) (((PyS.li s).length : Nat) : Int) :=
  xe_b1 call_len_seq PySem.boot_len (fun F H v e r Q q => by
    obtain ⟨p, vs, rfl, r1, r2⟩ := PyS.sq r
    rw [← r2.length] at q
    exact ⟨p, vs, rfl, r1.elim (fun h => .inl (e.l h)) (fun h => .inr (e.t h)), q⟩) hg hm ha (by decide) (by decide) hs
theorem xe_lenS {s : Str} {p : Pos} (hm : X.mg "len" = none) (ha : XE X c Γ a s) (hl : s.length ≤ sizeLine) (hg : Gl X "len" := by rfl) (hs : starEach [a] X.env = [(false, eval a X.env)] := by rfl) :
    XE X c Γ (.Call (.Name "len" p) [a] [] pos) ((s.length : Nat) : Int) :=
  xe_b1 call_len_str PySem.boot_len (fun F H v e r Q q => ⟨s, by rw [show v = V.str s from r], hl, q⟩) hg hm ha (by decide) (by decide) hs
theorem min_eq (i j : Int) : (if j < i then j else i) = min i j := by rw [Int.min_def]; split <;> split <;> omega
theorem max_eq (i j : Int) : (if j > i then j else i) = max i j := by rw [Int.max_def]; split <;> split <;> omega
theorem xe_min {i j : Int} {p : Pos} (hm : X.mg "min" = none) (ha : XE X c Γ a i) (hb : XE X c Γ b j) (hc : X.calm = true := by rfl) (hg : Gl X "min" := by rfl)
    (hs : starEach [a, b] X.env = (false, eval a X.env) :: starEach [b] X.env := by rfl) (hs2 : starEach [b] X.env = [(false, eval b X.env)] := by rfl) (hbk : ((backTo pos (starEach [b] X.env)).any fun x => x.fst) = false := by rfl) :
    XE X c Γ (.Call (.Name "min" p) [a, b] [] pos) (min i j) :=
  xe_b2 (call_min2 hc) (by decide +kernel) (fun F H u v e r1 r2 Q q => ⟨i, j, by rw [show u = V.int i from r1, show v = V.int j from r2], by rw [min_eq]; exact q⟩) hg hm ha hb (by decide) (by decide) hs hs2 hbk
theorem xe_max {i j : Int} {p : Pos} (hm : X.mg "max" = none) (ha : XE X c Γ a i) (hb : XE X c Γ b j) (hc : X.calm = true := by rfl) (hg : Gl X "max" := by rfl)
    (hs : starEach [a, b] X.env = (false, eval a X.env) :: starEach [b] X.env := by rfl) (hs2 : starEach [b] X.env = [(false, eval b X.env)] := by rfl) (hbk : ((backTo pos (starEach [b] X.env)).any fun x => x.fst) = false := by rfl) :
    XE X c Γ (.Call (.Name "max" p) [a, b] [] pos) (max i j) :=
  xe_b2 (call_max2 hc) (by decide +kernel) (fun F H u v e r1 r2 Q q => ⟨i, j, by rw [show u = V.int i from r1, show v = V.int j from r2], by rw [max_eq]; exact q⟩) hg hm ha hb (by decide) (by decide) hs hs2 hbk
/-- int(a truth) -/
theorem xe_intB {k : Bool} {p : Pos} (hm : X.mg "int" = none) (ha : XE X c Γ a k) (hg : Gl X "int" := by rfl)
    (hs : starEach [a] X.env = [(false, eval a X.env)] := by rfl) : XE X c Γ (.Call (.Name "int" p) [a] [] pos) (if k then (1 : Int) else 0) := by
  obtain ⟨t, h1, h2⟩ := ha
  refine ⟨_, pe_callTy call_int1 hg hm (by decide +kernel) (pa_cons h1 pa_nil hs) (by decide) (by decide) hs rfl, fun F H σ fp E Q q => h2 F H σ fp E _ fun v F' H' E' e1 e2 r' => .inr ⟨k, by rw [show v = V.bl k from r'], q _ F' H' E' e1 e2 rfl⟩⟩
end
end Fw
namespace Fw
open PySem L2 Py PyProof.Rows
/-! ### defs -/
/-- an argument: frozen data, or a thing that the def may change -/
inductive ArgD : Type 1 where
  | fz {τ : Type} [inst : Py τ] (x : τ)
  | ow (t : OT)
def ArgD.slot (as : Nat → Addr) (i : Nat) : ArgD → Slot
  | @ArgD.fz _ _ x => .fz x
  | .ow t => .ow (some (as i)) t
def ArgD.isOw : ArgD → Bool
  | @ArgD.fz _ _ _ => false
  | .ow _ => true
def argSl (as : Nat → Addr) : Nat → List ArgD → List Slot
  | _, [] => []
  | i, d :: r => d.slot as i :: argSl as (i + 1) r
def outSl (as : Nat → Addr) : Nat → List (Option OT) → List Slot
  | _, [] => []
  | i, none :: r => .no :: outSl as (i + 1) r
  | i, some t :: r => .ow (some (as i)) t :: outSl as (i + 1) r
theorem argSl_get {as : Nat → Addr} : ∀ {ds : List ArgD} {j i : Nat}, (argSl as j ds)[i]? = (ds[i]?).map (ArgD.slot as (j + i))
  | [], j, i => by simp [argSl]
  | d :: r, j, 0 => by simp [argSl]
  | d :: r, j, i + 1 => by
    have := argSl_get (as := as) (ds := r) (j := j + 1) (i := i)
    simp only [argSl, List.getElem?_cons_succ, this]
    rw [show j + 1 + i = j + (i + 1) by omega]
theorem outSl_get {as : Nat → Addr} : ∀ {ds : List (Option OT)} {j i : Nat}, (outSl as j ds)[i]? = (ds[i]?).map fun d => match d with | none => Slot.no | some t => .ow (some (as (j + i))) t
  | [], j, i => by simp [outSl]
  | none :: r, j, 0 => by simp [outSl]
  | some t :: r, j, 0 => by simp [outSl]
  | none :: r, j, i + 1 => by
    have := outSl_get (as := as) (ds := r) (j := j + 1) (i := i)
    simp only [outSl, List.getElem?_cons_succ, this]
    rw [show j + 1 + i = j + (i + 1) by omega]
  | some t :: r, j, i + 1 => by
    have := outSl_get (as := as) (ds := r) (j := j + 1) (i := i)
    simp only [outSl, List.getElem?_cons_succ, this]
    rw [show j + 1 + i = j + (i + 1) by omega]
theorem argSl_len {as : Nat → Addr} : ∀ {ds : List ArgD} {j : Nat}, (argSl as j ds).length = ds.length
  | [], j => rfl
  | d :: r, j => by simp [argSl, argSl_len]
theorem outSl_len {as : Nat → Addr} : ∀ {ds : List (Option OT)} {j : Nat}, (outSl as j ds).length = ds.length
  | [], j => rfl
  | none :: r, j => by simp [outSl, outSl_len]
  | some t :: r, j => by simp [outSl, outSl_len]
/-- what a def answers: a datum, or an error of a class of the module -/
inductive Res (ρ : Type) where
  | ok (r : ρ)
  | xc (n : Str)
def Res.nm {ρ : Type} : Res ρ → Option Str
  | .ok _ => none
  | .xc n => some n
def cwOf (F H : Hp) (fp : Nat → List Addr) : Cw := ⟨F, H, fun b => ∃ j, b ∈ fp j⟩
/-- the promise of a def: arguments D0 a, where pre holds; the answer m a, by D1 what the changed ones are, by RS the value, by xn an error's class -/
def SpG (K : Fg) (mg : Str → Option Value) {α ρ : Type} (D0 : α → List ArgD) (pre : α → Prop) (D1 : ρ → List (Option OT)) (RS : ρ → Slot) (xn : ρ → Option Str) (m : α → ρ) : Sp := fun vs H Q E =>
  ∃ F fp a as, EnvD K (cwOf F H fp) F H (vs.map some) (argSl as 0 (D0 a)) fp ∧ pre a ∧
    (xn (m a) = none → ∀ v F' H' fp', EnvD K (cwOf F H fp) F' H' (vs.map some ++ [some v]) (outSl as 0 (D1 (m a)) ++ [RS (m a)]) fp' → Q v H') ∧
    (∀ n, xn (m a) = some n → ∀ C F' H', mg n = some (.ref C) → Wd (cwOf F H fp) F' H' → E (.ref C) none H')
/-- a def known by its name -/
structure Fk (P : Program) (w : World) (K : Fg) (mg : Str → Option Value) (base : Heap) (CX : CXT) (n : Str) (ps : List Str) (ds : List Value) (k : Nat) (sp : Sp) : Prop where
  ex : ∃ f fd, mg n = some (.ref f) ∧ PySem.W.keepIn K (.ref f) = true ∧ Binds K fd ps ds ∧ FnOk P w K mg base CX k f fd ps sp
/-- a def of the text -/
structure Df (K : Fg) (mg : Str → Option Value) (n : Str) (st : Stmt) : Prop where
  ex : ∃ f fd, mg n = some (.ref f) ∧ Fun K n n st f fd
/-- the slots at a def's begin -/
theorem env0 {K : Fg} {c : Cw} {F H : Hp} {vs : List V} {N : List Str} {Γ : List Slot} {fp : Nat → List Addr} (E : EnvD K c F H (vs.map some) Γ fp) (hN : Γ.length ≤ N.length) : EnvD K c F H (L2.start N vs) (Γ ++ List.replicate (N.length - Γ.length) Slot.no) fp := by
  have hl : vs.length = Γ.length := by simpa using E.len
  refine ⟨E.wd, ?_, fun i s hs => ?_, E.dis, E.al, fun i h => E.out i (by simp at h; omega)⟩
  · unfold L2.start
    simp [hl]
  · unfold L2.start
    by_cases hi : i < Γ.length
    · rw [List.getElem?_append_left hi] at hs
      rw [List.getElem?_append_left (by simpa [hl] using hi)]
      exact E.ok i s hs
    · rw [List.getElem?_append_right (by omega), List.getElem?_replicate] at hs
      split at hs
      · rename_i hz
        cases hs
        refine ⟨none, ?_, E.out i (by omega)⟩
        rw [List.getElem?_append_right (by simp [hl]; omega), List.getElem?_replicate, if_pos]
        simpa [hl] using hz
      · cases hs
/-- how a def's body is stated -/
abbrev RcG {ρ : Type} (as : Nat → Addr) (D1 : ρ → List (Option OT)) (RS : ρ → Slot) (xn : ρ → Option Str) : Rc := ⟨ρ, fun r Γ => ∀ (i : Nat) (s : Slot), (outSl as 0 (D1 r))[i]? = some s → s = Slot.no ∨ Γ[i]? = some s, RS, xn⟩
/-- how one that comes to its end is told -/
def Out.fin {S ρ : Type} (n : S → ρ) : Out S Empty ρ → ρ
  | .nx s => n s
  | .rt r => r
  | .bk s => s.elim
  | .ct s => s.elim
/-- a def's body is worth r, whether it returns or comes to its end -/
def XF (X : Cx) (w : Wx) (c : Cw) (Γ : List Slot) (sts : List Stmt) {S : Type} {R : Rc} (n : S → R.ρ) (G : S → List Slot) (r : R.ρ) : Prop := ∃ o : Out S Empty R.ρ, o.fin n = r ∧ XO X w c Γ sts G (fun e : Empty => e.elim) o
section
variable {P : Program} {w : World} {K : Fg} {mg : Str → Option Value} {base : Heap} {α ρ : Type} {D0 : α → List ArgD} {pre : α → Prop} {D1 : ρ → List (Option OT)} {RS : ρ → Slot} {xn : ρ → Option Str} {m : α → ρ}
/-- the answer of a body, told to the caller -/
theorem ret_ok {F H : Hp} {fp : Nat → List Addr} {vs : List V} {a : α} {as : Nat → Addr} (E0 : EnvD K (cwOf F H fp) F H (vs.map some) (argSl as 0 (D0 a)) fp) {r : ρ} (sh : (D1 r).map Option.isSome = (D0 a).map ArgD.isOw)
    {v : V} {F' H' : Hp} {σ' : L2.St} {Γ' : List Slot} {fp' : Nat → List Addr} {l : List Addr} (E : EnvD K (cwOf F H fp) F' H' σ' Γ' fp') (hG : ∀ (i : Nat) (s : Slot), (outSl as 0 (D1 r))[i]? = some s → s = Slot.no ∨ Γ'[i]? = some s)
    (hr : (RS r).ok K F' H' (some v) l) (hl : ∀ b ∈ l, (cwOf F H fp).al b ∧ ∀ j, b ∉ fp' j) : ∃ fp2, EnvD K (cwOf F H fp) F' H' (vs.map some ++ [some v]) (outSl as 0 (D1 r) ++ [RS r]) fp2 := by
  have hlen : (D1 r).length = (D0 a).length := by simpa using congrArg List.length sh
  have hv : vs.length = (D0 a).length := by have := E0.len; rw [argSl_len] at this; simpa using this
  have ol : (outSl as 0 (D1 r)).length = vs.length := by rw [outSl_len, hlen, hv]
  classical
  refine ⟨fun i => if i = vs.length then l else if ∃ t, (D1 r)[i]? = some (some t) then fp' i else [], E.wd, by simp [ol], fun i s hs => ?_, fun i j b h1 h2 => ?_, fun i b h => ?_, fun i h => ?_⟩
  · by_cases hi : i < vs.length
    · rw [List.getElem?_append_left (by omega)] at hs
      rw [List.getElem?_append_left (by simpa using hi)]
      rw [if_neg (by omega)]
      have hs0 := hs
      rw [outSl_get] at hs
      have hi1 : i < (D1 r).length := by omega
      rw [List.getElem?_eq_getElem hi1] at hs
      refine ⟨some vs[i], by simp [hi], ?_⟩
      cases hd : (D1 r)[i] with
      | none =>
        rw [hd] at hs
        cases hs
        rw [if_neg]
        · rfl
        · rintro ⟨t, ht⟩
          rw [List.getElem?_eq_getElem hi1, hd] at ht; cases ht
      | some t =>
        rw [hd] at hs
        have hs : Slot.ow (some (as (0 + i))) t = s := by simpa using hs
        subst hs
        rw [if_pos ⟨t, by rw [List.getElem?_eq_getElem hi1, hd]⟩]
        rcases hG i _ hs0 with z | z
        · cases z
        · obtain ⟨u, q1, q2, q3⟩ := E.geto z
          have hu := q3 _ rfl
          subst hu
          -- the argument itself
          have hd0 : ((D0 a)[i]?).map ArgD.isOw = some true := by
            have := congrArg (fun l => l[i]?) sh
            simp only [List.getElem?_map] at this
            rw [← this, List.getElem?_eq_getElem hi1, hd]; rfl
          cases hd1 : (D0 a)[i]? with
          | none => rw [hd1] at hd0; cases hd0
          | some d =>
            rw [hd1] at hd0
            cases d with
            | fz x => cases hd0
            | ow t0 =>
              have hs1 : (argSl as 0 (D0 a))[i]? = some (.ow (some (as (0 + i))) t0) := by rw [argSl_get, hd1]; rfl
              obtain ⟨u, k1, k2, k3⟩ := E0.geto hs1
              have hu := k3 _ rfl
              subst hu
              have : vs[i] = .ref (as (0 + i)) := by simpa [hi] using k1
              exact ⟨_, congrArg some this, q2, fun a ha => by cases ha; rfl⟩
    · have hie : i = vs.length := by
        have := (List.getElem?_eq_some_iff.mp hs).1
        simp [ol] at this; omega
      subst hie
      rw [List.getElem?_append_right (by omega), ol, Nat.sub_self] at hs
      cases hs
      refine ⟨some v, by simp, ?_⟩
      rw [if_pos rfl]; exact hr
  · split at h1
    · split at h2
      · omega
      · split at h2
        · exact absurd h2 ((hl b h1).2 j)
        · cases h2
    · split at h1
      · split at h2
        · exact absurd h1 ((hl b h2).2 i)
        · split at h2
          · exact E.dis i j b h1 h2
          · cases h2
      · cases h1
  · split at h
    · exact (hl b h).1
    · split at h
      · exact E.al i b h
      · cases h
  · have : vs.length + 1 ≤ i := by simpa [ol] using h
    rw [if_neg (by omega), if_neg]
    rintro ⟨t, ht⟩
    have := (List.getElem?_eq_some_iff.mp ht).1
    omega
abbrev Room' (k : Nat) (A : Around) (q : Str) (st : Stmt) (s : Shared) (f : Addr) (cdv : Value) : Prop := Room k (A.deeper (envOfC q (defScope st) s.heap.objs.size f cdv))
/-- THE RULE for a def -/
theorem fn_of {x q : Str} {st : Stmt} {f : Addr} {fd : FuncData} {N ps : List Str} {k : Nat} {S : Type} {n : S → ρ} {G : (Nat → Addr) → S → List Slot} (Fd : Fun K x q st f fd) (Sc : FnScope N ps (defScope st)) (hn : ∀ a, (D0 a).length = ps.length)
    (sh : ∀ a r, (D1 r).map Option.isSome = (D0 a).map ArgD.isOw) (hnx : ∀ as s, xn (n s) = none ∧ RS (n s) = .fz () ∧ ∀ (i : Nat) (z : Slot), (outSl as 0 (D1 (n s)))[i]? = some z → z = Slot.no ∨ (G as s)[i]? = some z)
    (body : ∀ (f : Addr) (cdv : Value) (A : Around) (outer : List PySem.Env) (s : Shared) (H : Hp) (E : XK) (c : Cw) (as : Nat → Addr) (a : α), Room' k A q st s f cdv → pre a →
      XF (R := RcG as D1 RS xn) (cxOf (L2.CX P w) P w K mg base N q (defScope st) f cdv A outer s H E) ⟨fun cls d _ H => E cls d H, List.replicate N.length .no⟩ c (argSl as 0 (D0 a) ++ List.replicate (N.length - (D0 a).length) .no) (defBody st) n (G as) (m a)) :
    FnOk P w K mg base (L2.CX P w) (k + 1) f fd ps (SpG K mg D0 pre D1 RS xn m) := by
  refine Fd.okX Sc (fun vs H Q E h => ?_) (fun cdv A outer s H vs Q E hr h => ?_)
  · obtain ⟨F, fp, a, as, E0, _⟩ := h
    have := E0.len
    rw [argSl_len, hn a] at this
    simpa using this
  · obtain ⟨F, fp, a, as, E0, hp, q⟩ := h
    obtain ⟨o, ho, t, h1, h2⟩ := body f cdv A outer s H E (cwOf F H fp) as a hr hp
    have hN : (argSl as 0 (D0 a)).length ≤ N.length := by
      have q := congrArg List.length Sc.pre
      rw [List.length_take] at q
      rw [argSl_len, hn a]; omega
    have ES := env0 E0 hN
    rw [argSl_len] at ES
    refine ⟨t, h1, h2 F H _ ⟨fp, ES⟩ _ ?_⟩
    rw [← ho] at q
    have fin : ∀ r v σ' F' H' Γ' fp' l, o.fin n = r → xn r = none → EnvD K (cwOf F H fp) F' H' σ' Γ' fp' → (∀ (i : Nat) (s : Slot), (outSl as 0 (D1 r))[i]? = some s → s = Slot.no ∨ Γ'[i]? = some s) → (RS r).ok K F' H' (some v) l → (∀ b ∈ l, (cwOf F H fp).al b ∧ ∀ j, b ∉ fp' j) → Q v H' := fun r v σ' F' H' Γ' fp' l hr hx E' hg hv hl => by
      obtain ⟨fp2, E2⟩ := ret_ok E0 (sh a r) E' hg hv hl
      rw [hr] at q
      exact q.1 hx v F' H' fp2 E2
    cases o with
    | nx s =>
      intro σ' F' H' ⟨fp', E'⟩ _
      obtain ⟨g0, g1, g2⟩ := hnx as s
      exact fin (n s) .non σ' F' H' _ fp' [] rfl g0 E' g2 (by rw [g1]; exact ⟨rfl, _, rfl, rfl⟩) (fun b hb => by cases hb)
    | rt r => exact ⟨fun hx v σ' F' H' Γ' fp' l E' _ hg hv hl => fin r v σ' F' H' Γ' fp' l rfl hx E' hg hv hl, fun n hx C σ' F' H' hC E' _ => q.2 n hx C F' H' hC E'.wd⟩
    | bk s => exact s.elim
    | ct s => exact s.elim
theorem fk_of {n : Str} {st : Stmt} {N ps : List Str} {k : Nat} {S : Type} {nf : S → ρ} {G : (Nat → Addr) → S → List Slot} (D : Df K mg n st) (Sc : FnScope N ps (defScope st)) (hn : ∀ a, (D0 a).length = ps.length)
    (hb : ∀ (kV doc pm : Value) (an : Option Addr) (cdv ct : Value) (us : List Value), us.length = ps.length → bindArgs (PySem.W.fnOf n n (defArgs st) (defBody st) (defScope st) .none kV doc pm an cdv ct) ⟨us, []⟩ = pure (ps.zip us))
    (sh : ∀ a r, (D1 r).map Option.isSome = (D0 a).map ArgD.isOw) (hnx : ∀ as s, xn (nf s) = none ∧ RS (nf s) = .fz () ∧ ∀ (i : Nat) (z : Slot), (outSl as 0 (D1 (nf s)))[i]? = some z → z = Slot.no ∨ (G as s)[i]? = some z)
    (body : ∀ (f : Addr) (cdv : Value) (A : Around) (outer : List PySem.Env) (s : Shared) (H : Hp) (E : XK) (c : Cw) (as : Nat → Addr) (a : α), Room' k A n st s f cdv → pre a →
      XF (R := RcG as D1 RS xn) (cxOf (L2.CX P w) P w K mg base N n (defScope st) f cdv A outer s H E) ⟨fun cls d _ H => E cls d H, List.replicate N.length .no⟩ c (argSl as 0 (D0 a) ++ List.replicate (N.length - (D0 a).length) .no) (defBody st) nf (G as) (m a)) :
    Fk P w K mg base (L2.CX P w) n ps [] (k + 1) (SpG K mg D0 pre D1 RS xn m) := by
  obtain ⟨f, fd, hm, F⟩ := D.ex
  exact ⟨f, fd, hm, F.kp, F.binds hb, fn_of F Sc hn sh hnx body⟩
/-- a def with defaults, known by its name; dvs are those of the parameters that a call leaves out -/
structure FkD (P : Program) (w : World) (K : Fg) (mg : Str → Option Value) (base : Heap) (CX : CXT) (n : Str) (ps : List Str) (dvs : List V) (k : Nat) (sp : Sp) : Prop where
  ex : ∃ ds, Vals dvs ds ∧ Fk P w K mg base CX n ps ds k sp
theorem FkD.full {CX : CXT} {n : Str} {ps : List Str} {k : Nat} {sp : Sp} (G : FkD P w K mg base CX n ps [] k sp) : Fk P w K mg base CX n ps [] k sp := by
  obtain ⟨ds, h, g⟩ := G.ex
  cases h
  exact g
/-- a def of the text with defaults dvs -/
structure DfD (K : Fg) (mg : Str → Option Value) (n : Str) (st : Stmt) (dvs : List V) : Prop where
  ex : ∃ f fd, mg n = some (.ref f) ∧ FunD K n n (defArgs st) (defBody st) (defScope st) dvs [] f fd
theorem fnd_of {x q : Str} {st : Stmt} {f : Addr} {fd : FuncData} {N ps : List Str} {dvs : List V} {k : Nat} {S : Type} {n : S → ρ} {G : (Nat → Addr) → S → List Slot} (Fd : FunD K x q (defArgs st) (defBody st) (defScope st) dvs [] f fd) (Sc : FnScope N ps (defScope st)) (hn : ∀ a, (D0 a).length = ps.length)
    (sh : ∀ a r, (D1 r).map Option.isSome = (D0 a).map ArgD.isOw) (hnx : ∀ as s, xn (n s) = none ∧ RS (n s) = .fz () ∧ ∀ (i : Nat) (z : Slot), (outSl as 0 (D1 (n s)))[i]? = some z → z = Slot.no ∨ (G as s)[i]? = some z)
    (body : ∀ (f : Addr) (cdv : Value) (A : Around) (outer : List PySem.Env) (s : Shared) (H : Hp) (E : XK) (c : Cw) (as : Nat → Addr) (a : α), Room' k A q st s f cdv → pre a →
      XF (R := RcG as D1 RS xn) (cxOf (L2.CX P w) P w K mg base N q (defScope st) f cdv A outer s H E) ⟨fun cls d _ H => E cls d H, List.replicate N.length .no⟩ c (argSl as 0 (D0 a) ++ List.replicate (N.length - (D0 a).length) .no) (defBody st) n (G as) (m a)) :
    FnOk P w K mg base (L2.CX P w) (k + 1) f fd ps (SpG K mg D0 pre D1 RS xn m) := by
  refine Fd.ok Sc (fun vs H Q E h => ?_) (fun cdv A outer s H vs Q E hr h => ?_)
  · obtain ⟨F, fp, a, as, E0, _⟩ := h
    have := E0.len
    rw [argSl_len, hn a] at this
    simpa using this
  · obtain ⟨F, fp, a, as, E0, hp, q⟩ := h
    obtain ⟨o, ho, t, h1, h2⟩ := body f cdv A outer s H E (cwOf F H fp) as a hr hp
    have hN : (argSl as 0 (D0 a)).length ≤ N.length := by
      have q := congrArg List.length Sc.pre
      rw [List.length_take] at q
      rw [argSl_len, hn a]; omega
    have ES := env0 E0 hN
    rw [argSl_len] at ES
    refine ⟨t, h1, h2 F H _ ⟨fp, ES⟩ _ ?_⟩
    rw [← ho] at q
    have fin : ∀ r v σ' F' H' Γ' fp' l, o.fin n = r → xn r = none → EnvD K (cwOf F H fp) F' H' σ' Γ' fp' → (∀ (i : Nat) (s : Slot), (outSl as 0 (D1 r))[i]? = some s → s = Slot.no ∨ Γ'[i]? = some s) → (RS r).ok K F' H' (some v) l → (∀ b ∈ l, (cwOf F H fp).al b ∧ ∀ j, b ∉ fp' j) → Q v H' := fun r v σ' F' H' Γ' fp' l hr hx E' hg hv hl => by
      obtain ⟨fp2, E2⟩ := ret_ok E0 (sh a r) E' hg hv hl
      rw [hr] at q
      exact q.1 hx v F' H' fp2 E2
    cases o with
    | nx s =>
      intro σ' F' H' ⟨fp', E'⟩ _
      obtain ⟨g0, g1, g2⟩ := hnx as s
      exact fin (n s) .non σ' F' H' _ fp' [] rfl g0 E' g2 (by rw [g1]; exact ⟨rfl, _, rfl, rfl⟩) (fun b hb => by cases hb)
    | rt r => exact ⟨fun hx v σ' F' H' Γ' fp' l E' _ hg hv hl => fin r v σ' F' H' Γ' fp' l rfl hx E' hg hv hl, fun n hx C σ' F' H' hC E' _ => q.2 n hx C F' H' hC E'.wd⟩
    | bk s => exact s.elim
    | ct s => exact s.elim
theorem fkd_of {n : Str} {st : Stmt} {N ps : List Str} {dvs : List V} {k : Nat} {S : Type} {nf : S → ρ} {G : (Nat → Addr) → S → List Slot} (D : DfD K mg n st dvs) (Sc : FnScope N ps (defScope st)) (hn : ∀ a, (D0 a).length = ps.length) (j q : Nat) (hd : dvs ≠ []) (hq : q + (dvs.length - j) = ps.length)
    (hb : ∀ (T : Addr) (kV doc pm : Value) (an : Option Addr) (cdv ct : Value) (us its : List Value), us.length = q → its.length = dvs.length →
      ∃ k, bindArgs (PySem.W.fnOf n n (defArgs st) (defBody st) (defScope st) (.ref T) kV doc pm an cdv ct) ⟨us, []⟩ = seqItems? (.ref T) >>= k ∧ k (some its.toArray) = pure (ps.zip (us ++ its.drop j)))
    (sh : ∀ a r, (D1 r).map Option.isSome = (D0 a).map ArgD.isOw) (hnx : ∀ as s, xn (nf s) = none ∧ RS (nf s) = .fz () ∧ ∀ (i : Nat) (z : Slot), (outSl as 0 (D1 (nf s)))[i]? = some z → z = Slot.no ∨ (G as s)[i]? = some z)
    (body : ∀ (f : Addr) (cdv : Value) (A : Around) (outer : List PySem.Env) (s : Shared) (H : Hp) (E : XK) (c : Cw) (as : Nat → Addr) (a : α), Room' k A n st s f cdv → pre a →
      XF (R := RcG as D1 RS xn) (cxOf (L2.CX P w) P w K mg base N n (defScope st) f cdv A outer s H E) ⟨fun cls d _ H => E cls d H, List.replicate N.length .no⟩ c (argSl as 0 (D0 a) ++ List.replicate (N.length - (D0 a).length) .no) (defBody st) nf (G as) (m a)) :
    FkD P w K mg base (L2.CX P w) n ps (dvs.drop j) (k + 1) (SpG K mg D0 pre D1 RS xn m) := by
  obtain ⟨f, fd, hm, F⟩ := D.ex
  obtain ⟨ds, h1, h2⟩ := F.binds1 q j hd hq hb
  exact ⟨ds, h1, f, fd, hm, F.kp, h2, fnd_of F Sc hn sh hnx body⟩
theorem dfd_mk {h : Heap} {n : Str} {st : Stmt} {f Ta : Addr} {oc oc2 : Value} {od an od2 : Option Addr} {osl osl2 : Array (Option Value)} {kV doc pm cdv ct : Value} {its : List Value} {m : Nat} {dvs : List V} (X : K.In h) (G : h.Ns mainGlobals mg) (a : PySem.W.nsIn K mainGlobals n = some (some (.ref f)))
    (l : K.lookup f = some ⟨oc, od, .func (PySem.W.fnOf n n (defArgs st) (defBody st) (defScope st) (.ref Ta) kV doc pm an cdv ct), osl⟩) (c : PySem.W.codeIn K cdv n = true) (k : PySem.W.keepIn K (.ref f) = true) (t : K.lookup Ta = some ⟨oc2, od2, .seq its.toArray m, osl2⟩) (hd : dvs ≠ []) (hv : Vals dvs its) : DfD K mg n st dvs :=
  ⟨f, _, PySem.W.mg_of X G a, ⟨oc, od, .ref Ta, kV, doc, pm, an, cdv, ct, osl, rfl, l, c, .inr ⟨hd, Ta, _, its, m, rfl, t, rfl, hv⟩, .inl rfl⟩, k⟩
end
end Fw
namespace Fw
open PySem L2 Py PyProof.Rows
/-- what was made, named -/
def bnd {α : Type} {β : Sort _} (s : α) (k : α → β) : β := k s
theorem bnd_at {α : Type} {s : α} {k : α → Prop} (h : bnd s k) {x : α} (e : x = s) : k x := by subst e; exact h
/-- what a loop asks of its turns -/
def vRun {S τ R : Type} (f : S → τ → Out S S R) (vb : S → τ → Prop) : S → List τ → Prop
  | _, [] => True
  | s, y :: r => vb s y ∧ match f s y with
    | .nx s' => vRun f vb s' r
    | .ct s' => vRun f vb s' r
    | _ => True
def vFold {S τ : Type} (g : S → τ → S) (vb : S → τ → Prop) : S → List τ → Prop
  | _, [] => True
  | s, y :: r => vb s y ∧ vFold g vb (g s y) r
section
variable {X : Cx} {w : Wx} {c : Cw} {Γ Γ' : List Slot} {S S' B υ : Type} [Py υ] {R : Rc} {G : S → List Slot} {G' : S' → List Slot} {GB : B → List Slot} {o : Out S B R.ρ} {pos : Pos} {st : Stmt} {rest : List Stmt} {e d : Expr} {k : Bool}
theorem XO.gam (h : Γ = Γ') (q : XO X w c Γ' rest G GB o) : XO X w c Γ rest G GB o := h ▸ q
/-- .. then the rest, what was made named -/
theorem xo_nxt {s : S'} {k : S' → Out S B R.ρ} (h : XS X w c Γ st G' GB (Out.nx s : Out S' B R.ρ)) (hr : ∀ s', s' = s → XO X w c (G' s') rest G GB (k s')) : XO X w c Γ (st :: rest) G GB (bnd s k) :=
  xo_cons (k := k) h fun s' hs => by
    injection hs with hs
    exact hr s' hs.symm
theorem xr_nxt {s : S'} {kx : S' → R.ρ} (h : XS X w c Γ st G' GB (Out.nx s : Out S' B R.ρ)) (hr : ∀ s', s' = s → XO X w c (G' s') rest G GB (Out.rt (kx s') : Out S B R.ρ)) : XO X w c Γ (st :: rest) G GB (Out.rt (bnd s kx) : Out S B R.ρ) :=
  xo_nxt (k := fun s => Out.rt (kx s)) h hr
theorem xn_nxt {s : S'} {kx : S' → S} (h : XS X w c Γ st G' GB (Out.nx s : Out S' B R.ρ)) (hr : ∀ s', s' = s → XO X w c (G' s') rest G GB (Out.nx (kx s') : Out S B R.ρ)) : XO X w c Γ (st :: rest) G GB (Out.nx (bnd s kx) : Out S B R.ρ) :=
  xo_nxt (k := fun s => Out.nx (kx s)) h hr
/-- a statement that just goes on -/
theorem xo_seq (h : XS X w c Γ st (S := Unit) (fun _ => Γ') GB (Out.nx () : Out Unit B R.ρ)) (hr : XO X w c Γ' rest G GB o) : XO X w c Γ (st :: rest) G GB o := xo_next h hr
/-- x = e -/
theorem xs_let {x : υ} (i : Nat) {n : Str} {p : Pos} (hN : X.N.Nodup) (he : XE X c Γ e x) (hi : X.N[i]? = some n := by rfl) (hx : Loc X.env.scope n := by first | exact .inl rfl | exact .inr rfl) (hs : swapsWith e (some (.Name n p)) pos.line X.env = pure false := by rfl)
    (hf : X.fn n = true ∨ X.env.scope.names.lookup n = some .local := by first | exact .inl rfl | exact .inr rfl | assumption) : XS X w c Γ (.Assign [.Name n p] e pos) (fun x : υ => Γ.set i (.fz x)) GB (Out.nx x : Out υ B R.ρ) := by
  obtain ⟨t, h1, h2⟩ := he
  refine ⟨_, ps_set (i := i) hN hi hx h1 hs hf, fun F H σ ⟨fp, E⟩ D q => h2 F H σ fp E _ fun v F' H' E' e1 e2 r => ?_⟩
  exact q _ F' H' (Env.set ⟨fp, E'⟩ r) e1
/-- target = e -/
theorem xs_lets {x : υ} {tg : Expr} {up : List Slot → υ → List Slot} (he : XE X c Γ e x) {ws : List Nat} (hg : XG X c tg ws up) (hs : swapsWithSole [tg] e pos.line X.env = pure false := by rfl) (hw : swappedStores [tg] e X.env = pure none := by rfl) (h1' : (assignEach [tg] X.env).map (·.2) = [assign tg X.env] := by rfl) :
    XS X w c Γ (.Assign [tg] e pos) (fun x : υ => up Γ x) GB (Out.nx x : Out υ B R.ρ) := by
  obtain ⟨t, h1, h2⟩ := he
  obtain ⟨g, h3, h4⟩ := hg
  refine ⟨_, ps_asg h1 h3 hs hw h1', fun F H σ ⟨fp, E⟩ D q => h2 F H σ fp E _ fun v F' H' E' e1 e2 r => h4 F' H' σ fp v _ x E' r _ fun σ' fp' E2 _ _ => q σ' F' H' ⟨fp', E2⟩ e1⟩
/-- both ways go on -/
theorem xs_ifs {A C : List Stmt} {s1 s2 : S} (hd : XT X c Γ d k) (ha : k = true → XO X w c Γ A G GB (Out.nx s1 : Out S B R.ρ)) (hb : k = false → XO X w c Γ C G GB (Out.nx s2 : Out S B R.ρ)) :
    XS X w c Γ (.If d A C pos) G GB (Out.nx (if k then s1 else s2) : Out S B R.ρ) := by
  cases k with
  | true => exact xs_if (o1 := .nx s1) (o2 := .nx s2) hd (fun _ => ha rfl) (fun h => by cases h)
  | false => exact xs_if (o1 := .nx s1) (o2 := .nx s2) hd (fun h => by cases h) (fun _ => hb rfl)
/-- both ways return -/
theorem xr_if {A : List Stmt} {x1 x2 : R.ρ} (hd : XT X c Γ d k) (ha : k = true → XO X w c Γ A (fun s : Empty => s.elim) GB (Out.rt x1 : Out Empty B R.ρ)) (hb : k = false → XO X w c Γ rest G GB (Out.rt x2 : Out S B R.ρ)) :
    XO X w c Γ (.If d A [] pos :: rest) G GB (Out.rt (if k then x1 else x2) : Out S B R.ρ) := by
  cases k with
  | true => exact xo_ifx (o1 := .rt x1) (o2 := .rt x1) hd (fun _ => ha rfl) (fun h => by cases h)
  | false => exact xo_ifx (o1 := .rt x2) (o2 := .rt x2) hd (fun h => by cases h) (fun _ => hb rfl)
theorem xr_ife {A C : List Stmt} {x1 x2 : R.ρ} (hd : XT X c Γ d k) (ha : k = true → XO X w c Γ A G GB (Out.rt x1 : Out S B R.ρ)) (hb : k = false → XO X w c Γ C G GB (Out.rt x2 : Out S B R.ρ)) :
    XS X w c Γ (.If d A C pos) G GB (Out.rt (if k then x1 else x2) : Out S B R.ρ) := by
  cases k with
  | true => exact xs_if (o1 := .rt x1) (o2 := .rt x2) hd (fun _ => ha rfl) (fun h => by cases h)
  | false => exact xs_if (o1 := .rt x1) (o2 := .rt x2) hd (fun h => by cases h) (fun _ => hb rfl)
/-- a for whose turns may leave -/
theorem xs_forV {tg it : Expr} {body : List Stmt} {xs : List υ} {up : List Slot → υ → List Slot} {L : S → List Slot} {s0 : S} {f : S → υ → Out S S R.ρ} {vb : S → υ → Prop} (hi : XI X c Γ tg it xs) {ws : List Nat} (hg : XG X c tg ws up) (hw : Weak Γ (L s0))
    (hv : vRun f vb s0 xs) (hb : ∀ y s, vb s y → XO X w c (up (L s) y) body L L (f s y))
    (hc : X.calm = true := by rfl) (hp : PassesOwn (model X.prog X.w) X.A X.env X.xe := by first | exact PassesOwn.never | exact passes_of rfl | assumption) (hs : ∀ x, foldedSetIterable it X.env x = pure x := by intro _; rfl) :
    XS X w c Γ (.For tg it body [] pos) L GB (runFor f s0 xs : Out S B R.ρ) := by
  refine xs_for (fun i s => vRun f vb s (xs.drop i)) hi hg hw (by simpa using hv) (fun i y s hx hI => ?_) hc hp hs
  have hlt := (List.getElem?_eq_some_iff.mp hx).1
  rw [List.drop_eq_getElem_cons hlt] at hI
  have e : xs[i] = y := by rw [List.getElem?_eq_getElem hlt] at hx; exact Option.some.inj hx
  rw [e] at hI
  obtain ⟨h1, h2⟩ := hI
  refine ⟨hb y s h1, ?_⟩
  cases hf : f s y with
  | nx s' => rw [hf] at h2; exact h2
  | ct s' => rw [hf] at h2; exact h2
  | _ => trivial
theorem vFold_run {S τ R : Type} {g : S → τ → S} {vb : S → τ → Prop} : ∀ {xs : List τ} {s : S}, vFold g vb s xs → vRun (R := R) (fun s y => .nx (g s y)) vb s xs
  | [], _, _ => trivial
  | _ :: _, _, h => ⟨h.1, vFold_run h.2⟩
/-- a for that folds -/
theorem xs_foldV {tg it : Expr} {body : List Stmt} {xs : List υ} {up : List Slot → υ → List Slot} {L : S → List Slot} {s0 : S} {g : S → υ → S} {vb : S → υ → Prop} (hi : XI X c Γ tg it xs) {ws : List Nat} (hg : XG X c tg ws up) (hw : Weak Γ (L s0))
    (hv : vFold g vb s0 xs) (hb : ∀ y s, vb s y → XO X w c (up (L s) y) body L L (Out.nx (g s y) : Out S S R.ρ))
    (hc : X.calm = true := by rfl) (hp : PassesOwn (model X.prog X.w) X.A X.env X.xe := by first | exact PassesOwn.never | exact passes_of rfl | assumption) (hs : ∀ x, foldedSetIterable it X.env x = pure x := by intro _; rfl) :
    XS X w c Γ (.For tg it body [] pos) L GB (Out.nx (xs.foldl g s0) : Out S B R.ρ) := by
  have h := xs_forV (GB := GB) (R := R) (w := w) (f := fun s y => .nx (g s y)) hi hg hw (vFold_run hv) (fun y s h => hb y s h) hc hp hs (pos := pos)
  rw [runFor_nx] at h
  exact h
end
end Fw
/-! new owned things as answers; frozen for good, frozen for a while -/
namespace Fw
open PySem L2 Py PyProof.Rows
/-! ### frozen trees -/
inductive FA (K : Fg) (F : Hp) : V → OT → Prop where
  | fz {τ : Type} [Py τ] {x : τ} {v : V} (r : rep K F v x) : FA K F v (.fz x)
  | hole {a : Addr} : FA K F (.ref a) (.hole a)
  | nd {a : Addr} {o : HO} {k : Kind} {vs : List V} {ts : List OT} (hF : F a = some o) (ko : KO K k o vs) (l1 : vs.length = ts.length) (hc : ∀ (i : Nat) v t, vs[i]? = some v → ts[i]? = some t → FA K F v t) : FA K F (.ref a) (.nd k ts)
section
variable {K : Fg} {F F' H H' : Hp} {v : V} {l : List Addr} {t u : OT}
theorem FA.mono (h : FA K F v t) (e : Ex F F') : FA K F' v t := by
  induction h with
  | fz r => exact .fz (Py.mono e r)
  | hole => exact .hole
  | nd hF ko l1 hc ih => exact .nd (e _ _ hF) ko l1 ih
theorem OA.fa (h : OA K F H v l t) (e : Ex F F') : (∀ b ∈ l, F' b = H b) → FA K F' v t := by
  induction h with
  | fz r => exact fun _ => .fz (Py.mono e r)
  | hole => exact fun _ => .hole
  | nd fps hF hH ko l1 l2 hc nd ih =>
    intro k
    refine .nd ((k _ (by simp)).trans hH) ko l1 fun i v t h1 h3 => ?_
    have hi := (List.getElem?_eq_some_iff.mp h3).1
    exact ih i v _ t h1 (List.getElem?_eq_getElem (by omega)) h3 fun b hb => k b (List.mem_cons_of_mem _ (List.mem_flatten.mpr ⟨_, List.getElem_mem (by omega), hb⟩))
theorem FA.ofz {τ : Type} [Py τ] {x : τ} (h : FA K F v (.fz x)) : rep K F v x := by
  cases h with
  | fz r => exact r
theorem FA.lst {ts : List OT} (h : FA K F v (.nd .lst ts)) : ∃ a vs, v = .ref a ∧ F a = some (.lst vs) ∧ vs.length = ts.length ∧ ∀ (i : Nat) v t, vs[i]? = some v → ts[i]? = some t → FA K F v t := by
  cases h with
  | nd hF ko l1 hc => cases (show _ = _ from ko); exact ⟨_, _, rfl, hF, l1, hc⟩
/-- data given by a tree -/
abbrev pyOf {τ : Type} (ot : τ → OT) : Py τ := ⟨fun K F v x => FA K F v (ot x), fun e h => h.mono e⟩
/-- the tree t, frozen, is x -/
def FzT (t : OT) {τ : Type} [Py τ] (x : τ) : Prop := ∀ {K : Fg} {F : Hp} {v : V}, FA K F v t → rep K F v x
theorem FzT.fz {τ : Type} [Py τ] {x : τ} : FzT (.fz x) x := fun h => h.ofz
/-- a list of things -/
def OT.li {τ : Type} (g : τ → OT) (xs : List τ) : OT := .nd .lst (xs.map g)
theorem FzT.li {τ υ : Type} [Py υ] {g : τ → OT} {h : τ → υ} {xs : List τ} (k : ∀ x, FzT (g x) (h x)) : FzT (OT.li g xs) (xs.map h) := fun {K F v} q => by
  obtain ⟨a, vs, rfl, h1, h2, h3⟩ := q.lst
  refine ⟨a, vs, rfl, h1, ?_⟩
  clear h1 q
  induction xs generalizing vs with
  | nil =>
    cases vs with
    | nil => exact .nil
    | cons => simp at h2
  | cons x r ih =>
    cases vs with
    | nil => simp at h2
    | cons v vs => exact .cons (k x (h3 0 v (g x) rfl rfl)) (ih vs (by simpa using h2) fun i v' t q1 q2 => h3 (i + 1) v' t (by simpa using q1) (by simpa using q2))
/-- a list of frozen things; a list of such -/
abbrev ol {τ : Type} [Py τ] (xs : List τ) : OT := OT.li (fun x : τ => .fz x) xs
abbrev oll {τ : Type} [Py τ] (xss : List (List τ)) : OT := OT.li (fun xs : List τ => ol xs) xss
theorem FzT.ol {τ : Type} [Py τ] {xs : List τ} : FzT (ol xs) xs := fun {K F v} h => by
  have := FzT.li (h := fun x : τ => x) (fun x => FzT.fz) h
  rwa [List.map_id'] at this
theorem FzT.oll {τ : Type} [Py τ] {xs : List (List τ)} : FzT (oll xs) xs := fun {K F v} h => by
  have := FzT.li (h := fun x : List τ => x) (fun x => FzT.ol) h
  rwa [List.map_id'] at this
/-- data that leans on tuples alone -/
class PyTl (τ : Type) [Py τ] : Prop where
  tl : ∀ {K : Fg} {F F' : Hp} {v : V} {x : τ}, (∀ p vs, SqT K F p vs → SqT K F' p vs) → rep K F v x → rep K F' v x
instance : PyTl Int := ⟨fun _ h => h⟩
instance : PyTl Bool := ⟨fun _ h => h⟩
instance : PyTl Str := ⟨fun _ h => h⟩
instance : PyTl Unit := ⟨fun _ h => h⟩
instance {τ : Type} [Py τ] [PyTl τ] : PyTl (Option τ) := ⟨fun {K F F' v x} h r => by
  cases x with
  | none => exact r
  | some y => exact PyTl.tl (x := y) h r⟩
theorem Reps.tl {τ : Type} [Py τ] [PyTl τ] (h : ∀ p vs, SqT K F p vs → SqT K F' p vs) : ∀ {vs : List V} {xs : List τ}, Reps K F vs xs → Reps K F' vs xs
  | _, _, .nil => .nil
  | _, _, .cons r t => .cons (PyTl.tl h r) (Reps.tl h t)
instance {τ : Type} [Py τ] [PyTl τ] : PyTl (Tup τ) := ⟨fun h ⟨p, ws, e, h1, h2⟩ => ⟨p, ws, e, h _ _ h1, Reps.tl h h2⟩⟩
section
variable {α β γ δ ε : Type} [Py α] [Py β] [Py γ] [Py δ] [Py ε] [PyTl α] [PyTl β] [PyTl γ] [PyTl δ] [PyTl ε]
instance : PyTl (α × β) := ⟨fun h ⟨p, a, b, e, h1, h2, h3⟩ => ⟨p, a, b, e, h _ _ h1, PyTl.tl h h2, PyTl.tl h h3⟩⟩
instance : PyTl (T3 α β γ) := ⟨fun h ⟨p, a, b, c, e, h1, h2, h3, h4⟩ => ⟨p, a, b, c, e, h _ _ h1, PyTl.tl h h2, PyTl.tl h h3, PyTl.tl h h4⟩⟩
instance : PyTl (T4 α β γ δ) := ⟨fun h ⟨p, a, b, c, d, e, h1, h2, h3, h4, h5⟩ => ⟨p, a, b, c, d, e, h _ _ h1, PyTl.tl h h2, PyTl.tl h h3, PyTl.tl h h4, PyTl.tl h h5⟩⟩
instance : PyTl (T5 α β γ δ ε) := ⟨fun h ⟨p, a, b, c, d, q, e, h1, h2, h3, h4, h5, h6⟩ => ⟨p, a, b, c, d, q, e, h _ _ h1, PyTl.tl h h2, PyTl.tl h h3, PyTl.tl h h4, PyTl.tl h h5, PyTl.tl h h6⟩⟩
end
/-- a tree whose leaves lean on tuples alone -/
def OTl (t : OT) : Prop := ∀ {K : Fg} {F F' H : Hp} {v : V} {l : List Addr}, (∀ p vs, SqT K F p vs → SqT K F' p vs) → (∀ b ∈ l, F' b = none) → OA K F H v l t → OA K F' H v l t
theorem OTl.fz {τ : Type} [Py τ] [PyTl τ] {x : τ} : OTl (.fz x) := fun h _ q => by
  cases q with
  | fz r => exact .fz (PyTl.tl h r)
theorem OTl.nd {k : Kind} {ts : List OT} (q : ∀ t ∈ ts, OTl t) : OTl (.nd k ts) := fun h hl z => by
  obtain ⟨a, o, vs, fps, rfl, rfl, hF, hH, ko, hc, nd⟩ := z.l3
  refine OA.mk (hl a (by simp)) hH ko ⟨hc.1, hc.2.1, fun i v l t h1 h2 h3 => ?_⟩ nd
  exact q t (List.mem_of_getElem? h3) h (fun b hb => hl b (List.mem_cons_of_mem _ (List.mem_flatten.mpr ⟨l, List.mem_of_getElem? h2, hb⟩))) (hc.2.2 i v l t h1 h2 h3)
theorem OTl.li {τ : Type} {g : τ → OT} {xs : List τ} (k : ∀ x, OTl (g x)) : OTl (OT.li g xs) := OTl.nd fun t ht => by
  obtain ⟨x, _, rfl⟩ := List.mem_map.mp ht
  exact k x
theorem OTl.ol {τ : Type} [Py τ] [PyTl τ] {xs : List τ} : OTl (ol xs) := OTl.li fun _ => OTl.fz
theorem OTl.oll {τ : Type} [Py τ] [PyTl τ] {xs : List (List τ)} : OTl (oll xs) := OTl.li fun _ => OTl.ol
/-! ### freezing -/
def frz (F H : Hp) (l : List Addr) : Hp := fun b => if b ∈ l then H b else F b
theorem frz_in {b : Addr} (h : b ∈ l) : frz F H l b = H b := if_pos h
theorem frz_ni {b : Addr} (h : b ∉ l) : frz F H l b = F b := if_neg h
theorem Ex.frz (h : ∀ b ∈ l, F b = none) : Ex F (frz F H l) := fun b o hb => by
  rw [frz_ni]; exact hb
  intro q; rw [h b q] at hb; cases hb
theorem frz_sub (e : Ex F H) : Ex (frz F H l) H := fun b o hb => by
  by_cases q : b ∈ l
  · rwa [frz_in q] at hb
  · rw [frz_ni q] at hb; exact e _ _ hb
theorem EnvD.frz {c : Cw} {σ : L2.St} {Γ : List Slot} {fp : Nat → List Addr} (E : EnvD K c F H σ Γ fp) (h : ∀ b ∈ l, F b = none ∧ c.al b ∧ ∀ j, b ∉ fp j) : EnvD K c (frz F H l) H σ Γ fp := by
  have e : Ex F (Fw.frz F H l) := Ex.frz fun b hb => (h b hb).1
  refine ⟨⟨E.wd.f0.trans e, frz_sub E.wd.fh, E.wd.keep, fun b hb => ?_⟩, E.len, fun i s hs => ?_, E.dis, E.al, E.out⟩
  · by_cases q : b ∈ l
    · exact .inr (h b q).2.1
    · rw [frz_ni q] at hb; exact E.wd.new b hb
  · obtain ⟨v, q1, q2⟩ := E.ok i s hs
    refine ⟨v, q1, q2.grow e fun b hb => ⟨?_, rfl⟩⟩
    rw [frz_ni fun z => (h b z).2.2 i hb]
    exact (q2.dom b hb).1
/-- an owned slot is frozen -/
theorem EnvD.frzS {c : Cw} {σ : L2.St} {Γ : List Slot} {fp : Nat → List Addr} {oa : Option Addr} {i : Nat} {τ : Type} [Py τ] {x : τ} (E : EnvD K c F H σ Γ fp) (hi : Γ[i]? = some (.ow oa t)) (hf : FzT t x) :
    EnvD K c (Fw.frz F H (fp i)) H σ (Γ.set i (.fz x)) (fun j => if j = i then [] else fp j) := by
  obtain ⟨v, h1, h2, h3⟩ := E.geto hi
  have hil : i < Γ.length := (List.getElem?_eq_some_iff.mp hi).1
  have E1 := E.drop (i := i) (v := some v)
  have es : σ.set i (some v) = σ := by
    apply List.ext_getElem?
    intro j
    by_cases hj : j = i
    · subst hj
      rw [List.getElem?_set_self (by rw [E.len]; exact hil), h1]
    · rw [List.getElem?_set_ne (Ne.symm hj)]
  rw [es] at E1
  have E2 := E1.frz (l := fp i) fun b hb => ⟨(h2.dom b hb).1, E.al i b hb, fun j hj => by
    split at hj
    · cases hj
    · rename_i hne; exact hne (E.dis j i b hj hb)⟩
  have r : rep K (Fw.frz F H (fp i)) v x := hf (h2.fa (Ex.frz fun b hb => (h2.dom b hb).1) fun b hb => frz_in hb)
  have E3 := E2.set (i := i) r
  rw [es, List.set_set] at E3
  have ef : (fun j => if j = i then ([] : List Addr) else if j = i then [] else fp j) = (fun j => if j = i then [] else fp j) := by
    funext j; split <;> rfl
  rw [ef] at E3
  exact E3
/-- .. without some -/
def unfrz (F : Hp) (l : List Addr) : Hp := fun b => if b ∈ l then none else F b
theorem unfrz_in {b : Addr} (h : b ∈ l) : unfrz F l b = none := if_pos h
theorem unfrz_ni {b : Addr} (h : b ∉ l) : unfrz F l b = F b := if_neg h
theorem OA.nodes (h : OA K F H v l t) : ∀ b ∈ l, ∃ o k vs, H b = some o ∧ KO K k o vs := by
  induction h with
  | fz r => intro b hb; cases hb
  | hole => intro b hb; cases hb
  | nd fps hF hH ko l1 l2 hc nd ih =>
    intro b hb
    rcases List.mem_cons.mp hb with rfl | hb
    · exact ⟨_, _, _, hH, ko⟩
    · obtain ⟨l, hl, hb⟩ := List.mem_flatten.mp hb
      obtain ⟨i, hi⟩ := List.getElem?_of_mem hl
      have h0 : i < fps.length := (List.getElem?_eq_some_iff.mp hi).1
      exact ih i _ l _ (by rw [List.getElem?_eq_getElem (by omega)]) hi (by rw [List.getElem?_eq_getElem (by omega)]) b hb
theorem KO.nt {k : Kind} {o : HO} {vs ws : List V} (h : KO K k o vs) : o ≠ .tup ws ∧ ∀ z u, o ≠ .frz z u := by
  cases k with
  | lst => cases (show o = _ from h); exact ⟨by simp, by simp⟩
  | ins C ns => obtain ⟨_, _, dx, rfl⟩ := h; exact ⟨by simp, by simp⟩
  | dK ks => obtain ⟨_, rfl⟩ := h; exact ⟨by simp, by simp⟩
  | dT ks => obtain ⟨_, rfl⟩ := h; exact ⟨by simp, by simp⟩
theorem sqT_unfrz (h : ∀ b ∈ l, ∃ o k vs, F b = some o ∧ KO K k o vs) (p : Addr) (vs : List V) (q : SqT K F p vs) : SqT K (unfrz F l) p vs := by
  have key : ∀ u, F p = some u → (∀ k ws, ¬ KO K k u ws) → unfrz F l p = some u := fun u hu hn => by
    rw [unfrz_ni]; exact hu
    intro hp
    obtain ⟨o, k, ws, h1, h2⟩ := h p hp
    rw [hu] at h1; cases h1
    exact hn k ws h2
  rcases q with (q | ⟨o, q⟩) | q
  · exact .inl (.inl (key _ q fun k ws h => (h.nt (ws := vs)).1 rfl))
  · exact .inl (.inr ⟨o, key _ q fun k ws h => (h.nt (ws := vs)).2 _ _ rfl⟩)
  · exact .inr q
end
/-! ### new things -/
section
variable (X : Cx) (c : Cw) (Γ Γ' : List Slot)
def ENr (K : Fg) (c : Cw) (te : TE) (Γ : List Slot) (t : OT) : Prop :=
  ∀ F H σ fp, EnvD K c F H σ Γ fp → ∀ Q : VK, (∀ v F' H' l, EnvD K c F' H' σ Γ fp → Ex F F' → Nw F H F' H' → OA K F' H' v l t → (∀ b ∈ l, H b = none) → Q v H') → te σ H Q
/-- an expression makes the tree t, all new -/
def XN (e : Expr) (t : OT) : Prop := ∃ te, PE X e te ∧ ENr X.K c te Γ t
def EMr (K : Fg) (c : Cw) (te : TE) (Γ Γ' : List Slot) (s : Slot) : Prop :=
  ∀ F H σ fp, EnvD K c F H σ Γ fp → ∀ Q : VK, (∀ v F' H' fp' l, EnvD K c F' H' σ Γ' fp' → Ex F F' → s.ok K F' H' (some v) l → (∀ b ∈ l, c.al b ∧ ∀ j, b ∉ fp' j) → Q v H') → te σ H Q
/-- an expression that changes what is owned; its value is as s tells -/
def XM (e : Expr) (s : Slot) : Prop := ∃ te, PE X e te ∧ EMr X.K c te Γ Γ' s
end
section
variable {X : Cx} {c : Cw} {Γ Γ' : List Slot} {τ υ : Type} [Py τ] [Py υ] {e : Expr} {t u : OT} {x : τ} {pos : Pos}
theorem XE.n (h : XE X c Γ e x) : XN X c Γ e (.fz x) := by
  obtain ⟨te, h1, h2⟩ := h
  exact ⟨te, h1, fun F H σ fp E Q q => h2 F H σ fp E Q fun v F' H' E' e1 e2 r => q v F' H' [] E' e1 e2 (.fz r) (fun b hb => by cases hb)⟩
theorem XN.fr (h : XN X c Γ e t) (hf : FzT t x) : XE X c Γ e x := by
  obtain ⟨te, h1, h2⟩ := h
  refine ⟨te, h1, fun F H σ fp E Q q => h2 F H σ fp E Q fun v F' H' l E' e1 e2 r hl => ?_⟩
  have h0 : ∀ b ∈ l, F' b = none := fun b hb => (r.dom b hb).1
  refine q v (frz F' H' l) H' (E'.frz fun b hb => ⟨h0 b hb, E.wd.fresh (hl b hb), E.fresh (hl b hb)⟩) (e1.trans (Ex.frz h0)) ⟨e2.h, fun b hb => ?_⟩ (hf (r.fa (Ex.frz h0) fun b hb => frz_in hb))
  by_cases q : b ∈ l
  · exact .inr (hl b q)
  · rw [frz_ni q] at hb; exact e2.n b hb
theorem XN.eq {t' : OT} (h : XN X c Γ e t) (q : t = t') : XN X c Γ e t' := q ▸ h
theorem XN.m (h : XN X c Γ e t) : XM X c Γ Γ e (.ow none t) := by
  obtain ⟨te, h1, h2⟩ := h
  exact ⟨te, h1, fun F H σ fp E Q q => h2 F H σ fp E Q fun v F' H' l E' e1 e2 r hl => q v F' H' fp l E' e1 ⟨v, rfl, r, fun a ha => by cases ha⟩ fun b hb => ⟨E.wd.fresh (hl b hb), E.fresh (hl b hb)⟩⟩
theorem XE.m (h : XE X c Γ e x) : XM X c Γ Γ e (.fz x) := by
  obtain ⟨te, h1, h2⟩ := h
  exact ⟨te, h1, fun F H σ fp E Q q => h2 F H σ fp E Q fun v F' H' E' e1 e2 r => q v F' H' fp [] E' e1 ⟨rfl, v, rfl, r⟩ fun b hb => by cases hb⟩
/-- what is made over the slots Γt may be made over Γ -/
def Thaw (K : Fg) (c : Cw) (Γ Γt : List Slot) (t : OT) : Prop := ∀ te, ENr K c te Γt t → ENr K c te Γ t
theorem Thaw.id {K : Fg} : Thaw K c Γ Γ t := fun _ h => h
theorem Thaw.trans {K : Fg} {Γ'' : List Slot} (h : Thaw K c Γ Γ' t) (k : Thaw K c Γ' Γ'' t) : Thaw K c Γ Γ'' t := fun te q => h te (k te q)
theorem Thaw.one {K : Fg} (i : Nat) {oa : Option Addr} (hi : Γ[i]? = some (.ow oa u)) (hf : FzT u x) (ht : OTl t) : Thaw K c Γ (Γ.set i (.fz x)) t := by
  intro te h2 F H σ fp E Q q
  have E1 := E.frzS hi hf
  obtain ⟨v0, g1, g2, g3⟩ := E.geto hi
  refine h2 _ H σ _ E1 Q fun v F2 H2 l E2 e2 n2 r hl => ?_
  have hno : ∀ b ∈ fp i, F b = none := fun b hb => (g2.dom b hb).1
  have e3 : Ex F (unfrz F2 (fp i)) := fun b o hb => by
    rw [unfrz_ni fun z => by rw [hno b z] at hb; cases hb]
    exact e2 _ _ (Ex.frz hno _ _ hb)
  have e4 : Ex (unfrz F2 (fp i)) H2 := fun b o hb => by
    by_cases q : b ∈ fp i
    · rw [unfrz_in q] at hb; cases hb
    · rw [unfrz_ni q] at hb; exact E2.wd.fh _ _ hb
  have n3 : ∀ b, unfrz F2 (fp i) b ≠ none → F b ≠ none ∨ H b = none := fun b hb => by
    by_cases q : b ∈ fp i
    · rw [unfrz_in q] at hb; exact absurd rfl hb
    · rw [unfrz_ni q] at hb
      rcases n2.n b hb with z | z
      · rw [frz_ni q] at z; exact .inl z
      · exact .inr z
  refine q v (unfrz F2 (fp i)) H2 l (E.grow e3 e4 n2.h n3) e3 ⟨n2.h, n3⟩ (ht (fun p vs => sqT_unfrz (fun b hb => ?_) p vs) (fun b hb => ?_) r) hl
  · obtain ⟨o, k, ws, z1, z2⟩ := g2.nodes b hb
    exact ⟨o, k, ws, e2 _ _ (by rw [frz_in hb]; exact z1), z2⟩
  · by_cases q : b ∈ fp i
    · exact unfrz_in q
    · rw [unfrz_ni q]; exact (r.dom b hb).1
/-- a slot is frozen while an expression is read -/
theorem xn_thaw (i : Nat) {oa : Option Addr} (hi : Γ[i]? = some (.ow oa u)) (hf : FzT u x) (ht : OTl t) (h : XN X c (Γ.set i (.fz x)) e t) : XN X c Γ e t := by
  obtain ⟨te, h1, h2⟩ := h
  exact ⟨te, h1, Thaw.one i hi hf ht te h2⟩
theorem xe_thaw {y : υ} [PyTl υ] (i : Nat) {oa : Option Addr} (hi : Γ[i]? = some (.ow oa u)) (hf : FzT u x) (h : XE X c (Γ.set i (.fz x)) e y) : XE X c Γ e y :=
  (xn_thaw i hi hf OTl.fz h.n).fr FzT.fz
theorem xt_thaw {k : Bool} (i : Nat) {oa : Option Addr} (hi : Γ[i]? = some (.ow oa u)) (hf : FzT u x) (h : XT X c (Γ.set i (.fz x)) e k) : XT X c Γ e k := by
  obtain ⟨te, h1, h2⟩ := h
  refine ⟨te, h1, fun F H σ fp E Q q => ?_⟩
  have E1 := E.frzS hi hf
  obtain ⟨v0, g1, g2, g3⟩ := E.geto hi
  refine h2 _ H σ _ E1 Q fun F2 H2 E2 e2 n2 => ?_
  have hno : ∀ b ∈ fp i, F b = none := fun b hb => (g2.dom b hb).1
  have e4 : Ex F H2 := ((Ex.frz hno).trans e2).trans E2.wd.fh
  exact q F H2 (E.grow (Ex.refl _) e4 n2.h fun b hb => .inl hb) (Ex.refl _) ⟨n2.h, fun b hb => .inl hb⟩
end
section
variable {X : Cx} {w : Wx} {c : Cw} {Γ Γ' : List Slot} {S S' B υ : Type} [Py υ] {R : Rc} {G : S → List Slot} {G' : S' → List Slot} {GB : B → List Slot} {o : Out S B R.ρ} {pos : Pos} {st : Stmt} {rest : List Stmt} {e d : Expr} {k : Bool} {s : Slot} {t : OT}
/-- a block begins by freezing a name for good -/
theorem xo_freeze {x : υ} (i : Nat) {oa : Option Addr} (hf : FzT t x) (h : XO X w c (Γ.set i (.fz x)) rest G GB o) (hi : Γ[i]? = some (.ow oa t) := by rfl) : XO X w c Γ rest G GB o := by
  obtain ⟨tt, h1, h2⟩ := h
  refine ⟨tt, h1, fun F H σ ⟨fp, E⟩ D q => ?_⟩
  obtain ⟨v0, g1, g2, g3⟩ := E.geto hi
  exact h2 _ H σ ⟨_, E.frzS hi hf⟩ D (OutOk.ex (o := o) q (Ex.frz fun b hb => (g2.dom b hb).1))
/-- x = e, e changes things -/
theorem xs_letM {σ' : Type} {y : S'} {Γ1 : S' → List Slot} {sl : S' → Slot} (i : Nat) {n : Str} {p : Pos} (hN : X.N.Nodup) (he : XM X c Γ (Γ1 y) e (sl y)) (hil : ∀ y, i < (Γ1 y).length) (hi : X.N[i]? = some n := by rfl) (hx : Loc X.env.scope n := by first | exact .inl rfl | exact .inr rfl) (hs : swapsWith e (some (.Name n p)) pos.line X.env = pure false := by rfl)
    (hf : X.fn n = true ∨ X.env.scope.names.lookup n = some .local := by first | exact .inl rfl | exact .inr rfl | assumption) : XS X w c Γ (.Assign [.Name n p] e pos) (fun y : S' => (Γ1 y).set i (sl y)) GB (Out.nx y : Out S' B R.ρ) := by
  obtain ⟨tt, h1, h2⟩ := he
  refine ⟨_, ps_set (i := i) hN hi hx h1 hs hf, fun F H σ ⟨fp, E⟩ D q => h2 F H σ fp E _ fun v F' H' fp' l E' e1 r hl => ?_⟩
  exact q _ F' H' ⟨_, E'.setO (hil y) r (fun b hb => (hl b hb).1) (fun j b _ hb => (hl b hb).2 j)⟩ e1
/-- x = a new thing -/
theorem xs_letN {α : Type} {x : α} (g : α → OT) (i : Nat) {n : Str} {p : Pos} (hN : X.N.Nodup) (he : XN X c Γ e (g x)) (hil : i < Γ.length := by exact Nat.le_of_ble_eq_true rfl) (hi : X.N[i]? = some n := by rfl) (hx : Loc X.env.scope n := by first | exact .inl rfl | exact .inr rfl) (hs : swapsWith e (some (.Name n p)) pos.line X.env = pure false := by rfl)
    (hf : X.fn n = true ∨ X.env.scope.names.lookup n = some .local := by first | exact .inl rfl | exact .inr rfl | assumption) : XS X w c Γ (.Assign [.Name n p] e pos) (fun y : α => Γ.set i (.ow none (g y))) GB (Out.nx x : Out α B R.ρ) :=
  xs_letM (σ' := Unit) (Γ1 := fun _ => Γ) (sl := fun y => .ow none (g y)) i hN he.m (fun _ => hil) hi hx hs hf
theorem xs_exprM {y : S'} {Γ1 : S' → List Slot} (he : XM X c Γ (Γ1 y) e s) (hs : swapsWith e none pos.line X.env = pure false := by rfl) : XS X w c Γ (.Expr e pos) Γ1 GB (Out.nx y : Out S' B R.ρ) := by
  obtain ⟨tt, h1, h2⟩ := he
  exact ⟨_, ps_expr h1 hs, fun F H σ ⟨fp, E⟩ D q => h2 F H σ fp E _ fun v F' H' fp' l E' e1 r hl => q _ F' H' ⟨fp', E'⟩ e1⟩
/-- return e -/
theorem xs_retM {r : R.ρ} (he : XM X c Γ Γ' e s) (hw : R.RG r Γ') (hv : R.RS r = s) (hx : R.xn r = none) : XS X w c Γ (.Return (some e) pos) G GB (Out.rt r : Out S B R.ρ) := by
  obtain ⟨tt, h1, h2⟩ := he
  exact ⟨_, ps_ret h1, fun F H σ ⟨fp, E⟩ D q => h2 F H σ fp E _ fun v F' H' fp' l E' e1 rr hl => q.1 hx v σ F' H' _ fp' l E' e1 hw (by rw [hv]; exact rr) hl⟩
/-- an owned name as a value: it is given away -/
theorem xm_give (i : Nat) {n : Str} {p : Pos} {oa : Option Addr} (hi : Γ[i]? = some (.ow oa t) := by rfl) (hN : X.N[i]? = some n := by rfl) (hv : Vis X.env.scope n := by first | exact Or.inl rfl | exact Or.inr (Or.inl rfl) | exact Or.inr (Or.inr rfl))
    (hd : (n == ("__debug__" : Str)) = false := by decide) (hcd : (n == ("__classdict__" : Str)) = false := by decide) : XM X c Γ (Γ.set i .no) (.Name n p) (.ow none t) :=
  ⟨_, pe_var (i := i) hN hv hd hcd, fun F H σ fp E Q q => by
    obtain ⟨v, g1, g2, g3⟩ := E.geto hi
    have hil : i < Γ.length := (List.getElem?_eq_some_iff.mp hi).1
    have E1 := E.drop (i := i) (v := some v)
    have es : σ.set i (some v) = σ := by
      apply List.ext_getElem?
      intro j
      by_cases hj : j = i
      · subst hj
        rw [List.getElem?_set_self (by rw [E.len]; exact hil), g1]
      · rw [List.getElem?_set_ne (Ne.symm hj)]
    rw [es] at E1
    refine ⟨v, g1, q v F H _ (fp i) E1 (Ex.refl _) ⟨v, rfl, g2, fun a ha => by cases ha⟩ fun b hb => ⟨E.al i b hb, fun j hj => ?_⟩⟩
    split at hj
    · cases hj
    · rename_i hne; exact hne (E.dis j i b hj hb)⟩
end
end Fw
namespace Fw
open PySem L2 Py PyProof.Rows
/-! ### comprehensions -/
def wipeS (Γ : List Slot) : List Nat → List Slot
  | [] => Γ
  | v :: vs => (wipeS Γ vs).set v .no
theorem EnvD.wipe {K : Fg} {c : Cw} {F H : Hp} {σ : L2.St} {Γ : List Slot} {fp : Nat → List Addr} (E : EnvD K c F H σ Γ fp) : ∀ vs : List Nat, ∃ fp', EnvD K c F H (L2.wipe σ vs) (wipeS Γ vs) fp' ∧ ∀ j b, b ∈ fp' j → b ∈ fp j
  | [] => ⟨fp, E, fun _ _ h => h⟩
  | v :: vs => by
    obtain ⟨fp1, E1, h1⟩ := EnvD.wipe E vs
    refine ⟨_, E1.drop (i := v) (v := none), fun j b hb => ?_⟩
    split at hb
    · cases hb
    · exact h1 j b hb
theorem wipe_get (σ : L2.St) : ∀ (vs : List Nat) (j : Nat), j < σ.length → (L2.wipe σ vs)[j]? = if j ∈ vs then some none else σ[j]?
  | [], j, h => by simp [L2.wipe]
  | v :: vs, j, h => by
    show ((L2.wipe σ vs).set v none)[j]? = _
    by_cases hj : j = v
    · subst hj
      rw [List.getElem?_set_self (by rw [wipe_length]; exact h), if_pos (by simp)]
    · rw [List.getElem?_set_ne (Ne.symm hj), wipe_get σ vs j h]
      by_cases hm : j ∈ vs
      · rw [if_pos hm, if_pos (by simp [hm])]
      · rw [if_neg hm, if_neg (by simp [hm, hj])]
theorem wipe_sm {σ σ2 : L2.St} {ws vs : List Nat} (h : Sm ws (L2.wipe σ vs) σ2) (hs : ∀ w ∈ ws, w ∈ vs) : L2.wipe σ2 vs = L2.wipe σ vs := by
  have hl : σ2.length = σ.length := by rw [h.1, wipe_length]
  apply List.ext_getElem?
  intro j
  by_cases hj : j < σ.length
  · rw [wipe_get σ2 vs j (by omega), wipe_get σ vs j hj]
    by_cases hm : j ∈ vs
    · rw [if_pos hm, if_pos hm]
    · rw [if_neg hm, if_neg hm, h.2 j (fun q => hm (hs j q)), wipe_get σ vs j hj, if_neg hm]
  · rw [List.getElem?_eq_none (by rw [wipe_length]; omega), List.getElem?_eq_none (by rw [wipe_length]; omega)]
theorem EnvD.mutD {K : Fg} {c : Cw} {F H : Hp} {σ : L2.St} {Γ : List Slot} {fp : Nat → List Addr} {D : Addr} {o : HO} (E : EnvD K c F H σ Γ fp) (hF : F D = none) (hD : ∀ j, D ∉ fp j) (ha : c.al D) : EnvD K c F (upd H D o) σ Γ fp := by
  refine ⟨⟨E.wd.f0, E.wd.fh.upd hF, fun b u hb h => ?_, E.wd.new⟩, E.len, fun j s hj => ?_, E.dis, E.al, E.out⟩
  · by_cases hba : b = D
    · subst hba
      rcases ha with z | z
      · exact absurd z hb
      · rw [z] at h; cases h
    · rw [upd_ne hba]; exact E.wd.keep b u hb h
  · obtain ⟨v, q1, q2⟩ := E.ok j s hj
    refine ⟨v, q1, q2.grow (Ex.refl _) fun b hb => ⟨(q2.dom b hb).1, ?_⟩⟩
    rw [upd_ne]
    rintro rfl
    exact hD j hb
section
variable {X : Cx} {c : Cw} {Γ Γ' : List Slot} {τ υ ζ : Type} [Py τ] [Py υ] [Py ζ] {a b d e : Expr} {es : List Expr} {x : τ} {y : υ} {z : ζ} {pos : Pos}
/-- within a comprehension's block -/
structure Bq where
  s : Shared
  H : Hp
  C : Addr
  cl : List (Str × Addr)
  fp : List Addr
abbrev Bk (X : Cx) (scope : Scope) (q : Bq) : Cx := X.blk q.s q.H scope (compEnvC scope q.cl q.C X.env) q.fp
theorem Nw.updD {F H F' H' : Hp} {D : Addr} {o : HO} (n : Nw F H F' H') (h : H D = none) : Nw F H F' (upd H' D o) := ⟨n.h.upd h, n.n⟩
theorem Nw.none {F H F' H' : Hp} {D : Addr} (n : Nw F H F' H') (h : F D = none) (h2 : H D ≠ none) : F' D = none := by
  cases q : F' D with
  | none => rfl
  | some o =>
    rcases n.n D (by rw [q]; simp) with z | z
    · exact absurd h z
    · exact absurd z h2
/-- the list of a comprehension, whatever it keeps -/
theorem xn_lcG {elt tg it : Expr} {ifs : List Expr} {scope : Scope} {ws : List Nat} {xs : List υ} {up : List Slot → υ → List Slot} {g : υ → OT} {p : υ → Bool} (own : List (Str × Nat)) (hN : X.N.Nodup) (hi : XI X c Γ tg it xs) (hl : xs.length ≤ 100000)
    (hg : ∀ q : Bq, XG (Bk X scope q) c tg ws up)
    (kt : ∃ tt, (∀ q : Bq, PTs (Bk X scope q) ifs tt) ∧ ∀ (i : Nat) y, xs[i]? = some y → ETr X.K c tt (up (wipeS Γ (own.map (·.2))) y) (p y))
    (he : ∀ (i : Nat) y, xs[i]? = some y → p y = true → ∀ q : Bq, XN (Bk X scope q) c (up (wipeS Γ (own.map (·.2))) y) elt (g y))
    (ok : blkC X.N X.env.scope scope own = true) (hws : ∀ w ∈ ws, w ∈ own.map (·.2)) (hc : X.calm = true) (hs : ∀ x, foldedSetIterable it X.env x = pure x) :
    ∃ wi tgr tt te, PI X tg it wi ∧ (∀ q : Bq, PG (Bk X scope q) tg tgr) ∧ (∀ q : Bq, PTs (Bk X scope q) ifs tt) ∧ (∀ q : Bq, PE (Bk X scope q) elt te) ∧
      ENr X.K c (tLc wi tgr tt te (own.map (·.2))) Γ (OT.li g (xs.filter p)) := by
  obtain ⟨wi, i1, i2⟩ := hi
  have kg : ∃ tg', (∀ q : Bq, PG (Bk X scope q) tg tg') ∧ ∀ F1 H1 σ fpE v Γ1 (y : υ), EnvD X.K c F1 H1 σ Γ1 fpE → rep X.K F1 v y → ∀ Q : L2.St → Hp → Prop, (∀ σ' fp', EnvD X.K c F1 H1 σ' (up Γ1 y) fp' → (∀ j b, b ∈ fp' j → b ∈ fpE j) → Sm ws σ σ' → Q σ' H1) → tg' v σ H1 Q := by
    refine ⟨fun v σ H1 Q => ∀ q : Bq, ∃ t, PG (Bk X scope q) tg t ∧ t v σ H1 Q, fun q => ⟨?_⟩, fun F1 H1 σ fpE v Γ1 y E r Q q b => ?_⟩
    · intros
      rename_i h
      obtain ⟨t, h1, h2⟩ := h q
      apply h1.run <;> assumption
    · obtain ⟨t, h1, h2⟩ := hg b
      exact ⟨t, h1, h2 F1 H1 σ fpE v Γ1 y E r Q q⟩
  obtain ⟨tgr, g1, g2⟩ := kg
  obtain ⟨tt, t1, t2⟩ := kt
  have ke : ∃ te, (∀ q : Bq, PE (Bk X scope q) elt te) ∧ ∀ (i : Nat) y, xs[i]? = some y → p y = true → ENr X.K c te (up (wipeS Γ (own.map (·.2))) y) (g y) := by
    refine ⟨fun σ H1 Q => ∀ q : Bq, ∃ t, PE (Bk X scope q) elt t ∧ t σ H1 Q, fun q => ⟨fun pins s1 σ H1 Q I h => ?_⟩, fun i y hx hy F1 H1 σ fpE E Q q b => ?_⟩
    · obtain ⟨t, h1, h2⟩ := h q
      exact h1.run pins s1 σ H1 Q I h2
    · obtain ⟨t, h1, h2⟩ := he i y hx hy b
      exact ⟨t, h1, h2 F1 H1 σ fpE E Q q⟩
  obtain ⟨te, e1, e2⟩ := ke
  refine ⟨wi, tgr, tt, te, i1, g1, t1, e1, fun F H σ fp E Q q => i2 F H σ fp E _ fun J F1 H1 E1 x1 n1 wk D hD => ?_⟩
  obtain ⟨GG, Y, w1, w2, w3⟩ := wk
  have hDf : F1 D = none := E1.ff hD
  have hal : c.al D := E1.wd.fresh hD
  have hDH : H D = none := by
    cases z : H D with
    | none => rfl
    | some o => rw [n1.h _ _ z] at hD; cases hD
  have hDfp : ∀ j, D ∉ fp j := fun j => E1.fresh hD j
  refine lc_it w1 (fun i H' => ∃ F' vs fps, Ex F1 F' ∧ Nw F1 H1 F' H' ∧ EnvD X.K c F' H' σ Γ fp ∧ F' D = none ∧ H' D = some (.lst vs) ∧ vs.length ≤ i ∧ L3 (OA X.K F' H') vs fps (((xs.take i).filter p).map g) ∧ (D :: fps.flatten).Nodup ∧ (∀ b ∈ fps.flatten, H1 b = none))
    ⟨F1, [], [], Ex.refl _, Nw.refl.updD hD, E1.mutD hDf hDfp hal, hDf, upd_same, Nat.le_refl _, .nil, by simp, by simp⟩ ?_ ?_ ?_
  · rintro i H' hi ⟨F', vs, fps, y1, y2, y3, _⟩
    exact w2 F' H' y1 y3.wd.fh
  · rintro i v Ha Hb hi ⟨F', vs, fps, y1, y2, y3, y4, y5, yl, y6, y7, y8⟩ hy
    have hx : xs[i]? = some xs[i] := by simp [hi]
    have htake : xs.take (i + 1) = xs.take i ++ [xs[i]] := by rw [List.take_succ_eq_append_getElem hi]
    obtain ⟨F2, z1, z2, z3, z4, z5⟩ := w3 i F' Ha v Hb xs[i] y1 y3.wd.fh hy hx
    have E2 := y3.grow z1 z2 z3 z4
    have n2 : Nw F1 H1 F2 Hb := y2.trans ⟨z3, z4⟩
    have nD2 : F2 D = none := Nw.none ⟨z3, z4⟩ y4 (by rw [y5]; simp)
    have b5 : Hb D = some (.lst vs) := z3 _ _ y5
    obtain ⟨fw2, Ew2, hfw2⟩ := E2.wipe (own.map (·.2))
    refine g2 F2 Hb _ fw2 v _ xs[i] Ew2 z5 _ fun σ2 fp2 E3 hfp2 sm => ⟨wipe_sm sm hws, ?_⟩
    have hD2 : ∀ j, D ∉ fp2 j := fun j hj => hDfp j (hfw2 _ _ (hfp2 _ _ hj))
    refine t2 i xs[i] hx F2 Hb σ2 fp2 E3 _ fun F3 H3 E4 x4 n4 => ?_
    have nD3 : F3 D = none := n4.none nD2 (by rw [b5]; simp)
    -- the frame's own slots over the grown heaps
    have E23 : EnvD X.K c F3 H3 σ Γ fp := E2.grow x4 E4.wd.fh n4.h n4.n
    -- the parts made so far over them
    have part : ∀ {Fa Ha' Fb Hb' : Hp} {us : List V} {gs : List (List Addr)} {ts : List OT}, L3 (OA X.K Fa Ha') us gs ts → Ex Fa Fb → Nw Fa Ha' Fb Hb' → L3 (OA X.K Fb Hb') us gs ts := fun r e n => r.imp fun v l t _ o => o.grow e fun b hb => by
      obtain ⟨d1, u, d2⟩ := o.dom b hb
      exact ⟨Nw.none n d1 (by rw [d2]; simp), (n.h _ _ d2).trans d2.symm⟩
    have y6' := part (part y6 z1 ⟨z3, z4⟩) x4 n4
    by_cases hpy : p xs[i] = true
    · rw [if_pos hpy]
      refine e2 i xs[i] hx hpy F3 H3 σ2 fp2 E4 _ fun u F4 H4 l E5 x5 n5 r5 hl5 => ?_
      have c5 : H4 D = some (.lst vs) := n5.h _ _ (n4.h _ _ b5)
      have nD4 : F4 D = none := n5.none nD3 (by rw [n4.h _ _ b5]; simp)
      have hz : i < 100000 := by omega
      have ez : (100000 : Nat) ≤ sizeLine := by decide
      have y6'' := part y6' x5 n5
      have Dl : D ∉ l := fun h => by have := hl5 D h; rw [n4.h _ _ b5] at this; cases this
      have hH1 : ∀ b ∈ l, H1 b = none := fun b hb => by
        cases z : H1 b with
        | none => rfl
        | some o =>
          have := hl5 b hb
          rw [(n2.trans n4).h _ _ z] at this; cases this
      have ll : ∀ b ∈ fps.flatten, b ∉ l := fun b hb h => by
        obtain ⟨m, hm, hbm⟩ := List.mem_flatten.mp hb
        obtain ⟨j, hj⟩ := List.getElem?_of_mem hm
        have hj2 : j < fps.length := (List.getElem?_eq_some_iff.mp hj).1
        have k1 : j < vs.length := by rw [y6'.1, ← y6'.2.1]; exact hj2
        have k2 : j < (((xs.take i).filter p).map g).length := by rw [← y6'.2.1]; exact hj2
        have o := y6'.2.2 j _ m _ (List.getElem?_eq_getElem k1) hj (List.getElem?_eq_getElem k2)
        obtain ⟨_, w, d⟩ := o.dom b hbm
        rw [hl5 b h] at d; cases d
      have nd' : (D :: (fps ++ [l]).flatten).Nodup := by
        rw [List.flatten_append, List.flatten_cons, List.flatten_nil, List.append_nil]
        rw [List.nodup_cons] at y7 ⊢
        refine ⟨fun h => ?_, List.nodup_append.mpr ⟨y7.2, r5.nodup, fun b hb c hc e => ll b hb (e ▸ hc)⟩⟩
        rcases List.mem_append.mp h with h | h
        · exact y7.1 h
        · exact Dl h
      have up1 : ∀ {us : List V} {gs : List (List Addr)} {ts : List OT} {o : HO}, L3 (OA X.K F4 H4) us gs ts → D ∉ gs.flatten → L3 (OA X.K F4 (upd H4 D o)) us gs ts := fun r hn => r.imp fun v m t hm oo => oo.grow (Ex.refl _) fun b hb => ⟨(oo.dom b hb).1, upd_ne (by rintro rfl; exact hn (List.mem_flatten.mpr ⟨m, hm, hb⟩))⟩
      refine ⟨vs, c5, by omega, F4, vs ++ [u], fps ++ [l], ((y1.trans z1).trans x4).trans x5, ((n2.trans n4).trans n5).updD hD, (E23.grow x5 E5.wd.fh n5.h n5.n).mutD nD4 hDfp hal, nD4, upd_same, by simp; omega, ?_, nd', ?_⟩
      · rw [htake, List.filter_append, List.map_append, List.filter_cons_of_pos hpy, List.filter_nil]
        exact up1 (y6''.app (.cons r5 .nil)) (List.nodup_cons.mp nd').1
      · intro b hb
        rw [List.flatten_append, List.flatten_cons, List.flatten_nil, List.append_nil] at hb
        rcases List.mem_append.mp hb with h | h
        · exact y8 b h
        · exact hH1 b h
    · rw [if_neg hpy]
      refine ⟨F3, vs, fps, (y1.trans z1).trans x4, n2.trans n4, E23, nD3, n4.h _ _ b5, by omega, ?_, y7, y8⟩
      rw [htake, List.filter_append, List.map_append, List.filter_cons_of_neg hpy, List.filter_nil]
      simpa using y6'
  · rintro H' ⟨F', vs, fps, y1, y2, y3, y4, y5, _, y6, y7, y8⟩
    rw [List.take_length] at y6
    refine q (.ref D) F' H' (D :: fps.flatten) y3 (x1.trans y1) (n1.trans y2) (OA.mk y4 y5 rfl y6 y7) fun b hb => ?_
    rcases List.mem_cons.mp hb with rfl | hb
    · exact hDH
    · cases z : H b with
      | none => rfl
      | some o => have := y8 b hb; rw [n1.h _ _ z] at this; cases this
theorem kt_no {scope : Scope} {vs : List Nat} {xs : List υ} {up : List Slot → υ → List Slot} : ∃ tt, (∀ q : Bq, PTs (Bk X scope q) [] tt) ∧ ∀ (i : Nat) y, xs[i]? = some y → ETr X.K c tt (up (wipeS Γ vs) y) ((fun _ => true) y) :=
  ⟨tYes, fun _ => pts_nil, fun _ _ _ F H σ fp E Q q => q F H E (Ex.refl _) Nw.refl⟩
theorem kt_one {scope : Scope} {cond : Expr} {vs : List Nat} {xs : List υ} {p : υ → Bool} {up : List Slot → υ → List Slot} (hp : ∀ (i : Nat) y, xs[i]? = some y → ∀ q : Bq, XT (Bk X scope q) c (up (wipeS Γ vs) y) cond (p y)) :
    ∃ tt, (∀ q : Bq, PTs (Bk X scope q) [cond] tt) ∧ ∀ (i : Nat) y, xs[i]? = some y → ETr X.K c tt (up (wipeS Γ vs) y) (p y) := by
  refine ⟨fun σ H1 Q => ∀ q : Bq, ∃ t, PT (Bk X scope q) cond t ∧ t σ H1 Q, fun q => pts_one ⟨fun pins s1 σ H1 Q I h => ?_⟩, fun i y hx F1 H1 σ fpE E Q q b => ?_⟩
  · obtain ⟨t, h1, h2⟩ := h q
    exact h1.run pins s1 σ H1 Q I h2
  · obtain ⟨t, h1, h2⟩ := hp i y hx b
    exact ⟨t, h1, h2 F1 H1 σ fpE E Q q⟩
/-- [elt for tg in it], new -/
theorem xn_lc {elt tg it : Expr} {scope : Scope} {ws : List Nat} {xs : List υ} {up : List Slot → υ → List Slot} {g : υ → OT} (own : List (Str × Nat)) (hN : X.N.Nodup) (hi : XI X c Γ tg it xs) (hl : xs.length ≤ 100000)
    (hg : ∀ q : Bq, XG (Bk X scope q) c tg ws up)
    (he : ∀ y ∈ xs, ∀ q : Bq, XN (Bk X scope q) c (up (wipeS Γ (own.map (·.2))) y) elt (g y))
    (ok : blkC X.N X.env.scope scope own = true := by decide +kernel) (hws : ∀ w ∈ ws, w ∈ own.map (·.2) := by decide) (hc : X.calm = true := by rfl) (hs : ∀ x, foldedSetIterable it X.env x = pure x := by intro _; rfl) :
    XN X c Γ (.ListComp elt [⟨tg, it, [], 0⟩] scope pos) (OT.li g xs) := by
  obtain ⟨wi, tgr, tt, te, i1, g1, t1, e1, h⟩ := xn_lcG (p := fun _ => true) own hN hi hl hg kt_no (fun i y hx _ => he y (List.mem_of_getElem? hx)) ok hws hc hs
  rw [show xs.filter (fun _ => true) = xs from List.filter_eq_self.mpr fun _ _ => rfl] at h
  exact ⟨_, pe_lc (own := own) hc hN i1 (blkOk_by ok) (fun s H C cl fp => g1 ⟨s, H, C, cl, fp⟩) (fun s H C cl fp => t1 ⟨s, H, C, cl, fp⟩) (fun s H C cl fp => e1 ⟨s, H, C, cl, fp⟩) hs, h⟩
/-- [elt for tg in it if cond], new -/
theorem xn_lcif {elt tg it cond : Expr} {scope : Scope} {ws : List Nat} {xs : List υ} {up : List Slot → υ → List Slot} {g : υ → OT} {p : υ → Bool} (own : List (Str × Nat)) (hN : X.N.Nodup) (hi : XI X c Γ tg it xs) (hl : xs.length ≤ 100000)
    (hg : ∀ q : Bq, XG (Bk X scope q) c tg ws up)
    (hp : ∀ y ∈ xs, ∀ q : Bq, XT (Bk X scope q) c (up (wipeS Γ (own.map (·.2))) y) cond (p y))
    (he : ∀ y ∈ xs, p y = true → ∀ q : Bq, XN (Bk X scope q) c (up (wipeS Γ (own.map (·.2))) y) elt (g y))
    (ok : blkC X.N X.env.scope scope own = true := by decide +kernel) (hws : ∀ w ∈ ws, w ∈ own.map (·.2) := by decide) (hc : X.calm = true := by rfl) (hs : ∀ x, foldedSetIterable it X.env x = pure x := by intro _; rfl) :
    XN X c Γ (.ListComp elt [⟨tg, it, [cond], 0⟩] scope pos) (OT.li g (xs.filter p)) := by
  obtain ⟨wi, tgr, tt, te, i1, g1, t1, e1, h⟩ := xn_lcG (p := p) own hN hi hl hg (kt_one fun i y hx => hp y (List.mem_of_getElem? hx)) (fun i y hx => he y (List.mem_of_getElem? hx)) ok hws hc hs
  exact ⟨_, pe_lc (own := own) hc hN i1 (blkOk_by ok) (fun s H C cl fp => g1 ⟨s, H, C, cl, fp⟩) (fun s H C cl fp => t1 ⟨s, H, C, cl, fp⟩) (fun s H C cl fp => e1 ⟨s, H, C, cl, fp⟩) hs, h⟩
end
section
variable {X : Cx} {w : Wx} {c : Cw} {Γ Γ' : List Slot} {S B υ : Type} [Py υ] {R : Rc} {GB : B → List Slot} {pos : Pos}
/-- y = [elt for tg in it if cond] -/
theorem EnvD.setN {F H : Hp} {K : Fg} {σ : L2.St} {fp : Nat → List Addr} {F' H' : Hp} {v : V} {l : List Addr} {t : OT} {i : Nat} (E : EnvD K c F H σ Γ fp) (E' : EnvD K c F' H' σ Γ fp) (hil : i < Γ.length) (r : OA K F' H' v l t) (hl : ∀ b ∈ l, H b = none) :
    Env K c F' H' (σ.set i (some v)) (Γ.set i (.ow none t)) := ⟨_, E'.setO hil ⟨v, rfl, r, fun a ha => by cases ha⟩ (fun b hb => E.wd.fresh (hl b hb)) (fun j b _ hb => E.fresh (hl b hb) j)⟩
theorem xs_lcifN {elt tg it cond : Expr} {scope : Scope} {spos : Pos} {ws : List Nat} {xs : List υ} {up : List Slot → υ → List Slot} {g : υ → OT} {p : υ → Bool} {α : Type} {ys : α} {Γt : List Slot} (gg : α → OT) (i : Nat) {y : Str} {py : Pos} (own : List (Str × Nat)) (hN : X.N.Nodup) (hi : XI X c Γt tg it xs) (hl : xs.length ≤ 100000)
    (hg : ∀ q : Bq, XG (Bk X scope q) c tg ws up)
    (hp : ∀ y ∈ xs, ∀ q : Bq, XT (Bk X scope q) c (up (wipeS Γt (own.map (·.2))) y) cond (p y))
    (he : ∀ y ∈ xs, p y = true → ∀ q : Bq, XN (Bk X scope q) c (up (wipeS Γt (own.map (·.2))) y) elt (g y)) (hgg : OT.li g (xs.filter p) = gg ys) (th : Thaw X.K c Γ Γt (gg ys) := by exact Thaw.id) (hil : i < Γ.length := by exact Nat.le_of_ble_eq_true rfl)
    (hy : X.N[i]? = some y := by rfl) (hyl : X.env.scope.names.lookup y = some .local := by rfl) (hsw : swapsWith (.ListComp elt [⟨tg, it, [cond], 0⟩] scope pos) (some (.Name y py)) spos.line X.env = pure true := by exact sw_true rfl rfl rfl (by decide +kernel))
    (ok : blkC X.N X.env.scope scope own = true := by decide +kernel) (hws : ∀ w ∈ ws, w ∈ own.map (·.2) := by decide) (hc : X.calm = true := by rfl) (hs : ∀ x, foldedSetIterable it X.env x = pure x := by intro _; rfl) :
    XS X w c Γ (.Assign [.Name y py] (.ListComp elt [⟨tg, it, [cond], 0⟩] scope pos) spos) (fun x : α => Γ.set i (.ow none (gg x))) GB (Out.nx ys : Out α B R.ρ) := by
  obtain ⟨wi, tgr, tt, te, i1, g1, t1, e1, h⟩ := xn_lcG (p := p) own hN hi hl hg (kt_one fun i y hx => hp y (List.mem_of_getElem? hx)) (fun i y hx => he y (List.mem_of_getElem? hx)) ok hws hc hs
  rw [hgg] at h
  exact ⟨_, ps_setLc (own := own) (i := i) hc hN hy hyl hsw i1 (blkOk_by ok) (fun s H C cl fp => g1 ⟨s, H, C, cl, fp⟩) (fun s H C cl fp => t1 ⟨s, H, C, cl, fp⟩) (fun s H C cl fp => e1 ⟨s, H, C, cl, fp⟩) hs,
    fun F H σ ⟨fp, E⟩ D q => th _ h F H σ fp E _ fun v F' H' l E' e1 _ r hl => q _ F' H' (E.setN E' hil r hl) e1⟩
theorem xs_lcN {elt tg it : Expr} {scope : Scope} {spos : Pos} {ws : List Nat} {xs : List υ} {up : List Slot → υ → List Slot} {g : υ → OT} {α : Type} {ys : α} {Γt : List Slot} (gg : α → OT) (i : Nat) {y : Str} {py : Pos} (own : List (Str × Nat)) (hN : X.N.Nodup) (hi : XI X c Γt tg it xs) (hl : xs.length ≤ 100000)
    (hg : ∀ q : Bq, XG (Bk X scope q) c tg ws up)
    (he : ∀ y ∈ xs, ∀ q : Bq, XN (Bk X scope q) c (up (wipeS Γt (own.map (·.2))) y) elt (g y)) (hgg : OT.li g xs = gg ys) (th : Thaw X.K c Γ Γt (gg ys) := by exact Thaw.id) (hil : i < Γ.length := by exact Nat.le_of_ble_eq_true rfl)
    (hy : X.N[i]? = some y := by rfl) (hyl : X.env.scope.names.lookup y = some .local := by rfl) (hsw : swapsWith (.ListComp elt [⟨tg, it, [], 0⟩] scope pos) (some (.Name y py)) spos.line X.env = pure true := by exact sw_true rfl rfl rfl (by decide +kernel))
    (ok : blkC X.N X.env.scope scope own = true := by decide +kernel) (hws : ∀ w ∈ ws, w ∈ own.map (·.2) := by decide) (hc : X.calm = true := by rfl) (hs : ∀ x, foldedSetIterable it X.env x = pure x := by intro _; rfl) :
    XS X w c Γ (.Assign [.Name y py] (.ListComp elt [⟨tg, it, [], 0⟩] scope pos) spos) (fun x : α => Γ.set i (.ow none (gg x))) GB (Out.nx ys : Out α B R.ρ) := by
  obtain ⟨wi, tgr, tt, te, i1, g1, t1, e1, h⟩ := xn_lcG (p := fun _ => true) own hN hi hl hg kt_no (fun i y hx _ => he y (List.mem_of_getElem? hx)) ok hws hc hs
  rw [show xs.filter (fun _ => true) = xs from List.filter_eq_self.mpr fun _ _ => rfl, hgg] at h
  exact ⟨_, ps_setLc (own := own) (i := i) hc hN hy hyl hsw i1 (blkOk_by ok) (fun s H C cl fp => g1 ⟨s, H, C, cl, fp⟩) (fun s H C cl fp => t1 ⟨s, H, C, cl, fp⟩) (fun s H C cl fp => e1 ⟨s, H, C, cl, fp⟩) hs,
    fun F H σ ⟨fp, E⟩ D q => th _ h F H σ fp E _ fun v F' H' l E' e1 _ r hl => q _ F' H' (E.setN E' hil r hl) e1⟩
end
end Fw
namespace Fw
open PySem L2 Py PyProof.Rows
section
variable {X : Cx} {c : Cw} {Γ Γ' : List Slot} {τ υ ζ : Type} [Py τ] [Py υ] [Py ζ] {a b d e : Expr} {es : List Expr} {x : τ} {y : υ} {z : ζ} {pos : Pos}
/-- the same thing, told as another kind -/
theorem XE.coe (h : XE X c Γ e x) (k : ∀ F v, rep X.K F v x → rep X.K F v y) : XE X c Γ e y := by
  obtain ⟨t, h1, h2⟩ := h
  exact ⟨t, h1, fun F H σ fp E Q q => h2 F H σ fp E Q fun v F' H' E' e1 e2 r => q v F' H' E' e1 e2 (k _ _ r)⟩
/-! ### chains -/
variable {i j k : Int} {p q : Int → Int → Bool} {o1 o2 : CmpOp}
theorem xe_chain (ho : OpR X (compareOp o1) (rI0 fun i j => .bl (p i j))) (ho' : OpR X (compareOp o2) (rI0 fun i j => .bl (q i j))) (ha : XE X c Γ a i) (hb : XE X c Γ b j) (hc : p i j = true → XE X c Γ d k)
    (hm : lastMarks [o1, o2] [b, d] = false := by with_unfolding_all rfl) : XE X c Γ (.Compare a [o1, o2] [b, d] pos) (p i j && q j k) := by
  obtain ⟨ta, a1, a2⟩ := ha
  obtain ⟨tb, b1, b2⟩ := hb
  cases hp : p i j with
  | true =>
    obtain ⟨tc, c1, c2⟩ := hc hp
    refine ⟨_, pe_chain ho ho' a1 b1 c1 hm, fun F H σ fp E Q k => ?_⟩
    refine a2 F H σ fp E _ fun u F1 H1 E1 e1 g1 r1 => b2 F1 H1 σ fp E1 _ fun v F2 H2 E2 e2 g2 r2 => ⟨i, j, r1, r2, true, by dsimp only; rw [hp], ?_⟩
    rw [if_pos rfl]
    refine c2 F2 H2 σ fp E2 _ fun w F3 H3 E3 e3 g3 r3 => ⟨j, _, r2, r3, ?_⟩
    exact k _ F3 H3 E3 ((e1.trans e2).trans e3) ((g1.trans g2).trans g3) rfl
  | false =>
    refine ⟨_, pe_chain (tc := fun _ _ _ => False) ho ho' a1 b1 ⟨fun _ _ _ _ _ _ (h : False) => h.elim⟩ hm, fun F H σ fp E Q k => ?_⟩
    refine a2 F H σ fp E _ fun u F1 H1 E1 e1 g1 r1 => b2 F1 H1 σ fp E1 _ fun v F2 H2 E2 e2 g2 r2 => ⟨i, j, r1, r2, false, by dsimp only; rw [hp], ?_⟩
    rw [if_neg Bool.false_ne_true]
    exact k _ F2 H2 E2 (e1.trans e2) (g1.trans g2) rfl
theorem xt_chain (ho : OpR X (compareOp o1) (rI0 fun i j => .bl (p i j))) (ho' : OpR X (compareOp o2) (rI0 fun i j => .bl (q i j))) (ha : XE X c Γ a i) (hb : XE X c Γ b j) (hc : p i j = true → XE X c Γ d k)
    (hm : lastMarks [o1, o2] [b, d] = false := by with_unfolding_all rfl) : XT X c Γ (.Compare a [o1, o2] [b, d] pos) (p i j && q j k) := by
  obtain ⟨ta, a1, a2⟩ := ha
  obtain ⟨tb, b1, b2⟩ := hb
  cases hp : p i j with
  | true =>
    obtain ⟨tc, c1, c2⟩ := hc hp
    refine ⟨_, pt_chain ho ho' a1 b1 c1 hm, fun F H σ fp E Q k => ?_⟩
    refine a2 F H σ fp E _ fun u F1 H1 E1 e1 g1 r1 => b2 F1 H1 σ fp E1 _ fun v F2 H2 E2 e2 g2 r2 => ⟨i, j, r1, r2, true, by dsimp only; rw [hp], ?_⟩
    rw [if_pos rfl]
    refine c2 F2 H2 σ fp E2 _ fun w F3 H3 E3 e3 g3 r3 => ⟨j, _, r2, r3, ?_⟩
    exact ⟨_, rfl, k F3 H3 E3 ((e1.trans e2).trans e3) ((g1.trans g2).trans g3)⟩
  | false =>
    refine ⟨_, pt_chain (tc := fun _ _ _ => False) ho ho' a1 b1 ⟨fun _ _ _ _ _ _ (h : False) => h.elim⟩ hm, fun F H σ fp E Q k => ?_⟩
    refine a2 F H σ fp E _ fun u F1 H1 E1 e1 g1 r1 => b2 F1 H1 σ fp E1 _ fun v F2 H2 E2 e2 g2 r2 => ⟨i, j, r1, r2, false, by dsimp only; rw [hp], ?_⟩
    rw [if_neg Bool.false_ne_true]
    exact ⟨_, rfl, k F2 H2 E2 (e1.trans e2) (g1.trans g2)⟩
/-! ### truths by is -/
theorem xc_isB {k l : Bool} (ha : XE X c Γ a k) (hb : XE X c Γ b l) : XC X c Γ .Is a b (decide (k = l)) :=
  xc_of op_is_bl (fun F H u v e h1 h2 Q q => ⟨k, l, h1, h2, q _ F H (Ex.refl _) e (Ex.refl _) (fun _ h => .inl h) rfl⟩) ha hb (nomark _)
theorem xc_isnotB {k l : Bool} (ha : XE X c Γ a k) (hb : XE X c Γ b l) : XC X c Γ .IsNot a b (!decide (k = l)) :=
  xc_of op_isnot_bl (fun F H u v e h1 h2 Q q => ⟨k, l, h1, h2, q _ F H (Ex.refl _) e (Ex.refl _) (fun _ h => .inl h) rfl⟩) ha hb (nomark _)
end

/-! ### things of any kind -/
inductive Dy where
  | non
  | bl (b : Bool)
  | int (i : Int)
  | str (s : Str)
  | lst (l : List Dy)
  | tup (l : List Dy)
  | emp
mutual
def Dy.rep (K : Fg) (F : Hp) : Dy → V → Prop
  | .non, v => v = .non
  | .bl b, v => v = .bl b
  | .int i, v => v = .int i
  | .str s, v => v = .str s
  | .lst l, v => ∃ a vs, v = .ref a ∧ F a = some (.lst vs) ∧ Dy.reps K F l vs
  | .tup l, v => ∃ a vs, v = .ref a ∧ SqT K F a vs ∧ Dy.reps K F l vs
  | .emp, v => ∃ a, v = .ref a ∧ F a = some (.dK [])
def Dy.reps (K : Fg) (F : Hp) : List Dy → List V → Prop
  | [], vs => vs = []
  | d :: r, vs => ∃ u us, vs = u :: us ∧ Dy.rep K F d u ∧ Dy.reps K F r us
end
mutual
theorem Dy.rep_mono {K : Fg} {F F' : Hp} (e : Ex F F') : ∀ (d : Dy) (v : V), Dy.rep K F d v → Dy.rep K F' d v
  | .non, v, h => by unfold Dy.rep at *; exact h
  | .bl b, v, h => by unfold Dy.rep at *; exact h
  | .int b, v, h => by unfold Dy.rep at *; exact h
  | .str b, v, h => by unfold Dy.rep at *; exact h
  | .lst l, v, h => by
    unfold Dy.rep at *
    obtain ⟨a, vs, h1, h2, h3⟩ := h
    exact ⟨a, vs, h1, e _ _ h2, Dy.reps_mono e l vs h3⟩
  | .tup l, v, h => by
    unfold Dy.rep at *
    obtain ⟨a, vs, h1, h2, h3⟩ := h
    exact ⟨a, vs, h1, e.t h2, Dy.reps_mono e l vs h3⟩
  | .emp, v, h => by
    unfold Dy.rep at *
    obtain ⟨a, h1, h2⟩ := h
    exact ⟨a, h1, e _ _ h2⟩
theorem Dy.reps_mono {K : Fg} {F F' : Hp} (e : Ex F F') : ∀ (l : List Dy) (vs : List V), Dy.reps K F l vs → Dy.reps K F' l vs
  | [], vs, h => by unfold Dy.reps at *; exact h
  | d :: r, vs, h => by
    unfold Dy.reps at *
    obtain ⟨u, us, h1, h2, h3⟩ := h
    exact ⟨u, us, h1, Dy.rep_mono e d u h2, Dy.reps_mono e r us h3⟩
end
instance : Py Dy := ⟨fun K F v d => Dy.rep K F d v, fun e h => Dy.rep_mono e _ _ h⟩
instance : Inhabited Dy := ⟨.non⟩
theorem Dy.reps_iff {K : Fg} {F : Hp} : ∀ {l : List Dy} {vs : List V}, Dy.reps K F l vs ↔ Reps K F vs l
  | [], vs => by
    unfold Dy.reps
    exact ⟨fun h => by subst h; exact .nil, fun h => by cases h; rfl⟩
  | d :: r, vs => by
    unfold Dy.reps
    constructor
    · rintro ⟨u, us, rfl, h1, h2⟩
      exact .cons h1 (Dy.reps_iff.mp h2)
    · intro h
      cases h with
      | cons h1 h2 => exact ⟨_, _, rfl, h1, Dy.reps_iff.mpr h2⟩
/-- things that are told as any kind -/
class ToDy (τ : Type) [Py τ] where
  dy : τ → Dy
  ok : ∀ {K : Fg} {F : Hp} {v : V} {x : τ}, rep K F v x → Dy.rep K F (dy x) v
instance : ToDy Int := ⟨.int, fun h => by unfold Dy.rep; exact h⟩
instance : ToDy Bool := ⟨.bl, fun h => by unfold Dy.rep; exact h⟩
instance : ToDy Str := ⟨.str, fun h => by unfold Dy.rep; exact h⟩
instance : ToDy Unit := ⟨fun _ => .non, fun h => by unfold Dy.rep; exact h⟩
instance : ToDy Dy := ⟨fun x => x, fun h => h⟩
theorem ToDy.reps {τ : Type} [Py τ] [ToDy τ] {K : Fg} {F : Hp} : ∀ {vs : List V} {xs : List τ}, Reps K F vs xs → Dy.reps K F (xs.map ToDy.dy) vs
  | _, _, .nil => by simp [Dy.reps]
  | _, _, .cons h t => by
    simp only [List.map_cons, Dy.reps]
    exact ⟨_, _, rfl, ToDy.ok h, ToDy.reps t⟩
instance {τ : Type} [Py τ] [ToDy τ] : ToDy (List τ) := ⟨fun xs => .lst (xs.map ToDy.dy), fun ⟨a, vs, h1, h2, h3⟩ => by unfold Dy.rep; exact ⟨a, vs, h1, h2, ToDy.reps h3⟩⟩
instance {τ : Type} [Py τ] [ToDy τ] : ToDy (Tup τ) := ⟨fun xs => .tup (xs.l.map ToDy.dy), fun ⟨a, vs, h1, h2, h3⟩ => by unfold Dy.rep; exact ⟨a, vs, h1, h2, ToDy.reps h3⟩⟩
instance {α β : Type} [Py α] [Py β] [ToDy α] [ToDy β] : ToDy (α × β) := ⟨fun x => .tup [ToDy.dy x.1, ToDy.dy x.2], fun ⟨p, a, b, h1, h2, h3, h4⟩ => by
  unfold Dy.rep
  refine ⟨p, [a, b], h1, h2, ?_⟩
  unfold Dy.reps Dy.reps Dy.reps
  exact ⟨a, [b], rfl, ToDy.ok h3, b, [], rfl, ToDy.ok h4, rfl⟩⟩
/-! ### isinstance of built-in kinds -/
/-- of such a thing the kind's name -/
class PyTy (τ : Type) [Py τ] where
  ty : τ → String
  ok : ∀ {K : Fg} {F : Hp} {v : V} {x : τ}, rep K F v x → TyX K F v (.type (ty x))
theorem tyx_mono {K : Fg} {F H : Hp} {v : V} {n : String} (e : Ex F H) (h : TyX K F v (.type n)) : TyX K H v (.type n) := by
  generalize hn : Value.type n = t at h ⊢
  cases h with
  | base b =>
    refine .base ?_
    cases b with
    | non => exact .non
    | bl x => exact .bl x
    | int x => exact .int x
    | str x => exact .str x
    | flt x => exact .flt x
    | lst h => exact .lst (e _ _ h)
    | frz h => exact .frz (e _ _ h)
    | tup h => exact .tup (e _ _ h)
    | dK h => exact .dK (e _ _ h)
    | dT h => exact .dT (e _ _ h)
    | ins h1 h2 h3 h4 h5 h6 => cases hn
  | byt x => exact .byt x
  | set h => exact .set (e _ _ h)
  | kList h1 h2 => exact .kList h1 h2
  | kTuple h1 h2 => exact .kTuple h1 h2
  | kDict h1 h2 => exact .kDict h1 h2
  | fTuple h => exact .fTuple (e _ _ h)
  | fDict h => exact .fDict (e _ _ h)
theorem tyx_tup {K : Fg} {H : Hp} {a : Addr} {xs : List V} (h : SqT K H a xs) : TyX K H (.ref a) (.type "tuple") := by
  rcases h with (h | ⟨o, h⟩) | ⟨o, its, n, h1, h2, _⟩
  · exact .base (.tup h)
  · exact .fTuple h
  · exact .kTuple h1 h2
instance : PyTy Int := ⟨fun _ => "int", fun h => by cases (show _ = _ from h); exact .base (.int _)⟩
instance : PyTy Bool := ⟨fun _ => "bool", fun h => by cases (show _ = _ from h); exact .base (.bl _)⟩
instance : PyTy Str := ⟨fun _ => "str", fun h => by cases (show _ = _ from h); exact .base (.str _)⟩
instance : PyTy Unit := ⟨fun _ => "NoneType", fun h => by cases (show _ = _ from h); exact .base .non⟩
instance {τ : Type} [Py τ] : PyTy (List τ) := ⟨fun _ => "list", fun ⟨a, vs, h1, h2, _⟩ => by subst h1; exact .base (.lst h2)⟩
instance {τ : Type} [Py τ] : PyTy (Tup τ) := ⟨fun _ => "tuple", fun ⟨a, vs, h1, h2, _⟩ => by subst h1; exact tyx_tup h2⟩
instance {α β : Type} [Py α] [Py β] : PyTy (α × β) := ⟨fun _ => "tuple", fun ⟨p, a, b, h1, h2, _⟩ => by subst h1; exact tyx_tup h2⟩
instance {α β γ : Type} [Py α] [Py β] [Py γ] : PyTy (T3 α β γ) := ⟨fun _ => "tuple", fun ⟨p, a, b, c, h1, h2, _⟩ => by subst h1; exact tyx_tup h2⟩
instance {α β γ δ : Type} [Py α] [Py β] [Py γ] [Py δ] : PyTy (T4 α β γ δ) := ⟨fun _ => "tuple", fun ⟨p, a, b, c, d, h1, h2, _⟩ => by subst h1; exact tyx_tup h2⟩
instance {α β γ δ ε : Type} [Py α] [Py β] [Py γ] [Py δ] [Py ε] : PyTy (T5 α β γ δ ε) := ⟨fun _ => "tuple", fun ⟨p, a, b, c, d, e, h1, h2, _⟩ => by subst h1; exact tyx_tup h2⟩
instance {τ : Type} [Py τ] [PyTy τ] : PyTy (Option τ) := ⟨fun x => match x with | none => "NoneType" | some y => PyTy.ty y, fun {K F v x} h => by
  cases x with
  | none => cases (show _ = _ from h); exact .base .non
  | some y => exact PyTy.ok (τ := τ) h⟩
def Dy.ty : Dy → String
  | .non => "NoneType"
  | .bl _ => "bool"
  | .int _ => "int"
  | .str _ => "str"
  | .lst _ => "list"
  | .tup _ => "tuple"
  | .emp => "dict"
instance : PyTy Dy := ⟨Dy.ty, fun {K F v x} h => by
  change Dy.rep K F x v at h
  cases x with
  | non => unfold Dy.rep at h; subst h; exact .base .non
  | bl b => unfold Dy.rep at h; subst h; exact .base (.bl _)
  | int b => unfold Dy.rep at h; subst h; exact .base (.int _)
  | str b => unfold Dy.rep at h; subst h; exact .base (.str _)
  | lst l => unfold Dy.rep at h; obtain ⟨a, vs, rfl, h2, _⟩ := h; exact .base (.lst h2)
  | tup l => unfold Dy.rep at h; obtain ⟨a, vs, rfl, h2, _⟩ := h; exact tyx_tup h2
  | emp => unfold Dy.rep at h; obtain ⟨a, rfl, h2⟩ := h; exact .base (.dK h2)⟩
/-- the kinds that are asked for, of the kinds that stand here -/
def kd (a b : String) : Bool := a == b || (a == "bool" && b == "int")
theorem kd_ok {K : Fg} {a b : String} (ha : a = "NoneType" ∨ a = "bool" ∨ a = "int" ∨ a = "str" ∨ a = "list" ∨ a = "tuple" ∨ a = "dict") (hb : b = "bool" ∨ b = "int" ∨ b = "str" ∨ b = "list" ∨ b = "tuple" ∨ b = "dict") : PySem.W.kitOne K (.type a) (.type b) = some (kd a b) := by
  apply kit_ty
  rcases ha with rfl | rfl | rfl | rfl | rfl | rfl | rfl <;> rcases hb with rfl | rfl | rfl | rfl | rfl | rfl <;> decide +kernel
section
variable {X : Cx} {c : Cw} {Γ Γ' : List Slot} {τ υ ζ : Type} [Py τ] [Py υ] [Py ζ] {a b d e : Expr} {es : List Expr} {x : τ} {y : υ} {z : ζ} {pos : Pos}
theorem xe_isi [PyTy τ] {n : Str} {t : String} {p p2 : Pos} (hm : X.mg "isinstance" = none) (hmt : X.mg n = none) (ha : XE X c Γ a x) (hx : PyTy.ty x = "NoneType" ∨ PyTy.ty x = "bool" ∨ PyTy.ty x = "int" ∨ PyTy.ty x = "str" ∨ PyTy.ty x = "list" ∨ PyTy.ty x = "tuple" ∨ PyTy.ty x = "dict")
    (hb : t = "bool" ∨ t = "int" ∨ t = "str" ∨ t = "list" ∨ t = "tuple" ∨ t = "dict") (hv : bootBuiltins n = some (.type t) := by decide +kernel) (hg : Gl X "isinstance" := by rfl) (hgt : Gl X n := by rfl) (hn : n ≠ "__name__" := by decide) (hdb : (n == ("__debug__" : Str)) = false := by decide)
    (hs : starEach [a, .Name n p2] X.env = (false, eval a X.env) :: starEach [.Name n p2] X.env := by rfl) (hs2 : starEach [.Name n p2] X.env = [(false, eval (.Name n p2) X.env)] := by rfl) (hbk : ((backTo pos (starEach [.Name n p2] X.env)).any fun x => x.fst) = false := by rfl) :
    XE X c Γ (.Call (.Name "isinstance" p) [a, .Name n p2] [] pos) (kd (PyTy.ty x) t) := by
  obtain ⟨ta, h1, h2⟩ := ha
  refine ⟨_, pe_callB call_isi hg hm (by decide +kernel) (pa_cons h1 (pa_cons (pe_bltn (v := .ty t) hgt hmt hv rfl hn hdb) pa_nil hs2) hs) (by decide) (by decide) hs hbk, fun F H σ fp E Q q => h2 F H σ fp E _ fun v F' H' E' e1 e2 r => ?_⟩
  exact ⟨v, .ty t, .type (PyTy.ty x), .type t, kd (PyTy.ty x) t, rfl, .ty t, tyx_mono E'.wd.fh (PyTy.ok r), kd_ok hx hb, q _ F' H' E' e1 e2 rfl⟩
theorem dy_ty (x : Dy) : x.ty = "NoneType" ∨ x.ty = "bool" ∨ x.ty = "int" ∨ x.ty = "str" ∨ x.ty = "list" ∨ x.ty = "tuple" ∨ x.ty = "dict" := by cases x <;> simp [Dy.ty]
theorem xe_dy [ToDy τ] (h : XE X c Γ e x) : XE X c Γ e (ToDy.dy x) := h.coe fun F v r => ToDy.ok r
theorem xe_dylst {xs : List Dy} (h : XE X c Γ e xs) : XE X c Γ e (Dy.lst xs) := h.coe fun F v ⟨a, vs, h1, h2, h3⟩ => by
  show Dy.rep X.K F (Dy.lst xs) v
  unfold Dy.rep; exact ⟨a, vs, h1, h2, Dy.reps_iff.mpr h3⟩
theorem xe_dytup {xs : Tup Dy} (h : XE X c Γ e xs) : XE X c Γ e (Dy.tup xs.l) := h.coe fun F v ⟨a, vs, h1, h2, h3⟩ => by
  show Dy.rep X.K F (Dy.tup xs.l) v
  unfold Dy.rep; exact ⟨a, vs, h1, h2, Dy.reps_iff.mpr h3⟩
theorem xe_emp : XE X c Γ (.Dict [] [] pos) Dy.emp := by
  refine ⟨_, pe_dnewK, fun F H σ fp E Q q => ?_⟩
  intro p hp
  refine q _ _ _ (E.lay hp) (Ex.new (E.ff hp)) (Nw.lay hp) ?_
  show Dy.rep X.K _ Dy.emp _
  unfold Dy.rep
  exact ⟨p, rfl, upd_same⟩
end
end Fw
namespace Fw
open PySem L2 Py PyProof.Rows
section
variable {X : Cx} {c : Cw} {Γ Γ' : List Slot} {τ υ ζ : Type} [Py τ] [Py υ] [Py ζ] {a b d e : Expr} {es : List Expr} {x : τ} {y : υ} {z : ζ} {pos : Pos}
theorem xe_ixl [Inhabited τ] {i : Int} {s : List τ} (ha : XE X c Γ a s) (hb : XE X c Γ b i) (h : InB s i) (hs : PlainIx b := by exact fun _ _ => rfl) : XE X c Γ (.Subscript a b pos) (ix s i) := xe_ix ha hb h hs
theorem xe_ixr [Inhabited τ] {i : Int} {s : Scr τ} (ha : XE X c Γ a s) (hb : XE X c Γ b i) (h : InB s.l i) (hs : PlainIx b := by exact fun _ _ => rfl) : XE X c Γ (.Subscript a b pos) (ix s.l i) := xe_ix ha hb h hs
theorem le100 {n : Nat} (h : Nat.ble n 100000 = true) : n ≤ 100000 := Nat.le_of_ble_eq_true h
theorem xe_lenl {s : List τ} {p : Pos} (hm : X.mg "len" = none) (ha : XE X c Γ a s) (hg : Gl X "len" := by rfl) (hs : starEach [a] X.env = [(false, eval a X.env)] := by rfl) : XE X c Γ (.Call (.Name "len" p) [a] [] pos) ((s.length : Nat) : Int) := xe_len hm ha hg hs
theorem xe_lenr {s : Scr τ} {p : Pos} (hm : X.mg "len" = none) (ha : XE X c Γ a s) (hg : Gl X "len" := by rfl) (hs : starEach [a] X.env = [(false, eval a X.env)] := by rfl) : XE X c Γ (.Call (.Name "len" p) [a] [] pos) ((s.l.length : Nat) : Int) := xe_len hm ha hg hs
theorem xe_lent {s : Tup τ} {p : Pos} (hm : X.mg "len" = none) (ha : XE X c Γ a s) (hg : Gl X "len" := by rfl) (hs : starEach [a] X.env = [(false, eval a X.env)] := by rfl) : XE X c Γ (.Call (.Name "len" p) [a] [] pos) ((s.l.length : Nat) : Int) := xe_len hm ha hg hs
theorem xe_adds {s t : Str} (ha : XE X c Γ a s) (hb : XE X c Γ b t) (h : s.length + t.length ≤ sizeLine) : XE X c Γ (.BinOp a .Add b pos) (s ++ t) :=
  xe_op op_add_str (fun F H u v e h1 h2 Q q => ⟨s, t, h1, h2, h, q _ F H (Ex.refl _) e (Ex.refl _) (fun _ h => .inl h) rfl⟩) ha hb
theorem xe_sliceS {lo hi : Option Expr} {i j : Option Int} {s : Str} {p2} (ha : XE X c Γ a s) (h1 : XP X c Γ lo i) (h2 : XP X c Γ hi j) (hl : s.length ≤ sizeLine) : XE X c Γ (.Subscript a (.Slice lo hi none p2) pos) (cutS s i j) := by
  obtain ⟨t, a1, a2⟩ := ha
  obtain ⟨u, b1, b2⟩ := h1
  obtain ⟨w, c1, c2⟩ := h2
  refine ⟨_, pe_slice sl_str a1 b1 c1, fun F H σ fp E Q q => a2 F H σ fp E _ fun v F1 H1 E1 e1 g1 r1 => b2 F1 H1 σ fp E1 _ fun F2 H2 E2 e2 g2 => c2 F2 H2 σ fp E2 _ fun F3 H3 E3 e3 g3 => ?_⟩
  exact ⟨s, r1, hl, q _ _ _ E3 ((e1.trans e2).trans e3) ((g1.trans g2).trans g3) rfl⟩
theorem xc_inSq {υ : Type} [Py υ] [PyS υ τ] [DecidableEq τ] {s : υ} (hf : ∀ {F : Hp} {u v : V} {x y : τ}, rep X.K F u x → rep X.K F v y → flatV u = true ∧ eqV v u = decide (y = x)) (ha : XE X c Γ a x) (hb : XE X c Γ b s) (hm : behindInMarks .In b = false) :
    XC X c Γ .In a b (decide (x ∈ PyS.li s)) :=
  xc_of op_in_seq (fun F H u v e h1 h2 Q q => by
    obtain ⟨p, vs, rfl, r1, r2⟩ := PyS.sq h2
    have key : vs.all flatV = true ∧ inV u vs = decide (x ∈ PyS.li s) := by
      generalize PyS.li s = xs at r2 ⊢
      clear r1 h2
      induction r2 with
      | nil => exact ⟨rfl, rfl⟩
      | cons r t ih =>
        refine ⟨by rw [List.all_cons, (hf r r).1, ih.1]; rfl, ?_⟩
        unfold inV at ih ⊢
        rw [List.any_cons, ih.2, (hf h1 r).2]
        simp only [List.mem_cons]
        rw [Bool.decide_or]
        congr 1
        exact decide_eq_decide.mpr ⟨Eq.symm, Eq.symm⟩
    refine ⟨p, vs, rfl, r1.imp e.l e.t, (hf h1 h1).1, key.1, ?_⟩
    rw [if_neg Bool.false_ne_true, key.2]
    exact q _ F H (Ex.refl _) e (Ex.refl _) (fun _ h => .inl h) rfl) ha hb hm
theorem xc_ninSq {υ : Type} [Py υ] [PyS υ τ] [DecidableEq τ] {s : υ} (hf : ∀ {F : Hp} {u v : V} {x y : τ}, rep X.K F u x → rep X.K F v y → flatV u = true ∧ eqV v u = decide (y = x)) (ha : XE X c Γ a x) (hb : XE X c Γ b s) (hm : behindInMarks .NotIn b = false) :
    XC X c Γ .NotIn a b (!decide (x ∈ PyS.li s)) :=
  xc_of op_notIn_seq (fun F H u v e h1 h2 Q q => by
    obtain ⟨p, vs, rfl, r1, r2⟩ := PyS.sq h2
    have key : vs.all flatV = true ∧ inV u vs = decide (x ∈ PyS.li s) := by
      generalize PyS.li s = xs at r2 ⊢
      clear r1 h2
      induction r2 with
      | nil => exact ⟨rfl, rfl⟩
      | cons r t ih =>
        refine ⟨by rw [List.all_cons, (hf r r).1, ih.1]; rfl, ?_⟩
        unfold inV at ih ⊢
        rw [List.any_cons, ih.2, (hf h1 r).2]
        simp only [List.mem_cons]
        rw [Bool.decide_or]
        congr 1
        exact decide_eq_decide.mpr ⟨Eq.symm, Eq.symm⟩
    refine ⟨p, vs, rfl, r1.imp e.l e.t, (hf h1 h1).1, key.1, ?_⟩
    rw [if_pos rfl, key.2]
    exact q _ F H (Ex.refl _) e (Ex.refl _) (fun _ h => .inl h) rfl) ha hb hm
/-- flat kinds: compared item by item -/
class PyFl (τ : Type) [Py τ] where
  dec : DecidableEq τ
  fl : ∀ {K : Fg} {F : Hp} {u v : V} {x y : τ}, rep K F u x → rep K F v y → flatV u = true ∧ eqV v u = decide (y = x)
instance : PyFl Int := ⟨inferInstance, fun {K F u v x y} h1 h2 => by
  cases (show _ = _ from h1); cases (show _ = _ from h2)
  exact ⟨rfl, by show (y == x) = _; by_cases h : y = x <;> simp [h]⟩⟩
instance : PyFl Str := ⟨inferInstance, fun {K F u v x y} h1 h2 => by
  cases (show _ = _ from h1); cases (show _ = _ from h2)
  exact ⟨rfl, by show (y == x) = _; by_cases h : y = x <;> simp [h]⟩⟩
instance : PyFl (Option Int) := ⟨inferInstance, fun {K F u v x y} h1 h2 => by
  cases x with
  | none =>
    cases (show _ = _ from h1)
    cases y with
    | none => cases (show _ = _ from h2); exact ⟨rfl, rfl⟩
    | some j => cases (show _ = _ from h2); exact ⟨rfl, rfl⟩
  | some i =>
    cases (show _ = _ from h1)
    cases y with
    | none => cases (show _ = _ from h2); exact ⟨rfl, rfl⟩
    | some j => cases (show _ = _ from h2); exact ⟨rfl, by show (j == i) = _; by_cases h : j = i <;> simp [h]⟩⟩
theorem xc_inT [PyFl τ] {xs : List τ} {k : Nat} {tp : Pos} (ha : XE X c Γ a x) (hb : XL X c Γ es xs) (hl : xs.length ≤ 100000) (hm : behindInMarks .In (.Tuple es k tp) = false := by rfl) : XC X c Γ .In a (.Tuple es k tp) (@decide (x ∈ xs) (@List.instDecidableMemOfLawfulBEq τ (@instBEqOfDecidableEq τ PyFl.dec) _ x xs)) := by
  have := @xc_inSq X c Γ τ _ a (.Tuple es k tp) x (Tup τ) _ _ PyFl.dec ⟨xs⟩ (fun h1 h2 => by have := PyFl.fl h1 h2; refine ⟨this.1, this.2.trans ?_⟩; congr) ha (xe_tupL hb hl) hm
  exact this
theorem inT_dec [PyFl τ] [i : DecidableEq τ] {xs : List τ} : (@decide (x ∈ xs) (@List.instDecidableMemOfLawfulBEq τ (@instBEqOfDecidableEq τ PyFl.dec) _ x xs)) = decide (x ∈ xs) := by congr
/-- a text within a text -/
def inS (s t : Str) : Bool := !(Builtin.Str.occurrences t s 0 t.length 1).isEmpty
theorem xc_inS {s t : Str} (ha : XE X c Γ a s) (hb : XE X c Γ b t) (hm : behindInMarks .In b = false := by rfl) : XC X c Γ .In a b (inS s t) :=
  xc_of op_in_str (fun F H u v e h1 h2 Q q => ⟨s, t, h1, h2, q _ F H (Ex.refl _) e (Ex.refl _) (fun _ h => .inl h) rfl⟩) ha hb hm
theorem xc_ninS {s t : Str} (ha : XE X c Γ a s) (hb : XE X c Γ b t) (hm : behindInMarks .NotIn b = false := by rfl) : XC X c Γ .NotIn a b (!inS s t) :=
  xc_of op_notin_str (fun F H u v e h1 h2 Q q => ⟨s, t, h1, h2, q _ F H (Ex.refl _) e (Ex.refl _) (fun _ h => .inl h) rfl⟩) ha hb hm
/-! ### walked: texts, enumerate, zip -/
def signsL (s : Str) : List Str := s.cps.toList.map fun c => ⟨#[c]⟩
theorem xi_str {it tg : Expr} {s : Str} (h : XE X c Γ it s) : XI X c Γ tg it (signsL s) := by
  obtain ⟨t, h1, h2⟩ := h
  refine ⟨_, pi_str h1, fun F H σ fp E R q => h2 F H σ fp E _ fun v F' H' E' e1 e2 r => ⟨s, r, q _ F' H' E' e1 e2 ⟨_, _, (by
    have : (signsL s).length = s.cps.size := by simp [signsL]
    rw [this]; exact walk_str), fun _ _ _ _ => trivial, fun i F1 H1 v H2 y x1 x2 hy hx => ?_⟩⟩⟩
  obtain ⟨rfl, cc, h3, rfl⟩ := hy
  refine ⟨F1, Ex.refl _, x2, Ex.refl _, fun b h => .inl h, ?_⟩
  unfold signsL at hx
  rw [List.getElem?_map, Array.getElem?_toList, h3] at hx
  cases hx
  rfl
def enumL {τ : Type} (xs : List τ) : List (Int × τ) := List.zipWith (fun (i : Nat) x => ((i : Int), x)) (List.range xs.length) xs
theorem enumL_get {τ : Type} {xs : List τ} {i : Nat} {y : Int × τ} (h : (enumL xs)[i]? = some y) : y.1 = i ∧ xs[i]? = some y.2 := by
  unfold enumL at h
  rw [List.getElem?_zipWith] at h
  by_cases hi : i < xs.length
  · rw [List.getElem?_range hi] at h
    simp only [List.getElem?_eq_getElem hi] at h ⊢
    have := Option.some.inj h
    rw [← this]
    exact ⟨rfl, rfl⟩
  · rw [List.getElem?_eq_none (by simp; omega)] at h
    cases h
theorem enumL_len {τ : Type} {xs : List τ} : (enumL xs).length = xs.length := by simp [enumL]
theorem pair_new {K : Fg} {F1 H1 H2 : Hp} {T : Addr} {u w : V} {α β : Type} [Py α] [Py β] {p : α × β} (x2 : Ex F1 H1) (hT : H1 T = none) (h2 : H2 = upd H1 T (.tup [u, w])) (r1 : rep K F1 u p.1) (r2 : rep K F1 w p.2) :
    ∃ F2, Ex F1 F2 ∧ Ex F2 H2 ∧ Ex H1 H2 ∧ (∀ b, F2 b ≠ none → F1 b ≠ none ∨ H1 b = none) ∧ rep K F2 (.ref T) p := by
  subst h2
  have hf : F1 T = none := by
    cases q : F1 T with
    | none => rfl
    | some o => rw [x2 _ _ q] at hT; cases hT
  refine ⟨upd F1 T (.tup [u, w]), Ex.new hf, fun z o hz => ?_, Ex.new hT, (Nw.lay hT).n, T, u, w, rfl, st_of upd_same, Py.mono (Ex.new hf) r1, Py.mono (Ex.new hf) r2⟩
  by_cases hzl : z = T
  · subst hzl; rw [upd_same] at hz ⊢; exact hz
  · rw [upd_ne hzl] at hz ⊢; exact x2 _ _ hz
theorem xi_enum {a : Expr} {p tpos : Pos} {elts : List Expr} {kk : Nat} {α : Type} [Py α] [PyL α υ] {xs : α} (hm : X.mg "enumerate" = none) (h : XE X c Γ a xs) (hg : Gl X "enumerate" := by rfl) (hs : starEach [a] X.env = [(false, eval a X.env)] := by rfl) :
    XI X c Γ (.Tuple elts kk tpos) (.Call (.Name "enumerate" p) [a] [] pos) (enumL (PyL.li xs)) := by
  obtain ⟨t, h1, h2⟩ := h
  refine ⟨_, pi_enum hg hm (pa_cons h1 pa_nil hs) hs, fun F H σ fp E R q => h2 F H σ fp E _ fun v F' H' E' e1 e2 r => ?_⟩
  obtain ⟨ad, vs, rfl, r1, r2⟩ := PyL.sq r
  refine ⟨ad, vs, rfl, E'.wd.fh.l r1, q _ F' H' E' e1 e2 ⟨fun H => SqL X.K H ad vs, _, by rw [enumL_len, ← r2.length]; exact walk_enum, fun F1 H1 x1 x2 => (x1.trans x2).l r1, fun i F1 H1 v H2 y x1 x2 hy hx => ?_⟩⟩
  obtain ⟨T, u, w, rfl, hT, hH, e3, e4⟩ := hy
  obtain ⟨y1, y2⟩ := enumL_get hx
  cases e3
  obtain ⟨y', hy', r3⟩ := Reps.get (i := i) r2 e4
  rw [y2] at hy'
  cases hy'
  exact pair_new x2 hT hH (show V.int _ = V.int _ by rw [y1]) (Py.mono x1 r3)
theorem xi_zip {a b : Expr} {p tpos : Pos} {elts : List Expr} {kk : Nat} {α β : Type} [Py α] [Py β] [PyL α τ] [PyL β υ] {xs : α} {ys : β} (hm : X.mg "zip" = none) (ha : XE X c Γ a xs) (hb : XE X c Γ b ys) (hg : Gl X "zip" := by rfl)
    (hs : starEach [a, b] X.env = (false, eval a X.env) :: starEach [b] X.env := by rfl) (hs2 : starEach [b] X.env = [(false, eval b X.env)] := by rfl) (hpl : (backTo pos (starEach [b] X.env)).any (·.1) = false := by rfl) :
    XI X c Γ (.Tuple elts kk tpos) (.Call (.Name "zip" p) [a, b] [] pos) ((PyL.li xs).zip (PyL.li ys)) := by
  obtain ⟨t, h1, h2⟩ := ha
  obtain ⟨u, h3, h4⟩ := hb
  refine ⟨_, pi_zip hg hm (pa_cons h1 (pa_cons h3 pa_nil hs2) hs) hs hpl, fun F H σ fp E R q => h2 F H σ fp E _ fun v F' H' E' e1 e2 r => h4 F' H' σ fp E' _ fun v2 F2 H2 E2 e3 e4 r2 => ?_⟩
  obtain ⟨ad, vs, rfl, r1, r1'⟩ := PyL.sq (Py.mono e3 r)
  obtain ⟨bd, ws, rfl, s1, s1'⟩ := PyL.sq r2
  refine ⟨ad, bd, vs, ws, rfl, E2.wd.fh.l r1, E2.wd.fh.l s1, q _ F2 H2 E2 (e1.trans e3) (e2.trans e4) ⟨_, _, walk_zip (xs := vs) (ys := ws) (by rw [List.length_zip, r1'.length, s1'.length]), fun F1 H1 x1 x2 => ⟨(x1.trans x2).l r1, (x1.trans x2).l s1⟩, fun i F1 H1 v H2 y x1 x2 hy hx => ?_⟩⟩
  obtain ⟨T, u, w, rfl, hT, hH, e5, e6⟩ := hy
  rw [List.getElem?_zip_eq_some] at hx
  obtain ⟨y', hy', r3⟩ := Reps.get (i := i) r1' e5
  obtain ⟨y2, hy2, r4⟩ := Reps.get (i := i) s1' e6
  rw [hx.1] at hy'; cases hy'
  rw [hx.2] at hy2; cases hy2
  exact pair_new x2 hT hH (Py.mono x1 r3) (Py.mono x1 r4)
theorem bls_of {K : Fg} {F : Hp} : ∀ {vs : List V} {xs : List Bool}, Reps K F vs xs → vs = xs.map V.bl
  | _, _, .nil => rfl
  | _, _, .cons h t => by rw [List.map_cons, ← bls_of t]; exact congrArg (· :: _) h
theorem int_of {K : Fg} {F : Hp} : ∀ {vs : List V} {xs : List Int}, Reps K F vs xs → vs = xs.map V.int
  | _, _, .nil => rfl
  | _, _, .cons h t => by rw [List.map_cons, ← int_of t]; exact congrArg (· :: _) h
theorem str_of {K : Fg} {F : Hp} : ∀ {vs : List V} {xs : List Str}, Reps K F vs xs → vs = xs.map V.str
  | _, _, .nil => rfl
  | _, _, .cons h t => by rw [List.map_cons, ← str_of t]; exact congrArg (· :: _) h
theorem xe_all {xs : List Bool} {p : Pos} (hm : X.mg "all" = none) (ha : XE X c Γ a xs) (hc : X.calm = true := by rfl) (hg : Gl X "all" := by rfl) (hs : starEach [a] X.env = [(false, eval a X.env)] := by rfl) : XE X c Γ (.Call (.Name "all" p) [a] [] pos) (xs.all id) :=
  xe_b1 (cr_all hc) (by decide +kernel) (fun F H v e r Q q => by
    obtain ⟨ad, vs, rfl, r1, r2⟩ := r
    exact ⟨ad, xs, rfl, sq_of (by rw [← bls_of r2]; exact e _ _ r1), q⟩) hg hm ha (by decide) (by decide) hs
theorem xe_any {xs : List Bool} {p : Pos} (hm : X.mg "any" = none) (ha : XE X c Γ a xs) (hc : X.calm = true := by rfl) (hg : Gl X "any" := by rfl) (hs : starEach [a] X.env = [(false, eval a X.env)] := by rfl) : XE X c Γ (.Call (.Name "any" p) [a] [] pos) (xs.any id) :=
  xe_b1 (cr_any hc) (by decide +kernel) (fun F H v e r Q q => by
    obtain ⟨ad, vs, rfl, r1, r2⟩ := r
    exact ⟨ad, xs, rfl, sq_of (by rw [← bls_of r2]; exact e _ _ r1), q⟩) hg hm ha (by decide) (by decide) hs
/-! ### a tuple of texts that the module holds -/
structure Gt (K : Fg) (mg : Str → Option Value) (n : Str) (t : Tup Str) : Prop where
  ex : ∃ (ad : Addr) (o : Obj) (its : Array Value) (k : Nat), mg n = some (.ref ad) ∧ K.lookup ad = some o ∧ o.cls = .type "tuple" ∧ o.data = .seq its k ∧ its.size ≤ sizeLine ∧ Vals (t.l.map V.str) its.toList
theorem xe_gt {n : Str} {t : Tup Str} (h : Gt X.K X.mg n t) (hg : Gl X n := by rfl) (hd : (n == ("__debug__" : Str)) = false := by decide) : XE X c Γ (.Name n pos) t := by
  obtain ⟨ad, o, its, k, h1, h2, h3, h4, h5, h6⟩ := h.ex
  exact xe_glob (v := .ref ad) h1 rfl (fun F => ⟨ad, t.l.map V.str, rfl, .inr ⟨o, its, k, h2, h3, h4, h5, h6⟩, Reps.map (g := V.str) (fun _ => rfl) t.l⟩) hg hd
end
section
variable {X : Cx} {w : Wx} {c : Cw} {Γ Γ' : List Slot} {S S' B υ ζ : Type} [Py υ] [Py ζ] {R : Rc} {G : S → List Slot} {GB : B → List Slot} {pos : Pos} {a b e : Expr}
theorem xs_augA {x y : Int} {n : Str} {p : Pos} (i : Nat) (hN : X.N.Nodup) (he : XE X c Γ e y) (hi : X.N[i]? = some n := by rfl) (h0 : Γ[i]? = some (.fz x) := by rfl) (hx : Loc X.env.scope n := by first | exact .inl rfl | exact .inr rfl)
    (hf : X.fn n = true ∨ X.env.scope.names.lookup n = some .local := by first | exact .inl rfl | exact .inr rfl | assumption) : XS X w c Γ (.AugAssign (.Name n p) .Add e pos) (fun z : Int => Γ.set i (.fz z)) GB (Out.nx (x + y) : Out Int B R.ρ) := by
  obtain ⟨t, h1, h2⟩ := xs_aug (w := w) (GB := GB) (R := R) (pos := pos) (p := p) (z := x + y) i hN he ip_add (fun F H u v e h1 h2 Q q => ⟨x, y, h1, h2, q _ F H (Ex.refl _) e (Ex.refl _) (fun _ h => .inl h) rfl⟩) hi h0 hx hf
  exact ⟨t, h1, fun F H σ E D q => h2 F H σ E D q⟩
theorem xs_augS {x y : Int} {n : Str} {p : Pos} (i : Nat) (hN : X.N.Nodup) (he : XE X c Γ e y) (hi : X.N[i]? = some n := by rfl) (h0 : Γ[i]? = some (.fz x) := by rfl) (hx : Loc X.env.scope n := by first | exact .inl rfl | exact .inr rfl)
    (hf : X.fn n = true ∨ X.env.scope.names.lookup n = some .local := by first | exact .inl rfl | exact .inr rfl | assumption) : XS X w c Γ (.AugAssign (.Name n p) .Sub e pos) (fun z : Int => Γ.set i (.fz z)) GB (Out.nx (x - y) : Out Int B R.ρ) := by
  obtain ⟨t, h1, h2⟩ := xs_aug (w := w) (GB := GB) (R := R) (pos := pos) (p := p) (z := x - y) i hN he ip_sub (fun F H u v e h1 h2 Q q => ⟨x, y, h1, h2, q _ F H (Ex.refl _) e (Ex.refl _) (fun _ h => .inl h) rfl⟩) hi h0 hx hf
  exact ⟨t, h1, fun F H σ E D q => h2 F H σ E D q⟩
/-- a, b = e1, e2 -/
theorem xs_par2 {x : υ} {y : ζ} {n1 n2 : Str} {px py pt pt2 : Pos} {kt k2 : Nat} (i j : Nat) (hN : X.N.Nodup) (ha : XE X c Γ a x) (hb : XE X c Γ b y) (hc : X.calm = true := by rfl) (hi : X.N[i]? = some n1 := by rfl) (hj : X.N[j]? = some n2 := by rfl) (hij : i ≠ j := by decide)
    (hx : X.env.scope.names.lookup n1 = some .local := by rfl) (hy : X.env.scope.names.lookup n2 = some .local := by rfl)
    (hw : swappedStores [.Tuple [.Name n1 px, .Name n2 py] kt pt] (.Tuple [a, b] k2 pt2) X.env = pure (some [n1, n2]) := by rfl)
    (hs : swapsWithSole [.Tuple [.Name n1 px, .Name n2 py] kt pt] (.Tuple [a, b] k2 pt2) pos.line X.env = pure false := by rfl)
    (hs1 : starEach [a, b] X.env = (false, eval a X.env) :: starEach [b] X.env := by rfl) (hs2 : starEach [b] X.env = [(false, eval b X.env)] := by rfl) :
    XS X w c Γ (.Assign [.Tuple [.Name n1 px, .Name n2 py] kt pt] (.Tuple [a, b] k2 pt2) pos) (fun z : υ × ζ => (Γ.set i (.fz z.1)).set j (.fz z.2)) GB (Out.nx (x, y) : Out (υ × ζ) B R.ρ) := by
  obtain ⟨t, h1, h2⟩ := ha
  obtain ⟨u, h3, h4⟩ := hb
  refine ⟨_, ps_par hc hN hi hj hij hx hy (pa_cons h1 (pa_cons h3 pa_nil hs2) hs1) hw hs, fun F H σ ⟨fp, E⟩ D q => h2 F H σ fp E _ fun v F' H' E' e1 e2 r => h4 F' H' σ fp E' _ fun v2 F2 H2 E2 e3 e4 r2 => ⟨v, v2, rfl, ?_⟩⟩
  exact q _ F2 H2 (Env.set (Env.set ⟨fp, E2⟩ (Py.mono e3 r)) r2) (e1.trans e3)
end

/-! ### the end -/
section
theorem df_mk {K : Fg} {h : Heap} {mg : Str → Option Value} {n : Str} {st : Stmt} {f : Addr} {oc : Value} {od an : Option Addr} {osl : Array (Option Value)} {kV doc pm cdv ct : Value} (X : K.In h) (G : h.Ns mainGlobals mg) (a : PySem.W.nsIn K mainGlobals n = some (some (.ref f)))
    (l : K.lookup f = some ⟨oc, od, .func (PySem.W.fnOf n n (defArgs st) (defBody st) (defScope st) .none kV doc pm an cdv ct), osl⟩) (c : PySem.W.codeIn K cdv n = true) (k : PySem.W.keepIn K (.ref f) = true) : Df K mg n st :=
  ⟨f, _, PySem.W.mg_of X G a, fun_mk l c k⟩
theorem ci_mk {K : Fg} {h : Heap} {mg : Str → Option Value} {n : Str} {i : Int} {t : Tok} (X : K.In h) (G : h.Ns mainGlobals mg) (a : PySem.W.nsIn K mainGlobals n = some (some (.int i t))) : ∃ t, mg n = some (.int i t) := ⟨t, PySem.W.mg_of X G a⟩
theorem cs_mk {K : Fg} {h : Heap} {mg : Str → Option Value} {n : Str} {i : Str} {t : Tok} (X : K.In h) (G : h.Ns mainGlobals mg) (a : PySem.W.nsIn K mainGlobals n = some (some (.str i t))) : ∃ t, mg n = some (.str i t) := ⟨t, PySem.W.mg_of X G a⟩
/-- the script -/
structure Pre (s : Scr Int) : Prop where
  len : s.l.length ≤ 63
  bits : ∀ z ∈ s.l, Builtin.Int.intBits z ≤ 1048576
/-- law's promise: True -/
def SpL (K : Fg) (pre : Scr Int → Prop) : Sp := fun vs H Q _ => ∃ F a u, vs = [u] ∧ Ex F H ∧ rep K F u a ∧ pre a ∧ ∀ H', Q (.bl true) H'
abbrev RcL : Rc := ⟨Bool, fun _ _ => True, fun b => .fz b, fun _ => none⟩
section
variable {P : Program} {w : World} {K : Fg} {mg : Str → Option Value} {base : Heap}
theorem fn_law {x : Str} {st : Stmt} {f : Addr} {fd : FuncData} {N : List Str} {k : Nat} {pre : Scr Int → Prop} (Fd : Fun K "law" "law" st f fd) (Sc : FnScope N [x] (defScope st))
    (body : ∀ (f : Addr) (cdv : Value) (A : Around) (outer : List PySem.Env) (s : Shared) (H : Hp) (E : XK) (c : Cw) (a : Scr Int), Room' k A "law" st s f cdv → pre a →
      XF (R := RcL) (cxOf CX0 P w K mg base N "law" (defScope st) f cdv A outer s H E).nox ⟨fun _ _ _ _ => False, List.replicate N.length .no⟩ c (.fz a :: List.replicate (N.length - 1) .no) (defBody st) (S := Empty) (fun e => e.elim) (fun e => e.elim) true) :
    FnOk P w K mg base CX0 (k + 1) f fd [x] (SpL K pre) := by
  refine Fd.ok Sc (fun vs H Q E h => ?_) (fun cdv A outer s H vs Q E hr h => ?_)
  · obtain ⟨F, a, u, rfl, _⟩ := h; rfl
  · obtain ⟨F, a, u, rfl, e, r, hp, q⟩ := h
    obtain ⟨o, ho, t, h1, h2⟩ := body f cdv A outer s H E ⟨F, H, fun _ => False⟩ a hr hp
    have hN : 1 ≤ N.length := by
      have q := congrArg List.length Sc.pre
      rw [List.length_take] at q
      simp at q; omega
    have E0 : EnvD K ⟨F, H, fun _ => False⟩ F H ([u].map some) [.fz a] (fun _ => []) := ⟨⟨Ex.refl _, e, fun b o _ h => h, fun b h => .inl h⟩, rfl, (fun i s hs => by
      cases i with
      | zero => cases hs; exact ⟨_, rfl, rfl, u, rfl, r⟩
      | succ i => cases hs), (fun i j b h => by cases h), (fun i b h => by cases h), fun i h => rfl⟩
    refine ⟨t, h1, h2 F H _ ⟨_, env0 E0 hN⟩ _ ?_⟩
    cases o with
    | nx s => exact s.elim
    | bk s => exact s.elim
    | ct s => exact s.elim
    | rt r =>
    cases (show r = true from ho)
    refine ⟨fun _ v σ' F' H' Γ' fp' l E' e1 _ hv _ => ?_, fun n hn => by cases hn⟩
    obtain ⟨_, z, hz, hr⟩ := hv
    cases hz
    cases (show v = .bl true from hr)
    exact q H'
end
theorem walk_fw {Tx : Fg → (Str → Option Value) → Prop} {l : PySem.W.OpenLaw} {q : Program} {loose : List Str} {XP : (Str → Option Value) → Heap → Prop} {YP : World → Heap → Prop} {d : DefRec} {K : Params → PySem.W.Frag} {x : Str} {lvl : Nat} {st : Stmt} (hn : l.most = some 63) (hdf : d.params.defaults = []) (hr : Room lvl callerA)
    (hd : d.name = "law") (hY : ∀ (w : World) (h : Heap), YP w h → (K w.params).In h)
    (F : ∀ (w : World) (mg : Str → Option Value) (h : Heap), (K w.params).In h → h.Ns mainGlobals mg → Tx (K w.params) mg)
    (hb : ∀ (kV doc pm : Value) (an : Option Addr) (cdv ct : Value) (v : Value), bindArgs (PySem.W.fnOf "law" "law" (defArgs st) (defBody st) (defScope st) .none kV doc pm an cdv ct) ⟨[v], []⟩ = pure [(x, v)])
    (D : ∀ K mg, Tx K mg → Df K mg "law" st)
    (ok : ∀ {P : Program} {w : World} {K : Fg} {mg : Str → Option Value} {base : Heap}, Tx K mg → ∀ f fd, mg "law" = some (.ref f) → Fun K "law" "law" st f fd → FnOk P w K mg base CX0 lvl f fd [x] (SpL K Pre)) :
    PySem.W.WalkO q loose XP YP l.row.toRowW d [] (fun f vs => PySem.call f vs) := by
  refine L2.walk_ofB (n := 63) (k := lvl) (x := x) (CX := fun _ => CX0) (sp := fun w => SpL (K w.params) Pre) hn (by decide) hdf hr hY (fun w mg fa h X G hfa => ?_) (fun w H a ns hl hbits _ hS => ?_) fun _ _ _ _ _ z => z
  · rw [hd] at hfa
    have T := F w mg h X G
    obtain ⟨f, fd, hf, Fu⟩ := (D _ _ T).ex
    rw [hfa] at hf
    cases hf
    refine ⟨fd, fun s u => ?_, fun base _ _ => ok T fa fd hfa Fu⟩
    obtain ⟨oc, od, kV, doc, pm, an, cdv, ct, osl, rfl, _, _⟩ := Fu.ex
    exact .of_eq (hb kV doc pm an cdv ct u)
  · exact ⟨H, ⟨ns⟩, _, rfl, Ex.refl _, ⟨a, ns.map V.int, rfl, hS, Reps.map (g := V.int) (fun _ => rfl) ns⟩, ⟨hl, hbits⟩, fun H' => rfl⟩
end
end Fw
/-! FwT: texts cut, glued, read; the greatest of a list; tuples and lists of a list. -/
namespace Fw
open PySem L2 Py PyProof.Rows
theorem strs_of {K : Fg} {F : Hp} : ∀ {vs : List V} {xs : List Str}, Reps K F vs xs → vs = xs.map V.str
  | _, _, .nil => rfl
  | _, _, .cons h t => by rw [List.map_cons, ← strs_of t]; exact congrArg (· :: _) h
theorem ints_of {K : Fg} {F : Hp} : ∀ {vs : List V} {xs : List Int}, Reps K F vs xs → vs = xs.map V.int
  | _, _, .nil => rfl
  | _, _, .cons h t => by rw [List.map_cons, ← ints_of t]; exact congrArg (· :: _) h
theorem reps_strs {K : Fg} {F : Hp} : ∀ xs : List Str, Reps K F (xs.map V.str) xs
  | [] => .nil
  | x :: r => .cons rfl (reps_strs r)
section
variable {X : Cx} {c : Cw} {Γ Γ' : List Slot} {τ υ ζ : Type} [Py τ] [Py υ] [Py ζ] {a b d e o : Expr} {es : List Expr} {x : τ} {y : υ} {z : ζ} {pos ap : Pos}
theorem xe_split {s t : Str} (ho : XE X c Γ o s) (he : XE X c Γ e t) (h1 : (t.length == 0) = false) (h2 : s.length + 2 ≤ sizeLine) (hs : starEach [e] X.env = [(false, eval e X.env)] := by rfl) (hbase : attributeBase o "split" X.env (eval o X.env) = eval o X.env := by rfl) (hline : (ap.endLine == pos.line) = true := by rfl) :
    XE X c Γ (.Call (.Attribute o "split" ap) [e] [] pos) (Txt.split s t : List Str) := by
  obtain ⟨t1, a1, a2⟩ := ho
  obtain ⟨t2, b1, b2⟩ := he
  refine ⟨_, pe_split a1 b1 hs hbase hline, fun F H σ fp E Q q => a2 F H σ fp E _ fun v F1 H1 E1 e1 g1 r1 => ⟨⟨s, r1⟩, b2 F1 H1 σ fp E1 _ fun u F2 H2 E2 e2 g2 r2 => ⟨s, t, r1, by rw [show u = V.str t from r2], h1, h2, fun p hp => ?_⟩⟩⟩
  have ef : Ex F2 (upd F2 p (.lst ((Txt.split s t).map V.str))) := Ex.new (E2.ff hp)
  exact q _ _ _ (E2.lay hp) ((e1.trans e2).trans ef) ((g1.trans g2).trans (Nw.lay hp)) ⟨p, _, rfl, upd_same, reps_strs _⟩
theorem xe_join {s : Str} {ys : List Str} (ho : XE X c Γ o s) (he : XE X c Γ e ys) (h2 : (ys.map (·.length)).sum + ys.length * s.length ≤ 16777216) (hs : starEach [e] X.env = [(false, eval e X.env)] := by rfl) (hbase : attributeBase o "join" X.env (eval o X.env) = eval o X.env := by rfl) (hline : (ap.endLine == pos.line) = true := by rfl) :
    XE X c Γ (.Call (.Attribute o "join" ap) [e] [] pos) (Txt.join s ys : Str) := by
  obtain ⟨t1, a1, a2⟩ := ho
  obtain ⟨t2, b1, b2⟩ := he
  refine ⟨_, pe_join a1 b1 hs hbase hline, fun F H σ fp E Q q => a2 F H σ fp E _ fun v F1 H1 E1 e1 g1 r1 => ⟨⟨s, r1⟩, b2 F1 H1 σ fp E1 _ fun u F2 H2 E2 e2 g2 r2 => ?_⟩⟩
  obtain ⟨p, vs, rfl, r3, r4⟩ := r2
  exact ⟨s, p, ys, r1, rfl, .inl (sq_of (by rw [← strs_of r4]; exact E2.wd.fh _ _ r3)), h2, q _ _ _ E2 (e1.trans e2) (g1.trans g2) rfl⟩
/-- int(a text) -/
def tint (s : Str) : Int := (PySem.intText? s).getD 0
theorem xe_intS {s : Str} {p : Pos} (hm : X.mg "int" = none) (ha : XE X c Γ a s) (h : (PySem.intText? s).isSome = true) (hl : s.length ≤ 640) (hg : Gl X "int" := by rfl)
    (hs : starEach [a] X.env = [(false, eval a X.env)] := by rfl) : XE X c Γ (.Call (.Name "int" p) [a] [] pos) (tint s) := by
  obtain ⟨t, h1, h2⟩ := ha
  refine ⟨_, pe_callTy call_int_str hg hm (by decide +kernel) (pa_cons h1 pa_nil hs) (by decide) (by decide) hs rfl, fun F H σ fp E Q q => h2 F H σ fp E _ fun v F' H' E' e1 e2 r' => ⟨s, tint s, by rw [show v = V.str s from r'], ?_, hl, q _ F' H' E' e1 e2 rfl⟩⟩
  obtain ⟨n, hn⟩ := Option.isSome_iff_exists.mp h
  unfold tint
  rw [hn]; rfl
/-- s.index(t) -/
def sidx (s t : Str) : Int := ((Builtin.Str.occurrences s t 0 s.length 1).headD 0 : Nat)
theorem xe_sidx {s t : Str} (ho : XE X c Γ o s) (he : XE X c Γ e t) (h : (Builtin.Str.occurrences s t 0 s.length 1).isEmpty = false) (hs : starEach [e] X.env = [(false, eval e X.env)] := by rfl) (hbase : attributeBase o "index" X.env (eval o X.env) = eval o X.env := by rfl) (hline : (ap.endLine == pos.line) = true := by rfl) :
    XE X c Γ (.Call (.Attribute o "index" ap) [e] [] pos) (sidx s t) := by
  obtain ⟨t1, a1, a2⟩ := ho
  obtain ⟨t2, b1, b2⟩ := he
  refine ⟨_, pe_m1 F.slot_str_index F.type_str_index mt_sindex a1 b1 hs hbase hline, fun F H σ fp E Q q => a2 F H σ fp E _ fun v F1 H1 E1 e1 g1 r1 => ⟨⟨s, r1⟩, b2 F1 H1 σ fp E1 _ fun u F2 H2 E2 e2 g2 r2 => ?_⟩⟩
  cases k : Builtin.Str.occurrences s t 0 s.length 1 with
  | nil => rw [k] at h; cases h
  | cons i rest =>
    refine ⟨s, t, i, rest, r1, by rw [show u = V.str t from r2], k, ?_⟩
    have := q (V.int (sidx s t)) F2 H2 E2 (e1.trans e2) (g1.trans g2) rfl
    unfold sidx at this
    rw [k] at this
    exact this
/-- the greatest -/
def maxl (xs : List Int) : Int := xs.foldl max (xs.headD 0)
theorem foldl_max (xs : List Int) : ∀ z : Int, (xs.foldl max z = z ∨ xs.foldl max z ∈ xs) ∧ z ≤ xs.foldl max z ∧ ∀ y ∈ xs, y ≤ xs.foldl max z := by
  induction xs with
  | nil => intro z; exact ⟨.inl rfl, Int.le_refl _, fun _ h => nomatch h⟩
  | cons x r ih =>
    intro z
    rw [List.foldl_cons]
    obtain ⟨h1, h2, h3⟩ := ih (max z x)
    refine ⟨?_, by omega, fun y hy => ?_⟩
    · rcases h1 with h | h
      · rw [h]
        by_cases hz : z ≤ x
        · right; rw [Int.max_eq_right hz]; exact List.mem_cons_self ..
        · left; exact Int.max_eq_left (by omega)
      · exact .inr (List.mem_cons_of_mem _ h)
    · rcases List.mem_cons.mp hy with rfl | hy
      · omega
      · exact h3 y hy
theorem maxl_spec {xs : List Int} (h : 0 < xs.length) : maxl xs ∈ xs ∧ ∀ y ∈ xs, y ≤ maxl xs := by
  unfold maxl
  obtain ⟨h1, h2, h3⟩ := foldl_max xs (xs.headD 0)
  refine ⟨?_, h3⟩
  rcases h1 with e | e
  · rw [e]
    cases xs with
    | nil => cases h
    | cons x r => exact List.mem_cons_self ..
  · exact e
theorem maxl_uniq {xs : List Int} (h : 0 < xs.length) {m : Int} (h1 : m ∈ xs) (h2 : ∀ y ∈ xs, y ≤ m) : m = maxl xs := by
  obtain ⟨g1, g2⟩ := maxl_spec h
  have := g2 m h1
  have := h2 _ g1
  omega
theorem xe_maxl {xs : List Int} {p : Pos} (hm : X.mg "max" = none) (ha : XE X c Γ a xs) (hl : 0 < xs.length) (hc : X.calm = true := by rfl) (hg : Gl X "max" := by rfl) (hs : starEach [a] X.env = [(false, eval a X.env)] := by rfl) : XE X c Γ (.Call (.Name "max" p) [a] [] pos) (maxl xs) :=
  xe_b1 (cr_max hc) (by decide +kernel) (fun F H v e r Q q => by
    obtain ⟨ad, vs, rfl, r1, r2⟩ := r
    refine ⟨ad, xs, rfl, sq_of (by rw [← ints_of r2]; exact e _ _ r1), hl, fun m h1 h2 => ?_⟩
    rw [maxl_uniq hl h1 h2]; exact q) hg hm ha (by decide) (by decide) hs
/-- tuple(xs) -/
theorem xe_tupOf {xs : List τ} {p : Pos} (hm : X.mg "tuple" = none) (ha : XE X c Γ a xs) (hg : Gl X "tuple" := by rfl)
    (hs : starEach [a] X.env = [(false, eval a X.env)] := by rfl) : XE X c Γ (.Call (.Name "tuple" p) [a] [] pos) (Tup.mk xs) := by
  obtain ⟨t, h1, h2⟩ := ha
  refine ⟨_, pe_callTy call_tuple_of hg hm (by decide +kernel) (pa_cons h1 pa_nil hs) (by decide) (by decide) hs rfl, fun F H σ fp E Q q => h2 F H σ fp E _ fun v F' H' E' e1 e2 r' => ?_⟩
  obtain ⟨ad, vs, rfl, r1, r2⟩ := r'
  refine ⟨ad, vs, rfl, .inl ⟨sq_of (E'.wd.fh _ _ r1), fun p hp => ?_⟩⟩
  have ef : Ex F' (upd F' p (.tup vs)) := Ex.new (E'.ff hp)
  exact q _ _ _ (E'.lay hp) (e1.trans ef) (e2.trans (Nw.lay hp)) ⟨p, vs, rfl, st_of upd_same, r2.mono ef⟩
/-- list(xs) -/
theorem xe_listOf {s : υ} [PyS υ τ] {p : Pos} (hm : X.mg "list" = none) (ha : XE X c Γ a s) (hg : Gl X "list" := by rfl)
    (hs : starEach [a] X.env = [(false, eval a X.env)] := by rfl) : XE X c Γ (.Call (.Name "list" p) [a] [] pos) (PyS.li s) := by
  obtain ⟨t, h1, h2⟩ := ha
  refine ⟨_, pe_callTy call_list_of hg hm (by decide +kernel) (pa_cons h1 pa_nil hs) (by decide) (by decide) hs rfl, fun F H σ fp E Q q => h2 F H σ fp E _ fun v F' H' E' e1 e2 r' => ?_⟩
  obtain ⟨ad, vs, rfl, r1, r2⟩ := PyS.sq r'
  refine ⟨ad, vs, rfl, r1.elim (fun h => .inl (E'.wd.fh.l h)) (fun h => .inr (E'.wd.fh.t h)), fun p hp => ?_⟩
  have ef : Ex F' (upd F' p (.lst vs)) := Ex.new (E'.ff hp)
  exact q _ _ _ (E'.lay hp) (e1.trans ef) (e2.trans (Nw.lay hp)) ⟨p, vs, rfl, upd_same, r2.mono ef⟩
/-- what is known not to be None -/
theorem xe_get [Inhabited τ] {o : Option τ} (ha : XE X c Γ a o) (h : o.isSome = true) : XE X c Γ a (o.getD default) := by
  obtain ⟨y, rfl⟩ := Option.isSome_iff_exists.mp h
  obtain ⟨t, h1, h2⟩ := ha
  exact ⟨t, h1, fun F H σ fp E Q q => h2 F H σ fp E Q q⟩
/-- x or k, x a number or None -/
theorem xe_orO {n : Option Int} {k : Int} (ha : XE X c Γ a n) (hb : XE X c Γ b k) : XE X c Γ (.BoolOp .Or [a, b] pos) (match n with | some m => if m = 0 then k else m | none => k) := by
  obtain ⟨t, h1, h2⟩ := ha
  obtain ⟨u, h3, h4⟩ := xe_one (pos := pos) hb
  refine ⟨_, pe_orT h1 h3, fun F H σ fp E Q q => h2 F H σ fp E _ fun v F' H' E' e1 e2 r => ?_⟩
  cases n with
  | none =>
    refine ⟨false, by rw [show v = V.non from r]; rfl, ?_⟩
    rw [if_neg Bool.false_ne_true]
    exact h4 F' H' σ fp E' Q fun v2 F2 H2 E2 e3 e4 r2 => q v2 F2 H2 E2 (e1.trans e3) (e2.trans e4) r2
  | some m =>
    cases (show v = V.int m from r)
    by_cases h : m = 0
    · subst h
      refine ⟨false, rfl, ?_⟩
      rw [if_neg Bool.false_ne_true]
      exact h4 F' H' σ fp E' Q fun v2 F2 H2 E2 e3 e4 r2 => q v2 F2 H2 E2 (e1.trans e3) (e2.trans e4) r2
    · refine ⟨true, (bne_iff_ne.mpr h).symm, ?_⟩
      rw [if_pos rfl]
      dsimp only at q
      rw [if_neg h] at q
      exact q _ F' H' E' e1 e2 rfl
end
end Fw
/-! FwD: == and != of data of any depth. -/
namespace Fw
open PySem L2 Py PyProof.Rows
class PyD (τ : Type) [Py τ] where
  dec : DecidableEq τ
  toD : τ → PyData
  dok : τ → Prop
  dep : Nat
  nn : Bool
  dp : ∀ {K F v x}, rep K F v x → Dp K F v (toD x)
  eqv : ∀ x y, PyData.eqv (toD x) (toD y) = @decide (x = y) (dec x y)
  lay : ∀ x, dok x → (toD x).canLay0 = true
  dle : ∀ x, (toD x).depth ≤ dep
  nno : nn = true → ∀ x, toD x ≠ .none
instance (priority := low) {τ : Type} [Py τ] [i : PyD τ] : DecidableEq τ := i.dec
/-- that may always be laid -/
class PyDn (τ : Type) [Py τ] [PyD τ] : Prop where
  all : ∀ x : τ, PyD.dok x
def dAll {τ : Type} [Py τ] [PyD τ] (xs : List τ) : List PyData := xs.map PyD.toD
section
variable {τ : Type} [Py τ] [i : PyD τ]
theorem dAll_dp {K : Fg} {F : Hp} : ∀ {vs : List V} {xs : List τ}, Reps K F vs xs → DpAll K F vs (dAll xs)
  | _, _, .nil => .nil
  | _, _, .cons h t => .cons (PyD.dp h) (dAll_dp t)
theorem dAll_eqv : ∀ xs ys : List τ, PyData.eqvAll (dAll xs) (dAll ys) = @decide (xs = ys) (@instDecidableEqList _ i.dec xs ys)
  | [], [] => by rw [decide_eq_true (rfl : ([] : List τ) = [])]; rfl
  | [], y :: ys => by rw [decide_eq_false (by intro h; cases h)]; rfl
  | x :: xs, [] => by rw [decide_eq_false (by intro h; cases h)]; rfl
  | x :: xs, y :: ys => by
    show (PyData.eqv (PyD.toD x) (PyD.toD y) && PyData.eqvAll (dAll xs) (dAll ys)) = _
    rw [PyD.eqv, dAll_eqv xs ys, Bool.eq_iff_iff, Bool.and_eq_true, decide_eq_true_eq, decide_eq_true_eq, decide_eq_true_eq, List.cons.injEq]
theorem dAll_lay : ∀ xs : List τ, (∀ x ∈ xs, PyD.dok x) → PyData.canLayAll0 (dAll xs) = true
  | [], _ => rfl
  | x :: xs, h => by
    show ((PyD.toD x).canLay0 && PyData.canLayAll0 (dAll xs)) = true
    rw [PyD.lay x (h x (List.mem_cons_self ..)), dAll_lay xs fun z hz => h z (List.mem_cons_of_mem _ hz)]; rfl
theorem dAll_dle : ∀ xs : List τ, PyData.depthAll (dAll xs) ≤ PyD.dep τ
  | [] => Nat.zero_le _
  | x :: xs => Nat.max_le.mpr ⟨PyD.dle x, dAll_dle xs⟩
end
instance : PyD Int := ⟨inferInstance, .int, fun _ => True, 0, true, fun {K F v x} h => by rw [show v = V.int x from h]; exact .int x, fun x y => rfl, fun _ _ => rfl, fun _ => Nat.le_refl _, fun _ x h => by cases h⟩
instance : PyD Bool := ⟨inferInstance, .bool, fun _ => True, 0, true, fun {K F v x} h => by rw [show v = V.bl x from h]; exact .bl x, fun x y => by cases x <;> cases y <;> rfl, fun _ _ => rfl, fun _ => Nat.le_refl _, fun _ x h => by cases h⟩
instance : PyD Str := ⟨inferInstance, .str, fun x => PyData.strOk x = true, 0, true, fun {K F v x} h => by rw [show v = V.str x from h]; exact .str x, fun x y => by
  show (x == y) = _
  rw [Bool.eq_iff_iff, beq_iff_eq, decide_eq_true_eq], fun _ h => h, fun _ => Nat.le_refl _, fun _ x h => by cases h⟩
instance : PyD Unit := ⟨inferInstance, fun _ => .none, fun _ => True, 0, false, fun {K F v x} h => by rw [show v = V.non from h]; exact .non, fun x y => rfl, fun _ _ => rfl, fun _ => Nat.le_refl _, fun h => by cases h⟩
theorem eqv_none_l {d : PyData} (h : d ≠ .none) : PyData.eqv .none d = false := by cases d <;> first | rfl | exact absurd rfl h
theorem eqv_none_r {d : PyData} (h : d ≠ .none) : PyData.eqv d .none = false := by cases d <;> first | rfl | exact absurd rfl h
/-- what is never None -/
class PyNN (τ : Type) [Py τ] [PyD τ] : Prop where
  nn : PyD.nn τ = true
instance : PyNN Int := ⟨rfl⟩
instance : PyNN Bool := ⟨rfl⟩
instance : PyNN Str := ⟨rfl⟩
instance {τ : Type} [Py τ] [i : PyD τ] [n : PyNN τ] : PyD (Option τ) where
  dec := fun a b => match a, b with
    | none, none => .isTrue rfl
    | none, some _ => .isFalse (by intro h; cases h)
    | some _, none => .isFalse (by intro h; cases h)
    | some x, some y => match i.dec x y with
      | .isTrue h => .isTrue (by rw [h])
      | .isFalse h => .isFalse fun z => h (by injection z)
  toD := fun x => match x with | none => .none | some y => PyD.toD y
  dok := fun x => ∀ y, x = some y → PyD.dok y
  dep := PyD.dep τ
  nn := false
  dp := fun {K F v x} h => by
    cases x with
    | none => rw [show v = V.non from h]; exact .non
    | some y => exact PyD.dp (show rep K F v y from h)
  eqv := fun x y => by
    cases x with
    | none => cases y with
      | none => rw [decide_eq_true (rfl : (none : Option τ) = none)]; rfl
      | some y => rw [decide_eq_false (by intro h; cases h)]; exact eqv_none_l (PyD.nno n.nn y)
    | some x => cases y with
      | none => rw [decide_eq_false (by intro h; cases h)]; exact eqv_none_r (PyD.nno n.nn x)
      | some y =>
        show PyData.eqv (PyD.toD x) (PyD.toD y) = _
        rw [PyD.eqv, Bool.eq_iff_iff, decide_eq_true_eq, decide_eq_true_eq, Option.some.injEq]
  lay := fun x h => by
    cases x with
    | none => rfl
    | some y => exact PyD.lay y (h y rfl)
  dle := fun x => by
    cases x with
    | none => exact Nat.zero_le _
    | some y => exact PyD.dle y
  nno := fun h => by cases h
instance {τ : Type} [Py τ] [i : PyD τ] : PyD (List τ) where
  dec := @instDecidableEqList _ i.dec
  toD := fun x => .list (dAll x)
  dok := fun x => ∀ y ∈ x, PyD.dok y
  dep := PyD.dep τ + 1
  nn := true
  dp := fun ⟨a, vs, h1, h2, h3⟩ => h1 ▸ .lst (sq_of h2) (dAll_dp h3)
  eqv := dAll_eqv
  lay := dAll_lay
  dle := fun x => Nat.succ_le_succ (dAll_dle x)
  nno := fun _ x h => by cases h
instance {τ : Type} [Py τ] [i : PyD τ] : PyD (Tup τ) where
  dec := inferInstance
  toD := fun x => .tuple (dAll x.l)
  dok := fun x => ∀ y ∈ x.l, PyD.dok y
  dep := PyD.dep τ + 1
  nn := true
  dp := fun ⟨a, vs, h1, h2, h3⟩ => h1 ▸ .tup h2 (dAll_dp h3)
  eqv := fun x y => by
    obtain ⟨x⟩ := x
    obtain ⟨y⟩ := y
    refine (dAll_eqv x y).trans ?_
    rw [Bool.eq_iff_iff, decide_eq_true_eq, decide_eq_true_eq, Tup.mk.injEq]
  lay := fun x h => dAll_lay x.l h
  dle := fun x => Nat.succ_le_succ (dAll_dle x.l)
  nno := fun _ x h => by cases h
instance {τ : Type} [Py τ] [PyD τ] : PyNN (List τ) := ⟨rfl⟩
instance {τ : Type} [Py τ] [PyD τ] : PyNN (Tup τ) := ⟨rfl⟩
section
variable {α β γ δ ε : Type} [Py α] [Py β] [Py γ] [Py δ] [Py ε] [i1 : PyD α] [i2 : PyD β] [i3 : PyD γ] [i4 : PyD δ] [i5 : PyD ε]
instance : PyD (α × β) where
  dec := @instDecidableEqProd _ _ i1.dec i2.dec
  toD := fun x => .tuple [PyD.toD x.1, PyD.toD x.2]
  dok := fun x => PyD.dok x.1 ∧ PyD.dok x.2
  dep := max (PyD.dep α) (PyD.dep β) + 1
  nn := true
  dp := fun ⟨p, a, b, h1, h2, h3, h4⟩ => h1 ▸ .tup h2 (.cons (PyD.dp h3) (.cons (PyD.dp h4) .nil))
  eqv := fun x y => by
    obtain ⟨a, b⟩ := x
    obtain ⟨a', b'⟩ := y
    show (PyData.eqv (PyD.toD a) (PyD.toD a') && (PyData.eqv (PyD.toD b) (PyD.toD b') && true)) = _
    rw [PyD.eqv, PyD.eqv, Bool.and_true, Bool.eq_iff_iff, Bool.and_eq_true, decide_eq_true_eq, decide_eq_true_eq, decide_eq_true_eq, Prod.mk.injEq]
  lay := fun x h => by
    show ((PyD.toD x.1).canLay0 && ((PyD.toD x.2).canLay0 && true)) = true
    rw [PyD.lay _ h.1, PyD.lay _ h.2]; rfl
  dle := fun x => by
    have h1 := PyD.dle x.1
    have h2 := PyD.dle x.2
    show max (PyD.toD x.1).depth (max (PyD.toD x.2).depth 0) + 1 ≤ _
    omega
  nno := fun _ x h => by cases h
instance : PyD (T3 α β γ) where
  dec := inferInstance
  toD := fun x => .tuple [PyD.toD x.a, PyD.toD x.b, PyD.toD x.c]
  dok := fun x => PyD.dok x.a ∧ PyD.dok x.b ∧ PyD.dok x.c
  dep := max (PyD.dep α) (max (PyD.dep β) (PyD.dep γ)) + 1
  nn := true
  dp := fun ⟨p, a, b, c, h1, h2, h3, h4, h5⟩ => h1 ▸ .tup h2 (.cons (PyD.dp h3) (.cons (PyD.dp h4) (.cons (PyD.dp h5) .nil)))
  eqv := fun x y => by
    obtain ⟨a, b, c⟩ := x
    obtain ⟨a', b', c'⟩ := y
    show (PyData.eqv (PyD.toD a) (PyD.toD a') && (PyData.eqv (PyD.toD b) (PyD.toD b') && (PyData.eqv (PyD.toD c) (PyD.toD c') && true))) = _
    rw [PyD.eqv, PyD.eqv, PyD.eqv, Bool.and_true, Bool.eq_iff_iff, Bool.and_eq_true, Bool.and_eq_true, decide_eq_true_eq, decide_eq_true_eq, decide_eq_true_eq, decide_eq_true_eq, T3.mk.injEq]
  lay := fun x h => by
    show ((PyD.toD x.a).canLay0 && ((PyD.toD x.b).canLay0 && ((PyD.toD x.c).canLay0 && true))) = true
    rw [PyD.lay _ h.1, PyD.lay _ h.2.1, PyD.lay _ h.2.2]; rfl
  dle := fun x => by
    have h1 := PyD.dle x.a
    have h2 := PyD.dle x.b
    have h3 := PyD.dle x.c
    show max (PyD.toD x.a).depth (max (PyD.toD x.b).depth (max (PyD.toD x.c).depth 0)) + 1 ≤ _
    omega
  nno := fun _ x h => by cases h
instance : PyD (T5 α β γ δ ε) where
  dec := inferInstance
  toD := fun x => .tuple [PyD.toD x.a, PyD.toD x.b, PyD.toD x.c, PyD.toD x.d, PyD.toD x.e]
  dok := fun x => PyD.dok x.a ∧ PyD.dok x.b ∧ PyD.dok x.c ∧ PyD.dok x.d ∧ PyD.dok x.e
  dep := max (PyD.dep α) (max (PyD.dep β) (max (PyD.dep γ) (max (PyD.dep δ) (PyD.dep ε)))) + 1
  nn := true
  dp := fun ⟨p, a, b, c, d, e, h1, h2, h3, h4, h5, h6, h7⟩ => h1 ▸ .tup h2 (.cons (PyD.dp h3) (.cons (PyD.dp h4) (.cons (PyD.dp h5) (.cons (PyD.dp h6) (.cons (PyD.dp h7) .nil)))))
  eqv := fun x y => by
    obtain ⟨a, b, c, d, e⟩ := x
    obtain ⟨a', b', c', d', e'⟩ := y
    show (PyData.eqv (PyD.toD a) (PyD.toD a') && (PyData.eqv (PyD.toD b) (PyD.toD b') && (PyData.eqv (PyD.toD c) (PyD.toD c') && (PyData.eqv (PyD.toD d) (PyD.toD d') && (PyData.eqv (PyD.toD e) (PyD.toD e') && true))))) = _
    rw [PyD.eqv, PyD.eqv, PyD.eqv, PyD.eqv, PyD.eqv, Bool.and_true, Bool.eq_iff_iff, Bool.and_eq_true, Bool.and_eq_true, Bool.and_eq_true, Bool.and_eq_true, decide_eq_true_eq, decide_eq_true_eq, decide_eq_true_eq, decide_eq_true_eq, decide_eq_true_eq, decide_eq_true_eq, T5.mk.injEq]
  lay := fun x h => by
    show ((PyD.toD x.a).canLay0 && ((PyD.toD x.b).canLay0 && ((PyD.toD x.c).canLay0 && ((PyD.toD x.d).canLay0 && ((PyD.toD x.e).canLay0 && true))))) = true
    rw [PyD.lay _ h.1, PyD.lay _ h.2.1, PyD.lay _ h.2.2.1, PyD.lay _ h.2.2.2.1, PyD.lay _ h.2.2.2.2]; rfl
  dle := fun x => by
    have h1 := PyD.dle x.a
    have h2 := PyD.dle x.b
    have h3 := PyD.dle x.c
    have h4 := PyD.dle x.d
    have h5 := PyD.dle x.e
    show max (PyD.toD x.a).depth (max (PyD.toD x.b).depth (max (PyD.toD x.c).depth (max (PyD.toD x.d).depth (max (PyD.toD x.e).depth 0)))) + 1 ≤ _
    omega
  nno := fun _ x h => by cases h
instance : PyNN (α × β) := ⟨rfl⟩
instance : PyNN (T3 α β γ) := ⟨rfl⟩
instance : PyNN (T5 α β γ δ ε) := ⟨rfl⟩
instance [PyDn α] [PyDn β] : PyDn (α × β) := ⟨fun x => ⟨PyDn.all _, PyDn.all _⟩⟩
instance [PyDn α] [PyDn β] [PyDn γ] : PyDn (T3 α β γ) := ⟨fun x => ⟨PyDn.all _, PyDn.all _, PyDn.all _⟩⟩
instance [PyDn α] : PyDn (List α) := ⟨fun x y _ => PyDn.all _⟩
instance [PyDn α] : PyDn (Tup α) := ⟨fun x y _ => PyDn.all _⟩
instance [PyNN α] [PyDn α] : PyDn (Option α) := ⟨fun x y _ => PyDn.all _⟩
end
instance : PyDn Int := ⟨fun _ => trivial⟩
instance : PyDn Bool := ⟨fun _ => trivial⟩
instance : PyDn Unit := ⟨fun _ => trivial⟩
section
variable {X : Cx} {c : Cw} {Γ Γ' : List Slot} {τ υ ζ : Type} [Py τ] [Py υ] [Py ζ] {a b d e o : Expr} {es : List Expr} {x y : τ} {pos ap : Pos}
theorem shaped_of [PyD τ] {x : τ} (h : PyD.dok x) (hd : PyD.dep τ ≤ 64) : SeqAt.shaped (PyD.toD x) = true := by
  unfold SeqAt.shaped
  rw [PyD.lay x h, decide_eq_true (Nat.le_trans (PyD.dle x) hd)]; rfl
/-- are they equal -/
def eqb {τ : Type} [Py τ] [i : PyD τ] (x y : τ) : Bool := @decide (x = y) (i.dec x y)
theorem eqb_iff {τ : Type} [Py τ] [i : PyD τ] {x y : τ} : eqb x y = true ↔ x = y := by
  unfold eqb; exact decide_eq_true_iff
theorem eqb_refl {τ : Type} [Py τ] [i : PyD τ] (x : τ) : eqb x x = true := eqb_iff.mpr rfl
theorem xb_of (h : XE X c Γ e x) : XB X c Γ e x := by
  obtain ⟨t, h1, h2⟩ := h
  exact ⟨t, h1, fun F H σ fp E Q q => h2 F H σ fp E _ fun v F' H' E' e1 e2 r => q v F' H' E' e1 e2 (Py.mono E'.wd.fh r)⟩
theorem xc_eqB [i : PyD τ] (hu : X.A.units + 64 < cLine) (ha : XB X c Γ a x) (hb : XB X c Γ b y) (hx : PyD.dok x) (hy : PyD.dok y) (hd : PyD.dep τ ≤ 64 := by decide) : XC X c Γ .Eq a b (eqb x y) :=
  xc_ofB (op_eqD hu) (fun H u v h1 h2 Q q => by
    refine ⟨_, _, PyD.dp h1, PyD.dp h2, shaped_of hx hd, shaped_of hy hd, ?_⟩
    rw [PyD.eqv]; exact q _ rfl) ha hb (nomark _)
theorem xc_neB [i : PyD τ] (hu : X.A.units + 64 < cLine) (ha : XB X c Γ a x) (hb : XB X c Γ b y) (hx : PyD.dok x) (hy : PyD.dok y) (hd : PyD.dep τ ≤ 64 := by decide) : XC X c Γ .NotEq a b (!eqb x y) :=
  xc_ofB (op_neD hu) (fun H u v h1 h2 Q q => by
    refine ⟨_, _, PyD.dp h1, PyD.dp h2, shaped_of hx hd, shaped_of hy hd, ?_⟩
    rw [PyD.eqv]; exact q _ rfl) ha hb (nomark _)
theorem xc_eqD [i : PyD τ] (hu : X.A.units + 64 < cLine) (ha : XE X c Γ a x) (hb : XE X c Γ b y) (hx : PyD.dok x) (hy : PyD.dok y) (hd : PyD.dep τ ≤ 64 := by decide) : XC X c Γ .Eq a b (eqb x y) := xc_eqB hu (xb_of ha) (xb_of hb) hx hy hd
theorem xc_neD [i : PyD τ] (hu : X.A.units + 64 < cLine) (ha : XE X c Γ a x) (hb : XE X c Γ b y) (hx : PyD.dok x) (hy : PyD.dok y) (hd : PyD.dep τ ≤ 64 := by decide) : XC X c Γ .NotEq a b (!eqb x y) := xc_neB hu (xb_of ha) (xb_of hb) hx hy hd
/-- what never lies as None -/
class PyNv (τ : Type) [Py τ] : Prop where
  nv : ∀ {K F v} {x : τ}, rep K F v x → v ≠ .non
instance : PyNv Int := ⟨fun {K F v x} h => by rw [show v = V.int x from h]; intro z; cases z⟩
instance : PyNv Bool := ⟨fun {K F v x} h => by rw [show v = V.bl x from h]; intro z; cases z⟩
instance : PyNv Str := ⟨fun {K F v x} h => by rw [show v = V.str x from h]; intro z; cases z⟩
instance {τ : Type} [Py τ] : PyNv (List τ) := ⟨fun ⟨a, vs, h1, _⟩ z => by rw [h1] at z; cases z⟩
instance {τ : Type} [Py τ] : PyNv (Tup τ) := ⟨fun ⟨a, vs, h1, _⟩ z => by rw [h1] at z; cases z⟩
instance {α β : Type} [Py α] [Py β] : PyNv (α × β) := ⟨fun ⟨a, _, _, h1, _⟩ z => by rw [h1] at z; cases z⟩
instance {α β γ : Type} [Py α] [Py β] [Py γ] : PyNv (T3 α β γ) := ⟨fun ⟨a, _, _, _, h1, _⟩ z => by rw [h1] at z; cases z⟩
theorem opt_nv {τ : Type} [Py τ] [n : PyNv τ] {K : Fg} {F : Hp} {u : V} {x : Option τ} (h : rep K F u x) : decide (u = V.non) = x.isNone := by
  cases x with
  | none => rw [show u = V.non from h]; rfl
  | some y => rw [decide_eq_false (n.nv (show rep K F u y from h))]; rfl
theorem xc_isNoneG {τ : Type} [Py τ] [PyNv τ] {x : Option τ} {j p} (ha : XE X c Γ a x) : XC X c Γ .Is a (.Constant .none j p) (x.isNone) :=
  xc_of (y := ()) op_isN (fun F H u v e h1 h2 Q q => ⟨h2, q _ F H (Ex.refl _) e (Ex.refl _) (fun _ h => .inl h) (by
    show V.bl _ = V.bl _
    rw [← opt_nv h1])⟩) ha xe_nil (nomark _)
theorem xc_notNoneG {τ : Type} [Py τ] [PyNv τ] {x : Option τ} {j p} (ha : XE X c Γ a x) : XC X c Γ .IsNot a (.Constant .none j p) (x.isSome) :=
  xc_of (y := ()) op_notN (fun F H u v e h1 h2 Q q => ⟨h2, q _ F H (Ex.refl _) e (Ex.refl _) (fun _ h => .inl h) (by
    show V.bl _ = V.bl _
    have := opt_nv h1
    rw [this]
    cases x <;> rfl)⟩) ha xe_nil (nomark _)
/-- a text so many times -/
def repS (s : Str) (n : Int) : Str := if n < 1 then Str.empty else if (n == 1 || s.length == 0) = true then s else ⟨(List.replicate n.toNat s.cps).foldl (· ++ ·) #[]⟩
theorem fold_rep_size (x : Array Nat) : ∀ (k : Nat) (z : Array Nat), ((List.replicate k x).foldl (· ++ ·) z).size = z.size + k * x.size
  | 0, z => by simp
  | k + 1, z => by
    rw [List.replicate_succ, List.foldl_cons, fold_rep_size x k, Array.size_append, Nat.succ_mul]; omega
theorem op_repS : OpR X (binaryOp .Mult) (fun x y H Q => ∃ s n, x = V.str s ∧ y = V.int n ∧ (0 ≤ n ∧ n < 100000) ∧ s.length < 100 ∧ Q (V.str (repS s n)) H) := by
  intro pins s σ H x y v u Q I rx ry h
  obtain ⟨a, n, rfl, rfl, hn, hl, q⟩ := h
  obtain ⟨t, rfl⟩ := rx
  obtain ⟨t2, rfl⟩ := ry
  refine PySem.P.mul_str (by simp; omega) (fun _ _ => ?_) (fun _ _ => ?_) ?_
  · have h1 : (a.length : Int) * n ≤ 100 * 100000 := Int.mul_le_mul (by omega) (by omega) (by omega) (by omega)
    have h2 : (a.length : Int) ≤ (2 ^ 63 - 1) / n := (Int.le_ediv_iff_mul_le (by omega)).mpr (by omega)
    omega
  · have h1 : a.length * n.toNat ≤ 100 * 100000 := Nat.mul_le_mul (by omega) (by omega)
    have h2 : (100 * 100000 : Nat) ≤ sizeLine := by decide
    unfold Builtin.Str.tooLong
    exact decide_eq_false (by omega)
  · unfold repS at q
    split
    · rename_i h
      rw [if_pos h] at q
      exact ⟨Nat.zero_le _, V.str Str.empty, H, I.tok _, ⟨_, rfl⟩, q⟩
    · rename_i h
      rw [if_neg h] at q
      split
      · rename_i h2
        rw [if_pos h2] at q
        exact ⟨V.str a, H, I, ⟨_, rfl⟩, q⟩
      · rename_i h2
        rw [if_neg h2] at q
        refine ⟨?_, V.str _, H, I.tok _, ⟨_, rfl⟩, q⟩
        have h1 : a.length * n.toNat ≤ 100 * 100000 := Nat.mul_le_mul (by omega) (by omega)
        have h3 : (100 * 100000 : Nat) ≤ sizeLine := by decide
        have h4 : (Str.mk ((List.replicate n.toNat a.cps).foldl (· ++ ·) #[])).length = n.toNat * a.length := by
          show ((List.replicate n.toNat a.cps).foldl (· ++ ·) #[]).size = _
          rw [fold_rep_size]; simp [Str.length]
        rw [h4, Nat.mul_comm]; omega
theorem xe_repS {s : Str} {n : Int} (ha : XE X c Γ a s) (hb : XE X c Γ b n) (h : 0 ≤ n ∧ n < 100000) (hl : s.length < 100) : XE X c Γ (.BinOp a .Mult b pos) (repS s n) :=
  xe_op op_repS (fun F H u v e h1 h2 Q q => ⟨s, n, h1, h2, h, hl, q _ F H (Ex.refl _) e (Ex.refl _) (fun _ h => .inl h) rfl⟩) ha hb
end
end Fw
/-! FwB: how great a number is, by bits. -/
namespace Fw
open PySem L2 Py PyProof.Rows
@[irreducible] def Bit (n : Nat) (z : Int) : Prop := z.natAbs < 2 ^ n
theorem Bit.mono {n m : Nat} {z : Int} (h : Bit n z) (k : n ≤ m) : Bit m z := by
  unfold Bit at h ⊢
  exact Nat.lt_of_lt_of_le h (Nat.pow_le_pow_right (by decide) k)
theorem Bit.add {n : Nat} {a b : Int} (h : Bit n a) (k : Bit n b) : Bit (n + 1) (a + b) := by
  have h1 : (a + b).natAbs ≤ a.natAbs + b.natAbs := Int.natAbs_add_le a b
  unfold Bit at h k ⊢
  rw [Nat.pow_succ]
  omega
theorem Bit.mul {n m : Nat} {a b : Int} (h : Bit n a) (k : Bit m b) : Bit (n + m) (a * b) := by
  unfold Bit at h k ⊢
  rw [Int.natAbs_mul, Nat.pow_add]
  exact Nat.mul_lt_mul'' h k
theorem Bit.of {n : Nat} {z : Int} (h : Builtin.Int.intBits z ≤ n) : Bit n z := by
  unfold Bit
  exact PySem.intBits_le_iff.mp h
theorem Bit.ok {n m : Nat} {a b : Int} (h : Bit n a) (k : Bit m b) (l : n + m ≤ 134217728) : IntMulOk a b := by
  unfold Bit at h k
  exact CMulX.ok (mulx_ok h k l)
theorem Bit.sm {n : Nat} {z : Int} (h : -(2 ^ 64) < z ∧ z < 2 ^ 64) (k : 64 ≤ n) : Bit n z := by
  refine Bit.mono (n := 64) ?_ k
  unfold Bit
  omega
theorem Bit.scr {s : Scr Int} (h : Pre s) {z : Int} (hz : z ∈ s.l) : Bit 1048576 z := Bit.of (h.bits z hz)
/-! ### what lies in a list, a text -/
section
variable {τ : Type}
theorem ix_mem [Inhabited τ] {xs : List τ} {i : Int} (h : InB xs i) : ix xs i ∈ xs := by
  have e := atI_ix h
  unfold atI at e
  cases q : ixN xs.length i with
  | none => rw [q] at e; cases e
  | some j => rw [q] at e; exact List.mem_of_getElem? e
theorem ix_all [Inhabited τ] {p : τ → Prop} {xs : List τ} {i : Int} (h : ∀ x ∈ xs, p x) (hi : InB xs i) : p (ix xs i) := h _ (ix_mem hi)
theorem inB_of {xs : List τ} {i : Int} (n : Nat) (hn : xs.length = n) (h : 0 ≤ i ∧ i < n) : InB xs i := by unfold InB; omega
theorem sum_le {b : Nat} : ∀ {ys : List Str}, (∀ y ∈ ys, y.length ≤ b) → (ys.map (·.length)).sum ≤ ys.length * b
  | [], _ => Nat.zero_le _
  | y :: r, h => by
    have h1 := h y (List.mem_cons_self ..)
    have h2 := sum_le (ys := r) fun z hz => h z (List.mem_cons_of_mem _ hz)
    show y.length + (r.map (·.length)).sum ≤ (r.length + 1) * b
    rw [Nat.succ_mul]; omega
theorem join_le {ys : List Str} {sep : Str} (b n m : Nat) (h : ∀ y ∈ ys, y.length ≤ b) (hn : ys.length ≤ n) (hs : sep.length ≤ m) (hm : n * b + n * m ≤ 16777216) : (ys.map (·.length)).sum + ys.length * sep.length ≤ 16777216 := by
  have h1 := sum_le h
  have h2 : ys.length * b ≤ n * b := Nat.mul_le_mul_right _ hn
  have h3 : ys.length * sep.length ≤ n * m := Nat.mul_le_mul hn hs
  omega
end
/-- a text's signs -/
abbrev tl (s : Str) : List Nat := s.cps.toList
theorem tl_len (s : Str) : (tl s).length = s.length := by simp [tl, Str.length]
theorem tl_cat (s t : Str) : tl (s ++ t) = tl s ++ tl t := TL.tl_append s t
theorem tl_joinL (s : Str) (ys : List Str) : tl (Txt.join s ys) = TL.joinL (tl s) (ys.map tl) := by
  rw [TL.join_eq]; exact TL.tl_join s ys
theorem joinL_mem {sep : List Nat} {c : Nat} : ∀ {ps : List (List Nat)}, c ∈ TL.joinL sep ps → c ∈ sep ∨ ∃ p ∈ ps, c ∈ p
  | [], h => nomatch h
  | [p], h => .inr ⟨p, by simp, h⟩
  | p :: q :: r, h => by
    have h' : c ∈ p ++ (sep ++ TL.joinL sep (q :: r)) := h
    rw [List.mem_append, List.mem_append] at h'
    rcases h' with h' | h' | h'
    · exact .inr ⟨p, by simp, h'⟩
    · exact .inl h'
    · exact (joinL_mem h').imp id fun ⟨z, hz, h⟩ => ⟨z, List.mem_cons_of_mem _ hz, h⟩
theorem joinL_len {sep : List Nat} {b m : Nat} (hs : sep.length ≤ m) : ∀ {ps : List (List Nat)}, (∀ p ∈ ps, p.length ≤ b) → (TL.joinL sep ps).length ≤ ps.length * (b + m)
  | [], _ => Nat.zero_le _
  | [p], h => by
    have := h p (by simp)
    show p.length ≤ _
    simp; omega
  | p :: q :: r, h => by
    have h1 := h p (by simp)
    have h2 := joinL_len hs (ps := q :: r) fun z hz => h z (List.mem_cons_of_mem _ hz)
    show (p ++ (sep ++ TL.joinL sep (q :: r))).length ≤ _
    rw [List.length_append, List.length_append]
    have : (p :: q :: r).length * (b + m) = (q :: r).length * (b + m) + (b + m) := by rw [List.length_cons (a := p), Nat.succ_mul]
    omega
theorem fold_rep_mem (x : Array Nat) (c : Nat) : ∀ (k : Nat) (z : Array Nat), c ∈ ((List.replicate k x).foldl (· ++ ·) z).toList → c ∈ z.toList ∨ c ∈ x.toList
  | 0, z, h => .inl h
  | k + 1, z, h => by
    rw [List.replicate_succ, List.foldl_cons] at h
    rcases fold_rep_mem x c k _ h with h | h
    · rw [Array.toList_append, List.mem_append] at h; exact h
    · exact .inr h
theorem repS_mem {s : Str} {n : Int} {c : Nat} (h : c ∈ tl (repS s n)) : c ∈ tl s := by
  unfold repS at h
  split at h
  · cases (show c ∈ ([] : List Nat) from h)
  · split at h
    · exact h
    · rcases fold_rep_mem _ _ _ _ h with h | h
      · cases (show c ∈ ([] : List Nat) from h)
      · exact h
theorem repS_len {s : Str} {n : Int} : (repS s n).length ≤ n.toNat * s.length := by
  unfold repS
  split
  · exact Nat.zero_le _
  · split
    · rename_i h1 h2
      rw [Bool.or_eq_true] at h2
      rcases h2 with h | h
      · rw [eq_of_beq h]; simp
      · rw [eq_of_beq h]; simp
    · show ((List.replicate n.toNat s.cps).foldl (· ++ ·) #[]).size ≤ _
      rw [fold_rep_size]; simp [Str.length]
theorem ixS_len (s : Str) (i : Int) : (ixS s i).length = 1 := rfl
theorem tl_ixS (s : Str) (i : Int) : tl (ixS s i) = [ix (tl s) i] := rfl
end Fw
namespace Fw
open PySem L2 Py PyProof.Rows
/-! ### bodies -/
section
variable {X : Cx} {w : Wx} {c : Cw} {Γ Γ' : List Slot} {S S' B υ : Type} [Py υ] {R : Rc} {n : S → R.ρ} {G : S → List Slot} {G' : S' → List Slot} {pos : Pos} {st : Stmt} {rest : List Stmt} {e d : Expr} {k : Bool} {r : R.ρ} {s : Slot} {t : OT}
theorem XF.gam (h : Γ = Γ') (q : XF X w c Γ' rest n G r) : XF X w c Γ rest n G r := h ▸ q
theorem XF.eq {r' : R.ρ} (h : XF X w c Γ rest n G r) (q : r = r') : XF X w c Γ rest n G r' := q ▸ h
theorem xf_of {o : Out S Empty R.ρ} (h : XO X w c Γ rest G (fun e : Empty => e.elim) o) (ho : o.fin n = r) : XF X w c Γ rest n G r := ⟨o, ho, h⟩
/-- the end, reached -/
theorem xf_end {s : S} (h : Weak Γ (G s)) (hn : n s = r) : XF X w c Γ [] n G r := ⟨.nx s, hn, xo_end h⟩
theorem xf_one (h : XS X w c Γ st G (fun e : Empty => e.elim) (Out.rt r : Out S Empty R.ρ)) : XF X w c Γ (st :: rest) n G r := ⟨.rt r, rfl, by
  have := xo_cons (k := fun s : S => Out.nx s) (rest := rest) (o1 := Out.rt r) (G := G) h (fun s hs => by cases hs)
  exact this⟩
theorem xf_nxt {s : S'} {k : S' → R.ρ} (h : XS X w c Γ st G' (fun e : Empty => e.elim) (Out.nx s : Out S' Empty R.ρ)) (hr : ∀ s', s' = s → XF X w c (G' s') rest n G (k s')) : XF X w c Γ (st :: rest) n G (bnd s k) := by
  obtain ⟨o, h1, h2⟩ := hr s rfl
  exact ⟨o, h1, xo_cons (k := fun _ => o) h fun s' hs => by injection hs with hs; subst hs; exact h2⟩
theorem xf_seq (h : XS X w c Γ st (S := Unit) (fun _ => Γ') (fun e : Empty => e.elim) (Out.nx () : Out Unit Empty R.ρ)) (hr : XF X w c Γ' rest n G r) : XF X w c Γ (st :: rest) n G r := by
  obtain ⟨o, h1, h2⟩ := hr
  exact ⟨o, h1, xo_next h h2⟩
def Out.thn {S ρ : Type} (o : Out S Empty ρ) (k : S → ρ) : ρ := match o with
  | .nx s => k s
  | .rt r => r
  | .bk s => s.elim
  | .ct s => s.elim
theorem xf_cons {o1 : Out S' Empty R.ρ} {k : S' → R.ρ} (h : XS X w c Γ st G' (fun e : Empty => e.elim) o1) (hr : ∀ s, o1 = .nx s → XF X w c (G' s) rest n G (k s)) : XF X w c Γ (st :: rest) n G (o1.thn k) := by
  cases o1 with
  | nx s =>
    obtain ⟨o, h1, h2⟩ := hr s rfl
    exact ⟨o, h1, xo_cons (k := fun _ => o) h fun s' hs => by injection hs with hs; subst hs; exact h2⟩
  | rt r => exact xf_one (S := S) (G := G) (by
      obtain ⟨t, h1, h2⟩ := h
      exact ⟨t, h1, fun F H σ E D q => h2 F H σ E D q⟩)
  | bk s => exact s.elim
  | ct s => exact s.elim
/-- if d: A, A returns; then the rest -/
theorem xf_ifx {A : List Stmt} {r1 r2 : R.ρ} (hd : XT X c Γ d k) (ha : k = true → XF X w c Γ A (S := Empty) (fun e => e.elim) (fun e => e.elim) r1) (hb : k = false → XF X w c Γ rest n G r2) :
    XF X w c Γ (.If d A [] pos :: rest) n G (if k then r1 else r2) := by
  cases k with
  | true =>
    obtain ⟨o, h1, h2⟩ := ha rfl
    refine ⟨o.up, ?_, by
      have := xo_ifx (o1 := o) (o2 := o.up) (rest := rest) (G := G) (pos := pos) hd (fun _ => h2) (fun h => by cases h)
      exact this⟩
    cases o with
    | nx s => exact s.elim
    | rt r => exact h1
    | bk s => exact s.elim
    | ct s => exact s.elim
  | false =>
    obtain ⟨o, h1, h2⟩ := hb rfl
    exact ⟨o, h1, xo_ifx (o1 := Out.rt r1) (o2 := o) hd (fun h => by cases h) (fun _ => h2)⟩
/-- if d: A else: C, the last -/
theorem xf_ife {A C : List Stmt} {r1 r2 : R.ρ} (hd : XT X c Γ d k) (ha : k = true → XF X w c Γ A n G r1) (hb : k = false → XF X w c Γ C n G r2) : XF X w c Γ [.If d A C pos] n G (if k then r1 else r2) := by
  cases k with
  | true =>
    obtain ⟨o, h1, h2⟩ := ha rfl
    exact ⟨o, h1, xo_one (xs_if (o1 := o) (o2 := o) hd (fun _ => h2) (fun h => by cases h))⟩
  | false =>
    obtain ⟨o, h1, h2⟩ := hb rfl
    exact ⟨o, h1, xo_one (xs_if (o1 := o) (o2 := o) hd (fun h => by cases h) (fun _ => h2))⟩
/-- a block begins by freezing a name for good -/
theorem xf_freeze {x : υ} (i : Nat) {oa : Option Addr} (hf : FzT t x) (h : XF X w c (Γ.set i (.fz x)) rest n G r) (hi : Γ[i]? = some (.ow oa t) := by rfl) : XF X w c Γ rest n G r := by
  obtain ⟨o, h1, h2⟩ := h
  exact ⟨o, h1, xo_freeze i hf h2 hi⟩
/-- a way that can't be -/
theorem xo_never {o : Out S B R.ρ} {GB : B → List Slot} (h : False) : XO X w c Γ rest G GB o := h.elim
theorem xf_never (h : False) : XF X w c Γ rest n G r := h.elim
end
/-! ### lists whose items are read; new lists -/
/-- how a row stands: a list, a list that is only read, a tuple -/
inductive Sk where
  | l
  | r
  | t
deriving DecidableEq
def SqM (m : Sk) (K : Fg) (H : Hp) (a : Addr) (vs : List V) : Prop := match m with
  | .l => H a = some (.lst vs)
  | .r => SqL K H a vs
  | .t => SqT K H a vs
/-- a list (or tuple), its items new or frozen -/
def XQ (X : Cx) (c : Cw) (Γ : List Slot) (sq : Sk) (e : Expr) {τ : Type} (g : τ → OT) (xs : List τ) : Prop := ∃ te, PE X e te ∧
  ∀ F H σ fp, EnvD X.K c F H σ Γ fp → ∀ Q : VK, (∀ a vs fps F' H', EnvD X.K c F' H' σ Γ fp → Ex F F' → Nw F H F' H' → SqM sq X.K H' a vs → L3 (OA X.K F' H') vs fps (xs.map g) → fps.flatten.Nodup → (∀ b ∈ fps.flatten, H b = none) → Q (.ref a) H') → te σ H Q
section
variable {X : Cx} {c : Cw} {Γ Γ' : List Slot} {τ υ : Type} [Py υ] {e a b : Expr} {t u : OT} {x : τ} {g : τ → OT} {xs ys : List τ} {pos : Pos}
theorem l3_fz {K : Fg} {F H : Hp} : ∀ {vs : List V} {zs : List υ}, Reps K F vs zs → L3 (OA K F H) vs (zs.map fun _ => []) (zs.map fun z => OT.fz z)
  | _, _, .nil => .nil
  | _, _, .cons r t => .cons (.fz r) (l3_fz t)
theorem flat_nil {α : Type} : ∀ zs : List α, (zs.map fun _ => ([] : List Addr)).flatten = []
  | [] => rfl
  | _ :: r => flat_nil r
theorem xq_fz {s : List υ} (h : XE X c Γ e s) : XQ X c Γ .l e (fun z : υ => OT.fz z) s := by
  obtain ⟨te, h1, h2⟩ := h
  refine ⟨te, h1, fun F H σ fp E Q q => h2 F H σ fp E Q fun v F' H' E' e1 e2 r => ?_⟩
  obtain ⟨p, vs, rfl, r1, r2⟩ := r
  exact q p vs _ F' H' E' e1 e2 (E'.wd.fh _ _ r1) (l3_fz r2) (by rw [flat_nil]; exact List.nodup_nil) (by rw [flat_nil]; intro b hb; cases hb)
theorem xq_rd {ζ : Type} [Py ζ] {s : ζ} [PyL ζ υ] (h : XE X c Γ e s) : XQ X c Γ .r e (fun z : υ => OT.fz z) (PyL.li s) := by
  obtain ⟨te, h1, h2⟩ := h
  refine ⟨te, h1, fun F H σ fp E Q q => h2 F H σ fp E Q fun v F' H' E' e1 e2 r => ?_⟩
  obtain ⟨p, vs, rfl, r1, r2⟩ := PyL.sq r
  exact q p vs _ F' H' E' e1 e2 (E'.wd.fh.l r1) (l3_fz r2) (by rw [flat_nil]; exact List.nodup_nil) (by rw [flat_nil]; intro b hb; cases hb)
theorem xq_tup {s : Tup υ} (h : XE X c Γ e s) : XQ X c Γ .t e (fun z : υ => OT.fz z) s.l := by
  obtain ⟨te, h1, h2⟩ := h
  refine ⟨te, h1, fun F H σ fp E Q q => h2 F H σ fp E Q fun v F' H' E' e1 e2 r => ?_⟩
  obtain ⟨p, vs, rfl, r1, r2⟩ := r
  exact q p vs _ F' H' E' e1 e2 (E'.wd.fh.t r1) (l3_fz r2) (by rw [flat_nil]; exact List.nodup_nil) (by rw [flat_nil]; intro b hb; cases hb)
theorem xq_n (h : XN X c Γ e (OT.li g xs)) : XQ X c Γ .l e g xs := by
  obtain ⟨te, h1, h2⟩ := h
  refine ⟨te, h1, fun F H σ fp E Q q => h2 F H σ fp E Q fun v F' H' l E' e1 e2 r hl => ?_⟩
  obtain ⟨p, o, vs, fps, rfl, rfl, hF, hH, ko, hc, nd⟩ := r.l3
  cases (show o = _ from ko)
  exact q p vs fps F' H' E' e1 e2 hH hc (List.nodup_cons.mp nd).2 fun b hb => hl b (List.mem_cons_of_mem _ hb)
/-- items go on standing -/
theorem l3_nw {K : Fg} {F H F' H' : Hp} {vs : List V} {fps : List (List Addr)} {ts : List OT} (r : L3 (OA K F H) vs fps ts) (e : Ex F F') (n : Nw F H F' H') : L3 (OA K F' H') vs fps ts := r.imp fun v l t _ o => o.grow e fun b hb => by
  obtain ⟨d1, u, d2⟩ := o.dom b hb
  exact ⟨Nw.none n d1 (by rw [d2]; simp), (n.h _ _ d2).trans d2.symm⟩
theorem l3_dom {K : Fg} {F H : Hp} {vs : List V} {fps : List (List Addr)} {ts : List OT} (r : L3 (OA K F H) vs fps ts) : ∀ b ∈ fps.flatten, F b = none ∧ ∃ o, H b = some o := fun b hb => by
  obtain ⟨m, hm, hbm⟩ := List.mem_flatten.mp hb
  obtain ⟨j, hj⟩ := List.getElem?_of_mem hm
  have hj2 : j < fps.length := (List.getElem?_eq_some_iff.mp hj).1
  exact (r.2.2 j _ m _ (List.getElem?_eq_getElem (by rw [r.1, ← r.2.1]; exact hj2)) hj (List.getElem?_eq_getElem (by rw [← r.2.1]; exact hj2))).dom b hbm
/-- a new list is laid, with these items -/
theorem lay_li {K : Fg} {F H : Hp} {σ : L2.St} {fp : Nat → List Addr} (E : EnvD K c F H σ Γ fp) {p : Addr} {vs : List V} {fps : List (List Addr)} {ts : List OT} (hp : H p = none) (r : L3 (OA K F H) vs fps ts) (nd : fps.flatten.Nodup) :
    EnvD K c F (upd H p (.lst vs)) σ Γ fp ∧ Nw F H F (upd H p (.lst vs)) ∧ OA K F (upd H p (.lst vs)) (.ref p) (p :: fps.flatten) (.nd .lst ts) := by
  have hf := E.ff hp
  have np : p ∉ fps.flatten := fun h => by
    obtain ⟨_, o, d⟩ := l3_dom r p h
    rw [hp] at d; cases d
  refine ⟨E.grow (Ex.refl _) (E.wd.fh.upd hf) (Ex.new hp) fun b h => .inl h, ⟨Ex.new hp, fun b h => .inl h⟩, OA.mk hf upd_same rfl (r.imp fun v l t hl o => o.grow (Ex.refl _) fun b hb => ⟨(o.dom b hb).1, upd_ne ?_⟩) (List.nodup_cons.mpr ⟨np, nd⟩)⟩
  rintro rfl
  exact np (List.mem_flatten.mpr ⟨l, hl, hb⟩)
/-- a row of things -/
def XNs (X : Cx) (c : Cw) (Γ : List Slot) (es : List Expr) (ts : List OT) : Prop := ∃ t, PA X es t ∧
  ∀ F H σ fp, EnvD X.K c F H σ Γ fp → ∀ Q : List V → Hp → Prop, (∀ vs fps F' H', EnvD X.K c F' H' σ Γ fp → Ex F F' → Nw F H F' H' → L3 (OA X.K F' H') vs fps ts → fps.flatten.Nodup → (∀ b ∈ fps.flatten, H b = none) → Q vs H') → t σ H Q
theorem xns_nil : XNs X c Γ [] [] := ⟨_, pa_nil, fun F H σ fp E Q q => q [] [] F H E (Ex.refl _) Nw.refl .nil List.nodup_nil fun b hb => by cases hb⟩
theorem xns_cons {es : List Expr} {ts : List OT} (h : XN X c Γ e t) (hr : XNs X c Γ es ts) (hs : starEach (e :: es) X.env = (false, eval e X.env) :: starEach es X.env := by rfl) : XNs X c Γ (e :: es) (t :: ts) := by
  obtain ⟨te, h1, h2⟩ := h
  obtain ⟨tr, h3, h4⟩ := hr
  refine ⟨_, pa_cons h1 h3 hs, fun F H σ fp E Q q => h2 F H σ fp E _ fun v F1 H1 l E1 e1 n1 r1 hl => h4 F1 H1 σ fp E1 _ fun vs fps F2 H2 E2 e2 n2 r2 nd hf => ?_⟩
  have r1' : OA X.K F2 H2 v l t := r1.grow e2 fun b hb => by
    obtain ⟨d1, u, d2⟩ := r1.dom b hb
    exact ⟨Nw.none n2 d1 (by rw [d2]; simp), (n2.h _ _ d2).trans d2.symm⟩
  refine q (v :: vs) (l :: fps) F2 H2 E2 (e1.trans e2) (n1.trans n2) (.cons r1' r2) ?_ ?_
  · rw [List.flatten_cons]
    refine List.nodup_append.mpr ⟨r1.nodup, nd, fun b hb c hc e => ?_⟩
    subst e
    obtain ⟨_, u, d⟩ := r1.dom b hb
    rw [hf b hc] at d; cases d
  · intro b hb
    rw [List.flatten_cons] at hb
    rcases List.mem_append.mp hb with h | h
    · exact hl b h
    · cases z : H b with
      | none => rfl
      | some o => have := hf b h; rw [n1.h _ _ z] at this; cases this
/-- [..] -/
theorem xn_lst {es : List Expr} {ts : List OT} (h : XNs X c Γ es ts) (hl : ts.length ≤ 100000) : XN X c Γ (.List es pos) (.nd .lst ts) := by
  obtain ⟨te, h1, h2⟩ := h
  refine ⟨_, pe_lst h1, fun F H σ fp E Q q => h2 F H σ fp E _ fun vs fps F1 H1 E1 e1 n1 r1 nd hf => ⟨sz _ (by rw [r1.1]; exact hl), fun p hp => ?_⟩⟩
  obtain ⟨g1, g2, g3⟩ := lay_li E1 hp r1 nd
  refine q _ _ _ _ g1 e1 (n1.trans g2) g3 fun b hb => ?_
  rcases List.mem_cons.mp hb with rfl | hb
  · cases z : H b with
    | none => rfl
    | some o => rw [n1.h _ _ z] at hp; cases hp
  · exact hf b hb
theorem l3_cut {P : V → List Addr → OT → Prop} {vs : List V} {fps : List (List Addr)} {zs : List τ} (r : L3 P vs fps (zs.map g)) (lo hi : Option Int) : ∃ fps', L3 P (cutV vs lo hi) fps' ((cutL zs lo hi).map g) ∧ fps'.Sublist fps := by
  have e : vs.length = zs.length := by rw [r.1]; simp
  refine ⟨(fps.drop (HT.sIx zs.length 0 lo)).take (HT.sIx zs.length zs.length hi - HT.sIx zs.length 0 lo), ?_, ((List.take_sublist _ _).trans (List.drop_sublist _ _))⟩
  unfold cutV cutL
  rw [e, List.map_take, List.map_drop]
  exact (r.drop _).take _
theorem flat_sub : ∀ {l m : List (List Addr)}, l.Sublist m → l.flatten.Sublist m.flatten
  | _, _, .slnil => .slnil
  | _, _, .cons a h => by rw [List.flatten_cons]; exact (flat_sub h).trans (List.sublist_append_right _ _)
  | _, _, .cons₂ a h => by rw [List.flatten_cons, List.flatten_cons]; exact (List.Sublist.refl a).append (flat_sub h)
/-- xs[lo:hi], a new list -/
theorem xn_slice {lo hi : Option Expr} {i j : Option Int} {p2 : Pos} {m : Sk} (ha : XQ X c Γ m a g xs) (h1 : XP X c Γ lo i) (h2 : XP X c Γ hi j) (hm : m ≠ .t := by decide) : XN X c Γ (.Subscript a (.Slice lo hi none p2) pos) (OT.li g (cutL xs i j)) := by
  obtain ⟨t, a1, a2⟩ := ha
  obtain ⟨u, b1, b2⟩ := h1
  obtain ⟨w, c1, c2⟩ := h2
  refine ⟨_, pe_slice sl_list a1 b1 c1, fun F H σ fp E Q q => a2 F H σ fp E _ fun p vs fps F1 H1 E1 e1 n1 sq r1 nd hf => b2 F1 H1 σ fp E1 _ fun F2 H2 E2 e2 g2 => c2 F2 H2 σ fp E2 _ fun F3 H3 E3 e3 g3 => ?_⟩
  refine ⟨p, vs, rfl, (g2.h.trans g3.h).l (by cases m with | l => exact sq_of sq | r => exact sq | t => exact absurd rfl hm), fun l hl => ?_⟩
  obtain ⟨fps', r2, sb⟩ := l3_cut (l3_nw (l3_nw r1 e2 g2) e3 g3) i j
  obtain ⟨k1, k2, k3⟩ := lay_li E3 hl r2 (nd.sublist (flat_sub sb))
  refine q _ _ _ _ k1 ((e1.trans e2).trans e3) (((n1.trans g2).trans g3).trans k2) k3 fun b hb => ?_
  rcases List.mem_cons.mp hb with rfl | hb
  · cases z : H b with
    | none => rfl
    | some o => rw [((n1.trans g2).trans g3).h _ _ z] at hl; cases hl
  · exact hf b ((flat_sub sb).subset hb)
/-- xs + ys, a new list -/
theorem xn_cat (ha : XQ X c Γ .l a g xs) (hb : XQ X c Γ .l b g ys) (h : xs.length + ys.length ≤ 100000) : XN X c Γ (.BinOp a .Add b pos) (OT.li g (xs ++ ys)) := by
  obtain ⟨t, a1, a2⟩ := ha
  obtain ⟨u, b1, b2⟩ := hb
  refine ⟨_, pe_op op_cat a1 b1, fun F H σ fp E Q q => a2 F H σ fp E _ fun p vs fps F1 H1 E1 e1 n1 sq r1 nd hf => b2 F1 H1 σ fp E1 _ fun p' ws gps F2 H2 E2 e2 n2 sq2 r2 nd2 hf2 => ?_⟩
  have r1' := l3_nw r1 e2 n2
  refine ⟨p, p', vs, ws, rfl, rfl, n2.h _ _ sq, sq2, sz _ (by rw [r1.1, r2.1]; simpa using h), fun l hl => ?_⟩
  have r3 := r1'.app r2
  have fl : (fps ++ gps).flatten = fps.flatten ++ gps.flatten := by simp
  have nd3 : (fps ++ gps).flatten.Nodup := by
    rw [fl]
    refine List.nodup_append.mpr ⟨nd, nd2, fun b hb c hc e => ?_⟩
    subst e
    obtain ⟨_, o, d⟩ := l3_dom r1 b hb
    rw [hf2 b hc] at d; cases d
  obtain ⟨k1, k2, k3⟩ := lay_li E2 hl r3 nd3
  rw [← List.map_append] at k3
  refine q _ _ _ _ k1 (e1.trans e2) ((n1.trans n2).trans k2) k3 fun b hb => ?_
  have old : ∀ b, H1 b = none → H b = none := fun b h1 => by
    cases z : H b with
    | none => rfl
    | some o => rw [n1.h _ _ z] at h1; cases h1
  rcases List.mem_cons.mp hb with rfl | hb
  · cases z : H b with
    | none => rfl
    | some o => rw [(n1.trans n2).h _ _ z] at hl; cases hl
  · rw [fl] at hb
    rcases List.mem_append.mp hb with h | h
    · exact hf b h
    · exact old b (hf2 b h)
/-- list(xs), a new list -/
theorem xn_list {sq : Sk} {p : Pos} (hm : X.mg "list" = none) (ha : XQ X c Γ sq e g xs) (hg : Gl X "list" := by rfl) (hs : starEach [e] X.env = [(false, eval e X.env)] := by rfl) : XN X c Γ (.Call (.Name "list" p) [e] [] pos) (OT.li g xs) := by
  obtain ⟨t, h1, h2⟩ := ha
  refine ⟨_, pe_callTy call_list_of hg hm (by decide +kernel) (pa_cons h1 pa_nil hs) (by decide) (by decide) hs rfl, fun F H σ fp E Q q => h2 F H σ fp E _ fun ad vs fps F1 H1 E1 e1 n1 sq' r1 nd hf => ?_⟩
  refine ⟨ad, vs, rfl, (by cases sq with | l => exact .inl (sq_of sq') | r => exact .inl sq' | t => exact .inr sq'), fun l hl => ?_⟩
  obtain ⟨k1, k2, k3⟩ := lay_li E1 hl r1 nd
  refine q _ _ _ _ k1 e1 (n1.trans k2) k3 fun b hb => ?_
  rcases List.mem_cons.mp hb with rfl | hb
  · cases z : H b with
    | none => rfl
    | some o => rw [n1.h _ _ z] at hl; cases hl
  · exact hf b hb
/-- a frozen-item list rule's answer as a new list -/
theorem rep_list_nd {K : Fg} {F H : Hp} {p : Addr} {vs : List V} {zs : List υ} (hF : F p = none) (hp : H p = some (.lst vs)) (r : Reps K F vs zs) : OA K F H (.ref p) [p] (ol zs) := by
  have := OA.mk (K := K) (F := F) (H := H) (fps := zs.map fun _ => []) hF hp (k := .lst) rfl (l3_fz (H := H) r) (by rw [flat_nil]; simp)
  rwa [flat_nil] at this
theorem reps_l3 {K : Fg} {F H : Hp} : ∀ {zs : List υ} {vs : List V} {fps : List (List Addr)}, L3 (OA K F H) vs fps (zs.map fun z => OT.fz z) → Reps K F vs zs
  | [], vs, fps, r => by
    have := r.1
    cases vs with
    | nil => exact .nil
    | cons => simp at this
  | z :: zs, vs, fps, r => by
    have q1 := r.1; have q2 := r.2.1
    cases vs with
    | nil => simp at q1
    | cons v vs => cases fps with
      | nil => simp at q2
      | cons l fps =>
        have := r.head
        cases this with
        | fz r0 => exact .cons r0 (reps_l3 r.tail)
/-- xs * k, a new list of frozen things -/
theorem xn_rep {zs : List υ} {k : Int} (ha : XQ X c Γ .l a (fun z : υ => OT.fz z) zs) (hb : XE X c Γ b k) (h : k ≤ 100000 ∧ zs.length * k.toNat ≤ 100000) (h0 : -100000 ≤ k) : XN X c Γ (.BinOp a .Mult b pos) (ol (List.replicate k.toNat zs).flatten) := by
  obtain ⟨t, a1, a2⟩ := ha
  obtain ⟨u, b1, b2⟩ := hb
  refine ⟨_, pe_op op_rep a1 b1, fun F H σ fp E Q q => a2 F H σ fp E _ fun p vs fps F1 H1 E1 e1 n1 sq r1 nd hf => b2 F1 H1 σ fp E1 _ fun v F2 H2 E2 e2 n2 r2 => ?_⟩
  refine ⟨p, k, vs, rfl, r2, n2.h _ _ sq, by omega, by omega, sz _ (by rw [r1.1]; simpa using h.2), fun l hl => ?_⟩
  have rr : Reps X.K F2 vs zs := reps_l3 (l3_nw r1 e2 n2)
  have hf := E2.ff hl
  refine q _ F2 _ [l] (E2.grow (Ex.refl _) (E2.wd.fh.upd hf) (Ex.new hl) fun b h => .inl h) (e1.trans e2) ((n1.trans n2).trans ⟨Ex.new hl, fun b h => .inl h⟩) (rep_list_nd hf upd_same (rep_flat rr _)) fun b hb => ?_
  cases List.mem_singleton.mp hb
  cases z : H l with
  | none => rfl
  | some o => rw [(n1.trans n2).h _ _ z] at hl; cases hl
end
end Fw
/-! places; calls whose arguments may change -/
namespace Fw
open PySem L2 Py PyProof.Rows
def OT.isNd : OT → Bool
  | .nd _ _ => true
  | _ => false
/-- an argument as it is handed in: frozen data, or a place in an owned slot -/
inductive CA : Type 1 where
  | fz {τ : Type} [inst : Py τ] (x : τ)
  | pl (i : Nat) (p : List Nat) (oa : Option Addr) (t u : OT)
def CA.d : CA → ArgD
  | @CA.fz _ _ x => .fz x
  | .pl _ _ _ _ u => .ow u
def CA.ix : CA → Option Nat
  | @CA.fz _ _ _ => none
  | .pl i _ _ _ _ => some i
def CAok (K : Fg) (F H : Hp) (σ : L2.St) (v : V) : CA → Prop
  | @CA.fz _ _ x => rep K F v x
  | .pl i p _ _ _ => ∃ v0, σ[i]? = some (some v0) ∧ follow H v0 p = some v
def caOk (Γ : List Slot) : List CA → Prop
  | [] => True
  | @CA.fz _ _ _ :: r => caOk Γ r
  | .pl i p oa t u :: r => (Γ[i]? = some (.ow oa t) ∧ t.get? p = some u ∧ u.isNd = true) ∧ caOk Γ r
def caUp : List Slot → List CA → List (Option OT) → List Slot
  | Γ, .pl i p oa t _ :: as, some u' :: ds => caUp (Γ.set i (.ow oa (t.put p u'))) as ds
  | Γ, .pl _ _ _ _ _ :: as, none :: ds => caUp Γ as ds
  | Γ, @CA.fz _ _ _ :: as, _ :: ds => caUp Γ as ds
  | Γ, [], _ => Γ
  | Γ, _ :: _, [] => Γ
theorem caOk_get {Γ : List Slot} : ∀ {as : List CA} {k i : Nat} {p : List Nat} {oa : Option Addr} {t u : OT}, caOk Γ as → as[k]? = some (.pl i p oa t u) → Γ[i]? = some (.ow oa t) ∧ t.get? p = some u ∧ u.isNd = true
  | [], k, i, p, oa, t, u, h, e => by simp at e
  | @CA.fz _ _ _ :: r, 0, i, p, oa, t, u, h, e => by simp at e
  | .pl i1 p1 oa1 t1 u1 :: r, 0, i, p, oa, t, u, h, e => by
    have e : CA.pl i1 p1 oa1 t1 u1 = CA.pl i p oa t u := by simpa only [List.getElem?_cons_zero, Option.some.injEq] using e
    cases e; exact h.1
  | @CA.fz _ _ _ :: r, k + 1, i, p, oa, t, u, h, e => caOk_get (as := r) h (by simpa using e)
  | .pl _ _ _ _ _ :: r, k + 1, i, p, oa, t, u, h, e => caOk_get (as := r) h.2 (by simpa using e)
theorem ix_inj : ∀ {as : List CA}, (as.filterMap CA.ix).Nodup → ∀ {k k' i : Nat} {a a' : CA}, as[k]? = some a → as[k']? = some a' → a.ix = some i → a'.ix = some i → k = k'
  | [], _, k, k', i, a, a', h, _, _, _ => by simp at h
  | b :: r, nd, k, k', i, a, a', h1, h2, e1, e2 => by
    have mem : ∀ {j : Nat} {a : CA}, r[j]? = some a → a.ix = some i → i ∈ r.filterMap CA.ix := fun h e => List.mem_filterMap.mpr ⟨_, List.mem_of_getElem? h, e⟩
    have nd' : (r.filterMap CA.ix).Nodup ∧ (b.ix = some i → i ∉ r.filterMap CA.ix) := by
      cases hb : b.ix with
      | none => rw [List.filterMap_cons_none hb] at nd; exact ⟨nd, fun h => by cases h⟩
      | some j =>
        rw [List.filterMap_cons_some hb, List.nodup_cons] at nd
        exact ⟨nd.2, fun h => by cases h; exact nd.1⟩
    cases k with
    | zero =>
      have h1 : b = a := by simpa using h1
      subst h1
      cases k' with
      | zero => rfl
      | succ k' => exact absurd (mem (by simpa using h2) e2) (nd'.2 e1)
    | succ k =>
      cases k' with
      | zero =>
        have h2 : b = a' := by simpa using h2
        subst h2
        exact absurd (mem (by simpa using h1) e1) (nd'.2 e2)
      | succ k' => exact congrArg (· + 1) (ix_inj nd'.1 (k := k) (k' := k') (a := a) (a' := a') (by simpa using h1) (by simpa using h2) e1 e2)
theorem caUp_len : ∀ {as : List CA} {Γ : List Slot} {ds : List (Option OT)}, (caUp Γ as ds).length = Γ.length
  | [], Γ, [] => rfl
  | [], Γ, _ :: _ => rfl
  | @CA.fz _ _ _ :: as, Γ, [] => rfl
  | .pl _ _ _ _ _ :: as, Γ, [] => rfl
  | @CA.fz _ _ _ :: as, Γ, none :: ds => by unfold caUp; exact caUp_len
  | @CA.fz _ _ _ :: as, Γ, some _ :: ds => by unfold caUp; exact caUp_len
  | .pl _ _ _ _ _ :: as, Γ, none :: ds => by unfold caUp; exact caUp_len
  | .pl i p oa t u :: as, Γ, some u' :: ds => by unfold caUp; exact caUp_len.trans (by simp)
/-- slots that no argument names stay -/
theorem caUp_ne : ∀ {as : List CA} {Γ : List Slot} {ds : List (Option OT)} {j : Nat}, (∀ (k : Nat) a, as[k]? = some a → a.ix ≠ some j) → (caUp Γ as ds)[j]? = Γ[j]?
  | [], Γ, ds, j, h => by unfold caUp; rfl
  | @CA.fz _ _ _ :: as, Γ, [], j, h => rfl
  | .pl _ _ _ _ _ :: as, Γ, [], j, h => rfl
  | @CA.fz _ _ _ :: as, Γ, none :: ds, j, h => by unfold caUp; exact caUp_ne fun k a ha => h (k + 1) a (by simpa using ha)
  | @CA.fz _ _ _ :: as, Γ, some _ :: ds, j, h => by unfold caUp; exact caUp_ne fun k a ha => h (k + 1) a (by simpa using ha)
  | .pl _ _ _ _ _ :: as, Γ, none :: ds, j, h => by unfold caUp; exact caUp_ne fun k a ha => h (k + 1) a (by simpa using ha)
  | .pl i p oa t u :: as, Γ, some u' :: ds, j, h => by
    unfold caUp
    rw [caUp_ne fun k a ha => h (k + 1) a (by simpa using ha), List.getElem?_set_ne]
    rintro rfl
    exact h 0 _ rfl rfl
theorem caUp_eq : ∀ {as : List CA} {Γ : List Slot} {ds : List (Option OT)} {k i : Nat} {p : List Nat} {oa : Option Addr} {t u u' : OT}, (as.filterMap CA.ix).Nodup → i < Γ.length → as[k]? = some (.pl i p oa t u) → ds[k]? = some (some u') → (caUp Γ as ds)[i]? = some (.ow oa (t.put p u'))
  | [], Γ, ds, k, i, p, oa, t, u, u', _, _, h, _ => by simp at h
  | a :: as, Γ, [], k, i, p, oa, t, u, u', _, _, _, h => by simp at h
  | a :: as, Γ, d :: ds, 0, i, p, oa, t, u, u', nd, hi, h1, h2 => by
    have h1 : a = .pl i p oa t u := by simpa using h1
    have h2 : d = some u' := by simpa using h2
    subst h1; subst h2
    unfold caUp
    rw [caUp_ne, List.getElem?_set_self hi]
    intro k a ha e
    have := ix_inj nd (k := 0) (k' := k + 1) (a := .pl i p oa t u) (a' := a) rfl (by simpa using ha) rfl e
    omega
  | a :: as, Γ, d :: ds, k + 1, i, p, oa, t, u, u', nd, hi, h1, h2 => by
    have nd' : (as.filterMap CA.ix).Nodup := by
      cases hb : a.ix with
      | none => rwa [List.filterMap_cons_none hb] at nd
      | some j =>
        rw [List.filterMap_cons_some hb, List.nodup_cons] at nd
        exact nd.2
    have h1 : as[k]? = some (.pl i p oa t u) := by simpa using h1
    have h2 : ds[k]? = some (some u') := by simpa using h2
    cases a with
    | fz x => 
      cases d with
      | none => unfold caUp; exact caUp_eq nd' hi h1 h2
      | some z => unfold caUp; exact caUp_eq nd' hi h1 h2
    | pl => 
      cases d with
      | none => unfold caUp; exact caUp_eq nd' hi h1 h2
      | some z => unfold caUp; exact caUp_eq nd' (by simpa using hi) h1 h2
inductive Pd (R : V → CA → Prop) : List V → List CA → Prop where
  | nil : Pd R [] []
  | cons {v : V} {a : CA} {vs : List V} {as : List CA} (h : R v a) (t : Pd R vs as) : Pd R (v :: vs) (a :: as)
theorem Pd.length {R : V → CA → Prop} : ∀ {vs : List V} {as : List CA}, Pd R vs as → vs.length = as.length
  | _, _, .nil => rfl
  | _, _, .cons _ t => by simp [Pd.length t]
theorem paired_get {R : V → CA → Prop} : ∀ {xs : List V} {ys : List CA}, Pd R xs ys → ∀ {k : Nat} {y : CA}, ys[k]? = some y → ∃ x, xs[k]? = some x ∧ R x y
  | _, _, .nil, k, y, h => by simp at h
  | _, _, .cons r t, 0, y, h => by simp at h; subst h; exact ⟨_, rfl, r⟩
  | _, _, .cons r t, k + 1, y, h => by
    obtain ⟨x, h1, h2⟩ := paired_get t (k := k) (by simpa using h)
    exact ⟨x, by simpa using h1, h2⟩
section
variable {K : Fg} {c : Cw} {F H : Hp} {σ : L2.St} {Γ : List Slot} {fp : Nat → List Addr}
/-- what is known of an argument at the call -/
def Fc (K : Fg) (F H : Hp) (σ : L2.St) (fp : Nat → List Addr) (v : V) (l2 l1 : List Addr) : CA → Prop
  | @CA.fz _ _ x => l2 = [] ∧ l1 = [] ∧ rep K F v x
  | .pl i p oa t u => ∃ v0 w, v = .ref w ∧ σ[i]? = some (some v0) ∧ OA K F H v l2 u ∧ (fp i).Perm (l2 ++ l1) ∧ (∀ a, oa = some a → v0 = .ref a) ∧
      ∀ F' H' l2' u', Ex F F' → (∀ b ∈ l1, F' b = none ∧ H' b = H b) → OA K F' H' v l2' u' → (∀ b ∈ l2', b ∉ l1) → ∃ l', OA K F' H' v0 l' (t.put p u') ∧ l'.Perm (l2' ++ l1)
theorem fc_of (E : EnvD K c F H σ Γ fp) {v : V} {a : CA} (h : CAok K F H σ v a) (hg : ∀ i p oa t u, a = .pl i p oa t u → Γ[i]? = some (.ow oa t) ∧ t.get? p = some u ∧ u.isNd = true) : ∃ l2 l1, Fc K F H σ fp v l2 l1 a := by
  cases a with
  | fz x => exact ⟨[], [], rfl, rfl, h⟩
  | pl i p oa t u =>
    obtain ⟨g1, g2, g3⟩ := hg i p oa t u rfl
    obtain ⟨v0, h1, h2⟩ := h
    obtain ⟨v0', k1, k2, k3⟩ := E.geto g1
    rw [h1] at k1; cases k1
    obtain ⟨w, l2, l1, f1, f2, f3, f4⟩ := k2.focus g2
    rw [h2] at f1; cases f1
    have hw : ∃ a, v = .ref a := by
      cases f2 with
      | fz r => cases g3
      | hole => cases g3
      | nd => exact ⟨_, rfl⟩
    obtain ⟨a, rfl⟩ := hw
    exact ⟨l2, l1, v0, a, rfl, h1, f2, f3, k3, f4⟩
def adr (vs : List V) (k : Nat) : Addr := match vs[k]? with
  | some (.ref a) => a
  | _ => 0
/-- the callee's slots, and how what it leaves is taken back -/
theorem call_env (E : EnvD K c F H σ Γ fp) {vs : List V} {as : List CA} (hp : Pd (CAok K F H σ) vs as) (hg : caOk Γ as) (nd : (as.filterMap CA.ix).Nodup) :
    ∃ l2 : Nat → List Addr, EnvD K (cwOf F H l2) F H (vs.map some) (argSl (adr vs) 0 (as.map CA.d)) l2 ∧ (∀ k b, b ∈ l2 k → ∃ j, b ∈ fp j) ∧ ((∀ a ∈ as, a.ix = none) → l2 = fun _ => []) ∧
      ∀ F' H' v ds r fp', ds.map Option.isSome = (as.map CA.d).map ArgD.isOw → EnvD K (cwOf F H l2) F' H' (vs.map some ++ [some v]) (outSl (adr vs) 0 ds ++ [r]) fp' →
        ∃ fp2, EnvD K c F' H' σ (caUp Γ as ds) fp2 ∧ r.ok K F' H' (some v) (fp' vs.length) ∧ ∀ b ∈ fp' vs.length, c.al b ∧ ∀ j, b ∉ fp2 j := by
  have hlen : vs.length = as.length := Pd.length hp
  have ex : ∀ k : Nat, ∃ l2 l1 : List Addr, (∀ v a, vs[k]? = some v → as[k]? = some a → Fc K F H σ fp v l2 l1 a) ∧ (as.length ≤ k → l2 = [] ∧ l1 = []) := fun k => by
    by_cases hk : k < as.length
    · obtain ⟨v, h1, h2⟩ := paired_get hp (List.getElem?_eq_getElem hk)
      obtain ⟨l2, l1, h3⟩ := fc_of E h2 fun i p oa t u e => caOk_get hg (by rw [List.getElem?_eq_getElem hk, e])
      refine ⟨l2, l1, fun v' a' q1 q2 => ?_, fun h => by omega⟩
      rw [h1] at q1; cases q1
      rw [List.getElem?_eq_getElem hk] at q2; cases q2
      exact h3
    · refine ⟨[], [], ⟨fun v a q1 q2 => ?_, fun _ => ⟨rfl, rfl⟩⟩⟩
      rw [List.getElem?_eq_none (by omega)] at q2; cases q2
  obtain ⟨l2, ex⟩ := Classical.skolem.mp ex
  obtain ⟨l1, ex⟩ := Classical.skolem.mp ex
  have fcs : ∀ {k : Nat} {v : V} {a : CA}, vs[k]? = some v → as[k]? = some a → Fc K F H σ fp v (l2 k) (l1 k) a := fun h1 h2 => (ex _).1 _ _ h1 h2
  -- an address of an argument: the argument is a place
  have own : ∀ {k b}, b ∈ l2 k ∨ b ∈ l1 k → ∃ (i : Nat) (p : List Nat) (oa : Option Addr) (t u : OT) (v : V), as[k]? = some (CA.pl i p oa t u) ∧ vs[k]? = some v ∧ b ∈ fp i := fun {k b} hb => by
    by_cases hk : k < as.length
    · obtain ⟨v, h1, _⟩ := paired_get hp (List.getElem?_eq_getElem hk)
      have h2 : as[k]? = some as[k] := List.getElem?_eq_getElem hk
      have h3 := fcs h1 h2
      cases ha : as[k] with
      | fz x =>
        rw [ha] at h3
        obtain ⟨e1, e2, _⟩ := h3
        rw [e1, e2] at hb
        rcases hb with h | h <;> cases h
      | pl i p oa t u =>
        rw [ha] at h3
        obtain ⟨v0, w, e1, e2, e3, e4, _⟩ := h3
        exact ⟨i, p, oa, t, u, v, by rw [h2, ha], h1, e4.mem_iff.mpr (by rcases hb with h | h <;> simp [h])⟩
    · obtain ⟨e1, e2⟩ := (ex k).2 (by omega)
      rw [e1, e2] at hb
      rcases hb with h | h <;> cases h
  have uniq : ∀ {k k' b}, (b ∈ l2 k ∨ b ∈ l1 k) → (b ∈ l2 k' ∨ b ∈ l1 k') → k = k' := fun h1 h2 => by
    obtain ⟨i, p, oa, t, u, v, a1, a2, a3⟩ := own h1
    obtain ⟨i', p', oa', t', u', v', b1, b2, b3⟩ := own h2
    have := E.dis i i' _ a3 b3
    subst this
    exact ix_inj nd a1 b1 rfl rfl
  have nd12 : ∀ {k b}, b ∈ l2 k → b ∉ l1 k := fun {k b} h1 h2 => by
    obtain ⟨i, p, oa, t, u, v, a1, a2, a3⟩ := own (.inl h1)
    obtain ⟨v0, w, e1, e2, e3, e4, _⟩ := fcs a2 a1
    have g := caOk_get hg a1
    obtain ⟨_, _, k2, _⟩ := E.geto g.1
    exact (List.nodup_append.mp (e4.nodup_iff.mp k2.nodup)).2.2 b h1 b h2 rfl
  refine ⟨l2, ⟨⟨Ex.refl _, E.wd.fh, fun b o _ h => h, fun b h => .inl h⟩, by simp [argSl_len, hlen], fun k s hs => ?_, fun j k b h1 h2 => uniq (.inl h1) (.inl h2), fun k b h => .inl ⟨k, h⟩, fun k h => ?_⟩, fun k b hb => ?_, fun hn => ?_, fun F' H' v ds r fp' hsh E' => ?_⟩
  · rw [argSl_get, List.getElem?_map] at hs
    by_cases hk : k < as.length
    · rw [List.getElem?_eq_getElem hk] at hs
      obtain ⟨v, h1, _⟩ := paired_get hp (List.getElem?_eq_getElem hk)
      have h3 := fcs h1 (List.getElem?_eq_getElem hk)
      refine ⟨some v, by simp [h1], ?_⟩
      cases ha : as[k] with
      | fz x =>
        rw [ha] at hs h3
        obtain ⟨e1, e2, e3⟩ := h3
        have hs : Slot.fz x = s := by simpa [CA.d, ArgD.slot] using hs
        subst hs
        exact ⟨e1, v, rfl, e3⟩
      | pl i p oa t u =>
        rw [ha] at hs h3
        obtain ⟨v0, w, e1, e2, e3, e4, _⟩ := h3
        have hs : Slot.ow (some (adr vs (0 + k))) u = s := by simpa [CA.d, ArgD.slot] using hs
        subst hs
        refine ⟨v, rfl, e3, fun a ha => ?_⟩
        cases ha
        rw [Nat.zero_add]
        unfold adr
        rw [h1, e1]
    · rw [List.getElem?_eq_none (by omega)] at hs; cases hs
  · rw [argSl_len, List.length_map] at h
    exact ((ex k).2 h).1
  · obtain ⟨i, _, _, _, _, _, _, _, h⟩ := own (.inl hb)
    exact ⟨i, h⟩
  · funext k
    cases q : l2 k with
    | nil => rfl
    | cons b r =>
      obtain ⟨i, p, oa, t, u, v, a1, _⟩ := own (k := k) (b := b) (.inl (by rw [q]; simp))
      have := hn _ (List.mem_of_getElem? a1)
      cases this
  · have dl : ds.length = as.length := by simpa using congrArg List.length hsh
    have notW : ∀ {k b}, b ∈ l1 k → ¬ (cwOf F H l2).W b := fun h1 ⟨j, h2⟩ => by
      have := uniq (.inl h2) (.inr h1)
      subst this
      exact nd12 h2 h1
    have inH : ∀ {k b}, (b ∈ l2 k ∨ b ∈ l1 k) → F b = none ∧ ∃ o, H b = some o := fun h => by
      obtain ⟨i, _, _, _, _, _, _, _, h⟩ := own h
      exact E.dom h
    have alW : ∀ {b}, (cwOf F H l2).al b → (∃ (i : Nat) (p : List Nat) (oa : Option Addr) (t u : OT), (∃ k : Nat, as[k]? = some (CA.pl i p oa t u)) ∧ b ∈ fp i) ∨ H b = none := fun h => by
      rcases h with ⟨k, h⟩ | h
      · obtain ⟨i, p, oa, t, u, v, a1, _, a3⟩ := own (.inl h)
        exact .inl ⟨i, p, oa, t, u, ⟨k, a1⟩, a3⟩
      · exact .inr h
    -- each place, behind the call
    have back : ∀ i : Nat, ∃ l' : List Addr, (∀ (k : Nat) p oa t u, as[k]? = some (CA.pl i p oa t u) → ∃ v0 u', ds[k]? = some (some u') ∧ σ[i]? = some (some v0) ∧ OA K F' H' v0 l' (t.put p u') ∧ (∀ a, oa = some a → v0 = .ref a) ∧ l'.Perm (fp' k ++ l1 k)) ∧ ((∀ (k : Nat) p oa t u, as[k]? ≠ some (CA.pl i p oa t u)) → l' = fp i) := fun i => by
      classical
      by_cases hi : ∃ (k : Nat) (p : List Nat) (oa : Option Addr) (t u : OT), as[k]? = some (CA.pl i p oa t u)
      · obtain ⟨k, p, oa, t, u, ha⟩ := hi
        have hk : k < as.length := (List.getElem?_eq_some_iff.mp ha).1
        obtain ⟨v1, h1, _⟩ := paired_get hp ha
        obtain ⟨v0, w, e1, e2, e3, e4, e5, e6⟩ := fcs h1 ha
        have hd : ∃ u', ds[k]? = some (some u') := by
          have := congrArg (fun l => l[k]?) hsh
          simp only [List.getElem?_map, ha] at this
          rw [List.getElem?_eq_getElem (by omega)] at this
          cases q : ds[k] with
          | none => rw [q] at this; cases this
          | some u' => exact ⟨u', by rw [List.getElem?_eq_getElem (by omega), q]⟩
        obtain ⟨u', hd⟩ := hd
        have hs : (outSl (adr vs) 0 ds ++ [r])[k]? = some (.ow (some (adr vs (0 + k))) u') := by
          rw [List.getElem?_append_left (by rw [outSl_len]; omega), outSl_get, hd]; rfl
        obtain ⟨x, q1, q2, q3⟩ := E'.geto hs
        have hx : x = v1 := by
          rw [List.getElem?_append_left (by simp; omega), List.getElem?_map, h1] at q1
          simpa using q1.symm
        subst hx
        obtain ⟨l', z1, z2⟩ := e6 F' H' (fp' k) u' E'.wd.f0 (fun b hb => by
          obtain ⟨d1, o, d2⟩ := inH (.inr hb)
          refine ⟨?_, (E'.wd.keep b o (notW hb) d2).trans d2.symm⟩
          cases q : F' b with
          | none => rfl
          | some y =>
            rcases E'.wd.new b (by rw [q]; simp) with z | z | z
            · exact absurd d1 z
            · exact absurd z (notW hb)
            · rw [show H b = none from z] at d2; cases d2) q2 (fun b hb hb1 => by
          obtain ⟨d1, o, d2⟩ := inH (.inr hb1)
          rcases E'.al k b hb with z | z
          · exact notW hb1 z
          · rw [show H b = none from z] at d2; cases d2)
        refine ⟨l', fun k2 p2 oa2 t2 u2 ha2 => ?_, fun h => absurd ha (h _ _ _ _ _)⟩
        have := ix_inj nd ha ha2 rfl rfl
        subst this
        rw [ha] at ha2; cases ha2
        exact ⟨v0, u', hd, e2, z1, e5, z2⟩
      · refine ⟨fp i, fun k p oa t u ha => absurd ⟨k, p, oa, t, u, ha⟩ hi, fun _ => rfl⟩
    obtain ⟨fp2, back⟩ := Classical.skolem.mp back
    let I : Nat → Prop := fun i => ∃ (k : Nat) (p : List Nat) (oa : Option Addr) (t u : OT), as[k]? = some (CA.pl i p oa t u)
    have nI : ∀ {i}, ¬ I i → ∀ (k : Nat) p oa t u, as[k]? ≠ some (CA.pl i p oa t u) := fun h k p oa t u e => h ⟨k, p, oa, t, u, e⟩
    have rn : ∀ b ∈ fp' vs.length, ∀ k, k < vs.length → b ∉ fp' k := fun b hb k hk h => by
      have := E'.dis _ _ b hb h; omega
    -- an address behind the call, at a place
    have at2 : ∀ {i b}, I i → b ∈ fp2 i → ∃ (k : Nat) (p : List Nat) (oa : Option Addr) (t u : OT), as[k]? = some (CA.pl i p oa t u) ∧ (b ∈ fp' k ∨ b ∈ l1 k) := fun ⟨k, p, oa, t, u, ha⟩ hb => by
      obtain ⟨v0, u', z1, z2, z3, z4, z5⟩ := (back _).1 k p oa t u ha
      exact ⟨k, p, oa, t, u, ha, List.mem_append.mp (z5.mem_iff.mp hb)⟩
    have E2 : EnvD K c F' H' σ (caUp Γ as ds) fp2 := by
      refine E.chg I E'.wd.f0 E'.wd.fh (fun b u hb hu => ?_) (fun b hb => ?_) rfl caUp_len (fun i hi => ⟨?_, rfl, (back i).2 (nI hi)⟩) (fun i s hi hs => ?_) (fun i b hi hb => ?_) (fun i j b hi hj h1 h2 => ?_) (fun i hi h => ?_)
      · refine E'.wd.keep b u (fun ⟨k, h⟩ => ?_) hu
        obtain ⟨i, p, oa, t, u, v, a1, a2, a3⟩ := own (.inl h)
        exact hb i ⟨k, p, oa, t, u, a1⟩ a3
      · rcases E'.wd.new b hb with z | z
        · exact .inl z
        · rcases alW z with ⟨i, p, oa, t, u, ⟨k, a1⟩, a3⟩ | z
          · exact .inr (.inl ⟨i, ⟨k, p, oa, t, u, a1⟩, a3⟩)
          · exact .inr (.inr z)
      · refine caUp_ne fun k a ha e => ?_
        cases a with
        | fz x => cases e
        | pl i' p oa t u => cases e; exact hi ⟨k, p, oa, t, u, ha⟩
      · obtain ⟨k, p, oa, t, u, ha⟩ := hi
        obtain ⟨v0, u', z1, z2, z3, z4, z5⟩ := (back i).1 k p oa t u ha
        have g := caOk_get hg ha
        rw [caUp_eq nd (List.getElem?_eq_some_iff.mp g.1).1 ha z1] at hs
        cases hs
        exact ⟨_, z2, v0, rfl, z3, z4⟩
      · obtain ⟨k, p, oa, t, u, ha, h⟩ := at2 hi hb
        rcases h with h | h
        · rcases alW (E'.al k b h) with ⟨i', p', oa', t', u', ⟨k', a1⟩, a3⟩ | z
          · exact .inl ⟨i', ⟨k', p', oa', t', u', a1⟩, a3⟩
          · exact .inr ⟨E.wd.fresh z, E.fresh z⟩
        · obtain ⟨i', p', oa', t', u', v', a1, a2, a3⟩ := own (.inr h)
          exact .inl ⟨i', ⟨k, p', oa', t', u', a1⟩, a3⟩
      · obtain ⟨k, p, oa, t, u, ha, h⟩ := at2 hi h1
        obtain ⟨k', p', oa', t', u', ha', h'⟩ := at2 hj h2
        have hkk : k = k' := by
          rcases h with h | h
          · rcases h' with h' | h'
            · exact E'.dis k k' b h h'
            · exfalso
              obtain ⟨d1, o, d2⟩ := inH (.inr h')
              rcases E'.al k b h with z | z
              · exact notW h' z
              · rw [show H b = none from z] at d2; cases d2
          · rcases h' with h' | h'
            · exfalso
              obtain ⟨d1, o, d2⟩ := inH (.inr h)
              rcases E'.al k' b h' with z | z
              · exact notW h z
              · rw [show H b = none from z] at d2; cases d2
            · exact uniq (.inr h) (.inr h')
        subst hkk
        rw [ha] at ha'; cases ha'; rfl
      · obtain ⟨k, p, oa, t, u, ha⟩ := hi
        have g := caOk_get hg ha
        have := (List.getElem?_eq_some_iff.mp g.1).1
        omega
    refine ⟨fp2, E2, ?_, fun b hb => ⟨?_, fun j hj => ?_⟩⟩
    · have hs : (outSl (adr vs) 0 ds ++ [r])[vs.length]? = some r := by
        rw [List.getElem?_append_right (by rw [outSl_len]; omega), outSl_len, dl, hlen, Nat.sub_self]; rfl
      obtain ⟨x, q1, q2⟩ := E'.ok _ r hs
      rw [List.getElem?_append_right (by simp), List.length_map, Nat.sub_self] at q1
      have q1 : some v = x := by simpa using q1
      subst q1
      exact q2
    · rcases alW (E'.al _ b hb) with ⟨i, p, oa, t, u, _, a3⟩ | z
      · exact E.al i b a3
      · exact E.wd.fresh z
    · by_cases hi : I j
      · obtain ⟨k, p, oa, t, u, ha, h⟩ := at2 hi hj
        have hk : k < as.length := (List.getElem?_eq_some_iff.mp ha).1
        rcases h with h | h
        · exact rn b hb k (by omega) h
        · obtain ⟨d1, o, d2⟩ := inH (.inr h)
          rcases E'.al _ b hb with z | z
          · exact notW h z
          · rw [show H b = none from z] at d2; cases d2
      · rw [(back j).2 (nI hi)] at hj
        obtain ⟨d1, o, d2⟩ := E.dom hj
        rcases alW (E'.al _ b hb) with ⟨i, p, oa, t, u, ⟨k, a1⟩, a3⟩ | z
        · have := E.dis j i b hj a3
          subst this
          exact hi ⟨k, p, oa, t, u, a1⟩
        · rw [z] at d2; cases d2
end
end Fw
/-! places of owned slots: read, stored; methods; calls -/
namespace Fw
open PySem L2 Py PyProof.Rows
/-- the place of a name -/
def fIx {α : Type} [DecidableEq α] : List α → α → Option Nat
  | [], _ => none
  | n :: r, f => if n = f then some 0 else match fIx r f with
    | some j => some (j + 1)
    | none => none
theorem fIx_get {α : Type} [DecidableEq α] : ∀ {ns : List α} {f : α} {j : Nat}, fIx ns f = some j → ns[j]? = some f
  | [], f, j, h => by cases h
  | n :: r, f, j, h => by
    unfold fIx at h
    split at h
    · rename_i e; cases h; simp [e]
    · cases q : fIx r f with
      | none => rw [q] at h; cases h
      | some k => rw [q] at h; cases h; simpa using fIx_get q
theorem fIx_mem {α : Type} [DecidableEq α] {ns : List α} {f : α} {j : Nat} (h : fIx ns f = some j) : f ∈ ns := List.mem_of_getElem? (fIx_get h)
theorem lookup_zip : ∀ {ns : List Str} {vs : List V} {f : Str} {j : Nat} {v : V}, fIx ns f = some j → vs[j]? = some v → (ns.zip vs).lookup f = some v
  | [], vs, f, j, v, h, _ => by cases h
  | n :: r, vs, f, j, v, h, hv => by
    cases vs with
    | nil => simp at hv
    | cons w vs =>
      unfold fIx at h
      rw [List.zip_cons_cons, List.lookup_cons]
      split at h
      · rename_i e; cases h
        have hv : w = v := by simpa using hv
        subst e; subst hv; simp
      · rename_i e
        have e2 : (f == n) = false := beq_eq_false_iff_ne.mpr (fun h => e h.symm)
        rw [e2]
        cases q : fIx r f with
        | none => rw [q] at h; cases h
        | some k => rw [q] at h; cases h; exact lookup_zip q (by simpa using hv)
theorem lookup_zip_none : ∀ {ns : List Str} {vs : List V} {f : Str}, fIx ns f = none → (ns.zip vs).lookup f = none
  | [], vs, f, _ => by simp
  | n :: r, [], f, h => by simp
  | n :: r, w :: vs, f, h => by
    unfold fIx at h
    split at h
    · cases h
    · rename_i e
      rw [List.zip_cons_cons, List.lookup_cons, beq_eq_false_iff_ne.mpr (fun h => e h.symm)]
      cases q : fIx r f with
      | none => exact lookup_zip_none q
      | some k => rw [q] at h; cases h
theorem putF_zip : ∀ {ns : List Str} {vs : List V} {f : Str} {j : Nat} {y : V}, ns.length = vs.length → fIx ns f = some j → putF f y (ns.zip vs) = ns.zip (vs.set j y)
  | [], vs, f, j, y, _, h => by cases h
  | n :: r, [], f, j, y, hl, h => by simp at hl
  | n :: r, w :: vs, f, j, y, hl, h => by
    unfold fIx at h
    rw [List.zip_cons_cons]
    unfold putF
    split at h
    · rename_i e; cases h; rw [if_pos e]; rfl
    · rename_i e
      rw [if_neg e]
      cases q : fIx r f with
      | none => rw [q] at h; cases h
      | some k => rw [q] at h; cases h; rw [putF_zip (by simpa using hl) q]; rfl
theorem putF_new : ∀ {ns : List Str} {vs : List V} {f : Str} {y : V}, ns.length = vs.length → fIx ns f = none → putF f y (ns.zip vs) = (ns ++ [f]).zip (vs ++ [y])
  | [], vs, f, y, hl, _ => by
    cases vs with
    | nil => rfl
    | cons => simp at hl
  | n :: r, [], f, y, hl, h => by simp at hl
  | n :: r, w :: vs, f, y, hl, h => by
    unfold fIx at h
    rw [List.zip_cons_cons]
    unfold putF
    split at h
    · cases h
    · rename_i e
      rw [if_neg e]
      cases q : fIx r f with
      | none => rw [putF_new (by simpa using hl) q]; rfl
      | some k => rw [q] at h; cases h
theorem valV_zip {κ : Type} [DecidableEq κ] : ∀ {ks : List κ} {vs : List V} {f : κ} {j : Nat} {v : V}, fIx ks f = some j → vs[j]? = some v → valV (ks.zip vs) f = some v
  | [], vs, f, j, v, h, _ => by cases h
  | n :: r, vs, f, j, v, h, hv => by
    cases vs with
    | nil => simp at hv
    | cons w vs =>
      unfold fIx at h
      rw [List.zip_cons_cons]
      split at h
      · rename_i e; cases h
        have hv : w = v := by simpa using hv
        subst hv; rw [valV_pos e]
      · rename_i e
        rw [valV_neg e]
        cases q : fIx r f with
        | none => rw [q] at h; cases h
        | some k => rw [q] at h; cases h; exact valV_zip q (by simpa using hv)
theorem valV_zip_none {κ : Type} [DecidableEq κ] : ∀ {ks : List κ} {vs : List V} {f : κ}, fIx ks f = none → valV (ks.zip vs) f = none
  | [], vs, f, _ => rfl
  | n :: r, [], f, h => rfl
  | n :: r, w :: vs, f, h => by
    unfold fIx at h
    split at h
    · cases h
    · rename_i e
      rw [List.zip_cons_cons, valV_neg e]
      cases q : fIx r f with
      | none => exact valV_zip_none q
      | some k => rw [q] at h; cases h
theorem follow_snoc {H : Hp} : ∀ {p : List Nat} {v w u : V} {a : Addr} {o : HO} {j : Nat}, follow H v p = some (.ref a) → H a = some o → (kids o)[j]? = some u → follow H v (p ++ [j]) = some u
  | [], v, w, u, a, o, j, h, ho, hj => by
    have h : some v = some (.ref a) := by simpa [follow] using h
    cases h
    show follow H (.ref a) [j] = some u
    unfold follow
    rw [ho]
    dsimp only
    rw [hj]
    dsimp only
    unfold follow
    rfl
  | i :: p, v, w, u, a, o, j, h, ho, hj => by
    cases v with
    | ref b =>
      unfold follow at h
      show follow H (.ref b) (i :: (p ++ [j])) = some u
      unfold follow
      cases q : H b with
      | none => rw [q] at h; cases h
      | some o' =>
        rw [q] at h
        dsimp only at h ⊢
        cases q2 : (kids o')[i]? with
        | none => rw [q2] at h; cases h
        | some z =>
          rw [q2] at h
          exact follow_snoc (w := w) h ho hj
    | _ => unfold follow at h; cases h
/-- an expression tells the place p of the owned slot i -/
def XPl (X : Cx) (c : Cw) (Γ : List Slot) (e : Expr) (i : Nat) (p : List Nat) : Prop := ∃ te, PE X e te ∧
  ∀ F H σ fp, EnvD X.K c F H σ Γ fp → ∀ Q : VK, (∀ v v0 F' H', EnvD X.K c F' H' σ Γ fp → Ex F F' → Nw F H F' H' → σ[i]? = some (some v0) → follow H' v0 p = some v → Q v H') → te σ H Q
section
variable {X : Cx} {c : Cw} {Γ Γ' : List Slot} {τ υ : Type} [Py τ] [Py υ] {e a b : Expr} {t u : OT} {x : τ} {pos : Pos} {i : Nat} {p : List Nat} {oa : Option Addr} {k : Kind} {ts : List OT}
theorem xpl_name (i : Nat) {n : Str} (hN : X.N[i]? = some n := by rfl) (h : Γ[i]? = some (.ow oa t) := by rfl) (hv : Vis X.env.scope n := by first | exact Or.inl rfl | exact Or.inr (Or.inl rfl) | exact Or.inr (Or.inr rfl))
    (hd : (n == ("__debug__" : Str)) = false := by decide) (hcd : (n == ("__classdict__" : Str)) = false := by decide) : XPl X c Γ (.Name n pos) i [] :=
  ⟨_, pe_var hN hv hd hcd, fun F H σ fp E Q q => by
    obtain ⟨v, h1, r, _⟩ := E.geto h
    exact ⟨v, h1, q v v F H E (Ex.refl _) Nw.refl h1 (by unfold follow; rfl)⟩⟩
/-- .f -/
theorem xpl_fld {f : Str} {C : Addr} {ns : List Str} {j : Nat} (h : XPl X c Γ e i p) (hs : Γ[i]? = some (.ow oa t)) (hg : t.get? p = some (.nd (.ins C ns) ts)) (hf : fIx ns f = some j)
    (hb : attributeBase e f X.env (eval e X.env) = eval e X.env := by rfl) : XPl X c Γ (.Attribute e f pos) i (p ++ [j]) := by
  obtain ⟨te, h1, h2⟩ := h
  refine ⟨_, pe_fld h1 hb, fun F H σ fp E Q q => h2 F H σ fp E _ fun v v0 F1 H1 E1 e1 n1 g1 g2 => ?_⟩
  obtain ⟨v0', a, o, vs, fps, k1, k2, k3, k4, k5, k6, _⟩ := E1.node hs hg
  rw [g1] at k1; cases k1
  rw [g2] at k2; cases k2
  have kk := k5.kids
  obtain ⟨⟨hc, hn⟩, hl, dx, rfl⟩ := k5
  have hj : j < vs.length := by
    have := (List.getElem?_eq_some_iff.mp (fIx_get hf)).1
    omega
  exact ⟨a, C, dx, _, _, rfl, k4, hc, hn f (fIx_mem hf), lookup_zip hf (List.getElem?_eq_getElem hj), q _ v0 F1 H1 E1 e1 n1 g1 (follow_snoc (w := .non) g2 k4 (by rw [kk]; exact List.getElem?_eq_getElem hj))⟩
/-- [k], k a key that is there -/
theorem xpl_key {ky : Key} {ks : List Key} {j : Nat} {ek : Expr} (hu : X.A.units + 1 < cLine) (h : XPl X c Γ e i p) {y : υ} (hk : XE X c Γ ek y) (hy : ∀ F v, rep X.K F v y → v = kV ky) (hs : Γ[i]? = some (.ow oa t)) (hg : t.get? p = some (.nd (.dK ks) ts)) (hf : fIx ks ky = some j)
    (hns : NoSl ek := by exact fun _ _ => rfl) : XPl X c Γ (.Subscript e ek pos) i (p ++ [j]) := by
  obtain ⟨te, h1, h2⟩ := h
  obtain ⟨tk, h3, h4⟩ := hk
  refine ⟨_, pe_dget hu h1 h3 hns, fun F H σ fp E Q q => h2 F H σ fp E _ fun v v0 F1 H1 E1 e1 n1 g1 g2 => h4 F1 H1 σ fp E1 _ fun y' F2 H2 E2 e2 n2 r2 => ?_⟩
  cases hy _ _ r2
  obtain ⟨v0', a, o, vs, fps, k1, k2, k3, k4, k5, k6, _⟩ := E2.node hs hg
  have g2' := follow_ex n2.h g2
  rw [g1] at k1; cases k1
  rw [g2'] at k2; cases k2
  have kk := k5.kids
  obtain ⟨hl, rfl⟩ := k5
  have hj : j < vs.length := by
    have := (List.getElem?_eq_some_iff.mp (fIx_get hf)).1
    omega
  refine ⟨a, vs[j], rfl, ?_, q _ v0 F2 H2 E2 (e1.trans e2) (n1.trans n2) g1 (follow_snoc (w := .non) g2' k4 (by rw [kk]; exact List.getElem?_eq_getElem hj))⟩
  have := DGet.k (k := ky) k4
  rwa [valV_zip hf (List.getElem?_eq_getElem hj)] at this
/-- [n] of a list -/
theorem xpl_ix {n : Int} {j : Nat} {ei : Expr} (h : XPl X c Γ e i p) (hk : XE X c Γ ei n) (hs : Γ[i]? = some (.ow oa t)) (hg : t.get? p = some (.nd .lst ts)) (hf : ixN ts.length n = some j)
    (hpl : PlainIx ei := by exact fun _ _ => rfl) : XPl X c Γ (.Subscript e ei pos) i (p ++ [j]) := by
  obtain ⟨te, h1, h2⟩ := h
  obtain ⟨tk, h3, h4⟩ := hk
  refine ⟨_, pe_ix ix_list h1 h3 hpl, fun F H σ fp E Q q => h2 F H σ fp E _ fun v v0 F1 H1 E1 e1 n1 g1 g2 => h4 F1 H1 σ fp E1 _ fun y' F2 H2 E2 e2 n2 r2 => ?_⟩
  cases (show y' = .int n from r2)
  obtain ⟨v0', a, o, vs, fps, k1, k2, k3, k4, k5, k6, _⟩ := E2.node hs hg
  have g2' := follow_ex n2.h g2
  rw [g1] at k1; cases k1
  rw [g2'] at k2; cases k2
  cases (show o = _ from k5)
  have hj : j < ts.length := by
    unfold ixN at hf
    split at hf
    · split at hf
      · cases hf; omega
      · cases hf
    · split at hf
      · cases hf; omega
      · cases hf
  have hj2 : j < vs.length := by rw [k6.1]; exact hj
  refine ⟨a, vs, n, vs[j], rfl, rfl, sq_of k4, ?_, q _ v0 F2 H2 E2 (e1.trans e2) (n1.trans n2) g1 (follow_snoc (w := .non) g2' k4 (show vs[j]? = _ from List.getElem?_eq_getElem hj2))⟩
  unfold atI
  rw [k6.1, hf]
  exact List.getElem?_eq_getElem hj2
/-- frozen data at a place, read -/
theorem xe_pl (h : XPl X c Γ e i p) (hs : Γ[i]? = some (.ow oa t)) (hg : t.get? p = some (.fz x)) : XE X c Γ e x := by
  obtain ⟨te, h1, h2⟩ := h
  refine ⟨te, h1, fun F H σ fp E Q q => h2 F H σ fp E _ fun v v0 F1 H1 E1 e1 n1 g1 g2 => ?_⟩
  obtain ⟨v0', w, l2, k1, k2, k3, _⟩ := E1.mutAt hs hg
  rw [g1] at k1; cases k1
  rw [g2] at k2; cases k2
  cases k3 with
  | fz r => exact q _ F1 H1 E1 e1 n1 r
/-! arguments -/
def XAr (X : Cx) (c : Cw) (Γ : List Slot) (es : List Expr) (as : List CA) : Prop := ∃ t, PA X es t ∧
  ∀ F H σ fp, EnvD X.K c F H σ Γ fp → ∀ Q : List V → Hp → Prop, (∀ vs F' H', EnvD X.K c F' H' σ Γ fp → Ex F F' → Nw F H F' H' → Pd (CAok X.K F' H' σ) vs as → Q vs H') → t σ H Q
theorem xr_nil : XAr X c Γ [] [] := ⟨_, pa_nil, fun F H σ fp E Q q => q [] F H E (Ex.refl _) Nw.refl .nil⟩
theorem CAok.mono {K : Fg} {F F' H H' : Hp} {σ : L2.St} {v : V} {a : CA} (h : CAok K F H σ v a) (e : Ex F F') (e2 : Ex H H') : CAok K F' H' σ v a := by
  cases a with
  | fz x => exact Py.mono e h
  | pl i p oa t u => obtain ⟨v0, h1, h2⟩ := h; exact ⟨v0, h1, follow_ex e2 h2⟩
theorem xr_fz {es : List Expr} {as : List CA} (h : XE X c Γ e x) (hr : XAr X c Γ es as) (hs : starEach (e :: es) X.env = (false, eval e X.env) :: starEach es X.env := by rfl) : XAr X c Γ (e :: es) (.fz x :: as) := by
  obtain ⟨t, h1, h2⟩ := h
  obtain ⟨u, h3, h4⟩ := hr
  refine ⟨_, pa_cons h1 h3 hs, fun F H σ fp E Q q => h2 F H σ fp E _ fun v F1 H1 E1 e1 g1 r1 => h4 F1 H1 σ fp E1 _ fun vs F2 H2 E2 e2 g2 r2 => ?_⟩
  exact q _ F2 H2 E2 (e1.trans e2) (g1.trans g2) (.cons (Py.mono e2 r1) r2)
theorem xr_pl {es : List Expr} {as : List CA} (h : XPl X c Γ e i p) (hr : XAr X c Γ es as) (hs : starEach (e :: es) X.env = (false, eval e X.env) :: starEach es X.env := by rfl) : XAr X c Γ (e :: es) (.pl i p oa t u :: as) := by
  obtain ⟨tt, h1, h2⟩ := h
  obtain ⟨tu, h3, h4⟩ := hr
  refine ⟨_, pa_cons h1 h3 hs, fun F H σ fp E Q q => h2 F H σ fp E _ fun v v0 F1 H1 E1 e1 g1 k1 k2 => h4 F1 H1 σ fp E1 _ fun vs F2 H2 E2 e2 g2 r2 => ?_⟩
  exact q _ F2 H2 E2 (e1.trans e2) (g1.trans g2) (.cons ⟨v0, k1, follow_ex g2.h k2⟩ r2)
/-! calls -/
section
variable {α ρ : Type} {D0 : α → List ArgD} {pre : α → Prop} {D1 : ρ → List (Option OT)} {RS : ρ → Slot} {xn : ρ → Option Str} {m : α → ρ} {n : Str} {ps : List Str} {lv lj : Nat} {r : α} {as : List CA} {es : List Expr} {pf : Pos} {s : Slot}
theorem call_res {CX : CXT} {K : Fg} {mg : Str → Option Value} {F H F1 H1 : Hp} {σ : L2.St} {fp : Nat → List Addr} {vs : List V} {Q : VK} {E' : XK} (hD : as.map CA.d = D0 r) (hg : caOk Γ as) (nd : (as.filterMap CA.ix).Nodup) (hp : pre r) (hx : xn (m r) = none) (hsh : (D1 (m r)).map Option.isSome = (D0 r).map ArgD.isOw)
    (E1 : EnvD K c F1 H1 σ Γ fp) (k : Pd (CAok K F1 H1 σ) vs as)
    (q : ∀ v F' H' fp' l, EnvD K c F' H' σ (caUp Γ as (D1 (m r))) fp' → Ex F1 F' → (RS (m r)).ok K F' H' (some v) l → (∀ b ∈ l, c.al b ∧ ∀ j, b ∉ fp' j) → Q v H') : SpG K mg D0 pre D1 RS xn m vs H1 Q E' := by
  obtain ⟨l2, z1, z2, z3, z4⟩ := call_env E1 k hg nd
  refine ⟨F1, l2, r, adr vs, by rw [← hD]; exact z1, hp, fun _ v F' H' fp' E2 => ?_, fun n hn => by rw [hx] at hn; cases hn⟩
  obtain ⟨fp2, y1, y2, y3⟩ := z4 F' H' v (D1 (m r)) (RS (m r)) fp' (by rw [hsh, hD]) E2
  exact q v F' H' fp2 _ y1 E2.wd.f0 y2 y3
/-- .. where all arguments are frozen -/
theorem call_resN {CX : CXT} {K : Fg} {mg : Str → Option Value} {F1 H1 : Hp} {σ : L2.St} {fp : Nat → List Addr} {vs : List V} {Q : VK} {E' : XK} (hD : as.map CA.d = D0 r) (hn : ∀ a ∈ as, a.ix = none) (hg : caOk Γ as) (hp : pre r) (hx : xn (m r) = none) (hsh : (D1 (m r)).map Option.isSome = (D0 r).map ArgD.isOw)
    (E1 : EnvD K c F1 H1 σ Γ fp) (k : Pd (CAok K F1 H1 σ) vs as)
    (q : ∀ v F' H' l, EnvD K c F' H' σ Γ fp → Ex F1 F' → Nw F1 H1 F' H' → (RS (m r)).ok K F' H' (some v) l → (∀ b ∈ l, H1 b = none) → Q v H') : SpG K mg D0 pre D1 RS xn m vs H1 Q E' := by
  have nd : (as.filterMap CA.ix).Nodup := by
    rw [List.filterMap_eq_nil_iff.mpr hn]; exact List.nodup_nil
  obtain ⟨l2, z1, z2, z3, z4⟩ := call_env E1 k hg nd
  have e2 := z3 hn
  subst e2
  refine ⟨F1, _, r, adr vs, by rw [← hD]; exact z1, hp, fun _ v F' H' fp' E2 => ?_, fun n hn => by rw [hx] at hn; cases hn⟩
  obtain ⟨fp2, y1, y2, y3⟩ := z4 F' H' v (D1 (m r)) (RS (m r)) fp' (by rw [hsh, hD]) E2
  have eh : Ex H1 H' := fun b o h => E2.wd.keep b o (fun ⟨_, h⟩ => by cases h) h
  have en : ∀ b, F' b ≠ none → F1 b ≠ none ∨ H1 b = none := fun b hb => (E2.wd.new b hb).imp id (fun h => h.elim (fun ⟨_, h⟩ => by cases h) id)
  exact q v F' H' _ (E1.grow E2.wd.f0 E2.wd.fh eh en) E2.wd.f0 ⟨eh, en⟩ y2 fun b hb => (E2.al _ b hb).elim (fun ⟨_, h⟩ => by cases h) id
/-- f(..) -/
theorem xm_call (G : Fk X.prog X.w X.K X.mg X.base (L2.CX X.prog X.w) n ps [] lv (SpG X.K X.mg D0 pre D1 RS xn m)) (hr : Room lj X.A) (hj : lv ≤ lj) (ha : XAr X c Γ (e :: es) as) (hp : pre r) (hD : as.map CA.d = D0 r) (hg : caOk Γ as) (nd : (as.filterMap CA.ix).Nodup) (hsh : (D1 (m r)).map Option.isSome = (D0 r).map ArgD.isOw) (hx : xn (m r) = none := by rfl)
    (hgl : Gl X n := by rfl) (hdb : (n == ("__debug__" : Str)) = false := by decide) (hs : starEach (e :: es) X.env = (false, eval e X.env) :: starEach es X.env := by rfl) (hb : ((backTo pos (starEach es X.env)).any fun x => x.fst) = false := by rfl) :
    XM X c Γ (caUp Γ as (D1 (m r))) (.Call (.Name n pf) (e :: es) [] pos) (RS (m r)) := by
  obtain ⟨f, fd, g1, g2, g3, g4⟩ := G.ex
  obtain ⟨t, h1, h2⟩ := ha
  refine ⟨_, pe_call (E := E0) g4 (hr.mono hj) hgl g1 g2 g3 .nil passL h1 hdb hs hb, fun F H σ fp E Q q => h2 F H σ fp E _ fun vs F1 H1 E1 e1 x1 k => ?_⟩
  rw [List.append_nil]
  exact call_res (CX := L2.CX X.prog X.w) (F := F) (H := H) hD hg nd hp hx hsh E1 k fun v F' H' fp' l y1 y2 y3 y4 => q v F' H' fp' l y1 (e1.trans y2) y3 y4
theorem xn_callG (G : FkD X.prog X.w X.K X.mg X.base (L2.CX X.prog X.w) n ps dvs lv (SpG X.K X.mg D0 pre D1 RS xn m)) {as0 : List CA} (hdv : ∀ F H σ vs, Pd (CAok X.K F H σ) vs as0 → Pd (CAok X.K F H σ) (vs ++ dvs) as) (hr : Room lj X.A) (hj : lv ≤ lj) (ha : XAr X c Γ (e :: es) as0) (hp : pre r) (hD : as.map CA.d = D0 r) (hn : ∀ a ∈ as, a.ix = none) (hg : caOk Γ as) (hsh : (D1 (m r)).map Option.isSome = (D0 r).map ArgD.isOw) (hx : xn (m r) = none := by rfl)
    (hgl : Gl X n := by rfl) (hdb : (n == ("__debug__" : Str)) = false := by decide) (hs : starEach (e :: es) X.env = (false, eval e X.env) :: starEach es X.env := by rfl) (hb : ((backTo pos (starEach es X.env)).any fun x => x.fst) = false := by rfl) :
    ∃ te, PE X (.Call (.Name n pf) (e :: es) [] pos) te ∧ ∀ F H σ fp, EnvD X.K c F H σ Γ fp → ∀ Q : VK, (∀ v F' H' l, EnvD X.K c F' H' σ Γ fp → Ex F F' → Nw F H F' H' → (RS (m r)).ok X.K F' H' (some v) l → (∀ b ∈ l, H b = none) → Q v H') → te σ H Q := by
  obtain ⟨ds, hd, G⟩ := G.ex
  obtain ⟨f, fd, g1, g2, g3, g4⟩ := G.ex
  obtain ⟨t, h1, h2⟩ := ha
  refine ⟨_, pe_call (E := E0) g4 (hr.mono hj) hgl g1 g2 g3 hd passL h1 hdb hs hb, fun F H σ fp E Q q => h2 F H σ fp E _ fun vs F1 H1 E1 e1 x1 k => ?_⟩
  refine call_resN (CX := L2.CX X.prog X.w) hD hn hg hp hx hsh E1 (hdv _ _ _ _ k) fun v F' H' l y1 y2 y3 y4 y5 => q v F' H' l y1 (e1.trans y2) (x1.trans y3) y4 fun b hb => ?_
  cases z : H b with
  | none => rfl
  | some o => have := y5 b hb; rw [x1.h _ _ z] at this; cases this
theorem FkD.of {P : Program} {w : World} {K : Fg} {mg : Str → Option Value} {base : Heap} {CX : CXT} {sp : Sp} (G : Fk P w K mg base CX n ps [] lv sp) : FkD P w K mg base CX n ps [] lv sp := ⟨[], .nil, G⟩
/-- .. a new thing -/
theorem xn_call (G : Fk X.prog X.w X.K X.mg X.base (L2.CX X.prog X.w) n ps [] lv (SpG X.K X.mg D0 pre D1 RS xn m)) (hr : Room lj X.A) (hj : lv ≤ lj) (ha : XAr X c Γ (e :: es) as) (hp : pre r) (hR : RS (m r) = .ow none t) (hD : as.map CA.d = D0 r) (hn : ∀ a ∈ as, a.ix = none) (hg : caOk Γ as) (hsh : (D1 (m r)).map Option.isSome = (D0 r).map ArgD.isOw) (hx : xn (m r) = none := by rfl)
    (hgl : Gl X n := by rfl) (hdb : (n == ("__debug__" : Str)) = false := by decide) (hs : starEach (e :: es) X.env = (false, eval e X.env) :: starEach es X.env := by rfl) (hb : ((backTo pos (starEach es X.env)).any fun x => x.fst) = false := by rfl) :
    XN X c Γ (.Call (.Name n pf) (e :: es) [] pos) t := by
  obtain ⟨te, h1, h2⟩ := xn_callG (.of G) (dvs := []) (fun _ _ _ _ h => by rw [List.append_nil]; exact h) hr hj ha hp hD hn hg hsh hx hgl hdb hs hb
  refine ⟨te, h1, fun F H σ fp E Q q => h2 F H σ fp E Q fun v F' H' l y1 y2 y3 y4 y5 => ?_⟩
  rw [hR] at y4
  obtain ⟨u, hu, y4, _⟩ := y4
  cases hu
  exact q v F' H' l y1 y2 y3 y4 y5
/-- .. frozen data -/
theorem xe_call (G : Fk X.prog X.w X.K X.mg X.base (L2.CX X.prog X.w) n ps [] lv (SpG X.K X.mg D0 pre D1 RS xn m)) (hr : Room lj X.A) (hj : lv ≤ lj) (ha : XAr X c Γ (e :: es) as) (hp : pre r) (hR : RS (m r) = .fz x) (hD : as.map CA.d = D0 r) (hn : ∀ a ∈ as, a.ix = none) (hg : caOk Γ as) (hsh : (D1 (m r)).map Option.isSome = (D0 r).map ArgD.isOw) (hx : xn (m r) = none := by rfl)
    (hgl : Gl X n := by rfl) (hdb : (n == ("__debug__" : Str)) = false := by decide) (hs : starEach (e :: es) X.env = (false, eval e X.env) :: starEach es X.env := by rfl) (hb : ((backTo pos (starEach es X.env)).any fun x => x.fst) = false := by rfl) :
    XE X c Γ (.Call (.Name n pf) (e :: es) [] pos) x := by
  obtain ⟨te, h1, h2⟩ := xn_callG (.of G) (dvs := []) (fun _ _ _ _ h => by rw [List.append_nil]; exact h) hr hj ha hp hD hn hg hsh hx hgl hdb hs hb
  refine ⟨te, h1, fun F H σ fp E Q q => h2 F H σ fp E Q fun v F' H' l y1 y2 y3 y4 y5 => ?_⟩
  rw [hR] at y4
  obtain ⟨_, u, hu, y4⟩ := y4
  cases hu
  exact q v F' H' y1 y2 y3 y4
end
end
end Fw
/-! stores -/
namespace Fw
open PySem L2 Py PyProof.Rows
section
variable {a : Addr} {fps : List (List Addr)} {l l0 : List Addr}
theorem nd_set {j : Nat} (h : (a :: fps.flatten).Nodup) (hj : fps[j]? = some l0) (hl : l.Nodup) (hd : ∀ b ∈ l, b ∉ a :: fps.flatten) : (a :: (fps.set j l).flatten).Nodup ∧ ∀ b ∈ (fps.set j l).flatten, b ∈ fps.flatten ∨ b ∈ l := by
  have q := flat_set (l' := l) hj
  have m : ∀ b ∈ (fps.set j l).flatten, b ∈ fps.flatten ∨ b ∈ l := fun b hb => by
    rcases List.mem_append.mp (q.2.mem_iff.mp hb) with z | z
    · exact .inr z
    · exact .inl (q.1.mem_iff.mpr (List.mem_append_right _ z))
  refine ⟨List.nodup_cons.mpr ⟨fun hb => ?_, ?_⟩, m⟩
  · rcases m a hb with z | z
    · exact (List.nodup_cons.mp h).1 z
    · exact hd a z (by simp)
  · refine q.2.nodup_iff.mpr (List.nodup_append.mpr ⟨hl, (List.nodup_append.mp (q.1.nodup_iff.mp (List.nodup_cons.mp h).2)).2.1, fun b hb c hc e => ?_⟩)
    subst e
    exact hd b hb (List.mem_cons_of_mem _ (q.1.mem_iff.mpr (List.mem_append_right _ hc)))
theorem nd_app {gps : List (List Addr)} (h : (a :: fps.flatten).Nodup) (hl : gps.flatten.Nodup) (hd : ∀ b ∈ gps.flatten, b ∉ a :: fps.flatten) : (a :: (fps ++ gps).flatten).Nodup ∧ ∀ b ∈ (fps ++ gps).flatten, b ∈ fps.flatten ∨ b ∈ gps.flatten := by
  have e : (fps ++ gps).flatten = fps.flatten ++ gps.flatten := by simp
  rw [e]
  have h1 := List.nodup_cons.mp h
  refine ⟨List.nodup_cons.mpr ⟨fun hb => ?_, List.nodup_append.mpr ⟨h1.2, hl, fun b hb c hc e => ?_⟩⟩, fun b hb => List.mem_append.mp hb⟩
  · rcases List.mem_append.mp hb with z | z
    · exact h1.1 z
    · exact hd a z (by simp)
  · subst e; exact hd b hc (List.mem_cons_of_mem _ hb)
theorem nd_sub {gps : List (List Addr)} (h : (a :: fps.flatten).Nodup) (s : gps.Sublist fps) : (a :: gps.flatten).Nodup ∧ ∀ b ∈ gps.flatten, b ∈ fps.flatten :=
  ⟨h.sublist ((flat_sub s).cons₂ a), fun b hb => (flat_sub s).subset hb⟩
theorem nd_ins {n : Nat} (h : (a :: fps.flatten).Nodup) (hl : l.Nodup) (hd : ∀ b ∈ l, b ∉ a :: fps.flatten) : (a :: (fps.take n ++ [l] ++ fps.drop n).flatten).Nodup ∧ ∀ b ∈ (fps.take n ++ [l] ++ fps.drop n).flatten, b ∈ fps.flatten ∨ b ∈ l := by
  have e : (fps.take n ++ [l] ++ fps.drop n).flatten.Perm (fps ++ [l]).flatten := by
    have p : (fps.take n ++ [l] ++ fps.drop n).Perm (fps ++ [l]) := by
      have : (fps.take n ++ [l] ++ fps.drop n).Perm (fps.take n ++ (fps.drop n ++ [l])) := by
        rw [List.append_assoc]; exact List.Perm.append_left _ List.perm_append_comm
      rwa [← List.append_assoc, List.take_append_drop] at this
    exact p.flatten
  have q := nd_app (gps := [l]) h (by simpa using hl) (by simpa using hd)
  exact ⟨(e.cons a).nodup_iff.mpr q.1, fun b hb => by simpa using q.2 b (e.mem_iff.mp hb)⟩
end
section
variable {X : Cx} {w : Wx} {c : Cw} {Γ Γ' : List Slot} {S' B τ υ α : Type} [Py τ] [Py υ] {R : Rc} {GB : B → List Slot} {e ep ei : Expr} {t u : OT} {x : τ} {y : α} {pos : Pos} {i : Nat} {p : List Nat} {oa : Option Addr} {k : Kind} {ts : List OT} {g : α → OT}
/-- P.f = e, f is there -/
theorem xs_fset {f : Str} {C : Addr} {ns : List Str} {j : Nat} {pf : Pos} (g : α → OT) (he : XN X c Γ e u) (hp : XPl X c Γ ep i p) (hs : Γ[i]? = some (.ow oa t)) (hg : t.get? p = some (.nd (.ins C ns) ts)) (hf : fIx ns f = some j) (hl : ns.length < 1000 := by decide) (hy : t.put p (.nd (.ins C ns) (ts.set j u)) = g y := by rfl)
    (hsw : swapsWith e (some (.Attribute ep f pf)) pos.line X.env = pure false := by rfl) : XS X w c Γ (.Assign [.Attribute ep f pf] e pos) (fun y : α => Γ.set i (.ow oa (g y))) GB (Out.nx y : Out α B R.ρ) := by
  obtain ⟨te, h1, h2⟩ := he
  obtain ⟨tp, h3, h4⟩ := hp
  refine ⟨_, ps_fld h3 h1 hsw, fun F H σ ⟨fp, E⟩ D q => h2 F H σ fp E _ fun v F1 H1 l E1 e1 n1 r1 hl1 => h4 F1 H1 σ fp E1 _ fun vp v0 F2 H2 E2 e2 n2 g1 g2 => ?_⟩
  obtain ⟨v0', a, o, vs, fps, k1, k2, k3, k4, k5, k6, k7, k8, k9⟩ := E2.node hs hg
  rw [g1] at k1; cases k1
  rw [g2] at k2; cases k2
  have k5' := k5
  obtain ⟨⟨hc, hn⟩, hlen, dx, rfl⟩ := k5
  have hj : j < ns.length := (List.getElem?_eq_some_iff.mp (fIx_get hf)).1
  have r2 : OA X.K F2 H2 v l u := r1.grow e2 fun b hb => by
    obtain ⟨d1, z, d2⟩ := r1.dom b hb
    exact ⟨Nw.none n2 d1 (by rw [d2]; simp), (n2.h _ _ d2).trans d2.symm⟩
  have fr : ∀ b ∈ l, c.al b ∧ ∀ j, b ∉ fp j := fun b hb => ⟨E.wd.fresh (hl1 b hb), E.fresh (hl1 b hb)⟩
  have hjl : j < fps.length := by rw [k6.2.1, ← k6.1, ← hlen]; exact hj
  obtain ⟨m1, m2⟩ := nd_set (j := j) k7 (List.getElem?_eq_getElem hjl) r2.nodup (fun b hb h => (fr b hb).2 i (k8 b h))
  obtain ⟨fp', E3, _, _⟩ := k9 (.ins C dx (putF f v (ns.zip vs))) (.ins C ns) (vs.set j v) (fps.set j l) (ts.set j u) ⟨⟨hc, hn⟩, by simpa using hlen, dx, by rw [putF_zip hlen hf]⟩ (k6.set j r2) m1 (fun b hb => (m2 b hb).imp id (fr b))
  rw [hy] at E3
  exact ⟨a, C, dx, _, rfl, k4, hc, hn f (fIx_mem hf), by rw [List.length_zip]; omega, q σ F2 _ ⟨fp', E3⟩ (e1.trans e2)⟩
/-- .. f is new -/
theorem xs_fnew {f : Str} {C : Addr} {ns : List Str} {pf : Pos} (g : α → OT) (he : XN X c Γ e u) (hp : XPl X c Γ ep i p) (hs : Γ[i]? = some (.ow oa t)) (hg : t.get? p = some (.nd (.ins C ns) ts)) (hna : NoAttr X.K C f) (hf : fIx ns f = none := by decide +kernel) (hl : ns.length < 999 := by decide) (hy : t.put p (.nd (.ins C (ns ++ [f])) (ts ++ [u])) = g y := by rfl)
    (hsw : swapsWith e (some (.Attribute ep f pf)) pos.line X.env = pure false := by rfl) : XS X w c Γ (.Assign [.Attribute ep f pf] e pos) (fun y : α => Γ.set i (.ow oa (g y))) GB (Out.nx y : Out α B R.ρ) := by
  obtain ⟨te, h1, h2⟩ := he
  obtain ⟨tp, h3, h4⟩ := hp
  refine ⟨_, ps_fld h3 h1 hsw, fun F H σ ⟨fp, E⟩ D q => h2 F H σ fp E _ fun v F1 H1 l E1 e1 n1 r1 hl1 => h4 F1 H1 σ fp E1 _ fun vp v0 F2 H2 E2 e2 n2 g1 g2 => ?_⟩
  obtain ⟨v0', a, o, vs, fps, k1, k2, k3, k4, k5, k6, k7, k8, k9⟩ := E2.node hs hg
  rw [g1] at k1; cases k1
  rw [g2] at k2; cases k2
  obtain ⟨⟨hc, hn⟩, hlen, dx, rfl⟩ := k5
  have r2 : OA X.K F2 H2 v l u := r1.grow e2 fun b hb => by
    obtain ⟨d1, z, d2⟩ := r1.dom b hb
    exact ⟨Nw.none n2 d1 (by rw [d2]; simp), (n2.h _ _ d2).trans d2.symm⟩
  have fr : ∀ b ∈ l, c.al b ∧ ∀ j, b ∉ fp j := fun b hb => ⟨E.wd.fresh (hl1 b hb), E.fresh (hl1 b hb)⟩
  obtain ⟨m1, m2⟩ := nd_app (gps := [l]) k7 (by simpa using r2.nodup) (fun b hb h => (fr b (by simpa using hb)).2 i (k8 b h))
  obtain ⟨fp', E3, _, _⟩ := k9 (.ins C dx (putF f v (ns.zip vs))) (.ins C (ns ++ [f])) (vs ++ [v]) (fps ++ [l]) (ts ++ [u]) ⟨⟨hc, fun n hm => by
      rcases List.mem_append.mp hm with h | h
      · exact hn n h
      · cases List.mem_singleton.mp h; exact hna⟩, by simp [hlen], dx, by rw [putF_new hlen hf]⟩ (k6.app (.cons r2 .nil)) m1 (fun b hb => (m2 b hb).imp id (fun h => fr b (by simpa using h)))
  rw [hy] at E3
  exact ⟨a, C, dx, _, rfl, k4, hc, hna, by rw [List.length_zip]; omega, q σ F2 _ ⟨fp', E3⟩ (e1.trans e2)⟩
/-- P[n] = e, a list -/
theorem xs_iset {n : Int} {j : Nat} {q1 : Pos} (g : α → OT) (he : XN X c Γ e u) (hp : XPl X c Γ ep i p) (hk : XE X c Γ ei n) (hs : Γ[i]? = some (.ow oa t)) (hg : t.get? p = some (.nd .lst ts)) (hf : ixN ts.length n = some j) (hy : t.put p (.nd .lst (ts.set j u)) = g y)
    (ha : ∀ v, assign (.Subscript ep ei q1) X.env v = (do
      let ov ← holding [v] (eval ep X.env)
      let iv ← holding [v, ov] (eval ei X.env)
      standAt q1
      holding [v, ov, iv] (setItem ov iv v)
      release [v, ov, iv] []) := by exact fun _ => rfl)
    (hsw : swapsWithSole [.Subscript ep ei q1] e pos.line X.env = pure false := by rfl) (hw : swappedStores [.Subscript ep ei q1] e X.env = pure none := by rfl)
    (h1' : (assignEach [.Subscript ep ei q1] X.env).map (·.2) = [assign (.Subscript ep ei q1) X.env] := by rfl) :
    XS X w c Γ (.Assign [.Subscript ep ei q1] e pos) (fun y : α => Γ.set i (.ow oa (g y))) GB (Out.nx y : Out α B R.ρ) := by
  obtain ⟨te, h1, h2⟩ := he
  obtain ⟨tp, h3, h4⟩ := hp
  obtain ⟨ti, h5, h6⟩ := hk
  refine ⟨_, ps_asg h1 (pg_sub h3 h5 set_list ha) hsw hw h1', fun F H σ ⟨fp, E⟩ D q => h2 F H σ fp E _ fun v F1 H1 l E1 e1 n1 r1 hl1 => h4 F1 H1 σ fp E1 _ fun vp v0 F2 H2 E2 e2 n2 g1 g2 => h6 F2 H2 σ fp E2 _ fun vi F3 H3 E3 e3 n3 r3 => ?_⟩
  cases (show vi = .int n from r3)
  obtain ⟨v0', a, o, vs, fps, k1, k2, k3, k4, k5, k6, k7, k8, k9⟩ := E3.node hs hg
  have g2' := follow_ex n3.h g2
  rw [g1] at k1; cases k1
  rw [g2'] at k2; cases k2
  cases (show o = _ from k5)
  have r2 : OA X.K F3 H3 v l u := r1.grow (e2.trans e3) fun b hb => by
    obtain ⟨d1, z, d2⟩ := r1.dom b hb
    exact ⟨Nw.none (n2.trans n3) d1 (by rw [d2]; simp), ((n2.trans n3).h _ _ d2).trans d2.symm⟩
  have fr : ∀ b ∈ l, c.al b ∧ ∀ j, b ∉ fp j := fun b hb => ⟨E.wd.fresh (hl1 b hb), E.fresh (hl1 b hb)⟩
  have hj : j < ts.length := by
    unfold ixN at hf
    split at hf
    · split at hf
      · cases hf; omega
      · cases hf
    · split at hf
      · cases hf; omega
      · cases hf
  have hjl : j < fps.length := by rw [k6.2.1]; exact hj
  obtain ⟨m1, m2⟩ := nd_set (j := j) k7 (List.getElem?_eq_getElem hjl) r2.nodup (fun b hb h => (fr b hb).2 i (k8 b h))
  obtain ⟨fp', E4, _, _⟩ := k9 (.lst (vs.set j v)) .lst (vs.set j v) (fps.set j l) (ts.set j u) rfl (k6.set j r2) m1 (fun b hb => (m2 b hb).imp id (fr b))
  rw [hy] at E4
  exact ⟨a, vs, n, j, rfl, rfl, k4, by rw [k6.1]; exact hf, q σ F3 _ ⟨fp', E4⟩ ((e1.trans e2).trans e3)⟩
/-- the keys and parts behind d[k] = u, behind d.pop(k, _) -/
def kPut (ks : List Key) (ts : List OT) (k : Key) (u : OT) : OT := match fIx ks k with
  | some j => .nd (.dK ks) (ts.set j u)
  | none => .nd (.dK (ks ++ [k])) (ts ++ [u])
theorem any_fIx {κ : Type} [DecidableEq κ] : ∀ {ks : List κ} {vs : List V} {k : κ}, ks.length = vs.length → ((ks.zip vs).any fun kv => decide (kv.1 = k)) = (fIx ks k).isSome
  | [], vs, k, _ => by simp [fIx]
  | n :: r, [], k, h => by simp at h
  | n :: r, v :: vs, k, h => by
    rw [List.zip_cons_cons, List.any_cons, any_fIx (by simpa using h)]
    rw [show fIx (n :: r) k = if n = k then some 0 else match fIx r k with
      | some j => some (j + 1)
      | none => none from rfl]
    by_cases e : n = k
    · simp [e]
    · cases q : fIx r k <;> simp [e]
theorem map_fIx {κ : Type} [DecidableEq κ] : ∀ {ks : List κ} {vs : List V} {k : κ} {j : Nat} {v : V}, ks.Nodup → ks.length = vs.length → fIx ks k = some j → (ks.zip vs).map (fun kv => if kv.1 = k then (kv.1, v) else kv) = ks.zip (vs.set j v)
  | [], vs, k, j, v, _, _, h => by cases h
  | n :: r, [], k, j, v, _, h, _ => by simp at h
  | n :: r, w :: vs, k, j, v, nd, hl, h => by
    unfold fIx at h
    rw [List.zip_cons_cons, List.map_cons]
    split at h
    · rename_i e; cases h
      rw [if_pos e, List.set_cons_zero, List.zip_cons_cons]
      congr 1
      have : ∀ kv ∈ r.zip vs, (if kv.1 = k then (kv.1, v) else kv) = kv := fun kv hm => if_neg fun z => (List.nodup_cons.mp nd).1 (by rw [e, ← z]; exact (List.of_mem_zip (a := kv.1) (b := kv.2) hm).1)
      rw [List.map_congr_left this, List.map_id'']
      intro x; rfl
    · rename_i e
      rw [if_neg e]
      cases q : fIx r k with
      | none => rw [q] at h; cases h
      | some k' => rw [q] at h; cases h; rw [List.set_cons_succ, List.zip_cons_cons, map_fIx (List.nodup_cons.mp nd).2 (by simpa using hl) q]
/-- P[k] = e, a dict -/
theorem xs_dset {ky : Key} {ks : List Key} {q1 : Pos} {z : υ} (g : α → OT) (hu : X.A.units + 1 < cLine) (he : XN X c Γ e u) (hp : XPl X c Γ ep i p) (hk : XE X c Γ ei z) (hz : ∀ F v, rep X.K F v z → v = kV ky) (hs : Γ[i]? = some (.ow oa t)) (hg : t.get? p = some (.nd (.dK ks) ts)) (hnd : ks.Nodup) (hln : ks.length < 100000) (hy : t.put p (kPut ks ts ky u) = g y)
    (hsw : swapsWith e (some (.Subscript ep ei q1)) pos.line X.env = pure false := by rfl) :
    XS X w c Γ (.Assign [.Subscript ep ei q1] e pos) (fun y : α => Γ.set i (.ow oa (g y))) GB (Out.nx y : Out α B R.ρ) := by
  obtain ⟨te, h1, h2⟩ := he
  obtain ⟨tp, h3, h4⟩ := hp
  obtain ⟨ti, h5, h6⟩ := hk
  refine ⟨_, ps_dput hu h3 h5 h1 hsw, fun F H σ ⟨fp, E⟩ D q => h2 F H σ fp E _ fun v F1 H1 l E1 e1 n1 r1 hl1 => h4 F1 H1 σ fp E1 _ fun vp v0 F2 H2 E2 e2 n2 g1 g2 => h6 F2 H2 σ fp E2 _ fun vi F3 H3 E3 e3 n3 r3 => ?_⟩
  cases hz _ _ r3
  obtain ⟨v0', a, o, vs, fps, k1, k2, k3, k4, k5, k6, k7, k8, k9⟩ := E3.node hs hg
  have g2' := follow_ex n3.h g2
  rw [g1] at k1; cases k1
  rw [g2'] at k2; cases k2
  obtain ⟨hlen, rfl⟩ := k5
  have r2 : OA X.K F3 H3 v l u := r1.grow (e2.trans e3) fun b hb => by
    obtain ⟨d1, z, d2⟩ := r1.dom b hb
    exact ⟨Nw.none (n2.trans n3) d1 (by rw [d2]; simp), ((n2.trans n3).h _ _ d2).trans d2.symm⟩
  have fr : ∀ b ∈ l, c.al b ∧ ∀ j, b ∉ fp j := fun b hb => ⟨E.wd.fresh (hl1 b hb), E.fresh (hl1 b hb)⟩
  have sz1 : (ks.zip vs).length < sizeLine := by rw [List.length_zip]; exact Nat.lt_of_lt_of_le (by omega : _ < 100000) (by decide)
  refine ⟨a, _, rfl, DPut.k (k := ky) (v := v) k4 sz1, ?_⟩
  unfold kPut at hy
  cases hf : fIx ks ky with
  | some j =>
    have hj : j < ks.length := (List.getElem?_eq_some_iff.mp (fIx_get hf)).1
    have hjl : j < fps.length := by rw [k6.2.1, ← k6.1]; omega
    obtain ⟨m1, m2⟩ := nd_set (j := j) k7 (List.getElem?_eq_getElem hjl) r2.nodup (fun b hb h => (fr b hb).2 i (k8 b h))
    have ep : putK (ks.zip vs) ky v = ks.zip (vs.set j v) := by
      unfold putK
      rw [any_fIx hlen, hf]
      exact (if_pos rfl).trans (map_fIx hnd hlen hf)
    obtain ⟨fp', E4, _, _⟩ := k9 (.dK (putK (ks.zip vs) ky v)) (.dK ks) (vs.set j v) (fps.set j l) (ts.set j u) ⟨by simpa using hlen, by rw [ep]⟩ (k6.set j r2) m1 (fun b hb => (m2 b hb).imp id (fr b))
    rw [hf] at hy
    rw [hy] at E4
    exact q σ F3 _ ⟨fp', E4⟩ ((e1.trans e2).trans e3)
  | none =>
    obtain ⟨m1, m2⟩ := nd_app (gps := [l]) k7 (by simpa using r2.nodup) (fun b hb h => (fr b (by simpa using hb)).2 i (k8 b h))
    have ep : putK (ks.zip vs) ky v = (ks ++ [ky]).zip (vs ++ [v]) := by
      unfold putK
      rw [any_fIx hlen, hf]
      refine (if_neg (by simp)).trans ?_
      rw [List.zip_append hlen]; rfl
    obtain ⟨fp', E4, _, _⟩ := k9 (.dK (putK (ks.zip vs) ky v)) (.dK (ks ++ [ky])) (vs ++ [v]) (fps ++ [l]) (ts ++ [u]) ⟨by simp [hlen], by rw [ep]⟩ (k6.app (.cons r2 .nil)) m1 (fun b hb => (m2 b hb).imp id (fun h => fr b (by simpa using h)))
    rw [hf] at hy
    rw [hy] at E4
    exact q σ F3 _ ⟨fp', E4⟩ ((e1.trans e2).trans e3)
/-- P.append(e) -/
theorem xs_append {q1 q2 : Pos} (g : α → OT) (hp : XPl X c Γ ep i p) (he : XN X c Γ e u) (hs : Γ[i]? = some (.ow oa t)) (hg : t.get? p = some (.nd .lst ts)) (hl : ts.length < 100000) (hy : t.put p (.nd .lst (ts ++ [u])) = g y)
    (hst : starEach [e] X.env = [(false, eval e X.env)] := by rfl)
    (hsw : swapsWith (.Call (.Attribute ep "append" q1) [e] [] q2) none pos.line X.env = pure false := by rfl) (hab : attributeBase ep "append" X.env (eval ep X.env) = eval ep X.env := by rfl) (hln : (q1.endLine == q2.line) = true := by rfl)
    (hfew : ((backTo q2 (starEach [e] X.env)).all (fun x => !x.1) && (backToKw q2 (keywordEach [] X.env)).all (fun x => x.1.isSome) && decide (([e] : List Expr).length + ([] : List Keyword).length + (if ([] : List Keyword).isEmpty then 0 else 1) < 30)) = true := by rfl) :
    XS X w c Γ (.Expr (.Call (.Attribute ep "append" q1) [e] [] q2) pos) (fun y : α => Γ.set i (.ow oa (g y))) GB (Out.nx y : Out α B R.ρ) := by
  obtain ⟨te, h1, h2⟩ := he
  obtain ⟨tp, h3, h4⟩ := hp
  refine ⟨_, ps_expr (pe_bm PySem.F.plainAttrs_list PySem.F.slot_list_append PySem.F.type_list_append mt_append h3 (pa_cons h1 pa_nil hst) hab hfew hln hst rfl) hsw, fun F H σ ⟨fp, E⟩ D q => h4 F H σ fp E _ fun vp v0 F1 H1 E1 e1 n1 g1 g2 => ?_⟩
  have typ : tyV X.K "list" vp H1 := by
    obtain ⟨v0', a, o, vs, fps, k1, k2, k3, k4, k5, _⟩ := E1.node hs hg
    rw [g1] at k1; cases k1
    rw [g2] at k2; cases k2
    cases (show o = _ from k5)
    exact .inl ⟨rfl, _, sq_of k4⟩
  refine ⟨typ, h2 F1 H1 σ fp E1 _ fun v F2 H2 l E2 e2 n2 r1 hl1 => ?_⟩
  obtain ⟨v0', a, o, vs, fps, k1, k2, k3, k4, k5, k6, k7, k8, k9⟩ := E2.node hs hg
  have g2' := follow_ex n2.h g2
  rw [g1] at k1; cases k1
  rw [g2'] at k2; cases k2
  cases (show o = _ from k5)
  have fr : ∀ b ∈ l, c.al b ∧ ∀ j, b ∉ fp j := fun b hb => ⟨E1.wd.fresh (hl1 b hb), E1.fresh (hl1 b hb)⟩
  obtain ⟨m1, m2⟩ := nd_app (gps := [l]) k7 (by simpa using r1.nodup) (fun b hb h => (fr b (by simpa using hb)).2 i (k8 b h))
  obtain ⟨fp', E4, _, _⟩ := k9 (.lst (vs ++ [v])) .lst (vs ++ [v]) (fps ++ [l]) (ts ++ [u]) rfl (k6.app (.cons r1 .nil)) m1 (fun b hb => (m2 b hb).imp id (fun h => fr b (by simpa using h)))
  rw [hy] at E4
  exact ⟨a, vs, v, rfl, rfl, k4, Nat.lt_of_lt_of_le (by rw [k6.1]; exact hl) (by decide : 100000 ≤ sizeLine), q σ F2 _ ⟨fp', E4⟩ (e1.trans e2)⟩
/-- P.extend(e) -/
theorem xs_extend {q1 q2 : Pos} {gg : τ → OT} {zs : List τ} (g : α → OT) (hp : XPl X c Γ ep i p) (he : XQ X c Γ .l e gg zs) (hs : Γ[i]? = some (.ow oa t)) (hg : t.get? p = some (.nd .lst ts)) (hl : ts.length + zs.length ≤ 100000) (hy : t.put p (.nd .lst (ts ++ zs.map gg)) = g y)
    (hst : starEach [e] X.env = [(false, eval e X.env)] := by rfl)
    (hsw : swapsWith (.Call (.Attribute ep "extend" q1) [e] [] q2) none pos.line X.env = pure false := by rfl) (hab : attributeBase ep "extend" X.env (eval ep X.env) = eval ep X.env := by rfl) (hln : (q1.endLine == q2.line) = true := by rfl)
    (hfew : ((backTo q2 (starEach [e] X.env)).all (fun x => !x.1) && (backToKw q2 (keywordEach [] X.env)).all (fun x => x.1.isSome) && decide (([e] : List Expr).length + ([] : List Keyword).length + (if ([] : List Keyword).isEmpty then 0 else 1) < 30)) = true := by rfl) :
    XS X w c Γ (.Expr (.Call (.Attribute ep "extend" q1) [e] [] q2) pos) (fun y : α => Γ.set i (.ow oa (g y))) GB (Out.nx y : Out α B R.ρ) := by
  obtain ⟨te, h1, h2⟩ := he
  obtain ⟨tp, h3, h4⟩ := hp
  refine ⟨_, ps_expr (pe_bm PySem.F.plainAttrs_list PySem.F.slot_list_extend PySem.F.type_list_extend mt_extend h3 (pa_cons h1 pa_nil hst) hab hfew hln hst rfl) hsw, fun F H σ ⟨fp, E⟩ D q => h4 F H σ fp E _ fun vp v0 F1 H1 E1 e1 n1 g1 g2 => ?_⟩
  have typ : tyV X.K "list" vp H1 := by
    obtain ⟨v0', a, o, vs, fps, k1, k2, k3, k4, k5, _⟩ := E1.node hs hg
    rw [g1] at k1; cases k1
    rw [g2] at k2; cases k2
    cases (show o = _ from k5)
    exact .inl ⟨rfl, _, sq_of k4⟩
  refine ⟨typ, h2 F1 H1 σ fp E1 _ fun a2 ws gps F2 H2 E2 e2 n2 sq r1 nd1 hl1 => ?_⟩
  obtain ⟨v0', a, o, vs, fps, k1, k2, k3, k4, k5, k6, k7, k8, k9⟩ := E2.node hs hg
  have g2' := follow_ex n2.h g2
  rw [g1] at k1; cases k1
  rw [g2'] at k2; cases k2
  cases (show o = _ from k5)
  have fr : ∀ b ∈ gps.flatten, c.al b ∧ ∀ j, b ∉ fp j := fun b hb => ⟨E1.wd.fresh (hl1 b hb), E1.fresh (hl1 b hb)⟩
  obtain ⟨m1, m2⟩ := nd_app (gps := gps) k7 nd1 (fun b hb h => (fr b hb).2 i (k8 b h))
  obtain ⟨fp', E4, _, _⟩ := k9 (.lst (vs ++ ws)) .lst (vs ++ ws) (fps ++ gps) (ts ++ zs.map gg) rfl (k6.app r1) m1 (fun b hb => (m2 b hb).imp id (fr b))
  rw [hy] at E4
  exact ⟨a, a2, vs, ws, rfl, rfl, k4, sq, sz _ (by rw [k6.1, r1.1]; simpa using hl), q σ F2 _ ⟨fp', E4⟩ (e1.trans e2)⟩
/-- P.insert(n, e) -/
theorem xs_insert {q1 q2 : Pos} {n : Int} (g : α → OT) (hp : XPl X c Γ ep i p) (hk : XE X c Γ ei n) (he : XN X c Γ e u) (hn : 0 ≤ n ∧ n < 2 ^ 63) (hs : Γ[i]? = some (.ow oa t)) (hg : t.get? p = some (.nd .lst ts)) (hl : ts.length < 100000) (hy : t.put p (.nd .lst (ts.take n.toNat ++ [u] ++ ts.drop n.toNat)) = g y)
    (hst : starEach [ei, e] X.env = (false, eval ei X.env) :: starEach [e] X.env := by rfl) (hst2 : starEach [e] X.env = [(false, eval e X.env)] := by rfl)
    (hsw : swapsWith (.Call (.Attribute ep "insert" q1) [ei, e] [] q2) none pos.line X.env = pure false := by rfl) (hab : attributeBase ep "insert" X.env (eval ep X.env) = eval ep X.env := by rfl) (hln : (q1.endLine == q2.line) = true := by rfl)
    (hfew : ((backTo q2 (starEach [ei, e] X.env)).all (fun x => !x.1) && (backToKw q2 (keywordEach [] X.env)).all (fun x => x.1.isSome) && decide (([ei, e] : List Expr).length + ([] : List Keyword).length + (if ([] : List Keyword).isEmpty then 0 else 1) < 30)) = true := by rfl)
    (hpl : (backTo q2 (starEach [e] X.env)).any (·.1) = false := by rfl) :
    XS X w c Γ (.Expr (.Call (.Attribute ep "insert" q1) [ei, e] [] q2) pos) (fun y : α => Γ.set i (.ow oa (g y))) GB (Out.nx y : Out α B R.ρ) := by
  obtain ⟨te, h1, h2⟩ := he
  obtain ⟨tp, h3, h4⟩ := hp
  obtain ⟨ti, h5, h6⟩ := hk
  refine ⟨_, ps_expr (pe_bm PySem.F.plainAttrs_list PySem.F.slot_list_insert PySem.F.type_list_insert mt_insert h3 (pa_cons h5 (pa_cons h1 pa_nil hst2) hst) hab hfew hln hst hpl) hsw, fun F H σ ⟨fp, E⟩ D q => h4 F H σ fp E _ fun vp v0 F1 H1 E1 e1 n1 g1 g2 => ?_⟩
  have typ : tyV X.K "list" vp H1 := by
    obtain ⟨v0', a, o, vs, fps, k1, k2, k3, k4, k5, _⟩ := E1.node hs hg
    rw [g1] at k1; cases k1
    rw [g2] at k2; cases k2
    cases (show o = _ from k5)
    exact .inl ⟨rfl, _, sq_of k4⟩
  refine ⟨typ, h6 F1 H1 σ fp E1 _ fun vi F2 H2 E2 e2 n2 r2 => h2 F2 H2 σ fp E2 _ fun v F3 H3 l E3 e3 n3 r1 hl1 => ?_⟩
  cases (show vi = .int n from r2)
  obtain ⟨v0', a, o, vs, fps, k1, k2, k3, k4, k5, k6, k7, k8, k9⟩ := E3.node hs hg
  have g2' := follow_ex (n2.trans n3).h g2
  rw [g1] at k1; cases k1
  rw [g2'] at k2; cases k2
  cases (show o = _ from k5)
  have fr : ∀ b ∈ l, c.al b ∧ ∀ j, b ∉ fp j := fun b hb => ⟨E2.wd.fresh (hl1 b hb), E2.fresh (hl1 b hb)⟩
  obtain ⟨m1, m2⟩ := nd_ins (n := n.toNat) k7 r1.nodup (fun b hb h => (fr b hb).2 i (k8 b h))
  obtain ⟨fp', E4, _, _⟩ := k9 (.lst (vs.take n.toNat ++ [v] ++ vs.drop n.toNat)) .lst _ (fps.take n.toNat ++ [l] ++ fps.drop n.toNat) (ts.take n.toNat ++ [u] ++ ts.drop n.toNat) rfl (((k6.take _).app (.cons r1 .nil)).app (k6.drop _)) m1 (fun b hb => (m2 b hb).imp id (fr b))
  rw [hy] at E4
  exact ⟨a, vs, n, v, rfl, rfl, k4, Nat.lt_of_lt_of_le (by rw [k6.1]; exact hl) (by decide : 100000 ≤ sizeLine), hn.1, hn.2, q σ F3 _ ⟨fp', E4⟩ ((e1.trans e2).trans e3)⟩
/-- P.pop(n), its value passed over -/
theorem xs_popAt {q1 q2 : Pos} {n : Int} {j : Nat} (g : α → OT) (hp : XPl X c Γ ep i p) (hk : XE X c Γ ei n) (hs : Γ[i]? = some (.ow oa t)) (hg : t.get? p = some (.nd .lst ts)) (hn : 0 ≤ n ∧ n < 2 ^ 63) (hf : n.toNat < ts.length) (hy : t.put p (.nd .lst (ts.eraseIdx n.toNat)) = g y)
    (hst : starEach [ei] X.env = [(false, eval ei X.env)] := by rfl)
    (hsw : swapsWith (.Call (.Attribute ep "pop" q1) [ei] [] q2) none pos.line X.env = pure false := by rfl) (hab : attributeBase ep "pop" X.env (eval ep X.env) = eval ep X.env := by rfl) (hln : (q1.endLine == q2.line) = true := by rfl)
    (hfew : ((backTo q2 (starEach [ei] X.env)).all (fun x => !x.1) && (backToKw q2 (keywordEach [] X.env)).all (fun x => x.1.isSome) && decide (([ei] : List Expr).length + ([] : List Keyword).length + (if ([] : List Keyword).isEmpty then 0 else 1) < 30)) = true := by rfl) :
    XS X w c Γ (.Expr (.Call (.Attribute ep "pop" q1) [ei] [] q2) pos) (fun y : α => Γ.set i (.ow oa (g y))) GB (Out.nx y : Out α B R.ρ) := by
  obtain ⟨tp, h3, h4⟩ := hp
  obtain ⟨ti, h5, h6⟩ := hk
  refine ⟨_, ps_expr (pe_bm PySem.F.plainAttrs_list PySem.F.slot_list_pop PySem.F.type_list_pop mt_popAt h3 (pa_cons h5 pa_nil hst) hab hfew hln hst rfl) hsw, fun F H σ ⟨fp, E⟩ D q => h4 F H σ fp E _ fun vp v0 F1 H1 E1 e1 n1 g1 g2 => ?_⟩
  have typ : tyV X.K "list" vp H1 := by
    obtain ⟨v0', a, o, vs, fps, k1, k2, k3, k4, k5, _⟩ := E1.node hs hg
    rw [g1] at k1; cases k1
    rw [g2] at k2; cases k2
    cases (show o = _ from k5)
    exact .inl ⟨rfl, _, sq_of k4⟩
  refine ⟨typ, h6 F1 H1 σ fp E1 _ fun vi F2 H2 E2 e2 n2 r2 => ?_⟩
  cases (show vi = .int n from r2)
  obtain ⟨v0', a, o, vs, fps, k1, k2, k3, k4, k5, k6, k7, k8, k9⟩ := E2.node hs hg
  have g2' := follow_ex n2.h g2
  rw [g1] at k1; cases k1
  rw [g2'] at k2; cases k2
  cases (show o = _ from k5)
  have hv : n.toNat < vs.length := by rw [k6.1]; exact hf
  obtain ⟨m1, m2⟩ := nd_sub k7 (List.eraseIdx_sublist fps n.toNat)
  obtain ⟨fp', E4, _, _⟩ := k9 (.lst (vs.eraseIdx n.toNat)) .lst _ (fps.eraseIdx n.toNat) (ts.eraseIdx n.toNat) rfl (k6.erase _) m1 (fun b hb => .inl (m2 b hb))
  rw [hy] at E4
  refine ⟨a, vs, n, n.toNat, vs[n.toNat], rfl, rfl, k4, by omega, hn.2, ?_, List.getElem?_eq_getElem hv, q σ F2 _ ⟨fp', E4⟩ (e1.trans e2)⟩
  refine (ixN_seq ?_).1
  unfold ixN
  rw [if_pos hn.1, if_pos (by omega)]
/-- P.clear(), a list -/
theorem xs_clear {q1 q2 : Pos} (g : α → OT) (hp : XPl X c Γ ep i p) (hs : Γ[i]? = some (.ow oa t)) (hg : t.get? p = some (.nd .lst ts)) (hy : t.put p (.nd .lst []) = g y)
    (hsw : swapsWith (.Call (.Attribute ep "clear" q1) [] [] q2) none pos.line X.env = pure false := by rfl) (hab : attributeBase ep "clear" X.env (eval ep X.env) = eval ep X.env := by rfl) (hln : (q1.endLine == q2.line) = true := by rfl) :
    XS X w c Γ (.Expr (.Call (.Attribute ep "clear" q1) [] [] q2) pos) (fun y : α => Γ.set i (.ow oa (g y))) GB (Out.nx y : Out α B R.ρ) := by
  obtain ⟨tp, h3, h4⟩ := hp
  refine ⟨_, ps_expr (pe_bm0 PySem.F.plainAttrs_list PySem.F.slot_list_clear PySem.F.type_list_clear mt_clear h3 hab hln) hsw, fun F H σ ⟨fp, E⟩ D q => h4 F H σ fp E _ fun vp v0 F1 H1 E1 e1 n1 g1 g2 => ?_⟩
  obtain ⟨v0', a, o, vs, fps, k1, k2, k3, k4, k5, k6, k7, k8, k9⟩ := E1.node hs hg
  rw [g1] at k1; cases k1
  rw [g2] at k2; cases k2
  cases (show o = _ from k5)
  obtain ⟨m1, m2⟩ := nd_sub k7 (List.nil_sublist fps)
  obtain ⟨fp', E4, _, _⟩ := k9 (.lst []) .lst [] [] [] rfl .nil m1 (fun b hb => .inl (m2 b hb))
  rw [hy] at E4
  exact ⟨.inl ⟨rfl, _, sq_of k4⟩, a, vs, rfl, rfl, k4, q σ F1 _ ⟨fp', E4⟩ e1⟩
/-- .. a dict -/
theorem xs_dclear {q1 q2 : Pos} {ks : List Key} (g : α → OT) (hp : XPl X c Γ ep i p) (hs : Γ[i]? = some (.ow oa t)) (hg : t.get? p = some (.nd (.dK ks) ts)) (hy : t.put p (.nd (.dK []) []) = g y)
    (hsw : swapsWith (.Call (.Attribute ep "clear" q1) [] [] q2) none pos.line X.env = pure false := by rfl) (hab : attributeBase ep "clear" X.env (eval ep X.env) = eval ep X.env := by rfl) (hln : (q1.endLine == q2.line) = true := by rfl) :
    XS X w c Γ (.Expr (.Call (.Attribute ep "clear" q1) [] [] q2) pos) (fun y : α => Γ.set i (.ow oa (g y))) GB (Out.nx y : Out α B R.ρ) := by
  obtain ⟨tp, h3, h4⟩ := hp
  refine ⟨_, ps_expr (pe_dclear h3 hab hln) hsw, fun F H σ ⟨fp, E⟩ D q => h4 F H σ fp E _ fun vp v0 F1 H1 E1 e1 n1 g1 g2 => ?_⟩
  obtain ⟨v0', a, o, vs, fps, k1, k2, k3, k4, k5, k6, k7, k8, k9⟩ := E1.node hs hg
  rw [g1] at k1; cases k1
  rw [g2] at k2; cases k2
  obtain ⟨hlen, rfl⟩ := k5
  obtain ⟨m1, m2⟩ := nd_sub k7 (List.nil_sublist fps)
  obtain ⟨fp', E4, _, _⟩ := k9 (.dK []) (.dK []) [] [] [] ⟨rfl, rfl⟩ .nil m1 (fun b hb => .inl (m2 b hb))
  rw [hy] at E4
  exact ⟨.inr (.inr (.inl ⟨rfl, .inl ⟨_, k4⟩⟩)), a, _, rfl, rfl, k4, q σ F1 _ ⟨fp', E4⟩ e1⟩
end
end Fw
/-! methods, classes called; fields of frozen objects; where nothing is being shown -/
namespace Fw
open PySem L2 Py PyProof.Rows
/-- a method -/
structure Fm (P : Program) (w : World) (K : Fg) (mg : Str → Option Value) (base : Heap) (CX : CXT) (C : Addr) (m : Str) (ps : List Str) (k : Nat) (sp : Sp) : Prop where
  ex : ∃ f fd, Meth K C m f ∧ Binds K fd ps [] ∧ FnOk P w K mg base CX k f fd ps sp
/-- a method of the text -/
structure Dm (K : Fg) (C : Addr) (m q : Str) (st : Stmt) : Prop where
  ex : ∃ f fd, Meth K C m f ∧ Fun K m q st f fd
/-- a class, called -/
structure Fc' (P : Program) (w : World) (K : Fg) (mg : Str → Option Value) (base : Heap) (CX : CXT) (x : Str) (C : Addr) (ps : List Str) (k : Nat) (sp : Sp) : Prop where
  ex : ∃ f fd, Mk K C f ∧ mg x = some (.ref C) ∧ Binds K fd ps [] ∧ FnOk P w K mg base CX k f fd ps sp
structure Dc (K : Fg) (mg : Str → Option Value) (x : Str) (C : Addr) (q : Str) (st : Stmt) : Prop where
  ex : ∃ f fd, Mk K C f ∧ Fun K "__init__" q st f fd
  mg : mg x = some (.ref C)
  cl : Cls K C
section
variable {P : Program} {w : World} {K : Fg} {mg : Str → Option Value} {base : Heap} {α ρ : Type} {D0 : α → List ArgD} {pre : α → Prop} {D1 : ρ → List (Option OT)} {RS : ρ → Slot} {xn : ρ → Option Str} {m : α → ρ}
abbrev BindOk (x q : Str) (st : Stmt) (ps : List Str) : Prop := ∀ (kV doc pm : Value) (an : Option Addr) (cdv ct : Value) (us : List Value), us.length = ps.length → bindArgs (PySem.W.fnOf x q (defArgs st) (defBody st) (defScope st) .none kV doc pm an cdv ct) ⟨us, []⟩ = pure (ps.zip us)
theorem fm_of {C : Addr} {mn q : Str} {st : Stmt} {N ps : List Str} {k : Nat} {S : Type} {nf : S → ρ} {G : (Nat → Addr) → S → List Slot} (D : Dm K C mn q st) (Sc : FnScope N ps (defScope st)) (hn : ∀ a, (D0 a).length = ps.length) (hb : BindOk mn q st ps)
    (sh : ∀ a r, (D1 r).map Option.isSome = (D0 a).map ArgD.isOw) (hnx : ∀ as s, xn (nf s) = none ∧ RS (nf s) = .fz () ∧ ∀ (i : Nat) (z : Slot), (outSl as 0 (D1 (nf s)))[i]? = some z → z = Slot.no ∨ (G as s)[i]? = some z)
    (body : ∀ (f : Addr) (cdv : Value) (A : Around) (outer : List PySem.Env) (s : Shared) (H : Hp) (E : XK) (c : Cw) (as : Nat → Addr) (a : α), Room' k A q st s f cdv → pre a →
      XF (R := RcG as D1 RS xn) (cxOf (L2.CX P w) P w K mg base N q (defScope st) f cdv A outer s H E) ⟨fun cls d _ H => E cls d H, List.replicate N.length .no⟩ c (argSl as 0 (D0 a) ++ List.replicate (N.length - (D0 a).length) .no) (defBody st) nf (G as) (m a)) :
    Fm P w K mg base (L2.CX P w) C mn ps (k + 1) (SpG K mg D0 pre D1 RS xn m) := by
  obtain ⟨f, fd, hm, F⟩ := D.ex
  exact ⟨f, fd, hm, F.binds hb, fn_of F Sc hn sh hnx body⟩
theorem fc_of' {x : Str} {C : Addr} {q : Str} {st : Stmt} {N ps : List Str} {k : Nat} {S : Type} {nf : S → ρ} {G : (Nat → Addr) → S → List Slot} (D : Dc K mg x C q st) (Sc : FnScope N ps (defScope st)) (hn : ∀ a, (D0 a).length = ps.length) (hb : BindOk "__init__" q st ps)
    (sh : ∀ a r, (D1 r).map Option.isSome = (D0 a).map ArgD.isOw) (hnx : ∀ as s, xn (nf s) = none ∧ RS (nf s) = .fz () ∧ ∀ (i : Nat) (z : Slot), (outSl as 0 (D1 (nf s)))[i]? = some z → z = Slot.no ∨ (G as s)[i]? = some z)
    (body : ∀ (f : Addr) (cdv : Value) (A : Around) (outer : List PySem.Env) (s : Shared) (H : Hp) (E : XK) (c : Cw) (as : Nat → Addr) (a : α), Room' k A q st s f cdv → pre a →
      XF (R := RcG as D1 RS xn) (cxOf (L2.CX P w) P w K mg base N q (defScope st) f cdv A outer s H E) ⟨fun cls d _ H => E cls d H, List.replicate N.length .no⟩ c (argSl as 0 (D0 a) ++ List.replicate (N.length - (D0 a).length) .no) (defBody st) nf (G as) (m a)) :
    Fc' P w K mg base (L2.CX P w) x C ps (k + 1) (SpG K mg D0 pre D1 RS xn m) := by
  obtain ⟨f, fd, hm, F⟩ := D.ex
  exact ⟨f, fd, hm, D.mg, F.binds hb, fn_of F Sc hn sh hnx body⟩
theorem dm_mk {h : Heap} {C : Addr} {x q : Str} {st : Stmt} {f : Addr} {oc : Value} {od an : Option Addr} {osl : Array (Option Value)} {kV doc pm cdv ct : Value} (l : K.lookup f = some ⟨oc, od, .func (PySem.W.fnOf x q (defArgs st) (defBody st) (defScope st) .none kV doc pm an cdv ct), osl⟩)
    (c : PySem.W.codeIn K cdv q = true) (k : PySem.W.keepIn K (.ref f) = true) (a : PySem.W.findIn K (.ref C) x = some (some (.ref f))) (fn : PySem.W.isFn K (.ref f) = true) : Dm K C x q st := ⟨f, _, ⟨a, fn, k⟩, fun_mk l c k⟩
end
section
variable {X : Cx} {c : Cw} {Γ Γ' : List Slot} {τ υ : Type} [Py τ] [Py υ] {e a b : Expr} {t u : OT} {x : τ} {pos apos : Pos} {i : Nat} {p : List Nat} {oa : Option Addr} {k : Kind} {ts : List OT}
variable {α ρ : Type} {D0 : α → List ArgD} {pre : α → Prop} {D1 : ρ → List (Option OT)} {RS : ρ → Slot} {xn : ρ → Option Str} {m : α → ρ} {n : Str} {ps : List Str} {lv lj : Nat} {r : α} {as : List CA} {es : List Expr} {pf : Pos} {s : Slot} {C : Addr} {ns : List Str} {o : Expr}
/-- what is known of a receiver -/
theorem recv {F H : Hp} {σ : L2.St} {fp : Nat → List Addr} (E1 : EnvD X.K c F H σ Γ fp) {v0 v : V} (g1 : σ[i]? = some (some v0)) (g2 : follow H v0 p = some v) (hs : Γ[i]? = some (.ow oa t)) (hg : t.get? p = some (.nd (.ins C ns) ts)) (hf : fIx ns n = none) :
    ∃ a dx fs, v = .ref a ∧ H a = some (.ins C dx fs) ∧ fs.lookup n = none := by
  obtain ⟨v0', a, o, vs, fps, k1, k2, k3, k4, k5, k6, _⟩ := E1.node hs hg
  rw [g1] at k1; cases k1
  rw [g2] at k2; cases k2
  obtain ⟨_, hlen, dx, rfl⟩ := k5
  exact ⟨a, dx, _, rfl, k4, lookup_zip_none hf⟩
/-- o.m(..), o a place -/
theorem xm_meth {pl : Sem Bool} (G : Fm X.prog X.w X.K X.mg X.base (L2.CX X.prog X.w) C n ps lv (SpG X.K X.mg D0 pre D1 RS xn m)) (cl : Cls X.K C) (hr : Room lj X.A) (hj : lv ≤ lj) (ho : XPl X c Γ o i p) (hs1 : Γ[i]? = some (.ow oa t)) (hg1 : t.get? p = some (.nd (.ins C ns) ts)) (hf : fIx ns n = none) (ha : XAr X c Γ (e :: es) as)
    (hp : pre r) (hD : (CA.pl i p oa t (.nd (.ins C ns) ts) :: as).map CA.d = D0 r) (hg : caOk Γ as) (nd : ((CA.pl i p oa t (.nd (.ins C ns) ts) :: as).filterMap CA.ix).Nodup) (hsh : (D1 (m r)).map Option.isSome = (D0 r).map ArgD.isOw) (hx : xn (m r) = none := by rfl)
    (hst : starEach (e :: es) X.env = (false, eval e X.env) :: starEach es X.env := by rfl) (hpl : (backTo pos (starEach es X.env)).any (·.1) = false := by rfl)
    (ht : eval (.Call (.Attribute o n apos) (e :: es) [] pos) X.env = (do
      let ov ← eval o X.env
      standAt apos.atName
      let (f, first) ← holding [ov] (getMethod ov n pl)
      callWith pos f first (backTo pos (starEach (e :: es) X.env)) (backToKw pos (keywordEach [] X.env))) := by rfl) :
    XM X c Γ (caUp Γ (CA.pl i p oa t (.nd (.ins C ns) ts) :: as) (D1 (m r))) (.Call (.Attribute o n apos) (e :: es) [] pos) (RS (m r)) := by
  obtain ⟨f, fd, g1, g3, g4⟩ := G.ex
  obtain ⟨to, o1, o2⟩ := ho
  obtain ⟨ta, h1, h2⟩ := ha
  refine ⟨_, pe_meth (E := E0) o1 cl g1 g4 (hr.mono hj) g3 .nil passL h1 hst hpl ht, fun F H σ fp E Q q => o2 F H σ fp E _ fun v v0 F1 H1 E1 e1 x1 k1 k2 => ?_⟩
  obtain ⟨ad, dx, fs, rfl, y1, y2⟩ := recv E1 k1 k2 hs1 hg1 hf
  refine ⟨ad, dx, fs, rfl, y1, y2, h2 F1 H1 σ fp E1 _ fun vs F2 H2 E2 e2 x2 k => ?_⟩
  rw [List.append_nil]
  exact call_res (CX := L2.CX X.prog X.w) (F := F) (H := H) hD ⟨⟨hs1, hg1, rfl⟩, hg⟩ nd hp hx hsh E2 (.cons ⟨v0, k1, follow_ex x2.h k2⟩ k) fun v F' H' fp' l y1 y2 y3 y4 => q v F' H' fp' l y1 ((e1.trans e2).trans y2) y3 y4
/-- o.m() -/
theorem xm_meth0 {pl : Sem Bool} (G : Fm X.prog X.w X.K X.mg X.base (L2.CX X.prog X.w) C n ps lv (SpG X.K X.mg D0 pre D1 RS xn m)) (cl : Cls X.K C) (hr : Room lj X.A) (hj : lv ≤ lj) (ho : XPl X c Γ o i p) (hs1 : Γ[i]? = some (.ow oa t)) (hg1 : t.get? p = some (.nd (.ins C ns) ts)) (hf : fIx ns n = none)
    (hp : pre r) (hD : [CA.pl i p oa t (.nd (.ins C ns) ts)].map CA.d = D0 r) (hsh : (D1 (m r)).map Option.isSome = (D0 r).map ArgD.isOw) (hx : xn (m r) = none := by rfl)
    (ht : eval (.Call (.Attribute o n apos) [] [] pos) X.env = (do
      let ov ← eval o X.env
      standAt apos.atName
      let (f, first) ← holding [ov] (getMethod ov n pl)
      callWith pos f first (backTo pos (starEach [] X.env)) (backToKw pos (keywordEach [] X.env))) := by rfl) :
    XM X c Γ (caUp Γ [CA.pl i p oa t (.nd (.ins C ns) ts)] (D1 (m r))) (.Call (.Attribute o n apos) [] [] pos) (RS (m r)) := by
  obtain ⟨f, fd, g1, g3, g4⟩ := G.ex
  obtain ⟨to, o1, o2⟩ := ho
  refine ⟨_, pe_meth0 (E := E0) o1 cl g1 g4 (hr.mono hj) g3 .nil passL ht, fun F H σ fp E Q q => o2 F H σ fp E _ fun v v0 F1 H1 E1 e1 x1 k1 k2 => ?_⟩
  obtain ⟨ad, dx, fs, rfl, y1, y2⟩ := recv E1 k1 k2 hs1 hg1 hf
  refine ⟨ad, dx, fs, rfl, y1, y2, ?_⟩
  show SpG X.K X.mg D0 pre D1 RS xn m (V.ref ad :: ([] ++ [])) H1 Q E0
  exact call_res (CX := L2.CX X.prog X.w) (F := F) (H := H) hD ⟨⟨hs1, hg1, rfl⟩, trivial⟩ (by simp [CA.ix]) hp hx hsh E1 (.cons ⟨v0, k1, k2⟩ .nil) fun v F' H' fp' l y1 y2 y3 y4 => q v F' H' fp' l y1 (e1.trans y2) y3 y4
/-! frozen objects -/
theorem FA.ins (h : FA X.K F v (.nd (.ins C ns) ts)) : ∃ a dx vs, v = .ref a ∧ F a = some (.ins C dx (ns.zip vs)) ∧ (Cls X.K C ∧ ∀ n ∈ ns, NoAttr X.K C n) ∧ ns.length = vs.length ∧ vs.length = ts.length ∧ ∀ (i : Nat) v t, vs[i]? = some v → ts[i]? = some t → FA X.K F v t := by
  cases h with
  | nd hF ko l1 hc => obtain ⟨h1, h2, dx, rfl⟩ := ko; exact ⟨_, dx, _, rfl, hF, h1, h2, l1, hc⟩
/-- e is data that, frozen, is the tree t -/
def IsT (τ : Type) [Py τ] (x : τ) (t : OT) : Prop := ∀ {K : Fg} {F : Hp} {v : V}, rep K F v x → FA K F v t
theorem xe_fattr {f : Str} {j : Nat} {y : υ} (he : XE X c Γ e x) (ht : IsT τ x (.nd (.ins C ns) ts)) (hf : fIx ns f = some j) (hj : ts[j]? = some u) (hy : FzT u y) (hb : attributeBase e f X.env (eval e X.env) = eval e X.env := by rfl) : XE X c Γ (.Attribute e f pos) y := by
  obtain ⟨te, h1, h2⟩ := he
  refine ⟨_, pe_fld h1 hb, fun F H σ fp E Q q => h2 F H σ fp E _ fun v F1 H1 E1 e1 n1 r => ?_⟩
  obtain ⟨a, dx, vs, rfl, k1, ⟨hc, hn⟩, k3, k4, k5⟩ := (ht r).ins
  have hjl := (List.getElem?_eq_some_iff.mp hj).1
  have hv : vs[j]? = some vs[j] := List.getElem?_eq_getElem (by omega)
  exact ⟨a, C, dx, _, _, rfl, E1.wd.fh _ _ k1, hc, hn f (fIx_mem hf), lookup_zip hf hv, q _ F1 H1 E1 e1 n1 (hy (k5 j _ u hv hj))⟩
theorem FA.dK {ks : List Key} {K : Fg} {F : Hp} {v : V} (h : FA K F v (.nd (.dK ks) ts)) : ∃ a vs, v = .ref a ∧ F a = some (.dK (ks.zip vs)) ∧ ks.length = vs.length ∧ vs.length = ts.length ∧ ∀ (i : Nat) v t, vs[i]? = some v → ts[i]? = some t → FA K F v t := by
  cases h with
  | nd hF ko l1 hc => obtain ⟨h1, rfl⟩ := ko; exact ⟨_, _, rfl, hF, h1, l1, hc⟩
/-- d[k], a frozen dict -/
theorem xe_fkey {ky : Key} {ks : List Key} {j : Nat} {ek : Expr} {ζ : Type} [Py ζ] {z : ζ} {y : υ} (hu : X.A.units + 1 < cLine) (he : XE X c Γ e x) (ht : IsT τ x (.nd (.dK ks) ts)) (hk : XE X c Γ ek z) (hz : ∀ F v, rep X.K F v z → v = kV ky) (hf : fIx ks ky = some j) (hj : ts[j]? = some u) (hy : FzT u y) (hns : NoSl ek := by exact fun _ _ => rfl) : XE X c Γ (.Subscript e ek pos) y := by
  obtain ⟨te, h1, h2⟩ := he
  obtain ⟨tk, h3, h4⟩ := hk
  refine ⟨_, pe_dget hu h1 h3 hns, fun F H σ fp E Q q => h2 F H σ fp E _ fun v F1 H1 E1 e1 n1 r => h4 F1 H1 σ fp E1 _ fun y' F2 H2 E2 e2 n2 r2 => ?_⟩
  cases hz _ _ r2
  obtain ⟨a, vs, rfl, k1, k3, k4, k5⟩ := (ht (Py.mono e2 r)).dK
  have hjl := (List.getElem?_eq_some_iff.mp hj).1
  have hv : vs[j]? = some vs[j] := List.getElem?_eq_getElem (by omega)
  refine ⟨a, vs[j], rfl, ?_, q _ F2 H2 E2 (e1.trans e2) (n1.trans n2) (hy (k5 j _ u hv hj))⟩
  have := DGet.k (k := ky) (E2.wd.fh _ _ k1)
  rwa [valV_zip hf hv] at this
/-- o.m(..), o frozen -/
theorem xe_methG {pl : Sem Bool} (G : Fm X.prog X.w X.K X.mg X.base (L2.CX X.prog X.w) C n ps lv (SpG X.K X.mg D0 pre D1 RS xn m)) (cl : Cls X.K C) (hr : Room lj X.A) (hj : lv ≤ lj) (ho : XE X c Γ o x) (ht1 : IsT τ x (.nd (.ins C ns) ts)) (hf : fIx ns n = none) (ha : XAr X c Γ (e :: es) as)
    (hp : pre r) (hD : (CA.fz x :: as).map CA.d = D0 r) (hg : caOk Γ as) (nd : (as.filterMap CA.ix).Nodup) (hsh : (D1 (m r)).map Option.isSome = (D0 r).map ArgD.isOw) (hx : xn (m r) = none := by rfl)
    (hst : starEach (e :: es) X.env = (false, eval e X.env) :: starEach es X.env := by rfl) (hpl : (backTo pos (starEach es X.env)).any (·.1) = false := by rfl)
    (ht : eval (.Call (.Attribute o n apos) (e :: es) [] pos) X.env = (do
      let ov ← eval o X.env
      standAt apos.atName
      let (f, first) ← holding [ov] (getMethod ov n pl)
      callWith pos f first (backTo pos (starEach (e :: es) X.env)) (backToKw pos (keywordEach [] X.env))) := by rfl) :
    XM X c Γ (caUp Γ (CA.fz x :: as) (D1 (m r))) (.Call (.Attribute o n apos) (e :: es) [] pos) (RS (m r)) := by
  obtain ⟨f, fd, g1, g3, g4⟩ := G.ex
  obtain ⟨to, o1, o2⟩ := ho
  obtain ⟨ta, h1, h2⟩ := ha
  refine ⟨_, pe_meth (E := E0) o1 cl g1 g4 (hr.mono hj) g3 .nil passL h1 hst hpl ht, fun F H σ fp E Q q => o2 F H σ fp E _ fun v F1 H1 E1 e1 x1 r1 => ?_⟩
  obtain ⟨ad, dx, vs, rfl, k1, _, k3, k4, k5⟩ := (ht1 r1).ins
  refine ⟨ad, dx, _, rfl, E1.wd.fh _ _ k1, lookup_zip_none hf, h2 F1 H1 σ fp E1 _ fun vs F2 H2 E2 e2 x2 k => ?_⟩
  rw [List.append_nil]
  exact call_res (CX := L2.CX X.prog X.w) (F := F) (H := H) hD hg nd hp hx hsh E2 (.cons (Py.mono e2 r1) k) fun v F' H' fp' l y1 y2 y3 y4 => q v F' H' fp' l y1 ((e1.trans e2).trans y2) y3 y4
/-- o.m(), o frozen, the answer frozen -/
theorem xe_meth0 {pl : Sem Bool} {y : υ} (G : Fm X.prog X.w X.K X.mg X.base (L2.CX X.prog X.w) C n ps lv (SpG X.K X.mg D0 pre D1 RS xn m)) (cl : Cls X.K C) (hr : Room lj X.A) (hj : lv ≤ lj) (ho : XE X c Γ o x) (ht1 : IsT τ x (.nd (.ins C ns) ts)) (hf : fIx ns n = none)
    (hp : pre r) (hR : RS (m r) = .fz y) (hD : [CA.fz x].map CA.d = D0 r) (hsh : (D1 (m r)).map Option.isSome = (D0 r).map ArgD.isOw) (hx : xn (m r) = none := by rfl)
    (ht : eval (.Call (.Attribute o n apos) [] [] pos) X.env = (do
      let ov ← eval o X.env
      standAt apos.atName
      let (f, first) ← holding [ov] (getMethod ov n pl)
      callWith pos f first (backTo pos (starEach [] X.env)) (backToKw pos (keywordEach [] X.env))) := by rfl) :
    XE X c Γ (.Call (.Attribute o n apos) [] [] pos) y := by
  obtain ⟨f, fd, g1, g3, g4⟩ := G.ex
  obtain ⟨to, o1, o2⟩ := ho
  refine ⟨_, pe_meth0 (E := E0) o1 cl g1 g4 (hr.mono hj) g3 .nil passL ht, fun F H σ fp E Q q => o2 F H σ fp E _ fun v F1 H1 E1 e1 x1 r1 => ?_⟩
  obtain ⟨ad, dx, vs, rfl, k1, _, k3, k4, k5⟩ := (ht1 r1).ins
  refine ⟨ad, dx, _, rfl, E1.wd.fh _ _ k1, lookup_zip_none hf, ?_⟩
  show SpG X.K X.mg D0 pre D1 RS xn m (V.ref ad :: ([] ++ [])) H1 Q E0
  refine call_resN (CX := L2.CX X.prog X.w) hD (fun a ha => by cases List.mem_singleton.mp ha; rfl) trivial hp hx hsh E1 (.cons r1 .nil) fun v F' H' l y1 y2 y3 y4 y5 => ?_
  rw [hR] at y4
  obtain ⟨_, u, hu, y4⟩ := y4
  cases hu
  exact q v F' H' y1 (e1.trans y2) (x1.trans y3) y4
/-- C(..), a new object; the arguments are frozen -/
theorem xn_make (G : Fc' X.prog X.w X.K X.mg X.base (L2.CX X.prog X.w) n C ps lv (SpG X.K X.mg D0 pre D1 RS xn m)) (cl : Cls X.K C) (hr : Room lj X.A) (hj : lv + 1 ≤ lj) (ha : XAr X c Γ (e :: es) as) (hn : ∀ a ∈ as, a.ix = none)
    (hp : pre r) (hD : ArgD.ow (.nd (.ins C []) []) :: as.map CA.d = D0 r) {ds : List (Option OT)} (hd1 : D1 (m r) = some t :: ds) (hRS : RS (m r) = .fz ()) (hx : xn (m r) = none := by rfl)
    (hgl : Gl X n := by rfl) (hdb : (n == ("__debug__" : Str)) = false := by decide) (he : starEach (e :: es) X.env = (false, eval e X.env) :: starEach es X.env := by rfl) (hpl : (backTo pos (starEach es X.env)).any (·.1) = false := by rfl) :
    XN X c Γ (.Call (.Name n pf) (e :: es) [] pos) t := by
  obtain ⟨f, fd, g1, g2, g3, g4⟩ := G.ex
  obtain ⟨ta, h1, h2⟩ := ha
  refine ⟨_, pe_make (E := E0) g1 g4 (hr.mono hj) hgl g2 g3 .nil passL h1 hdb he hpl, fun F H σ fp E Q q => h2 F H σ fp E _ fun vs F1 H1 E1 e1 x1 k => ?_⟩
  intro x dx hx1 hdx hne
  rw [List.append_nil]
  have hFx : F1 x = none := E1.ff hx1
  have hFd : F1 dx = none := E1.ff hdx
  let H2 : Hp := upd (upd H1 dx (.own x)) x (.ins C dx [])
  have eH : Ex H1 H2 := (Ex.new hdx).trans (Ex.new (by rw [upd_ne (Ne.symm hne)]; exact hx1))
  have eF : Ex F1 H2 := E1.wd.fh.trans eH
  have hlen : vs.length = as.length := Pd.length k
  have nov : ∀ (j : Nat) (a : CA), as[j]? = some a → ∃ (ζ : Type) (i : Py ζ) (z : ζ), a = CA.fz z := fun j a ha => by
    have := hn a (List.mem_of_getElem? ha)
    cases a with
    | fz z => exact ⟨_, _, z, rfl⟩
    | pl => cases this
  -- the callee's slots
  have E0 : EnvD X.K (cwOf F1 H2 (fun k => if k = 0 then [x] else [])) F1 H2 ((V.ref x :: vs).map some) (argSl (fun _ => x) 0 (D0 r)) (fun k => if k = 0 then [x] else []) := by
    rw [← hD]
    refine ⟨⟨Ex.refl _, eF, fun b o _ h => h, fun b h => .inl h⟩, by simp [argSl_len, hlen], fun j s hs => ?_, fun i j b h1 h2 => ?_, fun i b h => .inl ⟨i, h⟩, fun i h => ?_⟩
    · cases j with
      | zero =>
        have hs : Slot.ow (some x) (.nd (.ins C []) []) = s := by simpa [argSl, ArgD.slot] using hs
        subst hs
        refine ⟨some (.ref x), rfl, .ref x, rfl, ?_, fun a ha => by cases ha; rfl⟩
        have := OA.mk (K := X.K) (F := F1) (H := H2) (a := x) (fps := []) (ts := []) (vs := []) (k := .ins C []) (o := .ins C dx []) hFx upd_same ⟨⟨cl, fun n hn => by cases hn⟩, rfl, dx, rfl⟩ .nil (by simp)
        simpa using this
      | succ j =>
        have hs : (argSl (fun _ => x) 1 (as.map CA.d))[j]? = some s := by simpa [argSl] using hs
        rw [argSl_get, List.getElem?_map] at hs
        by_cases hj : j < as.length
        · rw [List.getElem?_eq_getElem hj] at hs
          obtain ⟨v, q1, q2⟩ := paired_get k (List.getElem?_eq_getElem hj)
          obtain ⟨ζ, i, z, hz⟩ := nov j _ (List.getElem?_eq_getElem hj)
          rw [hz] at hs q2
          have hs : Slot.fz z = s := by simpa [CA.d, ArgD.slot] using hs
          subst hs
          exact ⟨some v, by simp [q1], by simp, v, rfl, q2⟩
        · rw [List.getElem?_eq_none (by omega)] at hs; cases hs
    · (try dsimp only at h1 h2)
      split at h1
      · split at h2
        · omega
        · cases h2
      · cases h1
    · have : i ≠ 0 := by
        rintro rfl
        simp [argSl] at h
      rw [if_neg this]
  refine ⟨F1, _, r, fun _ => x, E0, hp, fun _ v F' H' fp' E' => ?_, fun n hn => by rw [hx] at hn; cases hn⟩
  rw [hd1, hRS] at E'
  obtain ⟨u, q1, q2, q3⟩ := E'.geto (i := 0) (oa := some x) (t := t) rfl
  cases q3 x rfl
  have l0 : (outSl (fun _ => x) 0 (some t :: ds) ++ [Slot.fz ()]).length = vs.length + 2 := by rw [← E'.len]; simp
  have hv : v = .non := by
    have hs : (outSl (fun _ => x) 0 (some t :: ds) ++ [Slot.fz ()])[vs.length + 1]? = some (.fz ()) := by
      have l1 : (outSl (fun _ => x) 0 (some t :: ds)).length = vs.length + 1 := by simp at l0 ⊢; omega
      rw [List.getElem?_append_right (by omega), l1, Nat.sub_self]; rfl
    obtain ⟨z, z1, z2⟩ := E'.get hs
    have : some v = some z := by
      rw [List.getElem?_append_right (by simp)] at z1
      simpa using z1
    cases this
    exact z2
  have alH : ∀ b, (cwOf F1 H2 (fun k => if k = 0 then [x] else [])).al b → H1 b = none := fun b h => by
    rcases h with ⟨k, h⟩ | h
    · (try dsimp only at h)
      split at h
      · cases List.mem_singleton.mp h; exact hx1
      · cases h
    · cases z : H1 b with
      | none => rfl
      | some o => have := eH _ _ z; rw [show H2 b = none from h] at this; cases this
  have eh : Ex H1 H' := fun b o h => E'.wd.keep b o (fun ⟨k, h2⟩ => by
    (try dsimp only at h2)
    split at h2
    · cases List.mem_singleton.mp h2; rw [hx1] at h; cases h
    · cases h2) (eH _ _ h)
  have en : ∀ b, F' b ≠ none → F1 b ≠ none ∨ H1 b = none := fun b hb => (E'.wd.new b hb).imp id (alH b)
  refine ⟨hv, q (.ref x) F' H' (fp' 0) (E1.grow E'.wd.f0 E'.wd.fh eh en) (e1.trans E'.wd.f0) (x1.trans ⟨eh, en⟩) q2 fun b hb => ?_⟩
  have := alH b (E'.al 0 b hb)
  cases z : H b with
  | none => rfl
  | some o => rw [x1.h _ _ z] at this; cases this
end
end Fw
/-! FwG: defs that are called where no repr runs around; repr of data. -/
namespace Fw
open PySem L2 Py PyProof.Rows
/-- a def's promise where nothing is being shown around -/
structure FnG (P : Program) (w : World) (K : Fg) (mg : Str → Option Value) (base : Heap) (k : Nat) (f : Addr) (fd : FuncData) (ps : List Str) (sp : Sp) : Prop where
  n : ∀ xs H Q E, sp xs H Q E → xs.length = ps.length
  go : ∀ (A : Around) (out : List PySem.Env) (st : Shared) (H : Hp) (ar : Args) (us : List Value) (xs : List V) (Q : VK) (E : XK), A.guards = some [] → Room k A → Env0 P w K mg base A out st H → BindsTo st fd ar (ps.zip us) → Vals xs us → sp xs H Q E →
    codeAny (model P w) A (.call (.ref f) ar) (CR CX0 out P w H st Q E) st
section
variable {P : Program} {w : World} {K : Fg} {mg : Str → Option Value} {base : Heap}
/-- such a def, by its body's reading -/
theorem fnG_run {x q : Str} {st : Stmt} {f : Addr} {fd : FuncData} {N ps : List Str} {k : Nat} {sp : Sp} (F : Fun K x q st f fd) (S : FnScope N ps (defScope st)) (ln : ∀ xs H Q E, sp xs H Q E → xs.length = ps.length)
    (body : ∀ (f : Addr) (cdv : Value) (A : Around) (outer : List PySem.Env) (s : Shared) (H : Hp) (xs : List V) (Q : VK) (E : XK), A.guards = some [] → Room k (A.deeper (envOfC q (defScope st) s.heap.objs.size f cdv)) → sp xs H Q E →
      ∃ t, PSs (cxOf CX0 P w K mg base N q (defScope st) f cdv A outer s H E).nox (defBody st) t ∧ t { nx := fun _ H' => Q .non H', rt := Q } (L2.start N xs) H) :
    FnG P w K mg base (k + 1) f fd ps sp := by
  obtain ⟨oc, od, kV, doc, pm, an, cdv, ct, osl, rfl, hlk, hcode⟩ := F.ex
  refine ⟨ln, fun A out s0 H ar us xs Q E gd room e0 bnd rel hsp => ?_⟩
  have kin : K.In s0.heap := e0.mod.kin.keeps fun b o e => (e0.bs b o e).1
  have nolim : s0.heap.NoLimit := e0.mod.nolimit.keeps fun b o e => (e0.bs b o e).1
  refine codeAny_call_function room.depth (kin _ _ hlk) rfl S.co S.gen rfl (PySem.W.codeRec_of kin hcode) (bnd _ _ _ _ ?_)
  have kinds : ∀ y ∈ ps.zip us, (defScope st).names.lookup y.1 = some .local ∨ ((defScope st).names.lookup y.1 = some .cell ∧ ((cellsFrom (s0.heap.objs.size + 1) (defScope st).names []).lookup y.1).isSome = true) := by
    rintro ⟨y, v⟩ hy
    have := S.par y (List.of_mem_zip hy).1
    exact this.imp id fun q => ⟨q, PySem.W.cellsFrom_some _ _ _ (.inl q)⟩
  refine wpAny_newFunctionEnv_cells S.kind kinds fun env he s1 inC => ?_
  subst he
  refine ⟨nolim.keeps inC.toInCall.keep, codeAny_func ?_⟩
  obtain ⟨t, t1, hq⟩ := body f cdv A out s0 H xs Q E gd (room.deeper _) hsp
  have start := inv_start (CX := CX0) (E := E) (cd := cdv) (f := f) (qual := q) (mg := mg) S room.hd e0 (ln xs H Q E hsp) rel inC
  refine wpAny_mono (t1.nox.run [] s1 (L2.start N xs) H _ start hq) (fun fl s2 hs => ?_) fun e s2 hs => hs
  have leave : ∀ {σ2 : L2.St} {H2 : Hp} {v : V} {u : Value}, L2.Inv (cxOf CX0 P w K mg base N q (defScope st) f cdv A out s0 H E) [] σ2 H2 s2 → RelV v u → Q v H2 → CE out P w H s0 Q u s2 :=
    fun {σ2 H2 v u} J rv qv => ⟨v, H2, J.os, J.bare, J.base, J.hok, rv, qv⟩
  cases fl with
  | ret u => obtain ⟨v, σ2, H2, J, rv, qv⟩ := hs; exact leave J rv qv
  | next => obtain ⟨σ2, H2, J, qv⟩ := hs; exact leave (v := V.non) (u := Value.none) J rfl qv
  | brk => obtain ⟨_, _, _, no⟩ := hs; exact no.elim
  | cont => obtain ⟨_, _, _, no⟩ := hs; exact no.elim
structure FkG (P : Program) (w : World) (K : Fg) (mg : Str → Option Value) (base : Heap) (n : Str) (ps : List Str) (k : Nat) (sp : Sp) : Prop where
  ex : ∃ f fd, mg n = some (.ref f) ∧ PySem.W.keepIn K (.ref f) = true ∧ Binds K fd ps [] ∧ FnG P w K mg base k f fd ps sp
theorem fkG_of {α ρ : Type} {D0 : α → List ArgD} {pre : α → Prop} {D1 : ρ → List (Option OT)} {RS : ρ → Slot} {m : α → ρ} {n : Str} {st : Stmt} {N ps : List Str} {k : Nat} {S : Type} {nf : S → ρ} {G : (Nat → Addr) → S → List Slot} (D : Df K mg n st) (Sc : FnScope N ps (defScope st)) (hn : ∀ a, (D0 a).length = ps.length) (hb : BindOk n n st ps)
    (sh : ∀ a r, (D1 r).map Option.isSome = (D0 a).map ArgD.isOw) (hnx : ∀ as s, RS (nf s) = .fz () ∧ ∀ (i : Nat) (z : Slot), (outSl as 0 (D1 (nf s)))[i]? = some z → z = Slot.no ∨ (G as s)[i]? = some z)
    (body : ∀ (f : Addr) (cdv : Value) (A : Around) (outer : List PySem.Env) (s : Shared) (H : Hp) (E : XK) (c : Cw) (as : Nat → Addr) (a : α), A.guards = some [] → Room' k A n st s f cdv → pre a →
      XF (R := RcG as D1 RS (fun _ => none)) (cxOf CX0 P w K mg base N n (defScope st) f cdv A outer s H E).nox ⟨fun _ _ _ _ => False, List.replicate N.length .no⟩ c (argSl as 0 (D0 a) ++ List.replicate (N.length - (D0 a).length) .no) (defBody st) nf (G as) (m a)) :
    FkG P w K mg base n ps (k + 1) (SpG K mg D0 pre D1 RS (fun _ => none) m) := by
  obtain ⟨f, fd, hm, F⟩ := D.ex
  refine ⟨f, fd, hm, F.kp, F.binds hb, fnG_run F Sc (fun vs H Q E h => ?_) fun f cdv A outer s H vs Q E gd hr h => ?_⟩
  · obtain ⟨F, fp, a, as, E0, _⟩ := h
    have := E0.len
    rw [argSl_len, hn a] at this
    simpa using this
  · obtain ⟨F, fp, a, as, E0, hp, q⟩ := h
    obtain ⟨o, ho, t, h1, h2⟩ := body f cdv A outer s H E (cwOf F H fp) as a gd hr hp
    have hN : (argSl as 0 (D0 a)).length ≤ N.length := by
      have q := congrArg List.length Sc.pre
      rw [List.length_take] at q
      rw [argSl_len, hn a]; omega
    have ES := env0 E0 hN
    rw [argSl_len] at ES
    refine ⟨t, h1, h2 F H _ ⟨fp, ES⟩ _ ?_⟩
    rw [← ho] at q
    have fin : ∀ r v σ' F' H' Γ' fp' l, o.fin nf = r → EnvD K (cwOf F H fp) F' H' σ' Γ' fp' → (∀ (i : Nat) (s : Slot), (outSl as 0 (D1 r))[i]? = some s → s = Slot.no ∨ Γ'[i]? = some s) → (RS r).ok K F' H' (some v) l → (∀ b ∈ l, (cwOf F H fp).al b ∧ ∀ j, b ∉ fp' j) → Q v H' := fun r v σ' F' H' Γ' fp' l hr E' hg hv hl => by
      obtain ⟨fp2, E2⟩ := ret_ok E0 (sh a r) E' hg hv hl
      rw [hr] at q
      exact q.1 rfl v F' H' fp2 E2
    cases o with
    | nx s =>
      intro σ' F' H' ⟨fp', E'⟩ _
      obtain ⟨g1, g2⟩ := hnx as s
      exact fin (nf s) .non σ' F' H' _ fp' [] rfl E' g2 (by rw [g1]; exact ⟨rfl, _, rfl, rfl⟩) (fun b hb => by cases hb)
    | rt r => exact ⟨fun _ v σ' F' H' Γ' fp' l E' _ hg hv hl => fin r v σ' F' H' Γ' fp' l rfl E' hg hv hl, fun n hx => by cases hx⟩
    | bk s => exact s.elim
    | ct s => exact s.elim
theorem fn_lawG {x : Str} {st : Stmt} {f : Addr} {fd : FuncData} {N : List Str} {k : Nat} {pre : Scr Int → Prop} (Fd : Fun K "law" "law" st f fd) (Sc : FnScope N [x] (defScope st))
    (body : ∀ (f : Addr) (cdv : Value) (A : Around) (outer : List PySem.Env) (s : Shared) (H : Hp) (E : XK) (c : Cw) (a : Scr Int), A.guards = some [] → Room' k A "law" st s f cdv → pre a →
      XF (R := RcL) (cxOf CX0 P w K mg base N "law" (defScope st) f cdv A outer s H E).nox ⟨fun _ _ _ _ => False, List.replicate N.length .no⟩ c (.fz a :: List.replicate (N.length - 1) .no) (defBody st) (S := Empty) (fun e => e.elim) (fun e => e.elim) true) :
    FnG P w K mg base (k + 1) f fd [x] (SpL K pre) := by
  refine fnG_run Fd Sc (fun vs H Q E h => ?_) (fun f cdv A outer s H vs Q E gd hr h => ?_)
  · obtain ⟨F, a, u, rfl, _⟩ := h; rfl
  · obtain ⟨F, a, u, rfl, e, r, hp, q⟩ := h
    obtain ⟨o, ho, t, h1, h2⟩ := body f cdv A outer s H E ⟨F, H, fun _ => False⟩ a gd hr hp
    have hN : 1 ≤ N.length := by
      have q := congrArg List.length Sc.pre
      rw [List.length_take] at q
      simp at q; omega
    have E0 : EnvD K ⟨F, H, fun _ => False⟩ F H ([u].map some) [.fz a] (fun _ => []) := ⟨⟨Ex.refl _, e, fun b o _ h => h, fun b h => .inl h⟩, rfl, (fun i s hs => by
      cases i with
      | zero => cases hs; exact ⟨_, rfl, rfl, u, rfl, r⟩
      | succ i => cases hs), (fun i j b h => by cases h), (fun i b h => by cases h), fun i h => rfl⟩
    refine ⟨t, h1, h2 F H _ ⟨_, env0 E0 hN⟩ _ ?_⟩
    cases o with
    | nx s => exact s.elim
    | bk s => exact s.elim
    | ct s => exact s.elim
    | rt r =>
    cases (show r = true from ho)
    refine ⟨fun _ v σ' F' H' Γ' fp' l E' e1 _ hv _ => ?_, fun n hn => by cases hn⟩
    obtain ⟨_, z, hz, hr⟩ := hv
    cases hz
    cases (show v = .bl true from hr)
    exact q H'
end
section
variable {X : Cx} {c : Cw} {Γ Γ' : List Slot} {τ υ ζ : Type} [Py τ] [Py υ] [Py ζ] {a b d e : Expr} {es : List Expr} {x : τ} {y : υ} {z : ζ} {pos : Pos}
/-- a call of such a def's promise, at values -/
theorem run_fnG {k : Nat} {f : Addr} {fd : FuncData} {ps : List Str} {sp : Sp} {pins : List (Addr × Obj)} {σ : L2.St} {H : Hp} {s : Shared} {Q : VK} {us : List Value} {xs : List V} (F : FnG X.prog X.w X.K X.mg X.base k f fd ps sp) (gd : X.A.guards = some []) (room : Room k X.A) (hb : Binds X.K fd ps [])
    (I : L2.Inv X pins σ H s) (r : Vals xs us) (h : sp xs H Q E0) : wpAny (model X.prog X.w) X.A (call (.ref f) us) (EP X pins σ Q) X.xe s := by
  have hl : us.length = ps.length := by rw [← r.length]; exact F.n _ _ _ _ h
  have bt := hb s us I.kIn (by rw [List.append_nil]; exact hl)
  rw [List.append_nil] at bt
  refine wpAny_call (codeAny_mono (F.go X.A X.stack s H ⟨us, []⟩ us xs Q E0 gd room I.env0 bt r h) fun out s2 h2 => ?_)
  match out, h2 with
  | .error e, h2 => exact (show False from h2).elim
  | .ok (.ret u), h2 => exact I.after h2
  | .ok .next, h2 => exact (show False from h2).elim
  | .ok .brk, h2 => exact (show False from h2).elim
  | .ok .cont, h2 => exact (show False from h2).elim
theorem pe_callG {k : Nat} {f : Addr} {fd : FuncData} {n : Str} {ps : List Str} {sp : Sp} {p : Pos} {t : TA} (F : FnG X.prog X.w X.K X.mg X.base k f fd ps sp) (gd : X.A.guards = some []) (room : Room k X.A) (hg : Gl X n) (hm : X.mg n = some (.ref f)) (hk : PySem.W.keepIn X.K (.ref f) = true) (hb : Binds X.K fd ps [])
    (ha : PA X (e :: es) t) (hdb : (n == ("__debug__" : Str)) = false := by decide) (he : starEach (e :: es) X.env = (false, eval e X.env) :: starEach es X.env := by rfl) (hpl : (backTo pos (starEach es X.env)).any (·.1) = false := by rfl) :
    PE X (.Call (.Name n p) (e :: es) [] pos) (tCall sp [] E0 t) := ⟨fun pins s σ H Q I h => wpAny_Call_Name_kw (ld_glob I hg hm (PySem.W.callWith_K (h₀ := X.base) I.ok.mod.kin hk (thn (ha.run pos pins s σ H _ I h) fun us s1 ⟨xs, H1, I1, r, q⟩ =>
  ⟨I1.kIn, run_fnG F gd room hb I1 r (by have q' : sp (xs ++ []) H1 Q E0 := q; rw [List.append_nil] at q'; exact q')⟩) he hpl) hdb)⟩
theorem xm_callG {α ρ : Type} {D0 : α → List ArgD} {pre : α → Prop} {D1 : ρ → List (Option OT)} {RS : ρ → Slot} {xn : ρ → Option Str} {m : α → ρ} {n : Str} {ps : List Str} {lv lj : Nat} {r : α} {as : List CA} {pf : Pos} (G : FkG X.prog X.w X.K X.mg X.base n ps lv (SpG X.K X.mg D0 pre D1 RS xn m)) (gd : X.A.guards = some []) (hr : Room lj X.A) (hj : lv ≤ lj) (ha : XAr X c Γ (e :: es) as) (hp : pre r) (hD : as.map CA.d = D0 r) (hg : caOk Γ as) (nd : (as.filterMap CA.ix).Nodup) (hsh : (D1 (m r)).map Option.isSome = (D0 r).map ArgD.isOw) (hx : xn (m r) = none := by rfl)
    (hgl : Gl X n := by rfl) (hdb : (n == ("__debug__" : Str)) = false := by decide) (hs : starEach (e :: es) X.env = (false, eval e X.env) :: starEach es X.env := by rfl) (hb : ((backTo pos (starEach es X.env)).any fun x => x.fst) = false := by rfl) :
    XM X c Γ (caUp Γ as (D1 (m r))) (.Call (.Name n pf) (e :: es) [] pos) (RS (m r)) := by
  obtain ⟨f, fd, g1, g2, g3, g4⟩ := G.ex
  obtain ⟨t, h1, h2⟩ := ha
  refine ⟨_, pe_callG g4 gd (hr.mono hj) hgl g1 g2 g3 h1 hdb hs hb, fun F H σ fp E Q q => h2 F H σ fp E _ fun vs F1 H1 E1 e1 x1 k => ?_⟩
  show SpG X.K X.mg D0 pre D1 RS xn m (vs ++ []) H1 Q E0
  rw [List.append_nil]
  exact call_res (CX := L2.CX X.prog X.w) (F := F) (H := H) hD hg nd hp hx hsh E1 k fun v F' H' fp' l y1 y2 y3 y4 => q v F' H' fp' l y1 (e1.trans y2) y3 y4
theorem xe_callG {α ρ : Type} {D0 : α → List ArgD} {pre : α → Prop} {D1 : ρ → List (Option OT)} {RS : ρ → Slot} {xn : ρ → Option Str} {m : α → ρ} {n : Str} {ps : List Str} {lv lj : Nat} {r : α} {as : List CA} {pf : Pos} (G : FkG X.prog X.w X.K X.mg X.base n ps lv (SpG X.K X.mg D0 pre D1 RS xn m)) (gd : X.A.guards = some []) (hr : Room lj X.A) (hj : lv ≤ lj) (ha : XAr X c Γ (e :: es) as) (hp : pre r) (hR : RS (m r) = .fz x) (hD : as.map CA.d = D0 r) (hn : ∀ a ∈ as, a.ix = none) (hg : caOk Γ as) (hsh : (D1 (m r)).map Option.isSome = (D0 r).map ArgD.isOw) (hx : xn (m r) = none := by rfl)
    (hgl : Gl X n := by rfl) (hdb : (n == ("__debug__" : Str)) = false := by decide) (hs : starEach (e :: es) X.env = (false, eval e X.env) :: starEach es X.env := by rfl) (hb : ((backTo pos (starEach es X.env)).any fun x => x.fst) = false := by rfl) :
    XE X c Γ (.Call (.Name n pf) (e :: es) [] pos) x := by
  obtain ⟨f, fd, g1, g2, g3, g4⟩ := G.ex
  obtain ⟨t, h1, h2⟩ := ha
  refine ⟨_, pe_callG g4 gd (hr.mono hj) hgl g1 g2 g3 h1 hdb hs hb, fun F H σ fp E Q q => h2 F H σ fp E _ fun vs F1 H1 E1 e1 x1 k => ?_⟩
  show SpG X.K X.mg D0 pre D1 RS xn m (vs ++ []) H1 Q E0
  rw [List.append_nil]
  refine call_resN (CX := L2.CX X.prog X.w) hD hn hg hp hx hsh E1 k fun v F' H' l y1 y2 y3 y4 y5 => ?_
  rw [hR] at y4
  obtain ⟨_, u, hu, y4⟩ := y4
  cases hu
  exact q v F' H' y1 (e1.trans y2) (x1.trans y3) y4
/-! ### repr -/
theorem call_reprD (gd : X.A.guards = some []) (hu : X.A.units + 64 < cLine) : CallR X (.builtin "repr") (fun xs H Q => ∃ v d, xs = [v] ∧ (∃ a, v = .ref a) ∧ Dp X.K H v d ∧ d.showable = true ∧ d.hasDict = false ∧ d.depth ≤ 60 ∧ d.shown.length ≤ sizeLine ∧ Q (.str d.shown) H) := by
  intro pins s σ H xs us Q I r h
  obtain ⟨v, d, rfl, ⟨a, rfl⟩, hd, h1, h2, h3, h4, q⟩ := h
  obtain ⟨u, rfl, ru⟩ := vals1 r
  obtain rfl : u = Value.ref a := ru
  obtain ⟨as, rd⟩ := Dp.reads I d _ _ hd (show RelV (.ref a) (.ref a) from rfl)
  exact PySem.repr_of_reads' rd h1 (fun z => by rw [h2] at z; cases z) gd (by omega) (fun _ _ e => e) (fun h' u tk hk => ⟨.str d.shown, H, I.kept hk, ⟨u, rfl⟩, q⟩) h4
end
/-! ### the end, for a law that shows things -/
section
variable {P : Program} {w : World} {K : Fg} {mg mb : Str → Option Value}
theorem law_goG {k : Nat} {fa a : Addr} {fd : FuncData} {x : Str} {sp : Sp} {s0 : Shared} {us : List Value} {ns : List Int}
    (kin : K.In s0.heap) (gl : s0.heap.Ns mainGlobals mg) (bl : s0.heap.Ns builtinsNs mb) (bb : ∀ x : Str, x ≠ "__name__" → mb x = bootBuiltins x) (nl : s0.heap.NoLimit) (gens : s0.gens = #[])
    (obj : s0.heap.get? a = some { cls := .type "list", data := .seq us.toArray }) (its : IntsAre us ns) (len : ns.length ≤ sizeLine) (room : Room k callerA)
    (F : ∀ base : Heap, K.In base → base.Ns mainGlobals mg → FnG P w K mg base k fa fd [x] sp) (bnd : ∀ (s : Shared) (u : Value), BindsTo s fd ⟨[u], []⟩ [(x, u)])
    (ok : ∀ H : Hp, SqL K H a (ns.map V.int) → sp [.ref a] H (fun v _ => v = .bl true) E0) :
    codeAny (model P w) callerA (.call (.ref fa) ⟨[.ref a], []⟩) (fun r s' => r = .ok (.ret (.bool true)) ∧ OldK s0.heap s'.heap ∧ s'.os = s0.os ∧ AllBare s'.gens) s0 := by
  have rel := vals_ints its
  have len2 := its.length
  -- the script is tracked (locked), or an object of the module
  have main : ∀ H : Hp, SqL K H a (ns.map V.int) → HOk P w H s0.heap → (∀ b u, H b = some u → b = a ∧ K.lookup a = none ∧ ∃ o zs, u = .frz o (.lst zs)) →
      codeAny (model P w) callerA (.call (.ref fa) ⟨[.ref a], []⟩) (fun r s' => r = .ok (.ret (.bool true)) ∧ OldK s0.heap s'.heap ∧ s'.os = s0.os ∧ AllBare s'.gens) s0 := by
    intro H sq hok only
    have free : ∀ {b : Addr} {o : Obj} {es : Array DictEntry} {n : Nat}, s0.heap.get? b = some o → o.data = .dict es n → H b = none := fun {b o es n} hb hd => by
      match q : H b with
      | none => rfl
      | some u =>
        obtain ⟨rfl, _⟩ := only b u q
        rw [obj] at hb
        cases hb
        exact absurd hd (by intro z; cases z)
    have ns' : ∀ {b : Addr} {m : Str → Option Value}, s0.heap.Ns b m → (hidT s0.heap H).Ns b m := by
      rintro b m ⟨o, es, n, hb, hd, r⟩
      exact ⟨o, es, n, hidT_get hb (free hb hd), hd, r⟩
    have kin' : K.In (hidT s0.heap H) := fun b o hb => hidT_get (kin b o hb) (by
      match q : H b with
      | none => rfl
      | some u =>
        obtain ⟨rfl, hk, _⟩ := only b u q
        rw [hk] at hb; cases hb)
    have md : Mod K mg (hidT s0.heap H) := ⟨kin', ns' gl, ⟨mb, ns' bl, bb⟩, by obtain ⟨mc, z1, z2⟩ := nl; exact ⟨mc, ns' z1, z2⟩⟩
    have env0 : Env0 P w K mg (hidT s0.heap H) callerA [] s0 H := ⟨rfl, md, fun b o hb => of_hidT hb, Nat.le_of_eq (hidT_size _ _), trivial, fun b hb => (List.not_mem_nil (show b ∈ ([] : List Addr) from hb)).elim, hok, .of_eq gens⟩
    refine codeAny_mono ((F _ kin' (ns' gl)).go callerA [] s0 H ⟨[.ref a], []⟩ [.ref a] [.ref a] _ E0 rfl room env0 (bnd s0 (.ref a)) (.cons rfl .nil) (ok H sq)) fun r s' h => ?_
    match r, h with
    | .error e, h => exact (show False from h).elim
    | .ok .next, h => exact (show False from h).elim
    | .ok .brk, h => exact (show False from h).elim
    | .ok .cont, h => exact (show False from h).elim
    | .ok (.ret u), ⟨v, H', os, bare, un, hok', rv, hv⟩ =>
      have hv' : v = .bl true := hv
      subst hv'
      obtain rfl : u = Value.bool true := rv
      refine ⟨rfl, OldK.of_keep fun b o hb => ?_, os, bare⟩
      match q : H b with
      | none => exact un.keep b o hb q (fun z => List.not_mem_nil (show b ∈ ([] : List Addr) from z)) (by simp)
      | some u =>
        obtain ⟨rfl, _, ob, zs, rfl⟩ := only b u q
        obtain ⟨h1, _⟩ := hok b _ q
        obtain ⟨h2, _⟩ := hok' b _ (un.frzs b ob _ q)
        rw [hb] at h1
        cases h1
        exact h2
  match hk : K.lookup a with
  | some o =>
    have h := kin a o hk
    rw [obj] at h
    cases h
    exact main (fun _ => none) (.inr ⟨_, us.toArray, _, hk, rfl, rfl, rfl, by rw [List.size_toArray, len2]; exact len, by simpa using rel⟩) (fun b u z => by cases z) (fun b u z => by cases z)
  | none =>
    refine main (fun b => if b = a then some (.frz { cls := .type "list", data := .seq us.toArray } (.lst (ns.map V.int))) else none) (.inl (.inr ⟨{ cls := .type "list", data := .seq us.toArray }, if_pos rfl⟩)) (fun b u z => ?_) (fun b u z => ?_)
    · (try dsimp only at z)
      split at z
      · rename_i hb
        cases z
        subst hb
        exact ⟨obj, by rw [List.length_map]; exact len, us, _, rel, obj⟩
      · cases z
    · (try dsimp only at z)
      split at z
      · rename_i hb
        cases z
        exact ⟨hb, hk, _, _, rfl⟩
      · cases z
theorem walk_fwG {Tx : Fg → (Str → Option Value) → Prop} {l : PySem.W.OpenLaw} {q : Program} {loose : List Str} {XP : (Str → Option Value) → Heap → Prop} {YP : World → Heap → Prop} {d : DefRec} {K : Params → PySem.W.Frag} {x : Str} {lvl : Nat} {st : Stmt} (hn : l.most = some 63) (hdf : d.params.defaults = []) (hr : Room lvl callerA)
    (hd : d.name = "law") (hY : ∀ (w : World) (h : Heap), YP w h → (K w.params).In h)
    (F : ∀ (w : World) (mg : Str → Option Value) (h : Heap), (K w.params).In h → h.Ns mainGlobals mg → Tx (K w.params) mg)
    (hb : ∀ (kV doc pm : Value) (an : Option Addr) (cdv ct : Value) (v : Value), bindArgs (PySem.W.fnOf "law" "law" (defArgs st) (defBody st) (defScope st) .none kV doc pm an cdv ct) ⟨[v], []⟩ = pure [(x, v)])
    (D : ∀ K mg, Tx K mg → Df K mg "law" st)
    (ok : ∀ {P : Program} {w : World} {K : Fg} {mg : Str → Option Value} {base : Heap}, Tx K mg → ∀ f fd, mg "law" = some (.ref f) → Fun K "law" "law" st f fd → FnG P w K mg base lvl f fd [x] (SpL K Pre)) :
    PySem.W.WalkO q loose XP YP l.row.toRowW d [] (fun f vs => PySem.call f vs) := by
  refine Att.attach_callB (n := 63) hn hdf fun w s0 s1 mg mb fa o pm cd doc a us ns G Y _ _ _ hfa obj its len bits gens => ?_
  have X := hY w _ Y
  have T := F w mg _ X G.T.g
  rw [hd] at hfa
  obtain ⟨f, fd, hf, Fu⟩ := (D _ _ T).ex
  rw [hfa] at hf
  cases hf
  refine law_goG X G.T.g G.T.b G.T.builtins G.T.nolimit gens obj its (Nat.le_trans len (by decide)) hr (fun base _ _ => ok T fa fd hfa Fu) (fun s u => ?_) (fun H hS => ?_)
  · obtain ⟨oc, od, kV, doc, pm, an, cdv, ct, osl, rfl, _, _⟩ := Fu.ex
    exact .of_eq (hb kV doc pm an cdv ct u)
  · exact ⟨H, ⟨ns⟩, _, rfl, Ex.refl _, ⟨a, ns.map V.int, rfl, hS, Reps.map (g := V.int) (fun _ => rfl) ns⟩, ⟨len, bits⟩, fun H' => rfl⟩
end
end Fw
/-! what the printed proofs use -/
namespace Fw
open PySem L2 Py PyProof.Rows
theorem FzT.lid {τ : Type} [Py τ] {g : τ → OT} {xs : List τ} (k : ∀ x, FzT (g x) x) : FzT (OT.li g xs) xs := fun {K F v} h => by
  have := FzT.li (h := fun x : τ => x) k h
  rwa [List.map_id'] at this
theorem inB_mod {τ : Type} {xs : List τ} {k : Int} (n : Nat) (hn : xs.length = n) (h0 : (0 : Int) < n) : InB xs (k % n) := by
  have h1 := Int.emod_nonneg k (b := (n : Int)) (by omega)
  have h2 := Int.emod_lt_of_pos k h0
  unfold InB; rw [hn]; omega
theorem inB_modL {τ : Type} {xs : List τ} {k : Int} (m n : Nat) (hn : xs.length = m) (h0 : (0 : Int) < n) (hm : n ≤ m) : InB xs (k % n) := by
  have h1 := Int.emod_nonneg k (b := (n : Int)) (by omega)
  have h2 := Int.emod_lt_of_pos k h0
  unfold InB; rw [hn]; omega
theorem inB_nat {τ : Type} {xs : List τ} (m n : Nat) (hn : xs.length = m) (hm : n < m) : InB xs (n : Int) := by
  unfold InB; rw [hn]; omega
/-! places in trees -/
def ixn {τ : Type} (xs : List τ) (i : Int) : Nat := (ixN xs.length i).getD 0
theorem ixn_ok {τ : Type} {g : τ → OT} {xs : List τ} {i : Int} (h : InB xs i) : ixN (xs.map g).length i = some (ixn xs i) := by
  obtain ⟨j, hj, _⟩ := ixN_some h
  unfold ixn
  rw [List.length_map, hj]; rfl
theorem ixn_lt {τ : Type} {xs : List τ} {i : Int} (h : InB xs i) : ixn xs i < xs.length := by
  obtain ⟨j, hj, hl⟩ := ixN_some h
  unfold ixn; rw [hj]; exact hl
theorem ix_ixn {τ : Type} [Inhabited τ] {xs : List τ} {i : Int} (h : InB xs i) : xs[ixn xs i]? = some (ix xs i) := by
  have := atI_ix h
  unfold atI at this
  obtain ⟨j, hj, hl⟩ := ixN_some h
  rw [hj] at this
  unfold ixn; rw [hj]; exact this
/-- the list with y at i -/
def stI {τ : Type} (xs : List τ) (i : Int) (y : τ) : List τ := xs.set (ixn xs i) y
def insI {τ : Type} (xs : List τ) (i : Int) (y : τ) : List τ := xs.take i.toNat ++ [y] ++ xs.drop i.toNat
def delI {τ : Type} (xs : List τ) (i : Int) : List τ := xs.eraseIdx i.toNat
section
variable {τ : Type} {t u u0 : OT} {p : List Nat} {k : Kind} {ts : List OT} {j : Nat} {g : τ → OT} {xs ys : List τ} {i : Int} {y : τ}
theorem get_app : ∀ {p : List Nat} {t : OT}, t.get? p = some u → t.get? (p ++ [j]) = u.get? [j]
  | [], t, h => by cases (show some t = some u from h); rfl
  | i :: p, t, h => by
    cases t with
    | fz x => unfold OT.get? at h; cases h
    | hole a => unfold OT.get? at h; cases h
    | nd k ts =>
      unfold OT.get? at h
      show OT.get? (.nd k ts) (i :: (p ++ [j])) = _
      conv => lhs; unfold OT.get?
      cases q : ts[i]? with
      | none => rw [q] at h; cases h
      | some t => rw [q] at h; exact get_app (p := p) h
theorem put_app {v : OT} : ∀ {p : List Nat} {t : OT}, t.get? p = some u → t.put (p ++ [j]) v = t.put p (u.put [j] v)
  | [], t, h => by cases (show some t = some u from h); rfl
  | i :: p, t, h => by
    cases t with
    | fz x => unfold OT.get? at h; cases h
    | hole a => unfold OT.get? at h; cases h
    | nd k ts =>
      unfold OT.get? at h
      show OT.put (.nd k ts) (i :: (p ++ [j])) v = _
      unfold OT.put
      cases q : ts[i]? with
      | none => rw [q] at h
      | some t =>
        rw [q] at h
        dsimp only
        rw [put_app (p := p) h]
theorem get_nd (h : t.get? p = some (.nd k ts)) (hj : ts[j]? = some u) : t.get? (p ++ [j]) = some u := by
  rw [get_app h]
  show (match ts[j]? with | some t => t.get? [] | none => none) = _
  rw [hj]
  first | done | rfl
theorem put_nd (h : t.get? p = some (.nd k ts)) (hj : ts[j]? = some u0) : t.put (p ++ [j]) u = t.put p (.nd k (ts.set j u)) := by
  rw [put_app h]
  congr 1
  show (match ts[j]? with | some t => OT.nd k (ts.set j (t.put [] u)) | none => .nd k ts) = _
  rw [hj]
  first | done | rfl
theorem get_ix [Inhabited τ] (h : t.get? p = some (OT.li g xs)) (hi : InB xs i) : t.get? (p ++ [ixn xs i]) = some (g (ix xs i)) := by
  refine get_nd (ts := xs.map g) h ?_
  rw [List.getElem?_map, ix_ixn hi]; rfl
theorem put_ix [Inhabited τ] (h : t.get? p = some (OT.li g xs)) (hi : InB xs i) : t.put (p ++ [ixn xs i]) (g y) = t.put p (OT.li g (stI xs i y)) := by
  rw [put_nd (ts := xs.map g) (u0 := g (ix xs i)) h (by rw [List.getElem?_map, ix_ixn hi]; rfl)]
  unfold OT.li stI
  rw [List.map_set]
theorem li_set (_h : t.get? p = some (OT.li g xs)) (_hi : InB xs i) : t.put p (.nd .lst ((xs.map g).set (ixn xs i) (g y))) = t.put p (OT.li g (stI xs i y)) := by
  unfold OT.li stI
  rw [List.map_set]
theorem li_app (_h : t.get? p = some (OT.li g xs)) : t.put p (.nd .lst (xs.map g ++ [g y])) = t.put p (OT.li g (xs ++ [y])) := by
  unfold OT.li
  rw [List.map_append]; rfl
theorem li_cat (_h : t.get? p = some (OT.li g xs)) : t.put p (.nd .lst (xs.map g ++ ys.map g)) = t.put p (OT.li g (xs ++ ys)) := by
  unfold OT.li
  rw [List.map_append]
theorem li_ins (_h : t.get? p = some (OT.li g xs)) : t.put p (.nd .lst ((xs.map g).take i.toNat ++ [g y] ++ (xs.map g).drop i.toNat)) = t.put p (OT.li g (insI xs i y)) := by
  unfold OT.li insI
  rw [List.map_append, List.map_append, List.map_take, List.map_drop]; rfl
theorem li_del (_h : t.get? p = some (OT.li g xs)) : t.put p (.nd .lst ((xs.map g).eraseIdx i.toNat)) = t.put p (OT.li g (delI xs i)) := by
  unfold OT.li delI
  rw [List.eraseIdx_eq_take_drop_succ, List.eraseIdx_eq_take_drop_succ, List.map_append, List.map_take, List.map_drop]
theorem lt_map {n : Nat} (h : xs.length < n) : (xs.map g).length < n := by rw [List.length_map]; exact h
theorem lt_mapn {n : Nat} (h : n < xs.length) : n < (xs.map g).length := by rw [List.length_map]; exact h
theorem le_map {n m : Nat} (h : xs.length + m ≤ n) : (xs.map g).length + m ≤ n := by rw [List.length_map]; exact h
end
/-! answers -/
def RGL (as : Nat → Addr) : Nat → List (Option OT) → List Slot → Prop
  | _, [], _ => True
  | i, none :: r, Γ => RGL as (i + 1) r Γ
  | i, some t :: r, Γ => Γ[i]? = some (.ow (some (as i)) t) ∧ RGL as (i + 1) r Γ
theorem rgl_get {as : Nat → Addr} {Γ : List Slot} : ∀ {ds : List (Option OT)} {j : Nat}, RGL as j ds Γ → ∀ (i : Nat) (s : Slot), (outSl as j ds)[i]? = some s → s = Slot.no ∨ Γ[j + i]? = some s
  | [], j, h, i, s, e => by simp [outSl] at e
  | none :: r, j, h, 0, s, e => by simp [outSl] at e; exact .inl e.symm
  | some t :: r, j, h, 0, s, e => by
    simp [outSl] at e
    subst e
    exact .inr h.1
  | none :: r, j, h, i + 1, s, e => by
    have := rgl_get (ds := r) (j := j + 1) h i s (by simpa [outSl] using e)
    rwa [show j + 1 + i = j + (i + 1) by omega] at this
  | some t :: r, j, h, i + 1, s, e => by
    have := rgl_get (ds := r) (j := j + 1) h.2 i s (by simpa [outSl] using e)
    rwa [show j + 1 + i = j + (i + 1) by omega] at this
theorem rg_of {as : Nat → Addr} {Γ : List Slot} {ds : List (Option OT)} (h : RGL as 0 ds Γ) : ∀ (i : Nat) (s : Slot), (outSl as 0 ds)[i]? = some s → s = Slot.no ∨ Γ[i]? = some s := fun i s e => by
  have := rgl_get h i s e
  rwa [Nat.zero_add] at this
theorem vFold_triv {S τ : Type} (g : S → τ → S) : ∀ (s : S) (xs : List τ), vFold g (fun _ _ => True) s xs
  | _, [] => trivial
  | s, y :: r => ⟨trivial, vFold_triv g _ r⟩
theorem vRun_triv {S τ R : Type} (g : S → τ → Out S S R) : ∀ (s : S) (xs : List τ), vRun g (fun _ _ => True) s xs
  | _, [] => trivial
  | s, y :: r => ⟨trivial, by
    cases g s y with
    | nx s' => exact vRun_triv g _ r
    | ct s' => exact vRun_triv g _ r
    | _ => trivial⟩
/-! calls, in short -/
def caFz : List CA → Bool
  | [] => true
  | @CA.fz _ _ _ :: r => caFz r
  | .pl _ _ _ _ _ :: _ => false
theorem caFz_ix : ∀ {as : List CA}, caFz as = true → ∀ a ∈ as, a.ix = none
  | [], _, a, h => by cases h
  | @CA.fz _ _ _ :: r, h, a, ha => by
    rcases List.mem_cons.mp ha with rfl | ha
    · rfl
    · exact caFz_ix (as := r) h a ha
theorem caFz_ok {Γ : List Slot} : ∀ {as : List CA}, caFz as = true → caOk Γ as
  | [], _ => trivial
  | @CA.fz _ _ _ :: r, h => caFz_ok (as := r) h
theorem pd_app {R : V → CA → Prop} {vs ws : List V} {as bs : List CA} (h : Pd R vs as) (k : Pd R ws bs) : Pd R (vs ++ ws) (as ++ bs) := by
  induction h with
  | nil => exact k
  | cons h t ih => exact .cons h ih
section
variable {X : Cx} {c : Cw} {Γ Γ' : List Slot} {τ υ ζ : Type} [Py τ] [Py υ] [Py ζ] {a b d e : Expr} {es : List Expr} {x : τ} {y : υ} {z : ζ} {pos : Pos} {t : OT}
variable {α ρ : Type} {D0 : α → List ArgD} {pre : α → Prop} {D1 : ρ → List (Option OT)} {RS : ρ → Slot} {xn : ρ → Option Str} {m : α → ρ} {n : Str} {ps : List Str} {lv lj : Nat} {r : α} {as : List CA} {pf : Pos} {dvs : List V}
theorem xe_callZ (G : Fk X.prog X.w X.K X.mg X.base (L2.CX X.prog X.w) n ps [] lv (SpG X.K X.mg D0 pre D1 RS xn m)) (hr : Room lj X.A) (hj : lv ≤ lj) (ha : XAr X c Γ (e :: es) as) (hp : pre r) (hR : RS (m r) = .fz x := by rfl) (hD : as.map CA.d = D0 r := by rfl) (hz : caFz as = true := by rfl) (hsh : (D1 (m r)).map Option.isSome = (D0 r).map ArgD.isOw := by rfl) (hx : xn (m r) = none := by rfl)
    (hgl : Gl X n := by rfl) (hdb : (n == ("__debug__" : Str)) = false := by decide) (hs : starEach (e :: es) X.env = (false, eval e X.env) :: starEach es X.env := by rfl) (hb : ((backTo pos (starEach es X.env)).any fun x => x.fst) = false := by rfl) :
    XE X c Γ (.Call (.Name n pf) (e :: es) [] pos) x := xe_call G hr hj ha hp hR hD (caFz_ix hz) (caFz_ok hz) hsh hx hgl hdb hs hb
theorem xn_callZ (G : Fk X.prog X.w X.K X.mg X.base (L2.CX X.prog X.w) n ps [] lv (SpG X.K X.mg D0 pre D1 RS xn m)) (hr : Room lj X.A) (hj : lv ≤ lj) (ha : XAr X c Γ (e :: es) as) (hp : pre r) (hR : RS (m r) = .ow none t := by rfl) (hD : as.map CA.d = D0 r := by rfl) (hz : caFz as = true := by rfl) (hsh : (D1 (m r)).map Option.isSome = (D0 r).map ArgD.isOw := by rfl) (hx : xn (m r) = none := by rfl)
    (hgl : Gl X n := by rfl) (hdb : (n == ("__debug__" : Str)) = false := by decide) (hs : starEach (e :: es) X.env = (false, eval e X.env) :: starEach es X.env := by rfl) (hb : ((backTo pos (starEach es X.env)).any fun x => x.fst) = false := by rfl) :
    XN X c Γ (.Call (.Name n pf) (e :: es) [] pos) t := xn_call G hr hj ha hp hR hD (caFz_ix hz) (caFz_ok hz) hsh hx hgl hdb hs hb
/-- .. some defaults left out -/
theorem xn_callD {as0 bs : List CA} (G : FkD X.prog X.w X.K X.mg X.base (L2.CX X.prog X.w) n ps dvs lv (SpG X.K X.mg D0 pre D1 RS xn m)) (hdv : ∀ F H σ vs, Pd (CAok X.K F H σ) vs as0 → Pd (CAok X.K F H σ) (vs ++ dvs) (as0 ++ bs)) (hr : Room lj X.A) (hj : lv ≤ lj) (ha : XAr X c Γ (e :: es) as0) (hp : pre r) (hR : RS (m r) = .ow none t := by rfl) (hD : (as0 ++ bs).map CA.d = D0 r := by rfl) (hz : caFz (as0 ++ bs) = true := by rfl) (hsh : (D1 (m r)).map Option.isSome = (D0 r).map ArgD.isOw := by rfl) (hx : xn (m r) = none := by rfl)
    (hgl : Gl X n := by rfl) (hdb : (n == ("__debug__" : Str)) = false := by decide) (hs : starEach (e :: es) X.env = (false, eval e X.env) :: starEach es X.env := by rfl) (hb : ((backTo pos (starEach es X.env)).any fun x => x.fst) = false := by rfl) :
    XN X c Γ (.Call (.Name n pf) (e :: es) [] pos) t := by
  obtain ⟨te, h1, h2⟩ := xn_callG G hdv hr hj ha hp hD (caFz_ix hz) (caFz_ok hz) hsh hx hgl hdb hs hb
  refine ⟨te, h1, fun F H σ fp E Q q => h2 F H σ fp E Q fun v F' H' l y1 y2 y3 y4 y5 => ?_⟩
  rw [hR] at y4
  obtain ⟨u, hu, y4, _⟩ := y4
  cases hu
  exact q v F' H' l y1 y2 y3 y4 y5
theorem xe_callD {as0 bs : List CA} (G : FkD X.prog X.w X.K X.mg X.base (L2.CX X.prog X.w) n ps dvs lv (SpG X.K X.mg D0 pre D1 RS xn m)) (hdv : ∀ F H σ vs, Pd (CAok X.K F H σ) vs as0 → Pd (CAok X.K F H σ) (vs ++ dvs) (as0 ++ bs)) (hr : Room lj X.A) (hj : lv ≤ lj) (ha : XAr X c Γ (e :: es) as0) (hp : pre r) (hR : RS (m r) = .fz x := by rfl) (hD : (as0 ++ bs).map CA.d = D0 r := by rfl) (hz : caFz (as0 ++ bs) = true := by rfl) (hsh : (D1 (m r)).map Option.isSome = (D0 r).map ArgD.isOw := by rfl) (hx : xn (m r) = none := by rfl)
    (hgl : Gl X n := by rfl) (hdb : (n == ("__debug__" : Str)) = false := by decide) (hs : starEach (e :: es) X.env = (false, eval e X.env) :: starEach es X.env := by rfl) (hb : ((backTo pos (starEach es X.env)).any fun x => x.fst) = false := by rfl) :
    XE X c Γ (.Call (.Name n pf) (e :: es) [] pos) x := by
  obtain ⟨te, h1, h2⟩ := xn_callG G hdv hr hj ha hp hD (caFz_ix hz) (caFz_ok hz) hsh hx hgl hdb hs hb
  refine ⟨te, h1, fun F H σ fp E Q q => h2 F H σ fp E Q fun v F' H' l y1 y2 y3 y4 y5 => ?_⟩
  rw [hR] at y4
  obtain ⟨_, u, hu, y4⟩ := y4
  cases hu
  exact q v F' H' y1 y2 y3 y4
theorem xe_callGZ (G : FkG X.prog X.w X.K X.mg X.base n ps lv (SpG X.K X.mg D0 pre D1 RS xn m)) (gd : X.A.guards = some []) (hr : Room lj X.A) (hj : lv ≤ lj) (ha : XAr X c Γ (e :: es) as) (hp : pre r) (hR : RS (m r) = .fz x := by rfl) (hD : as.map CA.d = D0 r := by rfl) (hz : caFz as = true := by rfl) (hsh : (D1 (m r)).map Option.isSome = (D0 r).map ArgD.isOw := by rfl) (hx : xn (m r) = none := by rfl)
    (hgl : Gl X n := by rfl) (hdb : (n == ("__debug__" : Str)) = false := by decide) (hs : starEach (e :: es) X.env = (false, eval e X.env) :: starEach es X.env := by rfl) (hb : ((backTo pos (starEach es X.env)).any fun x => x.fst) = false := by rfl) :
    XE X c Γ (.Call (.Name n pf) (e :: es) [] pos) x := xe_callG G gd hr hj ha hp hR hD (caFz_ix hz) (caFz_ok hz) hsh hx hgl hdb hs hb
theorem xe_noneU (h : XE X c Γ e ()) : XE X c Γ e (none : Option τ) := h.coe fun F v r => r
theorem xe_lenP {β : Type} {g : β → OT} {xs : List β} {i : Nat} {p : List Nat} {oa : Option Addr} {p1 : Pos} (hm : X.mg "len" = none) (h : XPl X c Γ a i p) (hs : Γ[i]? = some (.ow oa t)) (hg : t.get? p = some (OT.li g xs)) (hgl : Gl X "len" := by rfl) (hst : starEach [a] X.env = [(false, eval a X.env)] := by rfl) :
    XE X c Γ (.Call (.Name "len" p1) [a] [] pos) ((xs.length : Nat) : Int) := by
  obtain ⟨te, h1, h2⟩ := h
  refine ⟨_, pe_callB call_len_seq hgl hm PySem.boot_len (pa_cons h1 pa_nil hst) (by decide) (by decide) hst rfl, fun F H σ fp E Q q => h2 F H σ fp E _ fun v v0 F1 H1 E1 e1 n1 g1 g2 => ?_⟩
  obtain ⟨v0', ad, o, vs, fps, k1, k2, k3, k4, k5, k6, _⟩ := E1.node hs hg
  rw [g1] at k1; cases k1
  rw [g2] at k2; cases k2
  cases (show o = _ from k5)
  refine ⟨ad, vs, rfl, .inl (sq_of k4), q _ F1 H1 E1 e1 n1 ?_⟩
  have := k6.1
  rw [List.length_map] at this
  rw [this]; rfl
end
section
variable {X : Cx} {w : Wx} {c : Cw} {Γ Γ' : List Slot} {S B τ υ : Type} [Py υ] {R : Rc} {GB : B → List Slot} {pos : Pos}
theorem li_map {g : τ → OT} {h : υ → τ} {xs : List υ} : OT.li (fun y => g (h y)) xs = OT.li g (xs.map h) := by
  unfold OT.li
  rw [List.map_map]; rfl
theorem xn_lcT {elt tg it : Expr} {scope : Scope} {ws : List Nat} {xs : List υ} {up : List Slot → υ → List Slot} {h : υ → τ} {e : τ → OT} (own : List (Str × Nat)) (hN : X.N.Nodup) (hi : XI X c Γ tg it xs) (hl : xs.length ≤ 100000)
    (hg : ∀ q : Bq, XG (Bk X scope q) c tg ws up)
    (he : ∀ y ∈ xs, ∀ q : Bq, XN (Bk X scope q) c (up (wipeS Γ (own.map (·.2))) y) elt (e (h y)))
    (ok : blkC X.N X.env.scope scope own = true := by decide +kernel) (hws : ∀ w ∈ ws, w ∈ own.map (·.2) := by decide) (hc : X.calm = true := by rfl) (hs : ∀ x, foldedSetIterable it X.env x = pure x := by intro _; rfl) :
    XN X c Γ (.ListComp elt [⟨tg, it, [], 0⟩] scope pos) (OT.li e (xs.map h)) := (xn_lc (g := fun y => e (h y)) own hN hi hl hg he ok hws hc hs).eq li_map
theorem xn_lcifT {elt tg it cond : Expr} {scope : Scope} {ws : List Nat} {xs : List υ} {up : List Slot → υ → List Slot} {h : υ → τ} {e : τ → OT} {p : υ → Bool} (own : List (Str × Nat)) (hN : X.N.Nodup) (hi : XI X c Γ tg it xs) (hl : xs.length ≤ 100000)
    (hg : ∀ q : Bq, XG (Bk X scope q) c tg ws up)
    (hp : ∀ y ∈ xs, ∀ q : Bq, XT (Bk X scope q) c (up (wipeS Γ (own.map (·.2))) y) cond (p y))
    (he : ∀ y ∈ xs, p y = true → ∀ q : Bq, XN (Bk X scope q) c (up (wipeS Γ (own.map (·.2))) y) elt (e (h y)))
    (ok : blkC X.N X.env.scope scope own = true := by decide +kernel) (hws : ∀ w ∈ ws, w ∈ own.map (·.2) := by decide) (hc : X.calm = true := by rfl) (hs : ∀ x, foldedSetIterable it X.env x = pure x := by intro _; rfl) :
    XN X c Γ (.ListComp elt [⟨tg, it, [cond], 0⟩] scope pos) (OT.li e ((xs.filter p).map h)) := (xn_lcif (g := fun y => e (h y)) own hN hi hl hg hp he ok hws hc hs).eq li_map
theorem xs_lcT {elt tg it : Expr} {scope : Scope} {spos : Pos} {ws : List Nat} {xs : List υ} {up : List Slot → υ → List Slot} {h : υ → τ} {e : τ → OT} (i : Nat) {y : Str} {py : Pos} {Γt : List Slot} (own : List (Str × Nat)) (hN : X.N.Nodup) (hi : XI X c Γt tg it xs) (hl : xs.length ≤ 100000)
    (hg : ∀ q : Bq, XG (Bk X scope q) c tg ws up)
    (he : ∀ y ∈ xs, ∀ q : Bq, XN (Bk X scope q) c (up (wipeS Γt (own.map (·.2))) y) elt (e (h y))) (th : Thaw X.K c Γ Γt (OT.li e (xs.map h)) := by exact Thaw.id) (hil : i < Γ.length := by exact Nat.le_of_ble_eq_true rfl)
    (hy : X.N[i]? = some y := by rfl) (hyl : X.env.scope.names.lookup y = some .local := by rfl) (hsw : swapsWith (.ListComp elt [⟨tg, it, [], 0⟩] scope pos) (some (.Name y py)) spos.line X.env = pure true := by exact sw_true rfl rfl rfl (by decide +kernel))
    (ok : blkC X.N X.env.scope scope own = true := by decide +kernel) (hws : ∀ w ∈ ws, w ∈ own.map (·.2) := by decide) (hc : X.calm = true := by rfl) (hs : ∀ x, foldedSetIterable it X.env x = pure x := by intro _; rfl) :
    XS X w c Γ (.Assign [.Name y py] (.ListComp elt [⟨tg, it, [], 0⟩] scope pos) spos) (fun x : List τ => Γ.set i (.ow none (OT.li e x))) GB (Out.nx (xs.map h) : Out (List τ) B R.ρ) :=
  xs_lcN (g := fun y => e (h y)) (OT.li e) i own hN hi hl hg he li_map th hil hy hyl hsw ok hws hc hs
theorem xs_lcifT {elt tg it cond : Expr} {scope : Scope} {spos : Pos} {ws : List Nat} {xs : List υ} {up : List Slot → υ → List Slot} {h : υ → τ} {e : τ → OT} {p : υ → Bool} (i : Nat) {y : Str} {py : Pos} {Γt : List Slot} (own : List (Str × Nat)) (hN : X.N.Nodup) (hi : XI X c Γt tg it xs) (hl : xs.length ≤ 100000)
    (hg : ∀ q : Bq, XG (Bk X scope q) c tg ws up)
    (hp : ∀ y ∈ xs, ∀ q : Bq, XT (Bk X scope q) c (up (wipeS Γt (own.map (·.2))) y) cond (p y))
    (he : ∀ y ∈ xs, p y = true → ∀ q : Bq, XN (Bk X scope q) c (up (wipeS Γt (own.map (·.2))) y) elt (e (h y))) (th : Thaw X.K c Γ Γt (OT.li e ((xs.filter p).map h)) := by exact Thaw.id) (hil : i < Γ.length := by exact Nat.le_of_ble_eq_true rfl)
    (hy : X.N[i]? = some y := by rfl) (hyl : X.env.scope.names.lookup y = some .local := by rfl) (hsw : swapsWith (.ListComp elt [⟨tg, it, [cond], 0⟩] scope pos) (some (.Name y py)) spos.line X.env = pure true := by exact sw_true rfl rfl rfl (by decide +kernel))
    (ok : blkC X.N X.env.scope scope own = true := by decide +kernel) (hws : ∀ w ∈ ws, w ∈ own.map (·.2) := by decide) (hc : X.calm = true := by rfl) (hs : ∀ x, foldedSetIterable it X.env x = pure x := by intro _; rfl) :
    XS X w c Γ (.Assign [.Name y py] (.ListComp elt [⟨tg, it, [cond], 0⟩] scope pos) spos) (fun x : List τ => Γ.set i (.ow none (OT.li e x))) GB (Out.nx ((xs.filter p).map h) : Out (List τ) B R.ρ) :=
  xs_lcifN (g := fun y => e (h y)) (OT.li e) i own hN hi hl hg hp he li_map th hil hy hyl hsw ok hws hc hs
end
end Fw
/-! enumerate of a text. -/
namespace Fw
open PySem L2 Py PyProof.Rows
/-- a text's signs, each with its place in a new pair -/
def ItES (x : Str) : It :=
  ⟨fun i _ => i < x.cps.size, fun i H v H' => ∃ (T : Addr) (cc : Nat), v = V.ref T ∧ H T = none ∧ H' = upd H T (.tup [V.int (i : Nat), V.str ⟨#[cc]⟩]) ∧ x.cps[i]? = some cc, fun i _ => x.cps.size ≤ i⟩
theorem turn_enumS {P : Program} {w : World} {K : Fg} {elts : List Expr} {kk : Nat} {tpos : Pos} (x : Str) (t : Tok) (en si : Addr) :
    Turn P w K (.Tuple elts kk tpos) (ItES x) [en, si] en (fun i h => (∃ old, IsEnum h en si ((i : Nat) : Int) old) ∧ h.IsStrIter si (strIterType x) x t i ∧ en ≠ si ∧ i ≤ x.cps.size) where
  mem := List.mem_cons_self ..
  obj := by
    rintro i h ⟨⟨z, h1⟩, ⟨o, h2, _, h3⟩, _⟩ b hb
    rcases List.mem_cons.mp hb with rfl | hb
    · exact ⟨_, h1, fun v q => nomatch q⟩
    · cases List.mem_singleton.mp hb
      exact ⟨o, h2, fun v q => by rw [h3] at q; cases q⟩
  keep := by
    rintro i h h' ⟨⟨z, h1⟩, ⟨o, h2, h3⟩, h4⟩ k
    exact ⟨⟨z, k _ (List.mem_cons_self ..) _ h1⟩, ⟨o, k _ (by simp) _ h2, h3⟩, h4⟩
  item := by
    rintro X rfl rfl rfl hc i pins s σ H E I hf ⟨⟨z, h1⟩, h2, h4, h7⟩ hg
    have hel : en < s.heap.objs.size := Heap.lt_size h1
    have hil : si < s.heap.objs.size := by
      obtain ⟨o, q, _⟩ := h2
      exact Heap.lt_size q
    have hh : X.A.handled = none := I.ok.hd hc
    have hne : en ∉ [si] := by simpa using h4
    refine wpAny_pyNext_enum_itemC (Draws.text (A := X.A.in1) hh si x t) h1 h2 hg h4 hne fun v h' tk hP ho hs hT hz hk => ?_
    obtain ⟨cc, u, hx, rfl⟩ := hP
    refine ⟨_, rfl, wpAny_letOwnedTupleGo_enum (s := { s with heap := h', toks := tk + 1 }) ho fun g he sb => ?_⟩
    have hT2 : g.get? s.heap.objs.size = some { cls := .type "tuple", data := .seq #[.int i tk, .str ⟨#[cc]⟩ u] } := by rw [sb.2 _ (Nat.ne_of_gt hel)]; exact hT
    have hO : ObjOk X.prog X.w (upd H s.heap.objs.size (.tup [V.int (i : Nat), V.str ⟨#[cc]⟩])) g s.heap.objs.size (.tup [V.int (i : Nat), V.str ⟨#[cc]⟩]) :=
      ⟨by show 2 ≤ sizeLine; decide, [.int i tk, .str ⟨#[cc]⟩ u], .cons ⟨_, rfl⟩ (.cons ⟨_, rfl⟩ .nil), ⟨_, hT2, rfl, _, rfl⟩⟩
    have I1 : L2.Inv X pins σ (upd H s.heap.objs.size (.tup [V.int (i : Nat), V.str ⟨#[cc]⟩])) { s with heap := g, toks := tk + 1 } :=
      I.turnedNew (ch := [en, si]) (fun b o nb hb => by
        have n1 : b ≠ en := fun e => nb (by rw [e]; simp)
        have n2 : b ≠ si := fun e => nb (by rw [e]; simp)
        rw [sb.2 b n1]; exact hk b o n1 n2 hb) hf (Nat.le_refl _) hO
    refine ⟨.ref s.heap.objs.size, _, I1, rfl, ⟨_, cc, rfl, I.hok.fresh (Nat.le_refl _), rfl, hx⟩, ⟨⟨_, by rw [show ((i + 1 : Nat) : Int) = (i : Int) + 1 by omega]; exact he⟩, ?_, h4, hg⟩, fun b hb => ?_⟩
    · obtain ⟨o, q1, q2⟩ := hs
      exact ⟨o, by rw [sb.2 si (Ne.symm h4)]; exact q1, q2⟩
    · have lb : b < s.heap.objs.size := by
        rcases List.mem_cons.mp hb with rfl | hb
        · exact hel
        · cases List.mem_singleton.mp hb; exact hil
      rw [upd_ne (Nat.ne_of_lt lb)]
      exact (hf b hb).1
  done := by
    rintro X rfl rfl rfl hc i pins s σ H E I hf ⟨⟨z, h1⟩, h2, h4, h7⟩ hg
    obtain ⟨f0, f1, f2, f3, f4, f5⟩ := hf si (by simp)
    have hh : X.A.handled = none := I.ok.hd hc
    have hg' : x.cps.size ≤ i := hg
    have hi : i = x.cps.size := by omega
    subst hi
    exact wpAny_pyNext_enum_endD (Draws.text (A := X.A.in1) hh si x t) h1 h2 fun h' eb => ⟨rfl, I.turned (t' := s.toks) (fun b o nb q => eb b o nb q) f0 f1 f3 f4 f5⟩
  self := fun A i s Q E st h => by obtain ⟨⟨_, he⟩, _⟩ := st; exact wpAny_pyIter_enum he h
def iEnumS (ta : TA) : TI := fun σ H R => ta σ H fun vs H1 => ∃ x, vs = [V.str x] ∧ R (ItES x) H1
theorem pi_enumS {X : Cx} {e : Expr} {ta : TA} {p pos tpos : Pos} {elts : List Expr} {kk : Nat} (gl : Gl X "enumerate") (gm : X.mg "enumerate" = none) (ga : PA X [e] ta) (gs : starEach [e] X.env = [(false, eval e X.env)] := by rfl) :
    PI X (.Tuple elts kk tpos) (.Call (.Name "enumerate" p) [e] [] pos) (iEnumS ta) := ⟨fun pins s σ H R I h => by
  refine Call_ (ld_blt I gl gm boot_enumerate (PyProof.Rows.callWith_type1 (thn (ga.run pos pins s σ H _ I h) fun us s1 ⟨vs, H1, J, r1, x, ex, q⟩ => ?_) gs rfl))
  subst ex
  cases r1 with
  | cons r rr =>
    cases rr
    obtain ⟨t, rfl⟩ := r
    refine call_enumerate_str fun g h1 h2 hsz hk => wpAny_pyIter_enum h1 ?_
    have J2 : L2.Inv X pins σ H1 { s1 with heap := g } := J.kept (t' := s1.toks) hk
    refine ⟨s1.heap.objs.size + 1, [s1.heap.objs.size + 1, s1.heap.objs.size], _, _, H1, rfl, J2, turn_enumS x t (s1.heap.objs.size + 1) s1.heap.objs.size, ⟨⟨.none, h1⟩, h2, Nat.succ_ne_self _, Nat.zero_le _⟩, fun b hb => ?_, q⟩
    have lb : s1.heap.objs.size ≤ b := by
      rcases List.mem_cons.mp hb with rfl | hb
      · exact Nat.le_succ _
      · cases List.mem_singleton.mp hb; exact Nat.le_refl _
    exact J.fpOk lb (J.hok.fresh lb)⟩
theorem walk_enumS {x : Str} : Walk (ItES x) x.cps.size (fun _ => True) (YPair (fun i => some (.int (i : Nat))) (fun i => x.cps[i]?.map fun c => V.str ⟨#[c]⟩)) :=
  ⟨fun _ _ hi _ => hi, fun _ _ => Nat.le_refl _, fun i H v H' _ _ ⟨T, cc, h1, h2, h3, h4⟩ => ⟨T, .int (i : Nat), V.str ⟨#[cc]⟩, h1, h2, h3, rfl, by simp [h4]⟩⟩
theorem xi_enumS {X : Cx} {c : Cw} {Γ : List Slot} {a : Expr} {p tpos : Pos} {pos : Pos} {elts : List Expr} {kk : Nat} {s : Str} (hm : X.mg "enumerate" = none) (h : XE X c Γ a s) (hg : Gl X "enumerate" := by rfl) (hs : starEach [a] X.env = [(false, eval a X.env)] := by rfl) :
    XI X c Γ (.Tuple elts kk tpos) (.Call (.Name "enumerate" p) [a] [] pos) (enumL (signsL s)) := by
  obtain ⟨t, h1, h2⟩ := h
  refine ⟨_, pi_enumS hg hm (pa_cons h1 pa_nil hs) hs, fun F H σ fp E R q => h2 F H σ fp E _ fun v F' H' E' e1 e2 r => ?_⟩
  refine ⟨s, by rw [show v = V.str s from r], q _ F' H' E' e1 e2 ⟨_, _, (by
    have : (enumL (signsL s)).length = s.cps.size := by rw [enumL_len]; simp [signsL]
    rw [this]; exact walk_enumS), fun _ _ _ _ => trivial, fun i F1 H1 v H2 y x1 x2 hy hx => ?_⟩⟩
  obtain ⟨T, u, w, rfl, hT, hH, e3, e4⟩ := hy
  obtain ⟨y1, y2⟩ := enumL_get hx
  cases e3
  unfold signsL at y2
  rw [List.getElem?_map, Array.getElem?_toList] at y2
  dsimp only at e4
  cases q : s.cps[i]? with
  | none => rw [q] at e4; cases e4
  | some cc =>
    rw [q] at e4 y2
    cases e4
    exact pair_new x2 hT hH (show V.int _ = V.int _ by rw [y1]) (show V.str _ = V.str _ by rw [← Option.some.inj y2])
end Fw
/-! plain laws about the mirrors' words. -/
namespace Fw
open PySem L2 Py PyProof.Rows
section
variable {S τ R B : Type}
/-- what stands at each turn of a loop that never leaves -/
theorem fold_inv {g : S → τ → S} {vb : S → τ → Prop} : ∀ {xs : List τ} (I : Nat → S → Prop) {s : S}, I 0 s → (∀ i s y, xs[i]? = some y → I i s → vb s y ∧ I (i + 1) (g s y)) → vFold g vb s xs ∧ I xs.length (xs.foldl g s)
  | [], I, s, h0, _ => ⟨trivial, h0⟩
  | y :: r, I, s, h0, hs => by
    obtain ⟨h1, h2⟩ := hs 0 s y rfl h0
    obtain ⟨h3, h4⟩ := fold_inv (xs := r) (fun i => I (i + 1)) h2 fun i s z hz => hs (i + 1) s z hz
    exact ⟨⟨h1, h3⟩, h4⟩
theorem fold_all {g : S → τ → S} {vb : S → τ → Prop} {xs : List τ} (I : S → Prop) {s : S} (h0 : I s) (hs : ∀ s, ∀ y ∈ xs, I s → vb s y ∧ I (g s y)) : vFold g vb s xs ∧ I (xs.foldl g s) :=
  fold_inv (fun _ => I) h0 fun i s y hy h => hs s y (List.mem_of_getElem? hy) h
/-- .. of a loop that may go on early, but never leaves -/
theorem run_go {f : S → τ → Out S S R} {g : S → τ → S} : ∀ {xs : List τ} {s : S}, (∀ s, ∀ y ∈ xs, f s y = .nx (g s y) ∨ f s y = .ct (g s y)) → (runFor f s xs : Out S B R) = .nx (xs.foldl g s)
  | [], s, _ => rfl
  | y :: r, s, h => by
    unfold runFor
    have k := run_go (f := f) (g := g) (xs := r) (s := g s y) fun s z hz => h s z (List.mem_cons_of_mem _ hz)
    rcases h s y (List.mem_cons_self ..) with e | e <;> rw [e] <;> exact k
theorem vrun_go {f : S → τ → Out S S R} {g : S → τ → S} {vb : S → τ → Prop} : ∀ {xs : List τ} {s : S}, (∀ s, ∀ y ∈ xs, f s y = .nx (g s y) ∨ f s y = .ct (g s y)) → vFold g vb s xs → vRun f vb s xs
  | [], s, _, _ => trivial
  | y :: r, s, h, v => by
    have k := vrun_go (f := f) (g := g) (xs := r) (s := g s y) (fun s z hz => h s z (List.mem_cons_of_mem _ hz)) v.2
    refine ⟨v.1, ?_⟩
    rcases h s y (List.mem_cons_self ..) with e | e <;> rw [e] <;> exact k
/-- what stands at each turn of a loop that may leave with r -/
theorem run_inv {f : S → τ → Out S S R} {vb : S → τ → Prop} : ∀ {xs : List τ} (I : Nat → S → Prop) (J : S → Prop) (Q : R → Prop) {s : S}, I 0 s →
    (∀ i s y, xs[i]? = some y → I i s → vb s y ∧ (∀ s', f s y = .nx s' → I (i + 1) s') ∧ (∀ s', f s y = .ct s' → I (i + 1) s') ∧ (∀ s', f s y = .bk s' → J s') ∧ ∀ r, f s y = .rt r → Q r) →
    vRun f vb s xs ∧ (∀ s', (runFor f s xs : Out S B R) = .nx s' → I xs.length s' ∨ J s') ∧ ∀ r, (runFor f s xs : Out S B R) = .rt r → Q r
  | [], I, J, Q, s, h0, _ => ⟨trivial, fun s' e => by cases e; exact .inl h0, fun r e => by cases e⟩
  | y :: r, I, J, Q, s, h0, hs => by
    obtain ⟨h1, h2, h3, h4, h5⟩ := hs 0 s y rfl h0
    have go : ∀ s', I 1 s' → vRun f vb s' r ∧ (∀ s'', (runFor f s' r : Out S B R) = .nx s'' → I (r.length + 1) s'' ∨ J s'') ∧ ∀ q, (runFor f s' r : Out S B R) = .rt q → Q q :=
      fun s' h => run_inv (xs := r) (fun i => I (i + 1)) J Q h fun i s z hz => hs (i + 1) s z hz
    unfold vRun runFor
    cases e : f s y with
    | nx s' => obtain ⟨g1, g2⟩ := go s' (h2 s' e); exact ⟨⟨h1, g1⟩, g2⟩
    | ct s' => obtain ⟨g1, g2⟩ := go s' (h3 s' e); exact ⟨⟨h1, g1⟩, g2⟩
    | bk s' => exact ⟨⟨h1, trivial⟩, ⟨fun s'' q => by cases q; exact .inr (h4 s' e), fun q e => by cases e⟩⟩
    | rt x => exact ⟨⟨h1, trivial⟩, ⟨fun s'' q => (nomatch q), fun q z => by cases z; exact h5 x e⟩⟩
/-- a loop of tests, all of which hold -/
theorem run_ok {f : Unit → τ → Out Unit Unit R} {vb : Unit → τ → Prop} {xs : List τ} (h : ∀ y ∈ xs, vb () y ∧ f () y = .nx ()) : vRun f vb () xs ∧ (runFor f () xs : Out Unit B R) = .nx () := by
  have k : ∀ s, ∀ y ∈ xs, f s y = .nx ((fun _ _ => ()) s y) ∨ f s y = .ct ((fun _ _ => ()) s y) := fun s y hy => .inl (h y hy).2
  exact ⟨vrun_go k (fold_all (fun _ => True) trivial fun s y hy _ => ⟨(h y hy).1, trivial⟩).1, run_go k⟩
end
/-! numbers in a row -/
theorem izs_zero (lo : Int) : izs lo 0 = [] := rfl
theorem izs_succ (lo : Int) (n : Nat) : izs lo (n + 1) = lo :: izs (lo + 1) n := by
  unfold izs
  rw [List.range_succ_eq_map, List.map_cons, List.map_map]
  congr 1
  · show lo + 0 = lo; omega
  · exact List.map_congr_left fun a _ => by show lo + ((a + 1 : Nat) : Int) = lo + 1 + a; omega
theorem izs_mem {lo y : Int} {n : Nat} : y ∈ izs lo n ↔ lo ≤ y ∧ y < lo + n := by
  unfold izs
  rw [List.mem_map]
  constructor
  · rintro ⟨a, ha, rfl⟩
    rw [List.mem_range] at ha; omega
  · intro h
    exact ⟨(y - lo).toNat, by rw [List.mem_range]; omega, by omega⟩
theorem izs_at {lo : Int} {n i : Nat} (h : i < n) : (izs lo n)[i]? = some (lo + i) := by
  unfold izs
  rw [List.getElem?_map, List.getElem?_range h]; rfl
theorem izs_app (lo : Int) : ∀ n m : Nat, izs lo (n + m) = izs lo n ++ izs (lo + n) m
  | 0, m => by rw [Nat.zero_add, izs_zero]; simp
  | n + 1, m => by
    rw [Nat.add_right_comm, izs_succ, izs_succ, List.cons_append, izs_app (lo + 1) n m]
    congr 3; omega
section
variable {τ υ : Type} [Inhabited τ]
theorem ix_of {xs : List τ} (i : Nat) : ix xs (i : Int) = (xs[i]?).getD default := by
  rw [ix_nat (Int.natCast_nonneg i)]; rfl
theorem ix_get {xs : List τ} {i : Int} {x : τ} (h0 : 0 ≤ i) (h : xs[i.toNat]? = some x) : ix xs i = x := by rw [ix_nat h0, h]; rfl
theorem ix_cons {x : τ} {xs : List τ} : ix (x :: xs) 0 = x := by rw [ix_nat (by decide)]; rfl
theorem ixN_last {n : Nat} (h : 0 < n) : ixN n (-1) = some (n - 1) := by
  unfold ixN
  rw [if_neg (by decide), if_pos (by omega)]
  congr 1; omega
theorem ix_lastA {xs : List τ} {x : τ} : ix (xs ++ [x]) (-1) = x := by
  unfold ix atI
  rw [ixN_last (by simp)]
  simp
theorem st_lastA {xs : List τ} {x y : τ} : stI (xs ++ [x]) (-1) y = xs ++ [y] := by
  unfold stI ixn
  rw [ixN_last (by simp)]
  simp
theorem st_nat {xs : List τ} {i : Int} {y : τ} (h0 : 0 ≤ i) (h1 : i < xs.length) : stI xs i y = xs.set i.toNat y := by
  unfold stI ixn ixN
  rw [if_pos h0, if_pos h1]; rfl
theorem st_len {xs : List τ} {i : Int} {y : τ} : (stI xs i y).length = xs.length := by unfold stI; rw [List.length_set]
theorem st_mem {xs : List τ} {i : Int} {y z : τ} (h : z ∈ stI xs i y) : z ∈ xs ∨ z = y := by
  unfold stI at h
  exact (List.mem_or_eq_of_mem_set h)
theorem ix_eq_get {xs : List τ} {i : Int} (h0 : 0 ≤ i) (h1 : i < xs.length) : ix xs i = xs[i.toNat]'(by omega) := by
  rw [ix_nat h0, List.getElem?_eq_getElem (by omega)]; rfl
theorem cut_nat {xs : List τ} {a b : Int} (h0 : 0 ≤ a) (h1 : a ≤ b) (h2 : b ≤ xs.length) : cutL xs (some a) (some b) = (xs.drop a.toNat).take (b - a).toNat := by
  unfold cutL HT.sIx
  dsimp only
  rw [if_neg (by omega), if_neg (by omega), Nat.min_eq_left (by omega), Nat.min_eq_left (by omega)]
  congr 1; omega
theorem ix_st {xs : List τ} {i j : Int} {y : τ} (h0 : 0 ≤ i) (h1 : i < xs.length) (k0 : 0 ≤ j) (k1 : j < xs.length) : ix (stI xs i y) j = if j = i then y else ix xs j := by
  rw [st_nat h0 h1, ix_nat k0, ix_nat k0, List.getElem?_set]
  by_cases e : j = i
  · subst e
    rw [if_pos rfl, if_pos rfl, if_pos (by omega)]; rfl
  · rw [if_neg (by omega), if_neg e]
theorem ext_ix {xs ys : List τ} (h : xs.length = ys.length) (k : ∀ j : Int, 0 ≤ j → j < xs.length → ix xs j = ix ys j) : xs = ys := by
  refine List.ext_getElem h fun i h1 h2 => ?_
  have := k i (by omega) (by omega)
  rw [ix_eq_get (by omega) (by omega), ix_eq_get (by omega) (by omega)] at this
  exact this
theorem take_izs {xs : List τ} {a : Int} {m : Nat} (h0 : 0 ≤ a) (h1 : a + m ≤ xs.length) : (xs.drop a.toNat).take m = (izs a m).map (ix xs) := by
  refine List.ext_getElem? fun i => ?_
  by_cases hi : i < m
  · rw [List.getElem?_take, if_pos hi, List.getElem?_drop, List.getElem?_map, izs_at hi]
    show _ = some (ix xs (a + i))
    rw [ix_eq_get (by omega) (by omega), List.getElem?_eq_getElem (by omega)]
    congr 2; omega
  · rw [List.getElem?_take, if_neg hi, List.getElem?_eq_none (by rw [List.length_map, izs_len]; omega)]
theorem ix_mapz {f : Int → τ} {a j : Int} {m : Nat} (h0 : 0 ≤ j) (h1 : j < m) : ix ((izs a m).map f) j = f (a + j) := by
  rw [ix_nat h0, List.getElem?_map, izs_at (by omega)]
  show f (a + ((j.toNat : Nat) : Int)) = _
  congr 1; omega
end
theorem izs_pw (lo : Int) (n : Nat) : (izs lo n).Pairwise (· < ·) := by
  unfold izs
  rw [List.pairwise_map]
  exact List.Pairwise.imp (fun h => by omega) List.pairwise_lt_range
/-- first and last of a rising list -/
theorem pw_ends {xs : List Int} (h : xs.Pairwise (· < ·)) (hn : xs ≠ []) : InB xs 0 ∧ InB xs (-1) ∧ ix xs 0 ∈ xs ∧ ix xs (-1) ∈ xs ∧ ∀ x ∈ xs, ix xs 0 ≤ x ∧ x ≤ ix xs (-1) := by
  have hl : 0 < xs.length := List.length_pos_iff.mpr hn
  have b0 : InB xs 0 := by unfold InB; omega
  have b1 : InB xs (-1) := by unfold InB; omega
  refine ⟨b0, b1, ix_mem b0, ix_mem b1, fun x hx => ⟨?_, ?_⟩⟩
  · cases xs with
    | nil => exact absurd rfl hn
    | cons y r =>
      rw [ix_cons]
      rcases List.mem_cons.mp hx with rfl | hx
      · exact Int.le_refl _
      · exact Int.le_of_lt ((List.pairwise_cons.mp h).1 x hx)
  · obtain ⟨ys, y, rfl⟩ : ∃ ys y, xs = ys ++ [y] := ⟨xs.dropLast, xs.getLast hn, (List.dropLast_concat_getLast hn).symm⟩
    rw [ix_lastA]
    rcases List.mem_append.mp hx with hx | hx
    · exact Int.le_of_lt ((List.pairwise_append.mp h).2.2 x hx y (by simp))
    · rw [List.mem_singleton] at hx; rw [hx]; exact Int.le_refl _
/-! texts of single signs -/
theorem sg_of {s : Str} (h : s.length = 1) : ∃ c, s = ⟨#[c]⟩ := by
  obtain ⟨⟨l⟩⟩ := s
  have h' : l.length = 1 := h
  match l, h' with
  | [c], _ => exact ⟨c, rfl⟩
theorem joinL_nil : ∀ ps : List (List Nat), TL.joinL [] ps = ps.flatten
  | [] => rfl
  | [p] => by simp [TL.joinL]
  | p :: q :: r => by
    show p ++ ([] ++ TL.joinL [] (q :: r)) = _
    rw [joinL_nil (q :: r)]; simp
theorem signs_join {ys : List Str} (h : ∀ y ∈ ys, y.length = 1) : signsL (Txt.join ("" : Str) ys) = ys := by
  unfold signsL
  show (tl (Txt.join ("" : Str) ys)).map _ = ys
  rw [tl_joinL, show tl ("" : Str) = [] from rfl, joinL_nil]
  induction ys with
  | nil => rfl
  | cons y r ih =>
    obtain ⟨c, rfl⟩ := sg_of (h y (List.mem_cons_self ..))
    rw [List.map_cons, List.flatten_cons, List.map_append, ih fun z hz => h z (List.mem_cons_of_mem _ hz)]
    rfl
theorem strOk_iff {s : Str} : PyData.strOk s = true ↔ ∀ c ∈ tl s, c < 0x110000 := by
  show (s.cps.all (· < 0x110000)) = true ↔ _
  rw [Array.all_eq_true']
  exact ⟨fun h c hc => by simpa using h c (by simpa using hc), fun h c hc => by simpa using h c (by simpa using hc)⟩
theorem join_strOk {s : Str} {ys : List Str} (hs : PyData.strOk s = true) (h : ∀ y ∈ ys, PyData.strOk y = true) : PyData.strOk (Txt.join s ys) = true := by
  rw [strOk_iff, tl_joinL]
  intro c hc
  rcases joinL_mem hc with hc | ⟨p, hp, hc⟩
  · exact strOk_iff.mp hs c hc
  · obtain ⟨y, hy, rfl⟩ := List.mem_map.mp hp
    exact strOk_iff.mp (h y hy) c hc
end Fw
/-! dicts that are shown with their keys, update; tests that change what is owned. -/
namespace Fw
open PySem L2 Py PyProof.Rows
theorem FzT.st {τ : Type} [Py τ] {t : OT} {x : τ} (h : ∀ {K F v}, FA K F v t → rep K F v x) : FzT t x := fun q => h q
/-! ### update -/
def rDUpd : V → List V → Hp → VK → Prop := fun x vs H Q => ∃ a b kvs more, x = V.ref a ∧ vs = [V.ref b] ∧ a ≠ b ∧ H a = some (.dK kvs) ∧ H b = some (.dK more) ∧ kvs.length + more.length ≤ sizeLine ∧ Q .non (upd H a (.dK (mergeK kvs more)))
theorem mt_dupd {X : Cx} : MtR X "dict.update" rDUpd := by
  intro pins s σ H x vs v us Q I rx rv h
  obtain ⟨a, b, kvs, more, rfl, rfl, hab, ha, hb, hl, q⟩ := h
  cases rx
  obtain ⟨u, rfl, ru⟩ := rv.one
  cases ru
  obtain ⟨z1, hd1, ws1, r1, d1⟩ := dk_of I.hok ha
  obtain ⟨z2, hd2, ws2, r2, d2⟩ := dk_of I.hok hb
  refine call_meetsIn PySem.F.slot_dict_update d1.typeIs PySem.F.entry_dict_update (PySem.F.args_dict_update_2 _ _) (meets_dict_update (mixKind X.prog X.w) a b hab hd2) ⟨ws1, ws2, d1, d2, by rw [← r1.length, ← r2.length]; exact hl, fun h' dd' _ hs => ⟨.non, _, ?_, rfl, q⟩⟩
  have he : ∃ q, h'.get? a = some q := let ⟨q, _, _, hq, _⟩ := dd'; ⟨q, hq⟩
  refine d_write (t' := s.toks) I (by rw [ha]; exact True.intro) hs he (dk_new (Nat.le_trans (length_mergeK more kvs) hl) hd1 (r2.merge r1) dd')
theorem mergeK_new : ∀ {ms : List (Key × V)} {kvs : List (Key × V)}, ((kvs ++ ms).map (·.1)).Nodup → mergeK kvs ms = kvs ++ ms
  | [], kvs, _ => by rw [List.append_nil]; rfl
  | (k, v) :: r, kvs, h => by
    have h1 : (kvs.any fun kv => decide (kv.1 = k)) = false := by
      rw [List.any_eq_false]
      intro z hz
      rw [decide_eq_true_eq]
      intro e
      rw [List.map_append, List.map_cons, List.nodup_append] at h
      exact h.2.2 z.1 (List.mem_map_of_mem hz) k (by simp) e
    show mergeK (putK kvs k v) r = _
    have h2 : putK kvs k v = kvs ++ [(k, v)] := by unfold putK; rw [h1]; rfl
    rw [h2, mergeK_new (by rw [List.append_assoc]; exact h), List.append_assoc]; rfl
theorem zip_fst {ks : List Key} {vs : List V} (h : ks.length = vs.length) : (ks.zip vs).map (·.1) = ks := by
  rw [List.map_fst_zip]; omega
section
variable {X : Cx} {w : Wx} {c : Cw} {Γ Γ' : List Slot} {S S' B τ υ α : Type} [Py τ] [Py υ] {R : Rc} {G : S → List Slot} {GB : B → List Slot} {o : Out S B R.ρ} {pos : Pos} {rest : List Stmt} {e d a ep ei : Expr} {k : Bool} {t u : OT} {ts us : List OT} {i : Nat} {p : List Nat} {oa : Option Addr}
/-- {..} with text keys -/
def XPp (X : Cx) (c : Cw) (Γ : List Slot) (pos : Pos) (keys : List (Option Expr)) (vals : List Expr) (ks : List Key) (ts : List OT) : Prop := ∃ trs, PPs X pos keys vals trs ∧
  ∀ F H σ fp, EnvD X.K c F H σ Γ fp → ∀ Q : List (V × V) → Hp → Prop, (∀ vs fps F' H', EnvD X.K c F' H' σ Γ fp → Ex F F' → Nw F H F' H' → L3 (OA X.K F' H') vs fps ts → fps.flatten.Nodup → (∀ b ∈ fps.flatten, H b = none) → Q ((ks.zip vs).map fun kv => (kV kv.1, kv.2)) H') → tPairs trs σ H Q
theorem xpp_nil : XPp X c Γ pos [] [] [] [] := ⟨_, pps_nil, fun F H σ fp E Q q => q [] [] F H E (Ex.refl _) Nw.refl .nil List.nodup_nil fun b hb => by cases hb⟩
theorem xpp_cons {ke : Expr} {keys : List (Option Expr)} {vals : List Expr} {s : Str} {ks : List Key} (hk : XE X c Γ ke s) (h : XN X c Γ e t) (hr : XPp X c Γ pos keys vals ks ts) : XPp X c Γ pos (some ke :: keys) (e :: vals) (.inr s :: ks) (t :: ts) := by
  obtain ⟨tk, k1, k2⟩ := hk
  obtain ⟨te, h1, h2⟩ := h
  obtain ⟨tr, h3, h4⟩ := hr
  refine ⟨_, pps_cons k1 h1 h3, fun F H σ fp E Q q => k2 F H σ fp E _ fun kv F0 H0 E0 e0 n0 r0 => h2 F0 H0 σ fp E0 _ fun v F1 H1 l E1 e1 n1 r1 hl => h4 F1 H1 σ fp E1 _ fun vs fps F2 H2 E2 e2 n2 r2 nd hf => ?_⟩
  have r1' : OA X.K F2 H2 v l t := r1.grow e2 fun b hb => by
    obtain ⟨d1, u, d2⟩ := r1.dom b hb
    exact ⟨Nw.none n2 d1 (by rw [d2]; simp), (n2.h _ _ d2).trans d2.symm⟩
  have hd : fps.flatten.Nodup ∧ ∀ b ∈ l, b ∉ fps.flatten := ⟨nd, fun b hb hc => by
    obtain ⟨_, u, d⟩ := r1.dom b hb
    rw [hf b hc] at d; cases d⟩
  have hh : ∀ b, H0 b = none → H b = none := fun b hb => by
    cases z : H b with
    | none => rfl
    | some o => rw [n0.h _ _ z] at hb; cases hb
  have hv : kv = V.str s := r0
  have := q (v :: vs) (l :: fps) F2 H2 E2 ((e0.trans e1).trans e2) ((n0.trans n1).trans n2) (.cons r1' r2) (by
    rw [List.flatten_cons]
    exact List.nodup_append.mpr ⟨r1.nodup, nd, fun b hb c hc z => by subst z; exact hd.2 b hb hc⟩) (fun b hb => by
    rw [List.flatten_cons] at hb
    rcases List.mem_append.mp hb with g | g
    · exact hh b (hl b g)
    · refine hh b ?_
      cases z : H0 b with
      | none => rfl
      | some o => have := hf b g; rw [n1.h _ _ z] at this; cases this)
  rw [hv]
  exact this
theorem xn_disp {keys : List (Option Expr)} {vals : List Expr} {ks : List Key} (h : XPp X c Γ pos keys vals ks ts) (hk : ks.Nodup) (hl : ks.length = ts.length) (h15 : ks.length ≤ 15) (hall : keys.all (·.isSome) = true := by rfl) (hl2 : keys.length = vals.length := by rfl) (h0 : keys ≠ [] := by intro z; cases z) (h15' : keys.length ≤ 15 := by exact Nat.le_of_ble_eq_true rfl) :
    XN X c Γ (.Dict keys vals pos) (.nd (.dK ks) ts) := by
  obtain ⟨tr, h1, h2⟩ := h
  refine ⟨_, pe_disp h1 hall hl2 h0 h15', fun F H σ fp E Q q p hp => ?_⟩
  have hf := E.ff hp
  have E0 : EnvD X.K c F (upd H p (.dK [])) σ Γ fp := E.grow (Ex.refl _) (E.wd.fh.upd hf) (Ex.new hp) fun b h => .inl h
  have n0 : Nw F H F (upd H p (.dK [])) := ⟨Ex.new hp, fun b h => .inl h⟩
  refine h2 F _ σ fp E0 _ fun vs fps F1 H1 E1 e1 n1 r1 nd hd => ?_
  have hv : ks.length = vs.length := by rw [hl, r1.1]
  have hF1 : F1 p = none := Nw.none n1 hf (by rw [upd_same]; simp)
  have np : p ∉ fps.flatten := fun h => by
    have := hd p h
    rw [upd_same] at this; cases this
  have em : mergeK [] (ks.zip vs) = ks.zip vs := mergeK_new (by rw [List.nil_append, zip_fst hv]; exact hk)
  refine ⟨n1.h _ _ upd_same, ks.zip vs, rfl, by rw [List.length_zip]; omega, ?_⟩
  rw [em]
  refine q _ F1 _ (p :: fps.flatten) (E1.mutD hF1 (E.fresh hp) (E.wd.fresh hp)) e1 ((n0.trans n1).updD hp) (OA.mk hF1 upd_same ⟨hv, rfl⟩ (r1.imp fun v l t hl o => o.grow (Ex.refl _) fun b hb => ⟨(o.dom b hb).1, upd_ne ?_⟩) (List.nodup_cons.mpr ⟨np, nd⟩)) fun b hb => ?_
  · rintro rfl
    exact np (List.mem_flatten.mpr ⟨l, hl, hb⟩)
  · rcases List.mem_cons.mp hb with rfl | hb
    · exact hp
    · have hb1 := hd b hb
      by_cases z : b = p
      · subst z; exact hp
      · rw [upd_ne z] at hb1; exact hb1
/-- P.update(e), all keys new -/
theorem xs_dupd {q1 q2 : Pos} {ks ks2 : List Key} (g : α → OT) {y : α} (hp : XPl X c Γ ep i p) (he : XN X c Γ e (.nd (.dK ks2) us)) (hs : Γ[i]? = some (.ow oa t)) (hg : t.get? p = some (.nd (.dK ks) ts)) (hk : (ks ++ ks2).Nodup) (hl : (ks ++ ks2).length ≤ 100000) (hy : t.put p (.nd (.dK (ks ++ ks2)) (ts ++ us)) = g y)
    (hst : starEach [e] X.env = [(false, eval e X.env)] := by rfl)
    (hsw : swapsWith (.Call (.Attribute ep "update" q1) [e] [] q2) none pos.line X.env = pure false := by rfl) (hab : attributeBase ep "update" X.env (eval ep X.env) = eval ep X.env := by rfl) (hln : (q1.endLine == q2.line) = true := by rfl)
    (hfew : ((backTo q2 (starEach [e] X.env)).all (fun x => !x.1) && (backToKw q2 (keywordEach [] X.env)).all (fun x => x.1.isSome) && decide (([e] : List Expr).length + ([] : List Keyword).length + (if ([] : List Keyword).isEmpty then 0 else 1) < 30)) = true := by rfl) :
    XS X w c Γ (.Expr (.Call (.Attribute ep "update" q1) [e] [] q2) pos) (fun y : α => Γ.set i (.ow oa (g y))) GB (Out.nx y : Out α B R.ρ) := by
  obtain ⟨te, h1, h2⟩ := he
  obtain ⟨tp, h3, h4⟩ := hp
  refine ⟨_, ps_expr (pe_bm PySem.F.plainAttrs_dict PySem.F.slot_dict_update PySem.F.type_dict_update mt_dupd h3 (pa_cons h1 pa_nil hst) hab hfew hln hst rfl) hsw, fun F H σ ⟨fp, E⟩ D q => h4 F H σ fp E _ fun vp v0 F1 H1 E1 e1 n1 g1 g2 => ?_⟩
  have typ : tyV X.K "dict" vp H1 := by
    obtain ⟨v0', a, o, vs, fps, k1, k2, k3, k4, k5, _⟩ := E1.node hs hg
    rw [g1] at k1; cases k1
    rw [g2] at k2; cases k2
    obtain ⟨_, rfl⟩ := k5
    exact .inr (.inr (.inl ⟨rfl, .inl ⟨_, k4⟩⟩))
  refine ⟨typ, h2 F1 H1 σ fp E1 _ fun v F2 H2 l E2 e2 n2 r1 hl1 => ?_⟩
  obtain ⟨v0', a, o, vs, fps, k1, k2, k3, k4, k5, k6, k7, k8, k9⟩ := E2.node hs hg
  have g2' := follow_ex n2.h g2
  rw [g1] at k1; cases k1
  rw [g2'] at k2; cases k2
  obtain ⟨hlen, rfl⟩ := k5
  obtain ⟨b, o2, ws, gps, rfl, rfl, hF, hH, ko, hc, nd2⟩ := r1.l3
  obtain ⟨hlen2, rfl⟩ := ko
  have fr : ∀ x ∈ b :: gps.flatten, c.al x ∧ ∀ j, x ∉ fp j := fun x hx => ⟨E1.wd.fresh (hl1 x hx), E1.fresh (hl1 x hx)⟩
  have ha : H1 a ≠ none := by
    obtain ⟨v0'', a', o', vs', fps', l1, l2, _, l4, _⟩ := E1.node hs hg
    rw [g1] at l1; cases l1
    rw [g2] at l2; cases l2
    rw [l4]; simp
  have hab' : a ≠ b := fun z => ha (by rw [z]; exact hl1 b (List.mem_cons_self ..))
  obtain ⟨m1, m2⟩ := nd_app (gps := gps) k7 (List.nodup_cons.mp nd2).2 (fun x hx h => (fr x (List.mem_cons_of_mem _ hx)).2 i (k8 x h))
  have em : mergeK (ks.zip vs) (ks2.zip ws) = (ks ++ ks2).zip (vs ++ ws) := by
    rw [List.zip_append hlen]
    exact mergeK_new (by rw [List.map_append, zip_fst hlen, zip_fst hlen2]; exact hk)
  obtain ⟨fp', E4, _, _⟩ := k9 (.dK (mergeK (ks.zip vs) (ks2.zip ws))) (.dK (ks ++ ks2)) (vs ++ ws) (fps ++ gps) (ts ++ us) ⟨by simp [hlen, hlen2], by rw [em]⟩ (k6.app hc) m1 (fun x hx => (m2 x hx).imp id (fun h => fr x (List.mem_cons_of_mem _ h)))
  rw [hy] at E4
  refine ⟨a, b, _, _, rfl, rfl, hab', k4, hH, ?_, q σ F2 _ ⟨fp', E4⟩ (e1.trans e2)⟩
  rw [List.length_zip, List.length_zip]
  rw [List.length_append] at hl
  exact sz _ (by omega)
/-! ### tests that change what is owned -/
def XTM (X : Cx) (c : Cw) (Γ Γ' : List Slot) (e : Expr) (b : Bool) : Prop := ∃ t, PT X e t ∧ ∀ F H σ fp, EnvD X.K c F H σ Γ fp → ∀ Q : Bool → Hp → Prop, (∀ F' H' fp', EnvD X.K c F' H' σ Γ' fp' → Ex F F' → Q b H') → t σ H Q
theorem xtm_of (h : XT X c Γ e k) : XTM X c Γ Γ e k := by
  obtain ⟨t, h1, h2⟩ := h
  exact ⟨t, h1, fun F H σ fp E Q q => h2 F H σ fp E Q fun F' H' E' e1 _ => q F' H' fp E' e1⟩
theorem xtm_not (h : XTM X c Γ Γ' e k) : XTM X c Γ Γ' (.UnaryOp .Not e pos) (!k) := by
  obtain ⟨t, h1, h2⟩ := h
  exact ⟨_, pt_not h1, fun F H σ fp E Q q => h2 F H σ fp E _ fun F' H' fp' E' e1 => q F' H' fp' E' e1⟩
/-- the value of what changes things, as a test of two -/
theorem xtm_cmp {op : CmpOp} {r : R2} {x : τ} {y : υ} (ho : OpR X (compareOp op) r) (hr : ROp X.K r x y k) (ha : XM X c Γ Γ' a (.fz x)) (hb : XE X c Γ' d y) (hm : behindInMarks op d = false) : XTM X c Γ Γ' (.Compare a [op] [d] pos) k := by
  obtain ⟨ta, a1, a2⟩ := ha
  obtain ⟨tb, b1, b2⟩ := hb
  refine ⟨_, pt_cmpR ho a1 b1 hm, fun F H σ fp E Q q => ?_⟩
  refine a2 F H σ fp E _ fun u F1 H1 fp1 l E1 e1 r1 hl => ?_
  obtain ⟨rfl, u', hu, r1⟩ := r1
  cases hu
  refine b2 F1 H1 σ fp1 E1 _ fun v F2 H2 E2 e2 g2 r2 => ?_
  exact hr F2 H2 u v E2.wd.fh (Py.mono e2 r1) r2 _ fun w F' H' p1 p2 p3 p4 p5 => ⟨_, p5, q F' H' fp1 (E2.grow p1 p2 p3 p4) ((e1.trans e2).trans p1)⟩
theorem xtm_isnU {j p'} (ha : XM X c Γ Γ' a (.fz ())) : XTM X c Γ Γ' (.Compare a [.IsNot] [.Constant .none j p'] pos) false :=
  xtm_cmp (y := ()) op_notN (fun F H u v e h1 h2 Q q => ⟨h2, q _ F H (Ex.refl _) e (Ex.refl _) (fun _ h => .inl h) (by
    show V.bl _ = V.bl _
    rw [show u = V.non from h1]; rfl)⟩) ha xe_nil (nomark _)
theorem xtm_isU {j p'} (ha : XM X c Γ Γ' a (.fz ())) : XTM X c Γ Γ' (.Compare a [.Is] [.Constant .none j p'] pos) true :=
  xtm_cmp (y := ()) op_isN (fun F H u v e h1 h2 Q q => ⟨h2, q _ F H (Ex.refl _) e (Ex.refl _) (fun _ h => .inl h) (by
    show V.bl _ = V.bl _
    rw [show u = V.non from h1]; rfl)⟩) ha xe_nil (nomark _)
/-- a test of several, the first of which changes things -/
theorem xtm_or {b : Expr} {more : List Expr} {l : Bool} (ha : XTM X c Γ Γ' a false) (hb : XW X c Γ' (.BoolOp .Or (b :: more) pos) l) : XTM X c Γ Γ' (.BoolOp .Or (a :: b :: more) pos) l := by
  obtain ⟨t, h1, h2⟩ := ha
  obtain ⟨u, h3, h4⟩ := hb
  refine ⟨tOr t u, (pw_or h1 h3).pt, fun F H σ fp E Q q => h2 F H σ fp E _ fun F' H' fp' E' e1 => ?_⟩
  rw [if_neg Bool.false_ne_true]
  exact h4 F' H' σ fp' E' Q fun F2 H2 E2 e2 _ => q F2 H2 fp' E2 (e1.trans e2)
theorem xtm_or' {b : Expr} {more : List Expr} {l : Bool} (ha : XTM X c Γ Γ' a k) (hb : k = false → XW X c Γ' (.BoolOp .Or (b :: more) pos) l) : XTM X c Γ Γ' (.BoolOp .Or (a :: b :: more) pos) (k || l) := by
  cases k with
  | false => exact xtm_or ha (hb rfl)
  | true =>
    obtain ⟨t, h1, h2⟩ := ha
    refine ⟨tOr t _, (pw_or h1 ⟨fun _ _ _ _ _ _ _ (h : False) => h.elim⟩).pt, fun F H σ fp E Q q => h2 F H σ fp E _ fun F' H' fp' E' e1 => ?_⟩
    rw [if_pos rfl]
    exact q F' H' fp' E' e1
theorem xs_ifM {A C : List Stmt} {o1 o2 : Out S B R.ρ} (hd : XTM X c Γ Γ' d k) (ha : k = true → XO X w c Γ' A G GB o1) (hb : k = false → XO X w c Γ' C G GB o2) : XS X w c Γ (.If d A C pos) G GB (if k then o1 else o2) := by
  obtain ⟨t, h1, h2⟩ := hd
  cases k with
  | true =>
    obtain ⟨u, h3, h4⟩ := ha rfl
    refine ⟨_, ps_if h1 h3 pss_never, fun F H σ ⟨fp, E⟩ D q => h2 F H σ fp E _ fun F' H' fp' E' e1 => ?_⟩
    rw [if_pos rfl]
    exact h4 F' H' σ ⟨fp', E'⟩ D (OutOk.ex (o := o1) q e1)
  | false =>
    obtain ⟨u, h3, h4⟩ := hb rfl
    refine ⟨_, ps_if h1 pss_never h3, fun F H σ ⟨fp, E⟩ D q => h2 F H σ fp E _ fun F' H' fp' E' e1 => ?_⟩
    rw [if_neg Bool.false_ne_true]
    exact h4 F' H' σ ⟨fp', E'⟩ D (OutOk.ex (o := o2) q e1)
theorem xo_ifxM {A : List Stmt} {o1 : Out Empty B R.ρ} {o2 : Out S B R.ρ} (hd : XTM X c Γ Γ' d k) (ha : k = true → XO X w c Γ' A (fun s : Empty => s.elim) GB o1) (hb : k = false → XO X w c Γ' rest G GB o2) :
    XO X w c Γ (.If d A [] pos :: rest) G GB (if k then o1.up else o2) := by
  obtain ⟨t, h1, h2⟩ := hd
  cases k with
  | true =>
    obtain ⟨u, h3, h4⟩ := ha rfl
    refine ⟨_, pss_cons (ps_if h1 h3 pss_never) pss_never, fun F H σ ⟨fp, E⟩ D q => h2 F H σ fp E _ fun F' H' fp' E' e1 => ?_⟩
    rw [if_pos rfl]
    exact h4 F' H' σ ⟨fp', E'⟩ _ (OutOk.up (OutOk.ex (o := o1.up) q e1))
  | false =>
    obtain ⟨u, h3, h4⟩ := hb rfl
    refine ⟨_, pss_cons (ps_if h1 pss_never pss_nil) h3, fun F H σ ⟨fp, E⟩ D q => h2 F H σ fp E _ fun F' H' fp' E' e1 => ?_⟩
    rw [if_neg Bool.false_ne_true]
    exact h4 F' H' σ ⟨fp', E'⟩ D (OutOk.ex (o := o2) q e1)
variable {n : S → R.ρ}
theorem xf_ifxM {A : List Stmt} {r1 r2 : R.ρ} (hd : XTM X c Γ Γ' d k) (ha : k = true → XF X w c Γ' A (S := Empty) (fun e => e.elim) (fun e => e.elim) r1) (hb : k = false → XF X w c Γ' rest n G r2) :
    XF X w c Γ (.If d A [] pos :: rest) n G (if k then r1 else r2) := by
  cases k with
  | true =>
    obtain ⟨o, h1, h2⟩ := ha rfl
    refine ⟨o.up, ?_, by
      have := xo_ifxM (o1 := o) (o2 := o.up) (rest := rest) (G := G) (pos := pos) hd (fun _ => h2) (fun h => by cases h)
      exact this⟩
    cases o with
    | nx s => exact s.elim
    | rt r => exact h1
    | bk s => exact s.elim
    | ct s => exact s.elim
  | false =>
    obtain ⟨o, h1, h2⟩ := hb rfl
    exact ⟨o, h1, xo_ifxM (o1 := (Out.rt r1 : Out Empty Empty R.ρ)) (o2 := o) hd (fun h => by cases h) fun _ => h2⟩
theorem xf_ifeM {A C : List Stmt} {r1 r2 : R.ρ} (hd : XTM X c Γ Γ' d k) (ha : k = true → XF X w c Γ' A n G r1) (hb : k = false → XF X w c Γ' C n G r2) : XF X w c Γ [.If d A C pos] n G (if k then r1 else r2) := by
  cases k with
  | true =>
    obtain ⟨o, h1, h2⟩ := ha rfl
    exact ⟨o, h1, xo_one (xs_ifM (o1 := o) (o2 := o) hd (fun _ => h2) (fun h => by cases h))⟩
  | false =>
    obtain ⟨o, h1, h2⟩ := hb rfl
    exact ⟨o, h1, xo_one (xs_ifM (o1 := o) (o2 := o) hd (fun h => by cases h) (fun _ => h2))⟩
end
end Fw
/-! dicts that keep whole numbers; sorted; repr. -/
namespace Fw
open PySem L2 Py PyProof.Rows
/-- a dict of numbers, each with True -/
structure Ks where
  l : List Int
deriving Inhabited, DecidableEq
def Ks.ot (s : Ks) : OT := .nd (.dK (s.l.map Sum.inl)) (s.l.map fun _ => OT.fz true)
instance : Py Ks := pyOf Ks.ot
def Ks.put (s : Ks) (k : Int) : Ks := if k ∈ s.l then s else ⟨s.l ++ [k]⟩
def Ks.drop (s : Ks) (k : Int) : Ks := ⟨s.l.filter (· ≠ k)⟩
theorem fIx_inl {k : Int} : ∀ {l : List Int}, (fIx (l.map (Sum.inl : Int → Key)) (Sum.inl k)).isSome = decide (k ∈ l)
  | [] => rfl
  | n :: r => by
    rw [List.map_cons]
    unfold fIx
    by_cases e : n = k
    · subst e
      rw [if_pos rfl, decide_eq_true (by simp)]; rfl
    · rw [if_neg (by intro h; cases h; exact e rfl)]
      have h := fIx_inl (k := k) (l := r)
      have e2 : (k ∈ n :: r) = (k ∈ r) := by
        rw [List.mem_cons]; simp [Ne.symm e]
      have e3 : decide (k ∈ n :: r) = decide (k ∈ r) := by simp [Ne.symm e]
      rw [e3, ← h]
      cases q : fIx (r.map (Sum.inl : Int → Key)) (Sum.inl k) <;> rfl
theorem kPut_ks {s : Ks} {k : Int} : kPut (s.l.map Sum.inl) (s.l.map fun _ => OT.fz true) (Sum.inl k) (.fz true) = (s.put k).ot := by
  unfold kPut Ks.put
  have h := fIx_inl (k := k) (l := s.l)
  cases q : fIx (s.l.map (Sum.inl : Int → Key)) (Sum.inl k) with
  | some j =>
    rw [q] at h
    rw [if_pos (of_decide_eq_true h.symm)]
    unfold Ks.ot
    show OT.nd _ ((List.map (fun x => OT.fz true) s.l).set j (OT.fz true)) = OT.nd _ _
    congr 1
    refine List.ext_getElem? fun i => ?_
    rw [List.getElem?_set]
    split
    · next e =>
      subst e
      split
      · next hl => rw [List.getElem?_map, List.getElem?_eq_getElem (by simpa using hl)]; rfl
      · next hl => rw [List.getElem?_eq_none (by omega)]
    · rfl
  | none =>
    rw [q] at h
    rw [if_neg (of_decide_eq_false h.symm)]
    unfold Ks.ot
    rw [List.map_append, List.map_append]; rfl
/-- numbers, rising -/
def srt (l : List Int) : List Int := l.mergeSort (fun a b => decide (a ≤ b))
theorem srt_of {l ys : List Int} (h : ys.Perm l) (k : ys.Pairwise (· ≤ ·)) : ys = srt l := by
  refine List.Perm.eq_of_pairwise (fun a b _ _ => Int.le_antisymm) k ?_ (h.trans (List.mergeSort_perm l _).symm)
  have := List.pairwise_mergeSort (le := fun a b : Int => decide (a ≤ b)) (fun a b c h1 h2 => by simp at *; omega) (fun a b => by simp; omega) l
  exact this.imp fun h => of_decide_eq_true h
section
variable {X : Cx} {w : Wx} {c : Cw} {Γ Γ' : List Slot} {S S' B τ υ α : Type} [Py τ] [Py υ] {R : Rc} {G : S → List Slot} {GB : B → List Slot} {o : Out S B R.ρ} {pos : Pos} {rest : List Stmt} {e d a ep ei : Expr} {k : Bool} {t u : OT} {ts us : List OT} {i : Nat} {p : List Nat} {oa : Option Addr}
theorem xs_kset {n : Int} {s : Ks} {q1 : Pos} (g : α → OT) {y : α} (hu : X.A.units + 1 < cLine) (he : XE X c Γ e true) (hp : XPl X c Γ ep i p) (hk : XE X c Γ ei n) (hs : Γ[i]? = some (.ow oa t)) (hg : t.get? p = some s.ot) (hnd : s.l.Nodup ∧ s.l.length < 100000) (hy : t.put p (s.put n).ot = g y)
    (hsw : swapsWith e (some (.Subscript ep ei q1)) pos.line X.env = pure false := by rfl) :
    XS X w c Γ (.Assign [.Subscript ep ei q1] e pos) (fun y : α => Γ.set i (.ow oa (g y))) GB (Out.nx y : Out α B R.ρ) :=
  xs_dset (ky := .inl n) g hu he.n hp hk (fun F v r => r) hs hg (by
    have := hnd.1
    unfold List.Nodup at this ⊢
    rw [List.pairwise_map]
    exact this.imp fun h1 h2 => by cases h2; exact h1 rfl) (by rw [List.length_map]; exact hnd.2) (by rw [kPut_ks]; exact hy) hsw
theorem l3_true {P : V → List Addr → OT → Prop} {K : Fg} {F H : Hp} {vs : List V} {fps : List (List Addr)} {l : List Int} (r : L3 (OA K F H) vs fps (l.map fun _ => OT.fz true)) : vs = l.map fun _ => V.bl true := by
  refine List.ext_getElem? fun i => ?_
  have h1 := r.1
  rw [List.length_map] at h1
  by_cases hi : i < l.length
  · have h2 := r.2.1
    rw [List.length_map] at h2
    have := r.2.2 i vs[i] fps[i] (.fz true) (List.getElem?_eq_getElem (by omega)) (List.getElem?_eq_getElem (by omega)) (by rw [List.getElem?_map, List.getElem?_eq_getElem hi]; rfl)
    rw [List.getElem?_eq_getElem (by omega), List.getElem?_map, List.getElem?_eq_getElem hi]
    congr 1
    generalize vs[i] = v at this ⊢
    generalize fps[i] = f at this
    cases this with
    | fz r => exact r
  · rw [List.getElem?_eq_none (by omega), List.getElem?_map, List.getElem?_eq_none (by omega)]; rfl
theorem dropK_ks {l : List Int} {n : Int} : dropK (((l.map Sum.inl : List Key)).zip (l.map fun _ => V.bl true)) (Sum.inl n) = ((l.filter (· ≠ n)).map Sum.inl : List Key).zip ((l.filter (· ≠ n)).map fun _ => V.bl true) := by
  induction l with
  | nil => rfl
  | cons m r ih =>
    rw [List.map_cons, List.map_cons, List.zip_cons_cons]
    unfold dropK at ih ⊢
    by_cases e : m = n
    · subst e
      rw [List.filter_cons_of_neg (by simp), List.filter_cons_of_neg (by simp)]; exact ih
    · rw [List.filter_cons_of_pos (by simp [e]), List.filter_cons_of_pos (by simp [e]), List.map_cons, List.map_cons, List.zip_cons_cons, ih]
theorem valV_ks {l : List Int} {n : Int} : valV (((l.map Sum.inl : List Key)).zip (l.map fun _ => V.bl true)) (Sum.inl n) = if n ∈ l then some (V.bl true) else none := by
  induction l with
  | nil => rfl
  | cons m r ih =>
    rw [List.map_cons, List.map_cons, List.zip_cons_cons]
    unfold valV at ih ⊢
    by_cases e : m = n
    · subst e
      rw [List.find?_cons_of_pos (by simp), if_pos (by simp)]; rfl
    · rw [List.find?_cons_of_neg (by simp [e]), ih]
      by_cases h : n ∈ r
      · rw [if_pos h, if_pos (by simp [h])]
      · rw [if_neg h, if_neg (by simp [h, Ne.symm e])]
/-- P.pop(n, None) -/
theorem xs_kpop {n : Int} {s : Ks} {q1 q2 qc : Pos} {kc} (g : α → OT) {y : α} (hp : XPl X c Γ ep i p) (hk : XE X c Γ ei n) (hs : Γ[i]? = some (.ow oa t)) (hg : t.get? p = some s.ot) (hy : t.put p (s.drop n).ot = g y)
    (m : M2 X ep "pop" q1 ei (.Constant .none kc qc) q2 := by exact ⟨rfl, rfl, rfl, rfl⟩)
    (hsw : swapsWith (.Call (.Attribute ep "pop" q1) [ei, .Constant .none kc qc] [] q2) none pos.line X.env = pure false := by rfl) :
    XS X w c Γ (.Expr (.Call (.Attribute ep "pop" q1) [ei, .Constant .none kc qc] [] q2) pos) (fun y : α => Γ.set i (.ow oa (g y))) GB (Out.nx y : Out α B R.ρ) := by
  obtain ⟨tp, h3, h4⟩ := hp
  obtain ⟨ti, h5, h6⟩ := hk
  obtain ⟨tn, h7, h8⟩ := (xe_nil : XE X c Γ (.Constant .none kc qc) ())
  refine ⟨_, ps_expr (pe_dpop2 h3 h5 h7 m) hsw, fun F H σ ⟨fp, E⟩ D q => h4 F H σ fp E _ fun vp v0 F1 H1 E1 e1 n1 g1 g2 => ?_⟩
  have typ : ∃ ad, vp = .ref ad ∧ IsD H1 ad := by
    obtain ⟨v0', a, o, vs, fps, k1, k2, k3, k4, k5, _⟩ := E1.node hs hg
    rw [g1] at k1; cases k1
    rw [g2] at k2; cases k2
    obtain ⟨_, rfl⟩ := k5
    exact ⟨a, rfl, .inl ⟨_, .inl k4⟩⟩
  obtain ⟨ad, rfl, isd⟩ := typ
  refine ⟨ad, rfl, isd, h6 F1 H1 σ fp E1 _ fun v F2 H2 E2 e2 n2 r2 => h8 F2 H2 σ fp E2 _ fun z F3 H3 E3 e3 n3 r3 => ?_⟩
  obtain ⟨v0', a, o, vs, fps, k1, k2, k3, k4, k5, k6, k7, k8, k9⟩ := E3.node hs hg
  have g2' := follow_ex (n2.trans n3).h g2
  rw [g1] at k1; cases k1
  rw [g2'] at k2; cases k2
  obtain ⟨hlen, rfl⟩ := k5
  have hv := l3_true (P := fun _ _ _ => True) k6
  subst hv
  refine ⟨_, .inl n, k4, r2, ?_⟩
  have hr : L3 (OA X.K F3 H3) ((s.drop n).l.map fun _ => V.bl true) ((s.drop n).l.map fun _ => ([] : List Addr)) ((s.drop n).l.map fun _ => OT.fz true) := by
    refine ⟨by simp, by simp, fun j v l t e1 e2 e3 => ?_⟩
    rw [List.getElem?_map] at e1 e2 e3
    cases q : (s.drop n).l[j]? with
    | none => rw [q] at e1; cases e1
    | some m =>
      rw [q] at e1 e2 e3
      cases e1; cases e2; cases e3
      exact .fz rfl
  have hfl : ((s.drop n).l.map fun _ => ([] : List Addr)).flatten = [] := by
    generalize (s.drop n).l = l
    induction l with
    | nil => rfl
    | cons m r ih => rw [List.map_cons, List.flatten_cons, ih]; rfl
  obtain ⟨fp', E4, _, _⟩ := k9 (.dK (dropK (((s.l.map Sum.inl : List Key)).zip (s.l.map fun _ => V.bl true)) (.inl n))) (.dK ((s.drop n).l.map Sum.inl)) ((s.drop n).l.map fun _ => V.bl true) ((s.drop n).l.map fun _ => []) ((s.drop n).l.map fun _ => OT.fz true) ⟨by simp, by rw [dropK_ks]; rfl⟩ hr (by rw [hfl]; simp) (by rw [hfl]; intro b hb; cases hb)
  have hy' : t.put p (.nd (.dK ((s.drop n).l.map Sum.inl)) ((s.drop n).l.map fun _ => OT.fz true)) = g y := hy
  rw [hy'] at E4
  refine ⟨fun v hv => q σ F3 _ ⟨fp', E4⟩ ((e1.trans e2).trans e3), fun hv => ?_⟩
  rw [valV_ks] at hv
  have hn : n ∉ s.l := by
    intro h
    rw [if_pos h] at hv; cases hv
  have hd : s.drop n = s := by
    unfold Ks.drop
    congr 1
    exact List.filter_eq_self.mpr fun m hm => by
      rw [decide_eq_true_eq]
      rintro rfl
      exact hn hm
  have hd2 : dropK (((s.l.map Sum.inl : List Key)).zip (s.l.map fun _ => V.bl true)) (.inl n) = ((s.l.map Sum.inl : List Key)).zip (s.l.map fun _ => V.bl true) := by
    rw [dropK_ks, show s.l.filter (fun x => decide (x ≠ n)) = s.l from congrArg Ks.l hd]
  rw [hd2] at E4
  have hu2 : upd H3 ad (.dK (((s.l.map Sum.inl : List Key)).zip (s.l.map fun _ => V.bl true))) = H3 := by
    funext b
    by_cases z : b = ad
    · subst z; rw [upd_same, k4]
    · rw [upd_ne z]
  rw [hu2] at E4
  exact q σ F3 _ ⟨fp', E4⟩ ((e1.trans e2).trans e3)
theorem reps_int {K : Fg} {F : Hp} : ∀ ys : List Int, Reps K F (ys.map V.int) ys
  | [] => .nil
  | y :: r => .cons rfl (reps_int r)
theorem reps_int' {K : Fg} {F : Hp} : ∀ {vs : List V} {xs : List Int}, Reps K F vs xs → vs = xs.map V.int
  | _, _, .nil => rfl
  | _, _, .cons h t => by rw [List.map_cons, ← reps_int' t, show _ = V.int _ from h]
/-- sorted(e) -/
theorem new_li {F H F1 H1 : Hp} {σ : L2.St} {fp : Nat → List Addr} (E : EnvD X.K c F H σ Γ fp) (E1 : EnvD X.K c F1 H1 σ Γ fp) (e1 : Ex F F1) (n1 : Nw F H F1 H1) {l : Addr} (hl : H1 l = none) {ys : List Int} {Q : VK}
    (q : ∀ (v : V) (F' H' : Hp) (l : List Addr), EnvD X.K c F' H' σ Γ fp → Ex F F' → Nw F H F' H' → OA X.K F' H' v l (ol ys) → (∀ b ∈ l, H b = none) → Q v H') : Q (.ref l) (upd H1 l (.lst (ys.map V.int))) := by
  have r : Reps X.K F1 (ys.map V.int) ys := reps_int ys
  obtain ⟨k1, k2, k3⟩ := lay_li E1 hl (l3_fz r) (by rw [flat_nil]; exact List.nodup_nil)
  refine q _ _ _ _ k1 e1 (n1.trans k2) k3 fun b hb => ?_
  rw [flat_nil] at hb
  cases List.mem_singleton.mp hb
  cases z : H l with
  | none => rfl
  | some o => rw [n1.h _ _ z] at hl; cases hl
theorem xn_sorted {xs : List Int} {pf : Pos} (hm : X.mg "sorted" = none) (he : XE X c Γ e xs) (hg : Gl X "sorted" := by rfl) (hs : starEach [e] X.env = [(false, eval e X.env)] := by rfl) : XN X c Γ (.Call (.Name "sorted" pf) [e] [] pos) (ol (srt xs)) := by
  obtain ⟨te, h1, h2⟩ := he
  refine ⟨_, pe_callB cr_sortedI hg hm (by decide +kernel) (pa_cons h1 pa_nil hs) (by decide) (by decide) hs rfl, fun F H σ fp E Q q => h2 F H σ fp E _ fun v F1 H1 E1 e1 n1 r => ?_⟩
  obtain ⟨ad, vs, rfl, r1, r2⟩ := r
  have hv : vs = xs.map V.int := reps_int' r2
  subst hv
  refine ⟨ad, xs, rfl, sq_of (E1.wd.fh _ _ r1), fun ys l hp hw hl => ?_⟩
  rw [srt_of hp hw] at *
  exact new_li E E1 e1 n1 hl q
theorem xn_sortedK {s : Ks} {pf : Pos} (hm : X.mg "sorted" = none) (he : XE X c Γ e s) (h64 : s.l.length < 64) (hc : X.calm = true := by rfl) (hg : Gl X "sorted" := by rfl) (hs : starEach [e] X.env = [(false, eval e X.env)] := by rfl) : XN X c Γ (.Call (.Name "sorted" pf) [e] [] pos) (ol (srt s.l)) := by
  obtain ⟨te, h1, h2⟩ := he
  refine ⟨_, pe_callB (call_sortedDI hc) hg hm (by decide +kernel) (pa_cons h1 pa_nil hs) (by decide) (by decide) hs rfl, fun F H σ fp E Q q => h2 F H σ fp E _ fun v F1 H1 E1 e1 n1 r => ?_⟩
  obtain ⟨ad, vs, rfl, hF, hl, _⟩ := FA.dK (show FA X.K F1 v (.nd (.dK (s.l.map Sum.inl)) (s.l.map fun _ => OT.fz true)) from r)
  refine ⟨ad, _, s.l, rfl, .inl (E1.wd.fh _ _ hF), zip_fst hl, h64, fun ys l hp hw hl => ?_⟩
  rw [srt_of hp hw] at *
  exact new_li E E1 e1 n1 hl q
theorem xn_sortedP {s : Ks} {pf : Pos} (hm : X.mg "sorted" = none) (hp : XPl X c Γ e i p) (hs1 : Γ[i]? = some (.ow oa t)) (hg1 : t.get? p = some s.ot) (h64 : s.l.length < 64) (hc : X.calm = true := by rfl) (hg : Gl X "sorted" := by rfl) (hs : starEach [e] X.env = [(false, eval e X.env)] := by rfl) : XN X c Γ (.Call (.Name "sorted" pf) [e] [] pos) (ol (srt s.l)) := by
  obtain ⟨te, h1, h2⟩ := hp
  refine ⟨_, pe_callB (call_sortedDI hc) hg hm (by decide +kernel) (pa_cons h1 pa_nil hs) (by decide) (by decide) hs rfl, fun F H σ fp E Q q => h2 F H σ fp E _ fun vp v0 F1 H1 E1 e1 n1 g1 g2 => ?_⟩
  obtain ⟨v0', a, o, vs, fps, k1, k2, k3, k4, k5, k6, _⟩ := E1.node hs1 hg1
  rw [g1] at k1; cases k1
  rw [g2] at k2; cases k2
  obtain ⟨hl, rfl⟩ := k5
  refine ⟨a, _, s.l, rfl, .inl k4, zip_fst hl, h64, fun ys l hp hw hl => ?_⟩
  rw [srt_of hp hw] at *
  exact new_li E E1 e1 n1 hl q
end
end Fw
/-! structs: what leans on tuples alone; repr of lists of mixed things; a, b, c = .. -/
namespace Fw
open PySem L2 Py PyProof.Rows
def OTls (ts : List OT) : Prop := ∀ t ∈ ts, OTl t
theorem otls_nil : OTls [] := fun t h => nomatch h
theorem otls_cons {t : OT} {ts : List OT} (h : OTl t) (k : OTls ts) : OTls (t :: ts) := fun u hu => by
  rcases List.mem_cons.mp hu with rfl | hu
  · exact h
  · exact k u hu
theorem Ks.otl (s : Ks) : OTl s.ot := OTl.nd fun t ht => by
  obtain ⟨x, _, rfl⟩ := List.mem_map.mp ht
  exact OTl.fz
theorem fzt_ot {τ : Type} {g : τ → OT} {x : τ} : @FzT (g x) τ (pyOf g) x := fun {K F v} h => h
theorem isT_ot {τ : Type} {g : τ → OT} {x : τ} : @IsT τ (pyOf g) x (g x) := fun {K F v} h => h
/-! mixed things, shown -/
mutual
def Dy.nice : Dy → Bool
  | .emp => false
  | .lst l => Dy.nices l
  | .tup l => Dy.nices l
  | _ => true
def Dy.nices : List Dy → Bool
  | [] => true
  | d :: r => Dy.nice d && Dy.nices r
end
mutual
def Dy.toD : Dy → PyData
  | .non => .none
  | .bl b => .bool b
  | .int i => .int i
  | .str s => .str s
  | .lst l => .list (Dy.toDs l)
  | .tup l => .tuple (Dy.toDs l)
  | .emp => .none
def Dy.toDs : List Dy → List PyData
  | [] => []
  | d :: r => Dy.toD d :: Dy.toDs r
end
mutual
theorem Dy.dp {K : Fg} {F : Hp} : ∀ (d : Dy) (v : V), d.nice = true → Dy.rep K F d v → Dp K F v d.toD
  | .non, v, _, h => by unfold Dy.rep at h; subst h; unfold Dy.toD; exact .non
  | .bl b, v, _, h => by unfold Dy.rep at h; subst h; unfold Dy.toD; exact .bl b
  | .int b, v, _, h => by unfold Dy.rep at h; subst h; unfold Dy.toD; exact .int b
  | .str b, v, _, h => by unfold Dy.rep at h; subst h; unfold Dy.toD; exact .str b
  | .lst l, v, n, h => by
    unfold Dy.rep at h
    obtain ⟨a, vs, rfl, h2, h3⟩ := h
    unfold Dy.toD
    unfold Dy.nice at n
    exact .lst (sq_of h2) (Dy.dps l vs n h3)
  | .tup l, v, n, h => by
    unfold Dy.rep at h
    obtain ⟨a, vs, rfl, h2, h3⟩ := h
    unfold Dy.toD
    unfold Dy.nice at n
    exact .tup h2 (Dy.dps l vs n h3)
  | .emp, v, n, h => by unfold Dy.nice at n; cases n
theorem Dy.dps {K : Fg} {F : Hp} : ∀ (l : List Dy) (vs : List V), Dy.nices l = true → Dy.reps K F l vs → DpAll K F vs (Dy.toDs l)
  | [], vs, _, h => by unfold Dy.reps at h; subst h; unfold Dy.toDs; exact .nil
  | d :: r, vs, n, h => by
    unfold Dy.reps at h
    obtain ⟨u, us, rfl, h1, h2⟩ := h
    unfold Dy.toDs
    unfold Dy.nices at n
    rw [Bool.and_eq_true] at n
    exact .cons (Dy.dp d u n.1 h1) (Dy.dps r us n.2 h2)
end
def shw (xs : List Dy) : Str := (Dy.toD (.lst xs)).shown
structure Shn (xs : List Dy) : Prop where
  nice : Dy.nices xs = true
  sh : (Dy.toD (.lst xs)).showable = true
  hd : (Dy.toD (.lst xs)).hasDict = false
  dep : (Dy.toD (.lst xs)).depth ≤ 60
  len : (shw xs).length ≤ sizeLine
section
variable {X : Cx} {w : Wx} {c : Cw} {Γ Γ' : List Slot} {S S' B τ υ ζ α : Type} [Py τ] [Py υ] [Py ζ] {R : Rc} {G : S → List Slot} {GB : B → List Slot} {o : Out S B R.ρ} {pos : Pos} {rest : List Stmt} {e d a b ep ei : Expr} {k : Bool} {t u : OT} {ts us : List OT} {i : Nat} {p : List Nat} {oa : Option Addr}
theorem xe_repr {xs : List Dy} {pf : Pos} (hm : X.mg "repr" = none) (gd : X.A.guards = some []) (hu : X.A.units + 64 < cLine) (he : XE X c Γ e xs) (h : Shn xs) (hg : Gl X "repr" := by rfl) (hs : starEach [e] X.env = [(false, eval e X.env)] := by rfl) : XE X c Γ (.Call (.Name "repr" pf) [e] [] pos) (shw xs) := by
  obtain ⟨te, h1, h2⟩ := he
  refine ⟨_, pe_callB (call_reprD gd hu) hg hm (by decide +kernel) (pa_cons h1 pa_nil hs) (by decide) (by decide) hs rfl, fun F H σ fp E Q q => h2 F H σ fp E _ fun v F1 H1 E1 e1 n1 r => ?_⟩
  have r' := Py.mono E1.wd.fh r
  obtain ⟨a, vs, rfl, r1, r2⟩ := r'
  have rd : Dy.rep X.K H1 (.lst xs) (.ref a) := by
    unfold Dy.rep
    exact ⟨a, vs, rfl, r1, Dy.reps_iff.mpr r2⟩
  exact ⟨.ref a, _, rfl, ⟨a, rfl⟩, Dy.dp (.lst xs) _ (by unfold Dy.nice; exact h.nice) rd, h.sh, h.hd, h.dep, h.len, q _ F1 H1 E1 e1 n1 rfl⟩
theorem xs_dsetS {ky : Key} {ks : List Key} {j : Nat} {q1 : Pos} {z : υ} {y : α} (g : α → OT) (hu : X.A.units + 1 < cLine) (he : XN X c Γ e u) (hp : XPl X c Γ ep i p) (hk : XE X c Γ ei z) (hz : ∀ F v, rep X.K F v z → v = kV ky) (hs : Γ[i]? = some (.ow oa t)) (hg : t.get? p = some (.nd (.dK ks) ts)) (hf : fIx ks ky = some j) (hnd : ks.Nodup) (hln : ks.length < 100000) (hy : t.put p (.nd (.dK ks) (ts.set j u)) = g y)
    (hsw : swapsWith e (some (.Subscript ep ei q1)) pos.line X.env = pure false := by rfl) :
    XS X w c Γ (.Assign [.Subscript ep ei q1] e pos) (fun y : α => Γ.set i (.ow oa (g y))) GB (Out.nx y : Out α B R.ρ) :=
  xs_dset (ky := ky) g hu he hp hk hz hs hg hnd hln (by unfold kPut; rw [hf]; exact hy) hsw
theorem hu_of {n : Nat} (h : n + 64 < cLine) : n + 1 < cLine := by omega
/-- a, b, c = e1, e2, a new thing -/
theorem xs_par3N {x : υ} {y : ζ} {z : α} {g : α → OT} {ec : Expr} {n1 n2 n3 : Str} {px py pz pt pt2 : Pos} {kt k2 : Nat} (i j l : Nat) (hN : X.N.Nodup) (ha : XE X c Γ a x) (hb : XE X c Γ b y) (hcc : XN X c Γ ec (g z)) (hll : l < Γ.length := by exact Nat.le_of_ble_eq_true rfl) (hc : X.calm = true := by rfl) (hi : X.N[i]? = some n1 := by rfl) (hj : X.N[j]? = some n2 := by rfl) (hl : X.N[l]? = some n3 := by rfl) (hij : i ≠ j := by decide) (hil : i ≠ l := by decide) (hjl : j ≠ l := by decide)
    (hx : X.env.scope.names.lookup n1 = some .local := by rfl) (hy : X.env.scope.names.lookup n2 = some .local := by rfl) (hz : X.env.scope.names.lookup n3 = some .local := by rfl)
    (hw : swappedStores [.Tuple [.Name n1 px, .Name n2 py, .Name n3 pz] kt pt] (.Tuple [a, b, ec] k2 pt2) X.env = pure (some [n1, n2, n3]) := by rfl)
    (hs : swapsWithSole [.Tuple [.Name n1 px, .Name n2 py, .Name n3 pz] kt pt] (.Tuple [a, b, ec] k2 pt2) pos.line X.env = pure false := by rfl)
    (hs1 : starEach [a, b, ec] X.env = (false, eval a X.env) :: starEach [b, ec] X.env := by rfl) (hs2 : starEach [b, ec] X.env = (false, eval b X.env) :: starEach [ec] X.env := by rfl) (hs3 : starEach [ec] X.env = [(false, eval ec X.env)] := by rfl) :
    XS X w c Γ (.Assign [.Tuple [.Name n1 px, .Name n2 py, .Name n3 pz] kt pt] (.Tuple [a, b, ec] k2 pt2) pos) (fun q : υ × ζ × α => ((Γ.set i (.fz q.1)).set j (.fz q.2.1)).set l (.ow none (g q.2.2))) GB (Out.nx (x, y, z) : Out (υ × ζ × α) B R.ρ) := by
  obtain ⟨t, h1, h2⟩ := ha
  obtain ⟨u, h3, h4⟩ := hb
  obtain ⟨tc, h5, h6⟩ := hcc
  refine ⟨_, ps_par3 hc hN hi hj hl hij hil hjl hx hy hz (pa_cons h1 (pa_cons h3 (pa_cons h5 pa_nil hs3) hs2) hs1) hw hs, fun F H σ ⟨fp, E⟩ D q => h2 F H σ fp E _ fun v F' H' E' e1 e2 r => h4 F' H' σ fp E' _ fun v2 F2 H2 E2 e3 e4 r2 => h6 F2 H2 σ fp E2 _ fun v3 F3 H3 lz E3 e5 n5 r3 hlz => ⟨v, v2, v3, rfl, ?_⟩⟩
  have E5 := (E3.set (i := i) (Py.mono (e3.trans e5) r)).set (i := j) (Py.mono e5 r2)
  refine q _ F3 _ ⟨_, E5.setO (by simpa using hll) ⟨v3, rfl, r3, fun a ha => by cases ha⟩ (fun b hb => E2.wd.fresh (hlz b hb)) fun jj b _ hb h => ?_⟩ ((e1.trans e3).trans e5)
  split at h
  · cases h
  · split at h
    · cases h
    · exact E2.fresh (hlz b hb) jj h
theorem XM.to {s s' : Slot} {Γ'' : List Slot} (h : XM X c Γ Γ' e s) (q : Γ' = Γ'') (r : s = s') : XM X c Γ Γ'' e s' := q ▸ r ▸ h
theorem xm_at {S1 : Type} {Γ1 : S1 → List Slot} {y z : S1} {s : Slot} (h : z = y) (q : XM X c Γ (Γ1 y) e s) : XM X c Γ (Γ1 z) e s := h ▸ q
theorem xf_ifxN {S1 : Type} {n : S → R.ρ} {A : List Stmt} {y : S1} {Γ1 : S1 → List Slot} {k : S1 → Bool} {r1 r2 : S1 → R.ρ} (hd : ∀ z, z = y → XTM X c Γ (Γ1 z) d (k z)) (ha : ∀ z, z = y → k z = true → XF X w c (Γ1 z) A (S := Empty) (fun e => e.elim) (fun e => e.elim) (r1 z)) (hb : ∀ z, z = y → k z = false → XF X w c (Γ1 z) rest n G (r2 z)) :
    XF X w c Γ (.If d A [] pos :: rest) n G (bnd y fun z => if k z then r1 z else r2 z) := xf_ifxM (hd y rfl) (ha y rfl) (hb y rfl)
theorem xo_ifxN {S1 : Type} {A : List Stmt} {y : S1} {Γ1 : S1 → List Slot} {k : S1 → Bool} {o1 : S1 → Out Empty B R.ρ} {o2 : S1 → Out S B R.ρ} (hd : ∀ z, z = y → XTM X c Γ (Γ1 z) d (k z)) (ha : ∀ z, z = y → k z = true → XO X w c (Γ1 z) A (fun s : Empty => s.elim) GB (o1 z)) (hb : ∀ z, z = y → k z = false → XO X w c (Γ1 z) rest G GB (o2 z)) :
    XO X w c Γ (.If d A [] pos :: rest) G GB (bnd y fun z => if k z then (o1 z).up else o2 z) := xo_ifxM (hd y rfl) (ha y rfl) (hb y rfl)
theorem xn_ks0 : XN X c Γ (.Dict [] [] pos) (Ks.ot ⟨[]⟩) := ⟨_, pe_dnewK, fun F H σ fp E Q q p hp => by
  have hf := E.ff hp
  refine q (.ref p) F (upd H p (.dK [])) [p] (E.grow (Ex.refl _) (E.wd.fh.upd hf) (Ex.new hp) fun b h => .inl h) (Ex.refl _) ⟨Ex.new hp, fun b h => .inl h⟩ ?_ fun b hb => by cases List.mem_singleton.mp hb; exact hp
  exact OA.mk (vs := []) (fps := []) hf upd_same ⟨rfl, rfl⟩ .nil (by simp)⟩
def izsC (a b d : Int) : List Int := (List.range (Builtin.Range.rangeSize a b d).toNat).map fun i => a + (i : Nat) * d
def RngOk (a b d : Int) : Prop := RgC a b d (Builtin.Range.rangeSize a b d).toNat
theorem xi_range3 {a1 a2 a3 tg : Expr} {pf : Pos} {x y z : Int} (hm : X.mg "range" = none) (ha : XE X c Γ a1 x) (hb : XE X c Γ a2 y) (hd : XE X c Γ a3 z) (h : RngOk x y z) (hg : Gl X "range" := by rfl)
    (hs : starEach [a1, a2, a3] X.env = (false, eval a1 X.env) :: starEach [a2, a3] X.env := by rfl) (hs1 : starEach [a2, a3] X.env = (false, eval a2 X.env) :: starEach [a3] X.env := by rfl) (hs2 : starEach [a3] X.env = [(false, eval a3 X.env)] := by rfl) (hpl : (backTo pos (starEach [a2, a3] X.env)).any (·.1) = false := by rfl) :
    XI X c Γ tg (.Call (.Name "range" pf) [a1, a2, a3] [] pos) (izsC x y z) := by
  obtain ⟨t, h1, h2⟩ := ha
  obtain ⟨u, h3, h4⟩ := hb
  obtain ⟨v, h5, h6⟩ := hd
  refine ⟨_, pi_range3 hg hm (pa_cons h1 (pa_cons h3 (pa_cons h5 pa_nil hs2) hs1) hs) hs hpl, fun F H σ fp E R q => h2 F H σ fp E _ fun v F' H' E' e1 e2 r => h4 F' H' σ fp E' _ fun w F2 H2 E2 e3 e4 r2 => h6 F2 H2 σ fp E2 _ fun w3 F3 H3 E3 e5 e6 r3 => ?_⟩
  refine ⟨x, y, z, _, by rw [show v = V.int x from r, show w = V.int y from r2, show w3 = V.int z from r3], h, q _ F3 H3 E3 ((e1.trans e3).trans e5) ((e2.trans e4).trans e6) ⟨_, _, by
    have : (izsC x y z).length = (Builtin.Range.rangeSize x y z).toNat := by simp [izsC]
    rw [this]; exact walk_rangeC, fun _ _ _ _ => trivial, fun i F1 H1 v H2 y' x1 x2 hy hx => ?_⟩⟩
  obtain ⟨rfl, rfl⟩ := hy
  refine ⟨F1, Ex.refl _, x2, Ex.refl _, fun b h => .inl h, ?_⟩
  unfold izsC at hx
  rw [List.getElem?_map] at hx
  cases q : (List.range (Builtin.Range.rangeSize x y z).toNat)[i]? with
  | none => rw [q] at hx; cases hx
  | some j =>
    have hj : j = i := by
      obtain ⟨hl, e⟩ := List.getElem?_eq_some_iff.mp q
      rw [List.getElem_range] at e; exact e.symm
    rw [q] at hx
    cases hx
    subst hj; rfl
theorem xi_listL {it tg : Expr} {xs : List υ} (h : XE X c Γ it xs) : XI X c Γ tg it xs := xi_list h
section
variable {ρ α : Type} {D0 : α → List ArgD} {pre : α → Prop} {D1 : ρ → List (Option OT)} {RS : ρ → Slot} {xn : ρ → Option Str} {m : α → ρ} {n : Str} {ps : List Str} {lv lj : Nat} {r : α} {as : List CA} {es : List Expr} {pf : Pos} {C : Addr}
theorem xn_makeZ (G : Fc' X.prog X.w X.K X.mg X.base (L2.CX X.prog X.w) n C ps lv (SpG X.K X.mg D0 pre D1 RS xn m)) (cl : Cls X.K C) (hr : Room lj X.A) (hj : lv + 1 ≤ lj) (ha : XAr X c Γ (e :: es) as) (hp : pre r) {ds : List (Option OT)} (hd1 : D1 (m r) = some t :: ds := by rfl) (hD : ArgD.ow (.nd (.ins C []) []) :: as.map CA.d = D0 r := by rfl) (hz : caFz as = true := by rfl) (hRS : RS (m r) = .fz () := by rfl) (hx : xn (m r) = none := by rfl)
    (hgl : Gl X n := by rfl) (hdb : (n == ("__debug__" : Str)) = false := by decide) (he : starEach (e :: es) X.env = (false, eval e X.env) :: starEach es X.env := by rfl) (hpl : (backTo pos (starEach es X.env)).any (·.1) = false := by rfl) :
    XN X c Γ (.Call (.Name n pf) (e :: es) [] pos) t := xn_make G cl hr hj ha (caFz_ix hz) hp hD hd1 hRS hx hgl hdb he hpl
end
end
def inL {τ : Type} [Py τ] [f : PyFl τ] (x : τ) (xs : List τ) : Bool := @decide (x ∈ xs) (@List.instDecidableMemOfLawfulBEq τ (@instBEqOfDecidableEq τ f.dec) (by infer_instance) x xs)
theorem inL_iff {τ : Type} [Py τ] [PyFl τ] {x : τ} {xs : List τ} : inL x xs = true ↔ x ∈ xs := by unfold inL; exact @decide_eq_true_iff _ (_)
theorem inL_not {τ : Type} [Py τ] [PyFl τ] {x : τ} {xs : List τ} : inL x xs = false ↔ x ∉ xs := by unfold inL; exact @decide_eq_false_iff_not _ (_)
section
variable {X : Cx} {c : Cw} {Γ : List Slot} {τ : Type} [Py τ] [PyFl τ] {a b : Expr} {es : List Expr} {x : τ}
theorem xc_inG {υ : Type} [Py υ] [PyS υ τ] {s : υ} (ha : XE X c Γ a x) (hb : XE X c Γ b s) (hm : behindInMarks .In b = false) : XC X c Γ .In a b (inL x (PyS.li s)) :=
  @xc_inSq X c Γ τ _ a b x υ _ _ PyFl.dec s (fun h1 h2 => by have := PyFl.fl h1 h2; refine ⟨this.1, this.2.trans ?_⟩; congr) ha hb hm
theorem xc_ninG {υ : Type} [Py υ] [PyS υ τ] {s : υ} (ha : XE X c Γ a x) (hb : XE X c Γ b s) (hm : behindInMarks .NotIn b = false) : XC X c Γ .NotIn a b (!inL x (PyS.li s)) :=
  @xc_ninSq X c Γ τ _ a b x υ _ _ PyFl.dec s (fun h1 h2 => by have := PyFl.fl h1 h2; refine ⟨this.1, this.2.trans ?_⟩; congr) ha hb hm
theorem xc_inT2 {xs : List τ} {k : Nat} {tp : Pos} (ha : XE X c Γ a x) (hb : XL X c Γ es xs) (hl : xs.length ≤ 100000) (hm : behindInMarks .In (.Tuple es k tp) = false := by rfl) : XC X c Γ .In a (.Tuple es k tp) (inL x xs) := xc_inG (s := (⟨xs⟩ : Tup τ)) ha (xe_tupL hb hl) hm
theorem xc_ninT2 {xs : List τ} {k : Nat} {tp : Pos} (ha : XE X c Γ a x) (hb : XL X c Γ es xs) (hl : xs.length ≤ 100000) (hm : behindInMarks .NotIn (.Tuple es k tp) = false := by rfl) : XC X c Γ .NotIn a (.Tuple es k tp) (!inL x xs) := xc_ninG (s := (⟨xs⟩ : Tup τ)) ha (xe_tupL hb hl) hm
theorem xc_inTu {s : Tup τ} (ha : XE X c Γ a x) (hb : XE X c Γ b s) (hm : behindInMarks .In b = false := by rfl) : XC X c Γ .In a b (inL x s.l) := xc_inG ha hb hm
theorem xc_ninTu {s : Tup τ} (ha : XE X c Γ a x) (hb : XE X c Γ b s) (hm : behindInMarks .NotIn b = false := by rfl) : XC X c Γ .NotIn a b (!inL x s.l) := xc_ninG ha hb hm
theorem xc_inLs {s : List τ} (ha : XE X c Γ a x) (hb : XE X c Γ b s) (hm : behindInMarks .In b = false := by rfl) : XC X c Γ .In a b (inL x s) := xc_inG ha hb hm
theorem xc_ninLs {s : List τ} (ha : XE X c Γ a x) (hb : XE X c Γ b s) (hm : behindInMarks .NotIn b = false := by rfl) : XC X c Γ .NotIn a b (!inL x s) := xc_ninG ha hb hm
end
end Fw
/-! how long a shown list is; lists of small things. -/
namespace Fw
open PySem L2 Py PyProof.Rows
theorem str_app (a b : Str) : (a ++ b).length = a.length + b.length := by
  have := congrArg List.length (tl_cat a b)
  rwa [List.length_append, tl_len, tl_len, tl_len] at this
theorem textFrom_le {b : Nat} : ∀ (ts : List Str) (k : Nat) (acc : Str), (∀ t ∈ ts, t.length ≤ b) → (textFrom k acc ts).length ≤ acc.length + ts.length * (b + 2)
  | [], k, acc, _ => by show acc.length ≤ _; omega
  | t :: r, k, acc, h => by
    have h1 := h t (List.mem_cons_self ..)
    have h2 := textFrom_le r (k + 1) (acc ++ (if k > 0 then ", " else "" : String) ++ t) fun z hz => h z (List.mem_cons_of_mem _ hz)
    show (textFrom (k + 1) (acc ++ (if k > 0 then ", " else "" : String) ++ t) r).length ≤ _
    rw [str_app, str_app] at h2
    have h3 : (Str.ofString (if k > 0 then ", " else "" : String)).length ≤ 2 := by split <;> decide
    have : (t :: r).length * (b + 2) = r.length * (b + 2) + (b + 2) := by rw [List.length_cons, Nat.succ_mul]
    omega
theorem listText_le {b : Nat} {ts : List Str} (h : ∀ t ∈ ts, t.length ≤ b) : (listText ts).length ≤ ts.length * (b + 2) + 2 := by
  have := textFrom_le ts 0 "[" h
  unfold listText
  rw [str_app]
  have e1 : (Str.ofString "[").length = 1 := by decide
  have e2 : (Str.ofString "]").length = 1 := by decide
  omega
theorem ofString_len (s : String) : (Str.ofString s).length = s.length := PySem.ofString_length s
/-- a number, a truth, None -/
def Dy.tiny : Dy → Prop
  | .int i => i.natAbs < 10 ^ 10
  | .bl _ => True
  | .non => True
  | _ => False
def Dy.small : Dy → Prop
  | .lst l => l.length ≤ 100 ∧ ∀ d ∈ l, d.tiny
  | d => d.tiny
theorem log_of {n : Nat} (h : n < 10 ^ 10) : n.log2 < 1920 := by
  by_cases h0 : n = 0
  · subst h0; decide
  · rw [Nat.log2_lt h0]
    exact Nat.lt_of_lt_of_le h (Nat.le_trans (show 10 ^ 10 ≤ 2 ^ 34 by decide) (Nat.pow_le_pow_right (by decide) (by decide)))
theorem tiny_ok {d : Dy} (h : d.tiny) : d.nice = true ∧ d.toD.showable = true ∧ d.toD.hasDict = false ∧ d.toD.depth = 0 ∧ d.toD.shown.length ≤ 11 := by
  cases d with
  | int i =>
    have h' : i.natAbs < 10 ^ 10 := h
    refine ⟨by unfold Dy.nice; rfl, ?_, by unfold Dy.toD PyData.hasDict; rfl, by unfold Dy.toD PyData.depth; rfl, ?_⟩
    · unfold Dy.toD PyData.showable; exact decide_eq_true (log_of h')
    · unfold Dy.toD PyData.shown
      rw [ofString_len]
      exact int_text_length_le10 (by decide) h'
  | bl b => cases b <;> exact ⟨by unfold Dy.nice; rfl, by unfold Dy.toD PyData.showable; rfl, by unfold Dy.toD PyData.hasDict; rfl, by unfold Dy.toD PyData.depth; rfl, by unfold Dy.toD PyData.shown; decide⟩
  | non => exact ⟨by unfold Dy.nice; rfl, by unfold Dy.toD PyData.showable; rfl, by unfold Dy.toD PyData.hasDict; rfl, by unfold Dy.toD PyData.depth; rfl, by unfold Dy.toD PyData.shown; decide⟩
  | str s => exact h.elim
  | lst l => exact h.elim
  | tup l => exact h.elim
  | emp => exact h.elim
theorem list_ok {n b : Nat} : ∀ {l : List Dy}, (∀ d ∈ l, d.nice = true ∧ d.toD.showable = true ∧ d.toD.hasDict = false ∧ d.toD.depth ≤ n ∧ d.toD.shown.length ≤ b) →
    Dy.nices l = true ∧ PyData.showableAll (Dy.toDs l) = true ∧ PyData.hasDictAll (Dy.toDs l) = false ∧ PyData.depthAll (Dy.toDs l) ≤ n ∧ (PyData.shownAll (Dy.toDs l)).length = l.length ∧ ∀ t ∈ PyData.shownAll (Dy.toDs l), t.length ≤ b
  | [], _ => ⟨by unfold Dy.nices; rfl, by unfold Dy.toDs PyData.showableAll; rfl, by unfold Dy.toDs PyData.hasDictAll; rfl, by unfold Dy.toDs PyData.depthAll; exact Nat.zero_le _, by unfold Dy.toDs PyData.shownAll; rfl, by unfold Dy.toDs PyData.shownAll; intro t ht; cases ht⟩
  | d :: r, h => by
    obtain ⟨a1, a2, a3, a4, a5⟩ := h d (List.mem_cons_self ..)
    obtain ⟨b1, b2, b3, b4, b5, b6⟩ := list_ok (l := r) fun z hz => h z (List.mem_cons_of_mem _ hz)
    refine ⟨by unfold Dy.nices; rw [a1, b1]; rfl, by unfold Dy.toDs PyData.showableAll; rw [a2, b2]; rfl, by unfold Dy.toDs PyData.hasDictAll; rw [a3, b3]; rfl, by unfold Dy.toDs PyData.depthAll; omega, by unfold Dy.toDs PyData.shownAll; rw [List.length_cons, b5]; rfl, ?_⟩
    unfold Dy.toDs PyData.shownAll
    intro t ht
    rcases List.mem_cons.mp ht with rfl | ht
    · exact a5
    · exact b6 t ht
theorem small_ok {d : Dy} (h : d.small) : d.nice = true ∧ d.toD.showable = true ∧ d.toD.hasDict = false ∧ d.toD.depth ≤ 1 ∧ d.toD.shown.length ≤ 1400 := by
  have tiny : ∀ d : Dy, d.tiny → d.nice = true ∧ d.toD.showable = true ∧ d.toD.hasDict = false ∧ d.toD.depth ≤ 1 ∧ d.toD.shown.length ≤ 1400 := fun d h => by
    obtain ⟨a1, a2, a3, a4, a5⟩ := tiny_ok h
    exact ⟨a1, a2, a3, by omega, by omega⟩
  cases d with
  | lst l =>
    obtain ⟨h1, h2⟩ := h
    obtain ⟨b1, b2, b3, b4, b5, b6⟩ := list_ok (n := 0) (b := 11) (l := l) fun z hz => by
      obtain ⟨a1, a2, a3, a4, a5⟩ := tiny_ok (h2 z hz)
      exact ⟨a1, a2, a3, by omega, a5⟩
    refine ⟨by unfold Dy.nice; exact b1, by unfold Dy.toD PyData.showable; exact b2, by unfold Dy.toD PyData.hasDict; exact b3, by unfold Dy.toD PyData.depth; omega, ?_⟩
    unfold Dy.toD PyData.shown
    have := listText_le b6
    rw [b5] at this
    have : l.length * (11 + 2) ≤ 100 * 13 := Nat.mul_le_mul_right _ h1
    omega
  | int i => exact tiny _ h
  | bl b => exact tiny _ h
  | non => exact tiny _ h
  | str s => exact h.elim
  | tup l => exact h.elim
  | emp => exact h.elim
theorem shn_of {xs : List Dy} (hl : xs.length ≤ 60) (h : ∀ d ∈ xs, d.small) : Shn xs := by
  obtain ⟨b1, b2, b3, b4, b5, b6⟩ := list_ok (n := 1) (b := 1400) (l := xs) fun z hz => small_ok (h z hz)
  refine ⟨b1, by unfold Dy.toD PyData.showable; exact b2, by unfold Dy.toD PyData.hasDict; exact b3, by unfold Dy.toD PyData.depth; omega, ?_⟩
  unfold shw Dy.toD PyData.shown
  have := listText_le b6
  rw [b5] at this
  have : xs.length * (1400 + 2) ≤ 60 * 1402 := Nat.mul_le_mul_right _ hl
  exact sz _ (by omega)
section
variable {X : Cx} {c : Cw} {Γ : List Slot} {α β γ δ : Type} [Py α] [Py β] [Py γ] [Py δ] {a : Expr} {pos : Pos} {p4 : T4 α β γ δ}
theorem xe_t4a (ha : XE X c Γ a p4) {j q} (hs : PlainIx (.Constant (.int 0) j q) := by exact fun _ _ => rfl) : XE X c Γ (.Subscript a (.Constant (.int 0) j q) pos) p4.a :=
  xe_bin (t := fun a _ => a) (y := (0 : Int)) (fun h1 h2 => pe_ix ix_tup h1 h2 hs) (fun F H u v e h1 h2 Q q => by
    obtain ⟨p, v1, v2, v3, v4, rfl, r1, r2, r3, r4, r5⟩ := h1
    exact ⟨p, [v1, v2, v3, v4], 0, v1, rfl, h2, e.t r1, rfl, q _ F H (Ex.refl _) e (Ex.refl _) (fun _ h => .inl h) r2⟩) ha xe_int
theorem xe_t4b (ha : XE X c Γ a p4) {j q} (hs : PlainIx (.Constant (.int 1) j q) := by exact fun _ _ => rfl) : XE X c Γ (.Subscript a (.Constant (.int 1) j q) pos) p4.b :=
  xe_bin (t := fun a _ => a) (y := (1 : Int)) (fun h1 h2 => pe_ix ix_tup h1 h2 hs) (fun F H u v e h1 h2 Q q => by
    obtain ⟨p, v1, v2, v3, v4, rfl, r1, r2, r3, r4, r5⟩ := h1
    exact ⟨p, [v1, v2, v3, v4], 1, v2, rfl, h2, e.t r1, rfl, q _ F H (Ex.refl _) e (Ex.refl _) (fun _ h => .inl h) r3⟩) ha xe_int
theorem xe_t4c (ha : XE X c Γ a p4) {j q} (hs : PlainIx (.Constant (.int 2) j q) := by exact fun _ _ => rfl) : XE X c Γ (.Subscript a (.Constant (.int 2) j q) pos) p4.c :=
  xe_bin (t := fun a _ => a) (y := (2 : Int)) (fun h1 h2 => pe_ix ix_tup h1 h2 hs) (fun F H u v e h1 h2 Q q => by
    obtain ⟨p, v1, v2, v3, v4, rfl, r1, r2, r3, r4, r5⟩ := h1
    exact ⟨p, [v1, v2, v3, v4], 2, v3, rfl, h2, e.t r1, rfl, q _ F H (Ex.refl _) e (Ex.refl _) (fun _ h => .inl h) r4⟩) ha xe_int
theorem xe_t4d (ha : XE X c Γ a p4) {j q} (hs : PlainIx (.Constant (.int 3) j q) := by exact fun _ _ => rfl) : XE X c Γ (.Subscript a (.Constant (.int 3) j q) pos) p4.d :=
  xe_bin (t := fun a _ => a) (y := (3 : Int)) (fun h1 h2 => pe_ix ix_tup h1 h2 hs) (fun F H u v e h1 h2 Q q => by
    obtain ⟨p, v1, v2, v3, v4, rfl, r1, r2, r3, r4, r5⟩ := h1
    exact ⟨p, [v1, v2, v3, v4], 3, v4, rfl, h2, e.t r1, rfl, q _ F H (Ex.refl _) e (Ex.refl _) (fun _ h => .inl h) r5⟩) ha xe_int
end
end Fw
/-! more plain laws, and more of the walk: a dict's keys walked, min and max with a default, dicts made and compared. -/
namespace Fw
open PySem L2 Py PyProof.Rows
theorem cut_le {τ : Type} (xs : List τ) (a b : Option Int) : (cutL xs a b).length ≤ xs.length := by
  unfold cutL
  rw [List.length_take, List.length_drop]; omega
/-! ### a dict of numbers, locked while it is walked -/
structure LKs where
  l : List Int
deriving Inhabited
def kvB (l : List Int) : List (Key × V) := l.map fun k => (Sum.inl k, V.bl true)
instance : Py LKs := ⟨fun _ F v x => ∃ a o, v = .ref a ∧ F a = some (.frz o (.dK (kvB x.l))), fun e ⟨a, o, h1, h2⟩ => ⟨a, o, h1, e _ _ h2⟩⟩
theorem kvB_of {K : Fg} {F H : Hp} : ∀ {l : List Int} {vs : List V} {fps : List (List Addr)}, L3 (OA K F H) vs fps (l.map fun _ => OT.fz true) → (l.map (Sum.inl : Int → Key)).zip vs = kvB l ∧ fps.flatten = []
  | [], vs, fps, r => by
    have h1 := r.2.1
    cases fps with
    | nil => exact ⟨by simp [kvB], rfl⟩
    | cons => simp at h1
  | k :: l, vs, fps, r => by
    have h1 := r.1; have h2 := r.2.1
    cases vs with
    | nil => simp at h1
    | cons v vs =>
      cases fps with
      | nil => simp at h2
      | cons f fps =>
        obtain ⟨g1, g2⟩ := kvB_of (l := l) (vs := vs) (fps := fps) r.tail
        have hh : OA K F H v f (OT.fz true) := r.head
        cases hh with
        | fz q =>
          cases (show v = .bl true from q)
          refine ⟨?_, by simpa using g2⟩
          rw [List.map_cons, List.zip_cons_cons, g1]; rfl
section
variable {X : Cx} {w : Wx} {c : Cw} {Γ Γ' : List Slot} {S B τ υ : Type} [Py τ] [Py υ] {R : Rc} {GB : B → List Slot} {e a b : Expr} {t u : OT} {pos : Pos} {i : Nat} {p : List Nat} {oa : Option Addr}
theorem lock_en {te : TE} {s : Ks} (hs : Γ[i]? = some (.ow oa t)) (hg : t.get? p = some s.ot) (ho : OTl u) (h : ENr X.K c te (Γ.set i (.ow oa (t.put p (.fz (⟨s.l⟩ : LKs))))) u) : ENr X.K c (tLockE te) Γ u := by
  intro F H σ fp E Q q
  obtain ⟨v0, g1, g2, g3⟩ := E.geto hs
  obtain ⟨w, l2, l1, f1, f2, f3, f4⟩ := g2.focus hg
  obtain ⟨d, o, vs, fps, rfl, rfl, hF, hH, ko, hc, nd⟩ := f2.l3
  obtain ⟨hlen, rfl⟩ := ko
  obtain ⟨k1, k2⟩ := kvB_of hc
  rw [k1] at hH
  rw [k2] at f3
  have ndi : (d :: l1).Nodup := f3.nodup_iff.mp g2.nodup
  have dl1 : d ∉ l1 := (List.nodup_cons.mp ndi).1
  have di : d ∈ fp i := f3.mem_iff.mpr (by simp)
  refine ⟨d, .dK (kvB s.l), hH, trivial, fun od => ?_⟩
  have eF : Ex F (upd F d (.frz od (.dK (kvB s.l)))) := Ex.new hF
  obtain ⟨l', z1, z2⟩ := f4 (upd F d (.frz od (.dK (kvB s.l)))) (upd H d (.frz od (.dK (kvB s.l)))) [] (.fz (⟨s.l⟩ : LKs)) eF (fun b hb => by
    have : b ≠ d := fun e => dl1 (e ▸ hb)
    rw [upd_ne this, upd_ne this]
    exact ⟨(g2.dom b (f3.mem_iff.mpr (List.mem_append_right _ hb))).1, rfl⟩) (.fz ⟨d, od, rfl, upd_same⟩) (fun b hb => by cases hb)
  have hi : i < Γ.length := (List.getElem?_eq_some_iff.mp hs).1
  have E1 : EnvD X.K c (upd F d (.frz od (.dK (kvB s.l)))) (upd H d (.frz od (.dK (kvB s.l)))) σ (Γ.set i (.ow oa (t.put p (.fz (⟨s.l⟩ : LKs))))) (fun j => if j = i then l' else fp j) := by
    refine E.chg (· = i) eF (fun b o h => ?_) (fun b o hb h => ?_) (fun b hb => ?_) rfl (by simp) (fun j hj => ⟨List.getElem?_set_ne (Ne.symm hj), rfl, if_neg hj⟩) (fun j s' hj hs' => ?_) (fun j b hj hb => ?_) (fun j k b hj hk _ _ => hj.trans hk.symm) (fun j hj h => ?_)
    · by_cases hb : b = d
      · subst hb; rw [upd_same] at h ⊢; exact h
      · rw [upd_ne hb] at h ⊢; exact E.wd.fh _ _ h
    · have : b ≠ d := fun e => hb i rfl (e ▸ di)
      rw [upd_ne this]; exact h
    · by_cases hd : b = d
      · subst hd; exact .inr (.inl ⟨i, rfl, di⟩)
      · rw [upd_ne hd] at hb; exact .inl hb
    · subst hj
      rw [List.getElem?_set_self hi] at hs'
      cases hs'
      exact ⟨some v0, g1, v0, rfl, by rw [if_pos rfl]; exact z1, g3⟩
    · subst hj
      rw [if_pos rfl] at hb
      exact .inl ⟨j, rfl, f3.mem_iff.mpr (List.mem_cons_of_mem _ (by simpa using z2.mem_iff.mp hb))⟩
    · subst hj
      rw [if_pos rfl]; omega
  refine h _ _ σ _ E1 _ fun v F2 H2 l E2 e2 n2 r hl => ?_
  have hF2 : F2 d = some (.frz od (.dK (kvB s.l))) := e2 _ _ upd_same
  refine ⟨E2.wd.fh _ _ hF2, ?_⟩
  have ne_of : ∀ {b o}, F b = some o → b ≠ d := fun h e => by subst e; rw [hF] at h; cases h
  have e3 : Ex F (unfrz F2 [d]) := fun b o hb => by
    rw [unfrz_ni (by simpa using ne_of hb)]
    exact e2 _ _ (eF _ _ hb)
  have e4 : Ex (unfrz F2 [d]) (upd H2 d (.dK (kvB s.l))) := fun b o hb => by
    by_cases hd : b = d
    · rw [unfrz_in (by simp [hd])] at hb; cases hb
    · rw [unfrz_ni (by simpa using hd)] at hb
      rw [upd_ne hd]; exact E2.wd.fh _ _ hb
  have e5 : Ex H (upd H2 d (.dK (kvB s.l))) := fun b o hb => by
    by_cases hd : b = d
    · subst hd; rw [upd_same]; rw [hH] at hb; exact hb
    · rw [upd_ne hd]; exact n2.h _ _ (by rw [upd_ne hd]; exact hb)
  have n3 : ∀ b, unfrz F2 [d] b ≠ none → F b ≠ none ∨ H b = none := fun b hb => by
    by_cases hd : b = d
    · rw [unfrz_in (by simp [hd])] at hb; exact absurd rfl hb
    · rw [unfrz_ni (by simpa using hd)] at hb
      rcases n2.n b hb with z | z
      · rw [upd_ne hd] at z; exact .inl z
      · rw [upd_ne hd] at z; exact .inr z
  have dl : d ∉ l := fun hd => by
    have := (r.dom d hd).1
    rw [hF2] at this; cases this
  have nd2 : ∀ {b}, b ∈ l → b ≠ d := fun hb e => by subst e; exact dl hb
  have fn : ∀ b ∈ l, unfrz F2 [d] b = none := fun b hb => by
    rw [unfrz_ni (by simpa using nd2 hb)]; exact (r.dom b hb).1
  have r2 : OA X.K (unfrz F2 [d]) H2 v l u := ho (fun p vs sq => by
    have key : ∀ {u}, F2 p = some u → (∀ ys, u ≠ .frz od (.dK ys)) → unfrz F2 [d] p = some u := fun {u} hu hn => by
      rw [unfrz_ni]
      · exact hu
      · intro hp
        rw [List.mem_singleton] at hp
        subst hp
        rw [hF2] at hu; cases hu
        exact hn _ rfl
    rcases sq with (sq | ⟨o, sq⟩) | sq
    · exact .inl (.inl (key sq fun ys h => by cases h))
    · exact .inl (.inr ⟨o, key sq fun ys h => by cases h⟩)
    · exact .inr sq) fn r
  refine q v (unfrz F2 [d]) _ l (E.grow e3 e4 e5 n3) e3 ⟨e5, n3⟩ (r2.grow (Ex.refl _) fun b hb => ⟨fn b hb, upd_ne (nd2 hb)⟩) fun b hb => ?_
  have := hl b hb
  rwa [upd_ne (nd2 hb)] at this
theorem xn_lock {s : Ks} (hs : Γ[i]? = some (.ow oa t)) (hg : t.get? p = some s.ot) (ho : OTl u) (h : XN X c (Γ.set i (.ow oa (t.put p (.fz (⟨s.l⟩ : LKs))))) e u) : XN X c Γ e u := by
  obtain ⟨te, h1, h2⟩ := h
  exact ⟨_, pe_lock h1, lock_en hs hg ho h2⟩
theorem xi_keysL {it tg : Expr} {x : LKs} (h : XE X c Γ it x) : XI X c Γ tg it x.l := by
  obtain ⟨t, h1, h2⟩ := h
  refine ⟨_, pi_keys h1, fun F H σ fp E R q => h2 F H σ fp E _ fun v F' H' E' e1 e2 r => ?_⟩
  obtain ⟨d, o, rfl, r1⟩ := r
  have hl : (kvB x.l).length = x.l.length := by unfold kvB; rw [List.length_map]
  refine ⟨d, o, rfl, .inl ⟨_, E'.wd.fh _ _ r1, q _ F' H' E' e1 e2 ⟨_, _, hl ▸ walk_keys, fun F1 H1 x1 x2 => x2 _ _ (x1 _ _ r1), fun i F1 H1 v H2 y x1 x2 hy hx => ?_⟩⟩⟩
  obtain ⟨rfl, k, z, hz, rfl⟩ := hy
  unfold kvB at hz
  rw [List.getElem?_map, hx] at hz
  cases hz
  exact ⟨F1, Ex.refl _, x2, Ex.refl _, fun b h => .inl h, rfl⟩
end
section
variable {X : Cx} {w : Wx} {c : Cw} {Γ Γ' : List Slot} {S B τ υ : Type} [Py υ] {R : Rc} {GB : B → List Slot} {pos : Pos}
/-- y = [.. for tg in d if ..], d a dict of numbers in a place -/
theorem xs_lcifL {elt tg it cond : Expr} {scope : Scope} {spos : Pos} {ws : List Nat} {xs : List υ} {up : List Slot → υ → List Slot} {h : υ → τ} {e : τ → OT} {p : υ → Bool} (i : Nat) {y : Str} {py : Pos} {s : Ks} {j : Nat} {pp : List Nat} {oa : Option Addr} {t : OT} (own : List (Str × Nat)) (hs1 : Γ[j]? = some (.ow oa t)) (hg1 : t.get? pp = some s.ot) (ho : OTl (OT.li e ((xs.filter p).map h))) (hN : X.N.Nodup)
    (hi : XI X c (Γ.set j (.ow oa (t.put pp (.fz (⟨s.l⟩ : LKs))))) tg it xs) (hl : xs.length ≤ 100000)
    (hg : ∀ q : Bq, XG (Bk X scope q) c tg ws up)
    (hp : ∀ y ∈ xs, ∀ q : Bq, XT (Bk X scope q) c (up (wipeS (Γ.set j (.ow oa (t.put pp (.fz (⟨s.l⟩ : LKs))))) (own.map (·.2))) y) cond (p y))
    (he : ∀ y ∈ xs, p y = true → ∀ q : Bq, XN (Bk X scope q) c (up (wipeS (Γ.set j (.ow oa (t.put pp (.fz (⟨s.l⟩ : LKs))))) (own.map (·.2))) y) elt (e (h y))) (hil : i < Γ.length := by exact Nat.le_of_ble_eq_true rfl)
    (hy : X.N[i]? = some y := by rfl) (hyl : X.env.scope.names.lookup y = some .local := by rfl) (hsw : swapsWith (.ListComp elt [⟨tg, it, [cond], 0⟩] scope pos) (some (.Name y py)) spos.line X.env = pure true := by exact sw_true rfl rfl rfl (by decide +kernel))
    (ok : blkC X.N X.env.scope scope own = true := by decide +kernel) (hws : ∀ w ∈ ws, w ∈ own.map (·.2) := by decide) (hc : X.calm = true := by rfl) (hs : ∀ x, foldedSetIterable it X.env x = pure x := by intro _; rfl) :
    XS X w c Γ (.Assign [.Name y py] (.ListComp elt [⟨tg, it, [cond], 0⟩] scope pos) spos) (fun x : List τ => Γ.set i (.ow none (OT.li e x))) GB (Out.nx ((xs.filter p).map h) : Out (List τ) B R.ρ) := by
  obtain ⟨wi, tgr, tt, te, i1, g1, t1, e1, h⟩ := xn_lcG (g := fun y => e (h y)) (p := p) own hN hi hl hg (kt_one fun i y hx => hp y (List.mem_of_getElem? hx)) (fun i y hx => he y (List.mem_of_getElem? hx)) ok hws hc hs
  rw [li_map] at h
  exact ⟨_, ps_lock (ps_setLc (own := own) (i := i) hc hN hy hyl hsw i1 (blkOk_by ok) (fun s H C cl fp => g1 ⟨s, H, C, cl, fp⟩) (fun s H C cl fp => t1 ⟨s, H, C, cl, fp⟩) (fun s H C cl fp => e1 ⟨s, H, C, cl, fp⟩) hs),
    fun F H σ ⟨fp, E⟩ D q => lock_en hs1 hg1 ho h F H σ fp E _ fun v F' H' l E' e1 _ r hl => q _ F' H' (E.setN E' hil r hl) e1⟩
end
/-! ### min and max with a default -/
def minDf (xs : List Int) (d : Int) : Int := match xs with
  | [] => d
  | n :: r => r.foldl min n
def maxDf (xs : List Int) (d : Int) : Int := match xs with
  | [] => d
  | n :: r => r.foldl max n
theorem readsInts {h : Heap} : ∀ {vs : List Value} {ns : List Int}, IntsAre vs ns → ReadsAll h vs (ns.map PyData.int) []
  | _, _, .nil => .nil
  | _, _, .cons i t r => .cons (as := []) (.int _ _) (readsInts (h := h) r)
theorem alikeInts (ns : List Int) : PySem.W.AlikeAll (ns.map PyData.int) := by
  refine ⟨fun x hx y hy => ?_, fun x hx => ?_⟩
  · obtain ⟨a, _, rfl⟩ := List.mem_map.mp hx
    obtain ⟨b, _, rfl⟩ := List.mem_map.mp hy
    rfl
  · obtain ⟨a, _, rfl⟩ := List.mem_map.mp hx
    intro h; cases h
theorem depthInts : ∀ ns : List Int, PyData.depthAll (ns.map PyData.int) = 0
  | [] => rfl
  | n :: r => by
    show max (PyData.int n).depth (PyData.depthAll (r.map PyData.int)) = 0
    rw [depthInts r]; rfl
section
variable {X : Cx} {c : Cw} {Γ : List Slot} {a b : Expr} {pos p kp : Pos}
theorem cr_minDf (hc : X.calm = true) (hu : X.A.units + 64 < cLine) : CallRK X (.builtin "min") ["default"] (fun vs zs H Q => ∃ (a : Addr) (ns : List Int) (d : Int), vs = [V.ref a] ∧ zs = [.int d] ∧ SqL X.K H a (ns.map V.int) ∧ Q (.int (minDf ns d)) H) := by
  intro pins s σ H xs zs us ws Q I r r2 h
  obtain ⟨a, ns, d, rfl, rfl, hs, q⟩ := h
  obtain ⟨its, rv, hl, _⟩ := I.list hs
  rw [Vals.ref1 r]
  obtain ⟨u, rfl, ru⟩ := vals1 r2
  obtain ⟨t, rfl⟩ := ru
  refine PySem.W.min_list_default (I.ok.hd hc) hl.isList (readsInts rv.ints) (alikeInts ns) (by rw [depthInts]; omega) (fun h0 h' tk hk => ?_) (fun y ys i v h' tk bs he hv hr hk => ?_)
  · cases ns with
    | nil => exact ⟨.int d, H, I.kept hk, ⟨t, rfl⟩, q⟩
    | cons => cases h0
  · cases ns with
    | nil => cases he
    | cons n r =>
      rw [List.map_cons] at he
      cases he
      rw [PySem.W.minD_ints] at hr
      cases hr with
      | int i t => exact ⟨.int _, H, I.kept hk, ⟨t, rfl⟩, q⟩
theorem cr_maxDf (hc : X.calm = true) (hu : X.A.units + 64 < cLine) : CallRK X (.builtin "max") ["default"] (fun vs zs H Q => ∃ (a : Addr) (ns : List Int) (d : Int), vs = [V.ref a] ∧ zs = [.int d] ∧ SqL X.K H a (ns.map V.int) ∧ Q (.int (maxDf ns d)) H) := by
  intro pins s σ H xs zs us ws Q I r r2 h
  obtain ⟨a, ns, d, rfl, rfl, hs, q⟩ := h
  obtain ⟨its, rv, hl, _⟩ := I.list hs
  rw [Vals.ref1 r]
  obtain ⟨u, rfl, ru⟩ := vals1 r2
  obtain ⟨t, rfl⟩ := ru
  refine PySem.W.max_list_default (I.ok.hd hc) hl.isList (readsInts rv.ints) (alikeInts ns) (by rw [depthInts]; omega) (fun h0 h' tk hk => ?_) (fun y ys i v h' tk bs he hv hr hk => ?_)
  · cases ns with
    | nil => exact ⟨.int d, H, I.kept hk, ⟨t, rfl⟩, q⟩
    | cons => cases h0
  · cases ns with
    | nil => cases he
    | cons n r =>
      rw [List.map_cons] at he
      cases he
      rw [PySem.W.maxD_ints] at hr
      cases hr with
      | int i t => exact ⟨.int _, H, I.kept hk, ⟨t, rfl⟩, q⟩
theorem xe_minDf {xs : List Int} {d : Int} (hm : X.mg "min" = none) (hu : X.A.units + 64 < cLine) (ha : XE X c Γ a xs) (hb : XE X c Γ b d) (hc : X.calm = true := by rfl) (hg : Gl X "min" := by rfl) (hs : starEach [a] X.env = [(false, eval a X.env)] := by rfl)
    (he : backTo pos (starEach [a] X.env) = (false, eval a X.env) :: backTo pos (starEach [] X.env) := by rfl) (hpl : (backTo pos (starEach [a] X.env)).any (·.1) = false := by rfl)
    (hall : (backToKw pos (keywordEach [⟨some "default", b, kp⟩] X.env)).all (·.1.isSome) = true := by rfl) (hnone : (backToKw pos (keywordEach [⟨some "default", b, kp⟩] X.env)).any (·.1.isNone) = false := by rfl) (hks : (backToKw pos (keywordEach [⟨some "default", b, kp⟩] X.env)).filterMap (·.1) = [("default" : Str)] := by rfl) :
    XE X c Γ (.Call (.Name "min" p) [a] [⟨some "default", b, kp⟩] pos) (minDf xs d) := by
  obtain ⟨ta, h1, h2⟩ := ha
  obtain ⟨tb, h3, h4⟩ := hb
  refine ⟨_, pe_callBK (cr_minDf hc hu) hg hm (by decide +kernel) (pa_cons h1 pa_nil hs) (pk_cons h3 pk_nil) (by decide) (by decide) he hpl hall hnone hks, fun F H σ fp E Q q => h2 F H σ fp E _ fun v F1 H1 E1 e1 n1 r1 => h4 F1 H1 σ fp E1 _ fun u F2 H2 E2 e2 n2 r2 => ?_⟩
  obtain ⟨ad, vs, rfl, r3, r4⟩ := r1
  exact ⟨ad, xs, d, rfl, by rw [show u = V.int d from r2], sq_of (by rw [← ints_of r4]; exact E2.wd.fh _ _ (e2 _ _ r3)), q _ _ _ E2 (e1.trans e2) (n1.trans n2) rfl⟩
theorem xe_maxDf {xs : List Int} {d : Int} (hm : X.mg "max" = none) (hu : X.A.units + 64 < cLine) (ha : XE X c Γ a xs) (hb : XE X c Γ b d) (hc : X.calm = true := by rfl) (hg : Gl X "max" := by rfl) (hs : starEach [a] X.env = [(false, eval a X.env)] := by rfl)
    (he : backTo pos (starEach [a] X.env) = (false, eval a X.env) :: backTo pos (starEach [] X.env) := by rfl) (hpl : (backTo pos (starEach [a] X.env)).any (·.1) = false := by rfl)
    (hall : (backToKw pos (keywordEach [⟨some "default", b, kp⟩] X.env)).all (·.1.isSome) = true := by rfl) (hnone : (backToKw pos (keywordEach [⟨some "default", b, kp⟩] X.env)).any (·.1.isNone) = false := by rfl) (hks : (backToKw pos (keywordEach [⟨some "default", b, kp⟩] X.env)).filterMap (·.1) = [("default" : Str)] := by rfl) :
    XE X c Γ (.Call (.Name "max" p) [a] [⟨some "default", b, kp⟩] pos) (maxDf xs d) := by
  obtain ⟨ta, h1, h2⟩ := ha
  obtain ⟨tb, h3, h4⟩ := hb
  refine ⟨_, pe_callBK (cr_maxDf hc hu) hg hm (by decide +kernel) (pa_cons h1 pa_nil hs) (pk_cons h3 pk_nil) (by decide) (by decide) he hpl hall hnone hks, fun F H σ fp E Q q => h2 F H σ fp E _ fun v F1 H1 E1 e1 n1 r1 => h4 F1 H1 σ fp E1 _ fun u F2 H2 E2 e2 n2 r2 => ?_⟩
  obtain ⟨ad, vs, rfl, r3, r4⟩ := r1
  exact ⟨ad, xs, d, rfl, by rw [show u = V.int d from r2], sq_of (by rw [← ints_of r4]; exact E2.wd.fh _ _ (e2 _ _ r3)), q _ _ _ E2 (e1.trans e2) (n1.trans n2) rfl⟩
end
/-! ### dicts of numbers, each with True: made of pairs, compared -/
def DictOk (ps : List (Int × Bool)) : Prop := (ps.map (·.1)).Nodup ∧ ∀ p ∈ ps, p.2 = true
def KsAlike (s t : Ks) : Prop := s.l.length = t.l.length ∧ ∀ k ∈ s.l, k ∈ t.l
theorem kvB_len (l : List Int) : (kvB l).length = l.length := by unfold kvB; rw [List.length_map]
theorem kvB_val {k : Int} : ∀ {l : List Int}, k ∈ l → valV (kvB l) (Sum.inl k) = some (.bl true)
  | n :: r, h => by
    show valV ((Sum.inl n, V.bl true) :: kvB r) _ = _
    by_cases e : n = k
    · subst e; exact valV_pos rfl
    · rw [valV_neg (by intro h; cases h; exact e rfl)]
      exact kvB_val (by rcases List.mem_cons.mp h with h | h; exact absurd h.symm e; exact h)
theorem kvB_fa {K : Fg} {F : Hp} {a : Addr} {l : List Int} (h : F a = some (.dK (kvB l))) : FA K F (.ref a) (Ks.ot ⟨l⟩) := by
  have e : (l.map (Sum.inl : Int → Key)).zip (l.map fun _ => V.bl true) = kvB l := by
    unfold kvB
    rw [List.zip_map', ]
  refine .nd (vs := l.map fun _ => V.bl true) (o := .dK (kvB l)) h ⟨by simp, by rw [e]⟩ (by simp) fun i v t h1 h2 => ?_
  rw [List.getElem?_map] at h1 h2
  cases q : l[i]? with
  | none => rw [q] at h1; cases h1
  | some k =>
    rw [q] at h1 h2
    cases h1; cases h2
    exact .fz rfl
theorem fa_kvB {K : Fg} {F : Hp} {v : V} {s : Ks} (h : rep K F v s) : ∃ a, v = .ref a ∧ F a = some (.dK (kvB s.l)) := by
  obtain ⟨a, vs, rfl, hF, hl, hc⟩ := FA.dK (show FA K F v (.nd (.dK (s.l.map Sum.inl)) (s.l.map fun _ => OT.fz true)) from h)
  refine ⟨a, rfl, ?_⟩
  have hv : vs = s.l.map fun _ => V.bl true := by
    refine List.ext_getElem? fun i => ?_
    rw [List.length_map] at hl
    by_cases hi : i < vs.length
    · have h1 := hc.2 i _ (OT.fz true) (List.getElem?_eq_getElem hi) (by rw [List.getElem?_map, List.getElem?_eq_getElem (by omega)]; rfl)
      rw [List.getElem?_eq_getElem hi, List.getElem?_map, List.getElem?_eq_getElem (show i < s.l.length by omega)]
      exact congrArg some h1.ofz
    · rw [List.getElem?_eq_none (by omega), List.getElem?_eq_none (by rw [List.length_map]; omega)]
  rw [hF, hv]
  unfold kvB
  rw [List.zip_map']
section
variable {X : Cx} {c : Cw} {Γ : List Slot} {a b : Expr} {pos p kp : Pos}
theorem paired_imp {α β : Type} {P Q : α → β → Prop} (h : ∀ a b, P a b → Q a b) : ∀ {as : List α} {bs : List β}, Paired P as bs → Paired Q as bs
  | _, _, .nil => .nil
  | _, _, .cons r t => .cons (h _ _ r) (paired_imp h t)
theorem pairs_kvB {K : Fg} {F : Hp} : ∀ {vs : List V} {ps : List (Int × Bool)}, Reps K F vs ps → (∀ p ∈ ps, p.2 = true) → ∃ as : List Addr, vs = as.map V.ref ∧ Paired (fun (p : Addr) (kv : Key × V) => SqT K F p [kV kv.1, kv.2]) as (kvB (ps.map (·.1)))
  | _, _, .nil, _ => ⟨[], rfl, .nil⟩
  | _, _, .cons (b := x) h t, hp => by
    obtain ⟨q, a, b, rfl, h2, h3, h4⟩ := h
    obtain ⟨as, rfl, h5⟩ := pairs_kvB t fun p hm => hp p (List.mem_cons_of_mem _ hm)
    refine ⟨q :: as, rfl, .cons ?_ h5⟩
    cases (show a = _ from h3)
    have := hp x (List.mem_cons_self ..)
    rw [this] at h4
    cases (show b = _ from h4)
    exact h2
theorem xe_dictP {ps : List (Int × Bool)} (hm : X.mg "dict" = none) (ha : XE X c Γ a ps) (h : DictOk ps) (hc : X.calm = true := by rfl) (hg : Gl X "dict" := by rfl) (hs : starEach [a] X.env = [(false, eval a X.env)] := by rfl) :
    XE X c Γ (.Call (.Name "dict" p) [a] [] pos) (⟨ps.map (·.1)⟩ : Ks) := by
  obtain ⟨ta, h1, h2⟩ := ha
  refine ⟨_, pe_callTy (call_dictP hc) hg hm (by decide +kernel) (pa_cons h1 pa_nil hs) (by decide) (by decide) hs rfl, fun F H σ fp E Q q => h2 F H σ fp E _ fun v F1 H1 E1 e1 n1 r1 => ?_⟩
  obtain ⟨ad, vs, rfl, r3, r4⟩ := r1
  obtain ⟨as, rfl, r5⟩ := pairs_kvB r4 h.2
  refine ⟨ad, as, kvB (ps.map (·.1)), rfl, sq_of (E1.wd.fh _ _ r3), paired_imp (fun _ _ h => E1.wd.fh.t h) r5, fun q' hq => ?_⟩
  have em : mergeK [] (kvB (ps.map (·.1))) = kvB (ps.map (·.1)) := by
    refine (mergeK_new ?_).trans (List.nil_append _)
    rw [List.nil_append]
    unfold kvB
    rw [List.map_map]
    exact List.Pairwise.map _ (fun a b h => by intro e; cases e; exact h rfl) h.1
  rw [em]
  exact q _ _ _ (E1.lay hq) (e1.trans (Ex.new (E1.ff hq))) (n1.trans (Nw.lay hq)) (kvB_fa upd_same)
theorem xc_neKs {s t : Ks} (hu : X.A.units + 64 < cLine) (ha : XE X c Γ a s) (hb : XE X c Γ b t) (h : KsAlike s t) : XC X c Γ .NotEq a b false :=
  xc_of (op_ne_dictA (by omega)) (fun F H u v e h1 h2 Q q => by
    obtain ⟨a1, rfl, r1⟩ := fa_kvB h1
    obtain ⟨a2, rfl, r2⟩ := fa_kvB h2
    refine ⟨a1, a2, _, _, rfl, rfl, e _ _ r1, e _ _ r2, by rw [kvB_len, kvB_len]; exact h.1, fun p hp => ?_, q _ F H (Ex.refl _) e (Ex.refl _) (fun _ h => .inl h) rfl⟩
    obtain ⟨k, hk, rfl⟩ := List.mem_map.mp hp
    exact ⟨kvB_val (h.2 k hk), rfl⟩) ha hb (nomark _)
theorem xc_eqKs {s t : Ks} (hu : X.A.units + 64 < cLine) (ha : XE X c Γ a s) (hb : XE X c Γ b t) (h : KsAlike s t) : XC X c Γ .Eq a b true :=
  xc_of (op_eq_dictA (by omega)) (fun F H u v e h1 h2 Q q => by
    obtain ⟨a1, rfl, r1⟩ := fa_kvB h1
    obtain ⟨a2, rfl, r2⟩ := fa_kvB h2
    refine ⟨a1, a2, _, _, rfl, rfl, e _ _ r1, e _ _ r2, by rw [kvB_len, kvB_len]; exact h.1, fun p hp => ?_, q _ F H (Ex.refl _) e (Ex.refl _) (fun _ h => .inl h) rfl⟩
    obtain ⟨k, hk, rfl⟩ := List.mem_map.mp hp
    exact ⟨kvB_val (h.2 k hk), rfl⟩) ha hb (nomark _)
instance : PyTy Ks := ⟨fun _ => "dict", fun {K F v x} h => by
  obtain ⟨a, rfl, r⟩ := fa_kvB h
  exact .base (.dK r)⟩
/-- the last two of four -/
theorem xe_t4cd {α β γ δ : Type} [Py α] [Py β] [Py γ] [Py δ] {x : T4 α β γ δ} {lo : Option Expr} {p2 : Pos} (ha : XE X c Γ a x) (h1 : XP X c Γ lo (some 2)) : XE X c Γ (.Subscript a (.Slice lo none none p2) pos) (x.c, x.d) := by
  obtain ⟨t, a1, a2⟩ := ha
  obtain ⟨u, b1, b2⟩ := h1
  obtain ⟨w, c1, c2⟩ := (xp_none : XP X c Γ none none)
  refine ⟨_, pe_slice sl_tup a1 b1 c1, fun F H σ fp E Q q => a2 F H σ fp E _ fun v F1 H1 E1 e1 g1 r1 => b2 F1 H1 σ fp E1 _ fun F2 H2 E2 e2 g2 => c2 F2 H2 σ fp E2 _ fun F3 H3 E3 e3 g3 => ?_⟩
  obtain ⟨p, v1, v2, v3, v4, rfl, r2, r3, r4, r5, r6⟩ := Py.mono (e2.trans e3) r1
  refine ⟨p, [v1, v2, v3, v4], rfl, E3.wd.fh.t r2, fun h => absurd (show HT.sIx 4 0 (some 2) = 0 from h.1) (by decide), fun l hl => ?_⟩
  have ef : Ex F3 (upd F3 l (.tup (cutV [v1, v2, v3, v4] (some 2) none))) := Ex.new (E3.ff hl)
  exact q _ _ _ (E3.lay hl) (((e1.trans e2).trans e3).trans ef) (((g1.trans g2).trans g3).trans (Nw.lay hl)) ⟨l, v3, v4, rfl, st_of upd_same, Py.mono ef r5, Py.mono ef r6⟩
end
/-! ### the least of a list -/
def minl (xs : List Int) : Int := xs.foldl min (xs.headD 0)
theorem foldl_min (xs : List Int) : ∀ z : Int, (xs.foldl min z = z ∨ xs.foldl min z ∈ xs) ∧ xs.foldl min z ≤ z ∧ ∀ y ∈ xs, xs.foldl min z ≤ y := by
  induction xs with
  | nil => intro z; exact ⟨.inl rfl, Int.le_refl _, fun _ h => nomatch h⟩
  | cons x r ih =>
    intro z
    rw [List.foldl_cons]
    obtain ⟨h1, h2, h3⟩ := ih (min z x)
    refine ⟨?_, by omega, fun y hy => ?_⟩
    · rcases h1 with h | h
      · rw [h]
        by_cases hz : z ≤ x
        · left; exact Int.min_eq_left hz
        · right; rw [Int.min_eq_right (by omega)]; exact List.mem_cons_self ..
      · exact .inr (List.mem_cons_of_mem _ h)
    · rcases List.mem_cons.mp hy with rfl | hy
      · omega
      · exact h3 y hy
theorem minl_spec {xs : List Int} (h : 0 < xs.length) : minl xs ∈ xs ∧ ∀ y ∈ xs, minl xs ≤ y := by
  unfold minl
  obtain ⟨h1, h2, h3⟩ := foldl_min xs (xs.headD 0)
  refine ⟨?_, h3⟩
  rcases h1 with e | e
  · rw [e]
    cases xs with
    | nil => cases h
    | cons x r => exact List.mem_cons_self ..
  · exact e
theorem minl_uniq {xs : List Int} (h : 0 < xs.length) {m : Int} (h1 : m ∈ xs) (h2 : ∀ y ∈ xs, m ≤ y) : m = minl xs := by
  obtain ⟨g1, g2⟩ := minl_spec h
  have := g2 m h1
  have := h2 _ g1
  omega
theorem xe_minl {X : Cx} {c : Cw} {Γ : List Slot} {a : Expr} {pos : Pos} {xs : List Int} {p : Pos} (hm : X.mg "min" = none) (ha : XE X c Γ a xs) (hl : 0 < xs.length) (hc : X.calm = true := by rfl) (hg : Gl X "min" := by rfl) (hs : starEach [a] X.env = [(false, eval a X.env)] := by rfl) : XE X c Γ (.Call (.Name "min" p) [a] [] pos) (minl xs) :=
  xe_b1 (cr_min hc) (by decide +kernel) (fun F H v e r Q q => by
    obtain ⟨ad, vs, rfl, r1, r2⟩ := r
    refine ⟨ad, xs, rfl, sq_of (by rw [← ints_of r2]; exact e _ _ r1), hl, fun m h1 h2 => ?_⟩
    rw [minl_uniq hl h1 h2]; exact q) hg hm ha (by decide) (by decide) hs
theorem minDf_spec (xs : List Int) (d : Int) : (xs = [] ∧ minDf xs d = d) ∨ (minDf xs d ∈ xs ∧ ∀ y ∈ xs, minDf xs d ≤ y) := by
  cases xs with
  | nil => exact .inl ⟨rfl, rfl⟩
  | cons n r =>
    refine .inr ?_
    have e : minDf (n :: r) d = minl (n :: r) := by
      unfold minDf minl
      rw [List.headD_cons, List.foldl_cons, Int.min_self]
    rw [e]; exact minl_spec (by simp)
theorem maxDf_spec (xs : List Int) (d : Int) : (xs = [] ∧ maxDf xs d = d) ∨ (maxDf xs d ∈ xs ∧ ∀ y ∈ xs, y ≤ maxDf xs d) := by
  cases xs with
  | nil => exact .inl ⟨rfl, rfl⟩
  | cons n r =>
    refine .inr ?_
    have e : maxDf (n :: r) d = maxl (n :: r) := by
      unfold maxDf maxl
      rw [List.headD_cons, List.foldl_cons, Int.max_self]
    rw [e]; exact maxl_spec (by simp)
/-- a loop that breaks where it stands still -/
theorem run_brk {S τ R B : Type} {f : S → τ → Out S S R} {g : S → τ → S} (I : S → Prop) (stop : S → Bool) (hf : ∀ s y, I s → f s y = if stop (g s y) then .bk (g s y) else .nx (g s y)) (hi : ∀ s y, I s → I (g s y)) (hg : ∀ s y, I s → stop s = true → g s y = s) : ∀ {xs : List τ} {s : S}, I s → (runFor f s xs : Out S B R) = .nx (xs.foldl g s)
  | [], s, _ => rfl
  | y :: r, s, h => by
    unfold runFor
    rw [hf s y h, List.foldl_cons]
    cases q : stop (g s y) with
    | false => exact run_brk I stop hf hi hg (hi s y h)
    | true =>
      have fix : ∀ (r : List τ) (z : S), I z → stop z = true → r.foldl g z = z := fun r => by
        induction r with
        | nil => intro z _ _; rfl
        | cons y r ih => intro z hz hq; rw [List.foldl_cons, hg z y hz hq]; exact ih z hz hq
      show Out.nx (g s y) = _
      rw [fix r _ (hi s y h) q]
theorem vrun_all {S τ R : Type} {f : S → τ → Out S S R} {vb : S → τ → Prop} (I : S → Prop) : ∀ {xs : List τ} {s : S}, I s → (∀ s, ∀ y ∈ xs, I s → vb s y ∧ ∀ s', (f s y = .nx s' ∨ f s y = .ct s') → I s') → vRun f vb s xs
  | [], s, _, _ => trivial
  | y :: r, s, h, k => by
    obtain ⟨k1, k2⟩ := k s y (List.mem_cons_self ..) h
    refine ⟨k1, ?_⟩
    cases q : f s y with
    | nx s' => exact vrun_all I (k2 s' (.inl q)) fun s z hz => k s z (List.mem_cons_of_mem _ hz)
    | ct s' => exact vrun_all I (k2 s' (.inr q)) fun s z hz => k s z (List.mem_cons_of_mem _ hz)
    | bk s' => trivial
    | rt x => trivial
end Fw
/-! other names of parts; owned things moved into others. -/
namespace Fw
open PySem L2 Py PyProof.Rows
section
variable {X : Cx} {w : Wx} {c : Cw} {Γ Γ' : List Slot} {S B τ υ α : Type} [Py τ] [Py υ] {R : Rc} {G : S → List Slot} {GB : B → List Slot} {o : Out S B R.ρ} {e ep ei : Expr} {t u : OT} {x : τ} {y : α} {pos : Pos} {i j : Nat} {p : List Nat} {oa oa' : Option Addr} {k : Kind} {ts : List OT} {a : Addr} {rest : List Stmt}
/-- two slots of an environment, the things of the one parted anew -/
theorem EnvD.two {K : Fg} {F H : Hp} {σ σ' : L2.St} {fp : Nat → List Addr} {s1 s2 : Slot} {l1 l2 : List Addr} (E : EnvD K c F H σ Γ fp) (hij : i ≠ j) (hi : i < Γ.length) (hj : j < Γ.length) (hl : σ'.length = σ.length) (hs : ∀ k, k ≠ i → k ≠ j → σ'[k]? = σ[k]?)
    (h1 : ∃ v, σ'[i]? = some v ∧ s1.ok K F H v l1) (h2 : ∃ v, σ'[j]? = some v ∧ s2.ok K F H v l2) (d : ∀ b, b ∈ l1 → b ∉ l2) (m : ∀ b, b ∈ l1 ∨ b ∈ l2 → b ∈ fp i ∨ b ∈ fp j) :
    EnvD K c F H σ' ((Γ.set i s1).set j s2) (fun k => if k = j then l2 else if k = i then l1 else fp k) := by
  have len : ((Γ.set i s1).set j s2).length = Γ.length := by simp
  refine E.chg (fun k => k = i ∨ k = j) (Ex.refl _) E.wd.fh (fun b u _ h => h) (fun b hb => .inl hb) hl len (fun k hk => ?_) (fun k s hk hs' => ?_) (fun k b hk hb => ?_) (fun k k' b hk hk' hb hb' => ?_) (fun k hk h => ?_)
  · have k1 : k ≠ i := fun e => hk (.inl e)
    have k2 : k ≠ j := fun e => hk (.inr e)
    exact ⟨by rw [List.getElem?_set_ne (Ne.symm k2), List.getElem?_set_ne (Ne.symm k1)], hs k k1 k2, by rw [if_neg k2, if_neg k1]⟩
  · rcases hk with rfl | rfl
    · rw [List.getElem?_set_ne (Ne.symm hij), List.getElem?_set_self hi] at hs'
      cases hs'
      rw [if_neg hij, if_pos rfl]; exact h1
    · rw [List.getElem?_set_self (by simpa using hj)] at hs'
      cases hs'
      rw [if_pos rfl]; exact h2
  · refine .inl ?_
    have : b ∈ fp i ∨ b ∈ fp j := m b (by
      rcases hk with rfl | rfl
      · rw [if_neg hij, if_pos rfl] at hb; exact .inl hb
      · rw [if_pos rfl] at hb; exact .inr hb)
    rcases this with h | h
    · exact ⟨i, .inl rfl, h⟩
    · exact ⟨j, .inr rfl, h⟩
  · rcases hk with rfl | rfl <;> rcases hk' with rfl | rfl
    · rfl
    · rw [if_neg hij, if_pos rfl] at hb
      rw [if_pos rfl] at hb'
      exact absurd hb' (d b hb)
    · rw [if_pos rfl] at hb
      rw [if_neg hij, if_pos rfl] at hb'
      exact absurd hb (d b hb')
    · rfl
  · rcases hk with rfl | rfl
    · omega
    · omega
theorem get_lt {oa : Option Addr} (hs : Γ[i]? = some (.ow oa t)) : i < Γ.length := (List.getElem?_eq_some_iff.mp hs).1
/-- x = P, P a part of what another name owns: x has it from here on -/
theorem xo_alias {n : Str} {py : Pos} (i j : Nat) (hp : XPl X c Γ e i p) (hs : Γ[i]? = some (.ow oa t)) (hg : t.get? p = some u) (hu : u.isNd = true) (hN : X.N.Nodup) (h : ∀ a, XO X w c ((Γ.set i (.ow oa (t.put p (.hole a)))).set j (.ow (some a) u)) rest G GB o) (hij : i ≠ j := by decide) (hjl : j < Γ.length := by exact Nat.le_of_ble_eq_true rfl)
    (hi : X.N[j]? = some n := by rfl) (hx : Loc X.env.scope n := by first | exact .inl rfl | exact .inr rfl) (hsw : swapsWith e (some (.Name n py)) pos.line X.env = pure false := by rfl)
    (hf : X.fn n = true ∨ X.env.scope.names.lookup n = some .local := by first | exact .inl rfl | exact .inr rfl | assumption) : XO X w c Γ (.Assign [.Name n py] e pos :: rest) G GB o := by
  obtain ⟨te, h1, h2⟩ := hp
  have hr : PSs X rest (fun D σ H => ∃ t, PSs X rest t ∧ t D σ H) := ⟨fun pins s σ H D I ⟨t, ht, q⟩ => ht.run pins s σ H D I q⟩
  refine ⟨_, pss_cons (ps_set (i := j) hN hi hx h1 hsw hf) hr, fun F H σ ⟨fp, E⟩ D q => h2 F H σ fp E _ fun v v0 F1 H1 E1 e1 n1 g1 g2 => ?_⟩
  obtain ⟨v0', k1, k2, k3⟩ := E1.geto hs
  rw [g1] at k1; cases k1
  obtain ⟨wv, l2, l1, f1, f2, f3, f4⟩ := k2.focus hg
  rw [g2] at f1; cases f1
  have ⟨a, ha⟩ : ∃ a, v = .ref a := by
    cases f2 with
    | fz r => cases hu
    | hole => cases hu
    | nd => exact ⟨_, rfl⟩
  subst ha
  have hil := get_lt hs
  have nd := List.nodup_append.mp (f3.nodup_iff.mp k2.nodup)
  obtain ⟨l', z1, z2⟩ := f4 F1 H1 [] (.hole a) (Ex.refl _) (fun b hb => ⟨(k2.dom b (f3.mem_iff.mpr (List.mem_append_right _ hb))).1, rfl⟩) .hole (fun b hb => by cases hb)
  have E2 := E1.two (σ' := σ.set j (some (.ref a))) (s1 := .ow oa (t.put p (.hole a))) (s2 := .ow (some a) u) (l1 := l') (l2 := l2) hij hil hjl (by simp) (fun k _ hk => List.getElem?_set_ne (Ne.symm hk)) ⟨some v0, by rw [List.getElem?_set_ne (Ne.symm hij)]; exact g1, v0, rfl, z1, k3⟩
    ⟨some (.ref a), List.getElem?_set_self (by rw [E1.len]; exact hjl), _, rfl, f2, fun b hb => by cases hb; rfl⟩ (fun b hb hb2 => nd.2.2 b hb2 b (by simpa using z2.mem_iff.mp hb) rfl) (fun b hb => .inl (f3.mem_iff.mpr (List.mem_append.mpr (by
      rcases hb with hb | hb
      · exact .inr (by simpa using z2.mem_iff.mp hb)
      · exact .inl hb))))
  obtain ⟨tr, t1, t2⟩ := h a
  exact ⟨tr, t1, t2 F1 H1 _ ⟨_, E2⟩ D (OutOk.ex (o := o) q e1)⟩
theorem put_consN {i : Nat} {p : List Nat} {k : Kind} {ts : List OT} {u : OT} : (OT.nd k ts).put (i :: p) u = match ts[i]? with
  | some t => .nd k (ts.set i (t.put p u))
  | none => .nd k ts := by
  first | (rw [OT.put]; done) | (rw [OT.put]; rfl)
theorem put_put : ∀ {p : List Nat} {t u v : OT}, (t.put p u).put p v = t.put p v
  | [], t, u, v => rfl
  | i :: p, t, u, v => by
    cases t with
    | fz x => rfl
    | hole a => rfl
    | nd k ts =>
      rw [put_consN, put_consN]
      cases q : ts[i]? with
      | none => dsimp only; rw [put_consN, q]
      | some t =>
        have hi : i < ts.length := (List.getElem?_eq_some_iff.mp q).1
        dsimp only
        rw [put_consN, List.getElem?_set_self hi]
        dsimp only
        rw [List.set_set, put_put]
theorem OA.fz_nil {K : Fg} {F H : Hp} {v : V} {l : List Addr} {x : τ} (h : OA K F H v l (.fz x)) : l = [] := by
  cases h; rfl
theorem get_put : ∀ {p : List Nat} {t u u0 : OT}, t.get? p = some u0 → (t.put p u).get? p = some u
  | [], t, u, u0, _ => by unfold OT.put OT.get?; rfl
  | i :: p, t, u, u0, h => by
    cases t with
    | fz x => unfold OT.get? at h; cases h
    | hole a => unfold OT.get? at h; cases h
    | nd k ts =>
      unfold OT.get? at h
      unfold OT.put
      cases q : ts[i]? with
      | none => rw [q] at h; cases h
      | some t =>
        rw [q] at h
        have hi : i < ts.length := (List.getElem?_eq_some_iff.mp q).1
        dsimp only
        unfold OT.get?
        rw [List.getElem?_set_self hi]
        exact get_put h
theorem put_get : ∀ {p : List Nat} {t u : OT}, t.get? p = some u → t.put p u = t
  | [], t, u, h => by unfold OT.get? at h; cases h; unfold OT.put; rfl
  | i :: p, t, u, h => by
    cases t with
    | fz x => unfold OT.get? at h; cases h
    | hole a => unfold OT.get? at h; cases h
    | nd k ts =>
      unfold OT.get? at h
      unfold OT.put
      cases q : ts[i]? with
      | none => rw [q] at h; try cases h
      | some t =>
        rw [q] at h
        dsimp only
        rw [put_get h]
        congr 1
        refine List.ext_getElem? fun m => ?_
        rw [List.getElem?_set]
        split
        · next e =>
          subst e
          rw [if_pos (List.getElem?_eq_some_iff.mp q).1, q]
        · rfl
/-- the part goes back -/
theorem xo_unal {T T' u0 : OT} (i j : Nat) (hs : Γ[i]? = some (.ow oa (T.put p (.hole a)))) (hg : T.get? p = some u0) (hj : Γ[j]? = some (.ow (some a) u)) (hij : i ≠ j) (hy : T.put p u = T') (h : XO X w c ((Γ.set i (.ow oa T')).set j .no) rest G GB o) : XO X w c Γ rest G GB o := by
  obtain ⟨tr, t1, t2⟩ := h
  refine ⟨tr, t1, fun F H σ ⟨fp, E⟩ D q => t2 F H σ ?_ D q⟩
  obtain ⟨v0, k1, k2, k3⟩ := E.geto hs
  obtain ⟨v1, m1, m2, m3⟩ := E.geto hj
  cases m3 a rfl
  obtain ⟨wv, l2, l1, f1, f2, f3, f4⟩ := k2.focus (get_put (u := .hole a) hg)
  cases f2
  have dj : ∀ b ∈ fp j, b ∉ l1 := fun b hb h2 => hij (E.dis i j b (f3.mem_iff.mpr (by simpa using h2)) hb)
  obtain ⟨l', z1, z2⟩ := f4 F H (fp j) u (Ex.refl _) (fun b hb => ⟨(k2.dom b (f3.mem_iff.mpr (by simpa using hb))).1, rfl⟩) m2 dj
  rw [put_put, hy] at z1
  exact ⟨_, E.two (s1 := .ow oa T') (s2 := .no) (l1 := l') (l2 := []) hij (get_lt hs) (get_lt hj) rfl (fun _ _ _ => rfl) ⟨_, k1, v0, rfl, z1, k3⟩ ⟨_, m1, rfl⟩ (fun b _ hb => by cases hb) (fun b hb => by
    rcases hb with hb | hb
    · rcases List.mem_append.mp (z2.mem_iff.mp hb) with h | h
      · exact .inr h
      · exact .inl (f3.mem_iff.mpr (by simpa using h))
    · cases hb)⟩
theorem xo_unal0 {T : OT} (i j : Nat) (hs : Γ[i]? = some (.ow oa (T.put p (.hole a)))) (hg : T.get? p = some u) (hj : Γ[j]? = some (.ow (some a) u)) (hij : i ≠ j) (h : XO X w c ((Γ.set i (.ow oa T)).set j .no) rest G GB o) : XO X w c Γ rest G GB o := xo_unal i j hs hg hj hij (put_get hg) h
/-- a value is named -/
theorem xo_bnd {v : α} {G' : α → List Slot} {k : α → Out S B R.ρ} (h : ∀ y, y = v → XO X w c (G' y) rest G GB (k y)) : XO X w c (G' v) rest G GB (bnd v k) := h v rfl
theorem xn_bnd {v : α} {G' : α → List Slot} {k : α → S} (h : ∀ y, y = v → XO X w c (G' y) rest G GB (.nx (k y) : Out S B R.ρ)) : XO X w c (G' v) rest G GB (.nx (bnd v k) : Out S B R.ρ) := h v rfl
/-- a list in a place, its items frozen -/
theorem xq_pl {xs : List υ} (hp : XPl X c Γ e i p) (hs : Γ[i]? = some (.ow oa t)) (hg : t.get? p = some (ol xs)) : XQ X c Γ .l e (fun z : υ => OT.fz z) xs := by
  obtain ⟨te, h1, h2⟩ := hp
  refine ⟨te, h1, fun F H σ fp E Q q => h2 F H σ fp E Q fun v v0 F1 H1 E1 e1 n1 g1 g2 => ?_⟩
  obtain ⟨v0', b, o, vs, fps, k1, k2, k3, k4, k5, k6, k7, k8, k9⟩ := E1.node hs hg
  rw [g1] at k1; cases k1
  rw [g2] at k2; cases k2
  cases (show o = _ from k5)
  have nil : ∀ l ∈ fps, l = [] := fun l hl => by
    obtain ⟨m, hm⟩ := List.getElem?_of_mem hl
    have hm2 : m < xs.length := by
      have := (List.getElem?_eq_some_iff.mp hm).1
      have := k6.2.1
      simp at this; omega
    have hv : m < vs.length := by have := k6.1; simp at this; omega
    have := k6.2.2 m _ l (.fz xs[m]) (List.getElem?_eq_getElem hv) hm (by rw [List.getElem?_map, List.getElem?_eq_getElem hm2]; rfl)
    exact this.fz_nil
  have fl : fps.flatten = [] := List.flatten_eq_nil_iff.mpr nil
  exact q b vs fps F1 H1 E1 e1 n1 k4 k6 (by rw [fl]; exact List.nodup_nil) (by rw [fl]; intro b hb; cases hb)
end
/-! ### values that are handed over: new ones, or what a name owned -/
def XV (X : Cx) (c : Cw) (Γ Γ' : List Slot) (e : Expr) (u : OT) : Prop := ∃ te, PE X e te ∧ ∀ F H σ fp, EnvD X.K c F H σ Γ fp → ∀ Q : VK, (∀ v F' H' l fp', EnvD X.K c F' H' σ Γ' fp' → Ex F F' → Nw F H F' H' → OA X.K F' H' v l u → (∀ b ∈ l, c.al b ∧ ∀ j, b ∉ fp' j) → Q v H') → te σ H Q
section
variable {X : Cx} {w : Wx} {c : Cw} {Γ Γ' : List Slot} {S' B τ υ α : Type} [Py τ] [Py υ] {R : Rc} {GB : B → List Slot} {e ep ei : Expr} {t u : OT} {x : τ} {y : α} {pos : Pos} {i : Nat} {p : List Nat} {oa : Option Addr} {k : Kind} {ts : List OT} {g : α → OT}
theorem xv_n (h : XN X c Γ e u) : XV X c Γ Γ e u := by
  obtain ⟨te, h1, h2⟩ := h
  exact ⟨te, h1, fun F H σ fp E Q q => h2 F H σ fp E Q fun v F' H' l E' e1 n1 r hl => q v F' H' l fp E' e1 n1 r fun b hb => ⟨E.wd.fresh (hl b hb), E.fresh (hl b hb)⟩⟩
theorem xv_give (i : Nat) {n : Str} {p : Pos} {oa : Option Addr} (hi : Γ[i]? = some (.ow oa t) := by rfl) (hN : X.N[i]? = some n := by rfl) (hv : Vis X.env.scope n := by first | exact Or.inl rfl | exact Or.inr (Or.inl rfl) | exact Or.inr (Or.inr rfl))
    (hd : (n == ("__debug__" : Str)) = false := by decide) (hcd : (n == ("__classdict__" : Str)) = false := by decide) : XV X c Γ (Γ.set i .no) (.Name n p) t :=
  ⟨_, pe_var (i := i) hN hv hd hcd, fun F H σ fp E Q q => by
    obtain ⟨v, g1, g2, g3⟩ := E.geto hi
    have hil : i < Γ.length := (List.getElem?_eq_some_iff.mp hi).1
    have E1 := E.drop (i := i) (v := some v)
    have es : σ.set i (some v) = σ := by
      apply List.ext_getElem?
      intro j
      by_cases hj : j = i
      · subst hj
        rw [List.getElem?_set_self (by rw [E.len]; exact hil), g1]
      · rw [List.getElem?_set_ne (Ne.symm hj)]
    rw [es] at E1
    refine ⟨v, g1, q v F H (fp i) _ E1 (Ex.refl _) Nw.refl g2 fun b hb => ⟨E.al i b hb, fun j hj => ?_⟩⟩
    split at hj
    · cases hj
    · rename_i hne; exact hne (E.dis j i b hj hb)⟩
theorem xs_fsetV {f : Str} {C : Addr} {ns : List Str} {j : Nat} {pf : Pos} (g : α → OT) (he : XV X c Γ Γ' e u) (hp : XPl X c Γ' ep i p) (hs : Γ'[i]? = some (.ow oa t)) (hg : t.get? p = some (.nd (.ins C ns) ts)) (hf : fIx ns f = some j) (hl : ns.length < 1000 := by decide) (hy : t.put p (.nd (.ins C ns) (ts.set j u)) = g y := by rfl)
    (hsw : swapsWith e (some (.Attribute ep f pf)) pos.line X.env = pure false := by rfl) : XS X w c Γ (.Assign [.Attribute ep f pf] e pos) (fun y : α => Γ'.set i (.ow oa (g y))) GB (Out.nx y : Out α B R.ρ) := by
  obtain ⟨te, h1, h2⟩ := he
  obtain ⟨tp, h3, h4⟩ := hp
  refine ⟨_, ps_fld h3 h1 hsw, fun F H σ ⟨fp, E⟩ D q => h2 F H σ fp E _ fun v F1 H1 l fp1 E1 e1 n1 r1 hl1 => h4 F1 H1 σ fp1 E1 _ fun vp v0 F2 H2 E2 e2 n2 g1 g2 => ?_⟩
  obtain ⟨v0', a, o, vs, fps, k1, k2, k3, k4, k5, k6, k7, k8, k9⟩ := E2.node hs hg
  rw [g1] at k1; cases k1
  rw [g2] at k2; cases k2
  have k5' := k5
  obtain ⟨⟨hc, hn⟩, hlen, dx, rfl⟩ := k5
  have hj : j < ns.length := (List.getElem?_eq_some_iff.mp (fIx_get hf)).1
  have r2 : OA X.K F2 H2 v l u := r1.grow e2 fun b hb => by
    obtain ⟨d1, z, d2⟩ := r1.dom b hb
    exact ⟨Nw.none n2 d1 (by rw [d2]; simp), (n2.h _ _ d2).trans d2.symm⟩
  have fr : ∀ b ∈ l, c.al b ∧ ∀ j, b ∉ fp1 j := hl1
  have hjl : j < fps.length := by rw [k6.2.1, ← k6.1, ← hlen]; exact hj
  obtain ⟨m1, m2⟩ := nd_set (j := j) k7 (List.getElem?_eq_getElem hjl) r2.nodup (fun b hb h => (fr b hb).2 i (k8 b h))
  obtain ⟨fp', E3, _, _⟩ := k9 (.ins C dx (putF f v (ns.zip vs))) (.ins C ns) (vs.set j v) (fps.set j l) (ts.set j u) ⟨⟨hc, hn⟩, by simpa using hlen, dx, by rw [putF_zip hlen hf]⟩ (k6.set j r2) m1 (fun b hb => (m2 b hb).imp id (fr b))
  rw [hy] at E3
  exact ⟨a, C, dx, _, rfl, k4, hc, hn f (fIx_mem hf), by rw [List.length_zip]; omega, q σ F2 _ ⟨fp', E3⟩ (e1.trans e2)⟩
theorem xs_isetV {n : Int} {j : Nat} {q1 : Pos} (g : α → OT) (he : XV X c Γ Γ' e u) (hp : XPl X c Γ' ep i p) (hk : XE X c Γ' ei n) (hs : Γ'[i]? = some (.ow oa t)) (hg : t.get? p = some (.nd .lst ts)) (hf : ixN ts.length n = some j) (hy : t.put p (.nd .lst (ts.set j u)) = g y)
    (ha : ∀ v, assign (.Subscript ep ei q1) X.env v = (do
      let ov ← holding [v] (eval ep X.env)
      let iv ← holding [v, ov] (eval ei X.env)
      standAt q1
      holding [v, ov, iv] (setItem ov iv v)
      release [v, ov, iv] []) := by exact fun _ => rfl)
    (hsw : swapsWithSole [.Subscript ep ei q1] e pos.line X.env = pure false := by rfl) (hw : swappedStores [.Subscript ep ei q1] e X.env = pure none := by rfl)
    (h1' : (assignEach [.Subscript ep ei q1] X.env).map (·.2) = [assign (.Subscript ep ei q1) X.env] := by rfl) :
    XS X w c Γ (.Assign [.Subscript ep ei q1] e pos) (fun y : α => Γ'.set i (.ow oa (g y))) GB (Out.nx y : Out α B R.ρ) := by
  obtain ⟨te, h1, h2⟩ := he
  obtain ⟨tp, h3, h4⟩ := hp
  obtain ⟨ti, h5, h6⟩ := hk
  refine ⟨_, ps_asg h1 (pg_sub h3 h5 set_list ha) hsw hw h1', fun F H σ ⟨fp, E⟩ D q => h2 F H σ fp E _ fun v F1 H1 l fp1 E1 e1 n1 r1 hl1 => h4 F1 H1 σ fp1 E1 _ fun vp v0 F2 H2 E2 e2 n2 g1 g2 => h6 F2 H2 σ fp1 E2 _ fun vi F3 H3 E3 e3 n3 r3 => ?_⟩
  cases (show vi = .int n from r3)
  obtain ⟨v0', a, o, vs, fps, k1, k2, k3, k4, k5, k6, k7, k8, k9⟩ := E3.node hs hg
  have g2' := follow_ex n3.h g2
  rw [g1] at k1; cases k1
  rw [g2'] at k2; cases k2
  cases (show o = _ from k5)
  have r2 : OA X.K F3 H3 v l u := r1.grow (e2.trans e3) fun b hb => by
    obtain ⟨d1, z, d2⟩ := r1.dom b hb
    exact ⟨Nw.none (n2.trans n3) d1 (by rw [d2]; simp), ((n2.trans n3).h _ _ d2).trans d2.symm⟩
  have fr : ∀ b ∈ l, c.al b ∧ ∀ j, b ∉ fp1 j := hl1
  have hj : j < ts.length := by
    unfold ixN at hf
    split at hf
    · split at hf
      · cases hf; omega
      · cases hf
    · split at hf
      · cases hf; omega
      · cases hf
  have hjl : j < fps.length := by rw [k6.2.1]; exact hj
  obtain ⟨m1, m2⟩ := nd_set (j := j) k7 (List.getElem?_eq_getElem hjl) r2.nodup (fun b hb h => (fr b hb).2 i (k8 b h))
  obtain ⟨fp', E4, _, _⟩ := k9 (.lst (vs.set j v)) .lst (vs.set j v) (fps.set j l) (ts.set j u) rfl (k6.set j r2) m1 (fun b hb => (m2 b hb).imp id (fr b))
  rw [hy] at E4
  exact ⟨a, vs, n, j, rfl, rfl, k4, by rw [k6.1]; exact hf, q σ F3 _ ⟨fp', E4⟩ ((e1.trans e2).trans e3)⟩
theorem xs_dsetV {ky : Key} {ks : List Key} {q1 : Pos} {z : υ} (g : α → OT) (hu : X.A.units + 1 < cLine) (he : XV X c Γ Γ' e u) (hp : XPl X c Γ' ep i p) (hk : XE X c Γ' ei z) (hz : ∀ F v, rep X.K F v z → v = kV ky) (hs : Γ'[i]? = some (.ow oa t)) (hg : t.get? p = some (.nd (.dK ks) ts)) (hnd : ks.Nodup) (hln : ks.length < 100000) (hy : t.put p (kPut ks ts ky u) = g y)
    (hsw : swapsWith e (some (.Subscript ep ei q1)) pos.line X.env = pure false := by rfl) :
    XS X w c Γ (.Assign [.Subscript ep ei q1] e pos) (fun y : α => Γ'.set i (.ow oa (g y))) GB (Out.nx y : Out α B R.ρ) := by
  obtain ⟨te, h1, h2⟩ := he
  obtain ⟨tp, h3, h4⟩ := hp
  obtain ⟨ti, h5, h6⟩ := hk
  refine ⟨_, ps_dput hu h3 h5 h1 hsw, fun F H σ ⟨fp, E⟩ D q => h2 F H σ fp E _ fun v F1 H1 l fp1 E1 e1 n1 r1 hl1 => h4 F1 H1 σ fp1 E1 _ fun vp v0 F2 H2 E2 e2 n2 g1 g2 => h6 F2 H2 σ fp1 E2 _ fun vi F3 H3 E3 e3 n3 r3 => ?_⟩
  cases hz _ _ r3
  obtain ⟨v0', a, o, vs, fps, k1, k2, k3, k4, k5, k6, k7, k8, k9⟩ := E3.node hs hg
  have g2' := follow_ex n3.h g2
  rw [g1] at k1; cases k1
  rw [g2'] at k2; cases k2
  obtain ⟨hlen, rfl⟩ := k5
  have r2 : OA X.K F3 H3 v l u := r1.grow (e2.trans e3) fun b hb => by
    obtain ⟨d1, z, d2⟩ := r1.dom b hb
    exact ⟨Nw.none (n2.trans n3) d1 (by rw [d2]; simp), ((n2.trans n3).h _ _ d2).trans d2.symm⟩
  have fr : ∀ b ∈ l, c.al b ∧ ∀ j, b ∉ fp1 j := hl1
  have sz1 : (ks.zip vs).length < sizeLine := by rw [List.length_zip]; exact Nat.lt_of_lt_of_le (by omega : _ < 100000) (by decide)
  refine ⟨a, _, rfl, DPut.k (k := ky) (v := v) k4 sz1, ?_⟩
  unfold kPut at hy
  cases hf : fIx ks ky with
  | some j =>
    have hj : j < ks.length := (List.getElem?_eq_some_iff.mp (fIx_get hf)).1
    have hjl : j < fps.length := by rw [k6.2.1, ← k6.1]; omega
    obtain ⟨m1, m2⟩ := nd_set (j := j) k7 (List.getElem?_eq_getElem hjl) r2.nodup (fun b hb h => (fr b hb).2 i (k8 b h))
    have ep : putK (ks.zip vs) ky v = ks.zip (vs.set j v) := by
      unfold putK
      rw [any_fIx hlen, hf]
      exact (if_pos rfl).trans (map_fIx hnd hlen hf)
    obtain ⟨fp', E4, _, _⟩ := k9 (.dK (putK (ks.zip vs) ky v)) (.dK ks) (vs.set j v) (fps.set j l) (ts.set j u) ⟨by simpa using hlen, by rw [ep]⟩ (k6.set j r2) m1 (fun b hb => (m2 b hb).imp id (fr b))
    rw [hf] at hy
    rw [hy] at E4
    exact q σ F3 _ ⟨fp', E4⟩ ((e1.trans e2).trans e3)
  | none =>
    obtain ⟨m1, m2⟩ := nd_app (gps := [l]) k7 (by simpa using r2.nodup) (fun b hb h => (fr b (by simpa using hb)).2 i (k8 b h))
    have ep : putK (ks.zip vs) ky v = (ks ++ [ky]).zip (vs ++ [v]) := by
      unfold putK
      rw [any_fIx hlen, hf]
      refine (if_neg (by simp)).trans ?_
      rw [List.zip_append hlen]; rfl
    obtain ⟨fp', E4, _, _⟩ := k9 (.dK (putK (ks.zip vs) ky v)) (.dK (ks ++ [ky])) (vs ++ [v]) (fps ++ [l]) (ts ++ [u]) ⟨by simp [hlen], by rw [ep]⟩ (k6.app (.cons r2 .nil)) m1 (fun b hb => (m2 b hb).imp id (fun h => fr b (by simpa using h)))
    rw [hf] at hy
    rw [hy] at E4
    exact q σ F3 _ ⟨fp', E4⟩ ((e1.trans e2).trans e3)
theorem xs_appendV {q1 q2 : Pos} {oa0 : Option Addr} {t0 : OT} {ts0 : List OT} (g : α → OT) (hp : XPl X c Γ ep i p) (he : XV X c Γ Γ' e u) (hs0 : Γ[i]? = some (.ow oa0 t0)) (hg0 : t0.get? p = some (.nd .lst ts0)) (hs : Γ'[i]? = some (.ow oa t)) (hg : t.get? p = some (.nd .lst ts)) (hl : ts.length < 100000) (hy : t.put p (.nd .lst (ts ++ [u])) = g y)
    (hst : starEach [e] X.env = [(false, eval e X.env)] := by rfl)
    (hsw : swapsWith (.Call (.Attribute ep "append" q1) [e] [] q2) none pos.line X.env = pure false := by rfl) (hab : attributeBase ep "append" X.env (eval ep X.env) = eval ep X.env := by rfl) (hln : (q1.endLine == q2.line) = true := by rfl)
    (hfew : ((backTo q2 (starEach [e] X.env)).all (fun x => !x.1) && (backToKw q2 (keywordEach [] X.env)).all (fun x => x.1.isSome) && decide (([e] : List Expr).length + ([] : List Keyword).length + (if ([] : List Keyword).isEmpty then 0 else 1) < 30)) = true := by rfl) :
    XS X w c Γ (.Expr (.Call (.Attribute ep "append" q1) [e] [] q2) pos) (fun y : α => Γ'.set i (.ow oa (g y))) GB (Out.nx y : Out α B R.ρ) := by
  obtain ⟨te, h1, h2⟩ := he
  obtain ⟨tp, h3, h4⟩ := hp
  refine ⟨_, ps_expr (pe_bm PySem.F.plainAttrs_list PySem.F.slot_list_append PySem.F.type_list_append mt_append h3 (pa_cons h1 pa_nil hst) hab hfew hln hst rfl) hsw, fun F H σ ⟨fp, E⟩ D q => h4 F H σ fp E _ fun vp v0 F1 H1 E1 e1 n1 g1 g2 => ?_⟩
  have typ : tyV X.K "list" vp H1 := by
    obtain ⟨v0', a, o, vs, fps, k1, k2, k3, k4, k5, _⟩ := E1.node hs0 hg0
    rw [g1] at k1; cases k1
    rw [g2] at k2; cases k2
    cases (show o = _ from k5)
    exact .inl ⟨rfl, _, sq_of k4⟩
  refine ⟨typ, h2 F1 H1 σ fp E1 _ fun v F2 H2 l fp1 E2 e2 n2 r1 hl1 => ?_⟩
  obtain ⟨v0', a, o, vs, fps, k1, k2, k3, k4, k5, k6, k7, k8, k9⟩ := E2.node hs hg
  have g2' := follow_ex n2.h g2
  rw [g1] at k1; cases k1
  rw [g2'] at k2; cases k2
  cases (show o = _ from k5)
  have fr : ∀ b ∈ l, c.al b ∧ ∀ j, b ∉ fp1 j := hl1
  obtain ⟨m1, m2⟩ := nd_app (gps := [l]) k7 (by simpa using r1.nodup) (fun b hb h => (fr b (by simpa using hb)).2 i (k8 b h))
  obtain ⟨fp', E4, _, _⟩ := k9 (.lst (vs ++ [v])) .lst (vs ++ [v]) (fps ++ [l]) (ts ++ [u]) rfl (k6.app (.cons r1 .nil)) m1 (fun b hb => (m2 b hb).imp id (fun h => fr b (by simpa using h)))
  rw [hy] at E4
  exact ⟨a, vs, v, rfl, rfl, k4, Nat.lt_of_lt_of_le (by rw [k6.1]; exact hl) (by decide : 100000 ≤ sizeLine), q σ F2 _ ⟨fp', E4⟩ (e1.trans e2)⟩
end
/-! ### values of what changes things; small rules -/
section
variable {X : Cx} {w : Wx} {c : Cw} {Γ Γ' : List Slot} {S' B τ υ ζ α : Type} [Py τ] [Py υ] [Py ζ] {R : Rc} {GB : B → List Slot} {e ep ei a b d : Expr} {t u : OT} {x : τ} {y : α} {pos : Pos} {i : Nat} {p : List Nat} {oa : Option Addr} {k : Bool} {ts us : List OT} {g : α → OT}
theorem xm_cmp {op : CmpOp} {r : R2} {x : τ} {y : υ} (ho : OpR X (compareOp op) r) (hr : ROp X.K r x y k) (ha : XM X c Γ Γ' a (.fz x)) (hb : XE X c Γ' d y) (hm : behindInMarks op d = false) : XM X c Γ Γ' (.Compare a [op] [d] pos) (.fz k) := by
  obtain ⟨ta, a1, a2⟩ := ha
  obtain ⟨tb, b1, b2⟩ := hb
  refine ⟨_, pe_cmpR ho a1 b1 hm, fun F H σ fp E Q q => ?_⟩
  refine a2 F H σ fp E _ fun u F1 H1 fp1 l E1 e1 r1 hl => ?_
  obtain ⟨rfl, u', hu, r1⟩ := r1
  cases hu
  refine b2 F1 H1 σ fp1 E1 _ fun v F2 H2 E2 e2 g2 r2 => ?_
  exact hr F2 H2 u v E2.wd.fh (Py.mono e2 r1) r2 _ fun w F' H' p1 p2 p3 p4 p5 => q w F' H' fp1 [] (E2.grow p1 p2 p3 p4) ((e1.trans e2).trans p1) ⟨rfl, w, rfl, p5⟩ fun b hb => by cases hb
theorem xm_isU {j p'} (ha : XM X c Γ Γ' a (.fz ())) : XM X c Γ Γ' (.Compare a [.Is] [.Constant .none j p'] pos) (.fz true) :=
  xm_cmp (y := ()) op_isN (fun F H u v e h1 h2 Q q => ⟨h2, q _ F H (Ex.refl _) e (Ex.refl _) (fun _ h => .inl h) (by
    show V.bl _ = V.bl _
    rw [show u = V.non from h1]; rfl)⟩) ha xe_nil (nomark _)
theorem xtm_val (h : XM X c Γ Γ' e (.fz k)) (he : ∀ whole, isTrue e X.env whole = (do let v ← whole; standAt e.pos; holding [v] (truthy v)) := by intro _; rfl) : XTM X c Γ Γ' e k := by
  obtain ⟨te, h1, h2⟩ := h
  refine ⟨_, pt_val h1 he, fun F H σ fp E Q q => h2 F H σ fp E _ fun v F1 H1 fp1 l E1 e1 r1 hl => ?_⟩
  obtain ⟨rfl, u', hu, r1⟩ := r1
  cases hu
  exact ⟨k, r1, q F1 H1 fp1 E1 e1⟩
theorem xm_at2 {S1 : Type} {Γ1 : S1 → List Slot} {sl : S1 → Slot} {y z : S1} (h : z = y) (q : XM X c Γ (Γ1 y) e (sl y)) : XM X c Γ (Γ1 z) e (sl z) := h ▸ q
theorem xe_divmod {m n : Int} {q : Pos} (hm : X.mg "divmod" = none) (ha : XE X c Γ a m) (hb : XE X c Γ b n) (h : CDiv m n) (hg : Gl X "divmod" := by rfl) (hs : starEach [a, b] X.env = (false, eval a X.env) :: starEach [b] X.env := by rfl) (hs2 : starEach [b] X.env = [(false, eval b X.env)] := by rfl) (hpl : (backTo pos (starEach [b] X.env)).any (·.1) = false := by rfl) :
    XE X c Γ (.Call (.Name "divmod" q) [a, b] [] pos) (m / n, m % n) := by
  obtain ⟨ta, a1, a2⟩ := ha
  obtain ⟨tb, b1, b2⟩ := hb
  refine ⟨_, pe_callB call_divmod hg hm (by decide +kernel) (pa_cons a1 (pa_cons b1 pa_nil hs2) hs) (by decide) (by decide) hs hpl, fun F H σ fp E Q q => a2 F H σ fp E _ fun v F1 H1 E1 e1 n1 r1 => b2 F1 H1 σ fp E1 _ fun u F2 H2 E2 e2 n2 r2 => ?_⟩
  refine ⟨m, n, by rw [show v = V.int m from r1, show u = V.int n from r2], h, fun p hp => ?_⟩
  exact q _ _ _ (E2.lay hp) ((e1.trans e2).trans (Ex.new (E2.ff hp))) ((n1.trans n2).trans (Nw.lay hp)) ⟨p, _, _, rfl, st_of upd_same, rfl, rfl⟩
/-- the last three of four -/
theorem xe_t4bcd {α β γ δ : Type} [Py α] [Py β] [Py γ] [Py δ] {x : T4 α β γ δ} {lo : Option Expr} {p2 : Pos} (ha : XE X c Γ a x) (h1 : XP X c Γ lo (some 1)) : XE X c Γ (.Subscript a (.Slice lo none none p2) pos) (T3.mk x.b x.c x.d) := by
  obtain ⟨t, a1, a2⟩ := ha
  obtain ⟨u, b1, b2⟩ := h1
  obtain ⟨w, c1, c2⟩ := (xp_none : XP X c Γ none none)
  refine ⟨_, pe_slice sl_tup a1 b1 c1, fun F H σ fp E Q q => a2 F H σ fp E _ fun v F1 H1 E1 e1 g1 r1 => b2 F1 H1 σ fp E1 _ fun F2 H2 E2 e2 g2 => c2 F2 H2 σ fp E2 _ fun F3 H3 E3 e3 g3 => ?_⟩
  obtain ⟨p, v1, v2, v3, v4, rfl, r2, r3, r4, r5, r6⟩ := Py.mono (e2.trans e3) r1
  refine ⟨p, [v1, v2, v3, v4], rfl, E3.wd.fh.t r2, fun h => absurd (show HT.sIx 4 0 (some 1) = 0 from h.1) (by decide), fun l hl => ?_⟩
  have ef : Ex F3 (upd F3 l (.tup (cutV [v1, v2, v3, v4] (some 1) none))) := Ex.new (E3.ff hl)
  exact q _ _ _ (E3.lay hl) (((e1.trans e2).trans e3).trans ef) (((g1.trans g2).trans g3).trans (Nw.lay hl)) ⟨l, v2, v3, v4, rfl, st_of upd_same, Py.mono ef r4, Py.mono ef r5, Py.mono ef r6⟩
/-- a tuple of one, and one of three -/
theorem xe_cat13 {α β γ δ : Type} [Py α] [Py β] [Py γ] [Py δ] {x : α} {y : T3 β γ δ} (ha : XE X c Γ a (Tup.mk [x])) (hb : XE X c Γ b y) : XE X c Γ (.BinOp a .Add b pos) (T4.mk x y.a y.b y.c) :=
  xe_op op_catT (fun F H u v e h1 h2 Q q => by
    obtain ⟨p, vs, rfl, r1, r2⟩ := h1
    obtain ⟨p', v1, v2, v3, rfl, s1, s2, s3, s4⟩ := h2
    cases r2 with
    | cons r2 r3 =>
    cases r3
    refine ⟨p, p', _, _, rfl, rfl, e.t r1, e.t s1, by simp, sz _ (by simp), fun h => (by cases h), fun _ l hl => ?_⟩
    have hf : F l = none := by
      cases q : F l with
      | none => rfl
      | some o => rw [e _ _ q] at hl; cases hl
    refine q _ (upd F l _) _ (Ex.new hf) (fun z o hz => ?_) (Ex.new hl) (fun z hz => ?_) ⟨l, _, _, _, _, rfl, st_of upd_same, Py.mono (Ex.new hf) r2, Py.mono (Ex.new hf) s2, Py.mono (Ex.new hf) s3, Py.mono (Ex.new hf) s4⟩
    · by_cases hzl : z = l
      · subst hzl; rw [upd_same] at hz ⊢; exact hz
      · rw [upd_ne hzl] at hz ⊢; exact e _ _ hz
    · by_cases hzl : z = l
      · subst hzl; exact .inr hl
      · rw [upd_ne hzl] at hz; exact .inl hz) ha hb
/-- d[k], a frozen dict, k one of some keys -/
theorem xe_fkeyX {ky : Key} {ks : List Key} {ek : Expr} {z : υ} {y : ζ} (hu : X.A.units + 1 < cLine) (he : XE X c Γ e x) (ht : IsT τ x (.nd (.dK ks) ts)) (hk : XE X c Γ ek z) (hz : ∀ F v, rep X.K F v z → v = kV ky) (h : ∃ j, fIx ks ky = some j ∧ ts[j]? = some (.fz y)) (hns : NoSl ek := by exact fun _ _ => rfl) : XE X c Γ (.Subscript e ek pos) y := by
  obtain ⟨j, hf, hj⟩ := h
  exact xe_fkey hu he ht hk hz hf hj FzT.fz hns
/-- P[k] = e, k is new -/
theorem xs_dsetNew {ky : Key} {ks : List Key} {q1 : Pos} {z : υ} (g : α → OT) (hu : X.A.units + 1 < cLine) (he : XV X c Γ Γ' e u) (hp : XPl X c Γ' ep i p) (hk : XE X c Γ' ei z) (hz : ∀ F v, rep X.K F v z → v = kV ky) (hs : Γ'[i]? = some (.ow oa t)) (hg : t.get? p = some (.nd (.dK ks) ts)) (hf : fIx ks ky = none) (hnd : ks.Nodup) (hln : ks.length < 100000) (hy : t.put p (.nd (.dK (ks ++ [ky])) (ts ++ [u])) = g y)
    (hsw : swapsWith e (some (.Subscript ep ei q1)) pos.line X.env = pure false := by rfl) :
    XS X w c Γ (.Assign [.Subscript ep ei q1] e pos) (fun y : α => Γ'.set i (.ow oa (g y))) GB (Out.nx y : Out α B R.ρ) :=
  xs_dsetV (ky := ky) g hu he hp hk hz hs hg hnd hln (by unfold kPut; rw [hf]; exact hy) hsw
theorem xs_dsetSV {ky : Key} {ks : List Key} {j : Nat} {q1 : Pos} {z : υ} (g : α → OT) (hu : X.A.units + 1 < cLine) (he : XV X c Γ Γ' e u) (hp : XPl X c Γ' ep i p) (hk : XE X c Γ' ei z) (hz : ∀ F v, rep X.K F v z → v = kV ky) (hs : Γ'[i]? = some (.ow oa t)) (hg : t.get? p = some (.nd (.dK ks) ts)) (hf : fIx ks ky = some j) (hnd : ks.Nodup) (hln : ks.length < 100000) (hy : t.put p (.nd (.dK ks) (ts.set j u)) = g y)
    (hsw : swapsWith e (some (.Subscript ep ei q1)) pos.line X.env = pure false := by rfl) :
    XS X w c Γ (.Assign [.Subscript ep ei q1] e pos) (fun y : α => Γ'.set i (.ow oa (g y))) GB (Out.nx y : Out α B R.ρ) :=
  xs_dsetV (ky := ky) g hu he hp hk hz hs hg hnd hln (by unfold kPut; rw [hf]; exact hy) hsw
/-- list(d), a dict of numbers -/
theorem xn_listK {s : Ks} {pf : Pos} (hm : X.mg "list" = none) (he : XE X c Γ e s) (hc : X.calm = true := by rfl) (hg : Gl X "list" := by rfl) (hs : starEach [e] X.env = [(false, eval e X.env)] := by rfl) : XN X c Γ (.Call (.Name "list" pf) [e] [] pos) (ol s.l) := by
  obtain ⟨te, h1, h2⟩ := he
  refine ⟨_, pe_callTy (call_listD hc) hg hm (by decide +kernel) (pa_cons h1 pa_nil hs) (by decide) (by decide) hs rfl, fun F H σ fp E Q q => h2 F H σ fp E _ fun v F1 H1 E1 e1 n1 r => ?_⟩
  obtain ⟨ad, rfl, hF⟩ := fa_kvB r
  refine ⟨ad, _, rfl, .inl (E1.wd.fh _ _ hF), fun l hl => ?_⟩
  have em : (kvB s.l).map (fun kv => kV kv.1) = s.l.map V.int := by unfold kvB; rw [List.map_map]; rfl
  rw [em]
  exact new_li E E1 e1 n1 hl q
/-- P.update({k1: e1, k2: e2}), both are there -/
theorem xs_dupd2 {q1 q2 : Pos} {ks : List Key} {k1 k2 : Key} {j1 j2 : Nat} {z1 : υ} {z2 : ζ} (g : α → OT) (hp : XPl X c Γ ep i p) (he : XN X c Γ e (.nd (.dK [k1, k2]) [.fz z1, .fz z2])) (hs : Γ[i]? = some (.ow oa t)) (hg : t.get? p = some (.nd (.dK ks) ts)) (hnd : ks.Nodup) (hf1 : fIx ks k1 = some j1) (hf2 : fIx ks k2 = some j2) (hl : ks.length < 1000) (hy : t.put p (.nd (.dK ks) ((ts.set j1 (.fz z1)).set j2 (.fz z2))) = g y)
    (hst : starEach [e] X.env = [(false, eval e X.env)] := by rfl)
    (hsw : swapsWith (.Call (.Attribute ep "update" q1) [e] [] q2) none pos.line X.env = pure false := by rfl) (hab : attributeBase ep "update" X.env (eval ep X.env) = eval ep X.env := by rfl) (hln : (q1.endLine == q2.line) = true := by rfl)
    (hfew : ((backTo q2 (starEach [e] X.env)).all (fun x => !x.1) && (backToKw q2 (keywordEach [] X.env)).all (fun x => x.1.isSome) && decide (([e] : List Expr).length + ([] : List Keyword).length + (if ([] : List Keyword).isEmpty then 0 else 1) < 30)) = true := by rfl) :
    XS X w c Γ (.Expr (.Call (.Attribute ep "update" q1) [e] [] q2) pos) (fun y : α => Γ.set i (.ow oa (g y))) GB (Out.nx y : Out α B R.ρ) := by
  obtain ⟨te, h1, h2⟩ := he
  obtain ⟨tp, h3, h4⟩ := hp
  refine ⟨_, ps_expr (pe_bm PySem.F.plainAttrs_dict PySem.F.slot_dict_update PySem.F.type_dict_update mt_dupd h3 (pa_cons h1 pa_nil hst) hab hfew hln hst rfl) hsw, fun F H σ ⟨fp, E⟩ D q => h4 F H σ fp E _ fun vp v0 F1 H1 E1 e1 n1 g1 g2 => ?_⟩
  have typ : tyV X.K "dict" vp H1 := by
    obtain ⟨v0', a, o, vs, fps, k1, k2, k3, k4, k5, _⟩ := E1.node hs hg
    rw [g1] at k1; cases k1
    rw [g2] at k2; cases k2
    obtain ⟨_, rfl⟩ := k5
    exact .inr (.inr (.inl ⟨rfl, .inl ⟨_, k4⟩⟩))
  refine ⟨typ, h2 F1 H1 σ fp E1 _ fun v F2 H2 l E2 e2 n2 r1 hl1 => ?_⟩
  obtain ⟨v0', a, o, vs, fps, m1, m2, m3, m4, m5, m6, m7, m8, m9⟩ := E2.node hs hg
  have g2' := follow_ex n2.h g2
  rw [g1] at m1; cases m1
  rw [g2'] at m2; cases m2
  obtain ⟨hlen, rfl⟩ := m5
  obtain ⟨b, o2, ws, gps, rfl, rfl, hF, hH, ko, hc, nd2⟩ := r1.l3
  obtain ⟨hlen2, rfl⟩ := ko
  match ws, hlen2, gps, hc with
  | [w1, w2], _, [f1, f2], hc =>
  have o1 : OA X.K F2 H2 w1 f1 (.fz z1) := hc.head
  have o2 : OA X.K F2 H2 w2 f2 (.fz z2) := hc.tail.head
  cases o1.fz_nil
  cases o2.fz_nil
  have hj1 : j1 < ks.length := (List.getElem?_eq_some_iff.mp (fIx_get hf1)).1
  have hj2 : j2 < ks.length := (List.getElem?_eq_some_iff.mp (fIx_get hf2)).1
  have hv : fps.length = ks.length := by rw [m6.2.1, ← m6.1, ← hlen]
  have hab' : a ≠ b := fun h => by
    have hb := hl1 b (List.mem_cons_self ..)
    obtain ⟨v0'', a', o', vs', fps', n1', n2', _, n4', _⟩ := E1.node hs hg
    rw [g1] at n1'; cases n1'
    rw [g2] at n2'; cases n2'
    rw [h, hb] at n4'; cases n4'
  obtain ⟨x1, x2⟩ := nd_set (l := []) (j := j1) m7 (List.getElem?_eq_getElem (by rw [hv]; exact hj1)) List.nodup_nil (fun b hb => by cases hb)
  obtain ⟨y1, y2⟩ := nd_set (l := []) (j := j2) x1 (List.getElem?_eq_getElem (by rw [List.length_set, hv]; exact hj2)) List.nodup_nil (fun b hb => by cases hb)
  have em : mergeK (ks.zip vs) ([k1, k2].zip [w1, w2]) = ks.zip ((vs.set j1 w1).set j2 w2) := by
    show putK (putK (ks.zip vs) k1 w1) k2 w2 = _
    have e1 : putK (ks.zip vs) k1 w1 = ks.zip (vs.set j1 w1) := by
      unfold putK
      rw [any_fIx hlen, hf1]
      exact (if_pos rfl).trans (map_fIx hnd hlen hf1)
    rw [e1]
    unfold putK
    rw [any_fIx (by simpa using hlen), hf2]
    exact (if_pos rfl).trans (map_fIx hnd (by simpa using hlen) hf2)
  obtain ⟨fp', E4, _, _⟩ := m9 (.dK (mergeK (ks.zip vs) ([k1, k2].zip [w1, w2]))) (.dK ks) ((vs.set j1 w1).set j2 w2) ((fps.set j1 []).set j2 []) ((ts.set j1 (.fz z1)).set j2 (.fz z2)) ⟨by simpa using hlen, by rw [em]⟩ ((m6.set j1 o1).set j2 o2) y1 (fun x hx => by
    rcases y2 x hx with h | h
    · rcases x2 x h with h | h
      · exact .inl h
      · cases h
    · cases h)
  rw [hy] at E4
  refine ⟨a, b, _, _, rfl, rfl, hab', m4, hH, ?_, q σ F2 _ ⟨fp', E4⟩ (e1.trans e2)⟩
  rw [List.length_zip, List.length_zip]
  exact sz _ (by simp; omega)
  | [w1, w2], _, [], hc => exact absurd hc.2.1 (by simp)
  | [w1, w2], _, [f1], hc => exact absurd hc.2.1 (by simp)
  | [w1, w2], _, f1 :: f2 :: f3 :: fr, hc => exact absurd hc.2.1 (by simp)
end
section
variable {X : Cx} {w : Wx} {c : Cw} {Γ Γ' : List Slot} {B α : Type} {R : Rc} {GB : B → List Slot} {e ep ei : Expr} {u u0 T : OT} {y : α} {pos : Pos} {i m : Nat} {p : List Nat} {oa : Option Addr} {ts : List OT} {a : Addr}
/-- P[n] = e, where another name has what stood there -/
theorem xs_isetH {n : Int} {q1 : Pos} (g : α → OT) (he : XN X c Γ e u) (hp : XPl X c Γ ep i p) (hk : XE X c Γ ei n) (hs : Γ[i]? = some (.ow oa (T.put (p ++ [m]) (.hole a)))) (hg : T.get? p = some (.nd .lst ts)) (hm : ts[m]? = some u0) (hf : ixN ts.length n = some m) (hy : T.put p (.nd .lst (ts.set m u)) = g y)
    (ha : ∀ v, assign (.Subscript ep ei q1) X.env v = (do
      let ov ← holding [v] (eval ep X.env)
      let iv ← holding [v, ov] (eval ei X.env)
      standAt q1
      holding [v, ov, iv] (setItem ov iv v)
      release [v, ov, iv] []) := by exact fun _ => rfl)
    (hsw : swapsWithSole [.Subscript ep ei q1] e pos.line X.env = pure false := by rfl) (hw : swappedStores [.Subscript ep ei q1] e X.env = pure none := by rfl)
    (h1' : (assignEach [.Subscript ep ei q1] X.env).map (·.2) = [assign (.Subscript ep ei q1) X.env] := by rfl) :
    XS X w c Γ (.Assign [.Subscript ep ei q1] e pos) (fun y : α => Γ.set i (.ow oa (g y))) GB (Out.nx y : Out α B R.ρ) := by
  rw [put_nd hg hm] at hs
  refine xs_iset g he hp hk hs (get_put hg) (by rw [List.length_set]; exact hf) ?_ ha hsw hw h1'
  rw [put_put, List.set_set]; exact hy
end
end Fw
/-! lists of ranges, places that are counted up. -/
namespace Fw
open PySem L2 Py PyProof.Rows
section
variable {X : Cx} {w : Wx} {c : Cw} {Γ Γ' : List Slot} {S' B τ υ α : Type} [Py τ] [Py υ] {R : Rc} {GB : B → List Slot} {e ep ei a b d : Expr} {t u : OT} {x : τ} {y : α} {pos : Pos} {i : Nat} {p : List Nat} {oa : Option Addr} {k : Kind} {ts : List OT} {g : α → OT}
/-- an expression that makes a range with a step -/
def PRc (X : Cx) (e : Expr) (t : L2.St → Hp → (Int → Int → Int → Hp → Prop) → Prop) : Prop :=
  ∀ (pins : List (Addr × Obj)) (s : Shared) (σ : L2.St) (H : Hp) (Q : Int → Int → Int → Hp → Prop), Inv X pins σ H s → t σ H Q →
    wpAny (model X.prog X.w) X.A (eval e X.env) (fun x s' => ∃ r a b c t u v H', x = .ref r ∧ IsRange s'.heap r a b c t u v ∧ Inv X pins σ H' s' ∧ Q a b c H') X.xe s
def tRc3 (ta : TA) : L2.St → Hp → (Int → Int → Int → Hp → Prop) → Prop := fun σ H R => ta σ H fun vs H1 => ∃ (i j c : Int), vs = [.int i, .int j, .int c] ∧ RngOk i j c ∧ R i j c H1
theorem prc_3 {a b c : Expr} {ta : TA} {p pos : Pos} (hg : Gl X "range") (hm : X.mg "range" = none) (ha : PA X [a, b, c] ta)
    (hs : starEach [a, b, c] X.env = (false, eval a X.env) :: starEach [b, c] X.env := by rfl) (hpl : (backTo pos (starEach [b, c] X.env)).any (·.1) = false := by rfl) :
    PRc X (.Call (.Name "range" p) [a, b, c] [] pos) (tRc3 ta) := by
  intro pins s σ H R I h
  refine Call_ (ld_blt I hg hm boot_range (PyProof.Rows.callWith_type1 (thn (ha.run pos pins s σ H _ I h) fun us s1 ⟨vs, H1, I1, r1, q1⟩ => ?_) hs hpl))
  obtain ⟨i, j, k, e, ⟨c0, c1, c2, c3⟩, q⟩ := q1
  subst e
  cases r1 with
  | cons r rr =>
    cases rr with
    | cons r' rr =>
      cases rr with
      | cons r'' rr =>
        cases rr
        obtain ⟨t, rfl⟩ := r
        obtain ⟨t', rfl⟩ := r'
        obtain ⟨t'', rfl⟩ := r''
        refine call_range_3 c0 ?_ (.inl (PyProof.noPylong_small c1))
        exact ⟨_, i, j, k, t, t', t'', H1, rfl, IsRange.new _ _ _ _ _ _ _, I1.kept (t' := s1.toks) fun b o e => Heap.get?_push_of_some _ e, q⟩
theorem vals_izsC {a b d : Int} {acc : Array Value} {n : Nat} (hn : Builtin.Range.rangeSize a b d = n) (h : ItemsOf (fun i v => ∃ t, v = .int (a + i * d) t) acc n) : Vals ((izsC a b d).map V.int) acc.toList := by
  have e : acc.toList.length = n := by rw [Array.length_toList]; exact h.1
  unfold izsC
  rw [List.map_map, hn, show ((n : Int)).toNat = n from rfl, ← e]
  refine vals_of_get acc.toList _ fun j u hj => ?_
  obtain ⟨t, rfl⟩ := h.2 j u (by rw [← hj, Array.getElem?_toList])
  exact ⟨t, rfl⟩
def tLstRc (te : L2.St → Hp → (Int → Int → Int → Hp → Prop) → Prop) : TE := fun σ H Q => te σ H fun a b d H1 => RngOk a b d ∧ (izsC a b d).length ≤ 100000 ∧ ∀ q, H1 q = none → Q (.ref q) (upd H1 q (.lst ((izsC a b d).map V.int)))
theorem pe_listRc {te : L2.St → Hp → (Int → Int → Int → Hp → Prop) → Prop} {p pos : Pos} (hc : X.calm = true) (hg : Gl X "list") (hm : X.mg "list" = none) (he : PRc X e te) (na : starEach [e] X.env = (false, eval e X.env) :: starEach [] X.env := by rfl) : PE X (.Call (.Name "list" p) [e] [] pos) (tLstRc te) := by
  refine ⟨fun pins s σ H Q I h => ?_⟩
  refine Call_ (ld_blt I hg hm boot_list (PyProof.Rows.callWith_type1 (args_cons (thn (he pins s σ H _ I h) fun x s1 ⟨r, a, b, d, t, u, v, H1, ex, hr, I1, ok, hl, q⟩ => args_nil ?_) na) na))
  subst ex
  obtain ⟨c0, c1, c2, c3⟩ := ok
  have hl2 : (izsC a b d).length = (Builtin.Range.rangeSize a b d).toNat := by unfold izsC; rw [List.length_map, List.length_range]
  refine call_list_range (n := (Builtin.Range.rangeSize a b d).toNat) (I1.ok.hd hc) hr c2 c3 (by omega) fun h' tk acc c' hk e' hi => ?_
  refine ⟨.ref s1.heap.objs.size, upd H1 s1.heap.objs.size (.lst ((izsC a b d).map V.int)), I1.laid hk (Nat.le_refl _) (show ObjOk X.prog X.w _ _ _ (.lst ((izsC a b d).map V.int)) from ⟨?_, acc.toList, c', vals_izsC c3 hi, ?_⟩), rfl, q _ (I1.hok.fresh (Nat.le_refl _))⟩
  · rw [List.length_map, sizeLine_eq]; omega
  · rw [Array.toArray_toList]; exact e'
/-- list(range(a, b, d)) -/
theorem xn_listR3 {p1 p2 pos2 : Pos} {x y z : Int} (hL : X.mg "list" = none) (hm : X.mg "range" = none) (ha : XE X c Γ a x) (hb : XE X c Γ b y) (hd : XE X c Γ d z) (h : RngOk x y z) (hn : (izsC x y z).length ≤ 100000) (hc : X.calm = true := by rfl) (hg : Gl X "range" := by rfl) (hgl : Gl X "list" := by rfl)
    (hs : starEach [a, b, d] X.env = (false, eval a X.env) :: starEach [b, d] X.env := by rfl) (hs1 : starEach [b, d] X.env = (false, eval b X.env) :: starEach [d] X.env := by rfl) (hs2 : starEach [d] X.env = [(false, eval d X.env)] := by rfl) (hpl : (backTo pos2 (starEach [b, d] X.env)).any (·.1) = false := by rfl)
    (hs3 : starEach [(.Call (.Name "range" p2) [a, b, d] [] pos2 : Expr)] X.env = [(false, eval (.Call (.Name "range" p2) [a, b, d] [] pos2) X.env)] := by rfl) :
    XN X c Γ (.Call (.Name "list" p1) [.Call (.Name "range" p2) [a, b, d] [] pos2] [] pos) (ol (izsC x y z)) := by
  obtain ⟨t, h1, h2⟩ := ha
  obtain ⟨u, h3, h4⟩ := hb
  obtain ⟨v, h5, h6⟩ := hd
  refine ⟨_, pe_listRc hc hgl hL (prc_3 hg hm (pa_cons h1 (pa_cons h3 (pa_cons h5 pa_nil hs2) hs1) hs) hs hpl) hs3, fun F H σ fp E Q q => h2 F H σ fp E _ fun v F' H' E' e1 n1 r => h4 F' H' σ fp E' _ fun w F2 H2 E2 e3 n3 r2 => h6 F2 H2 σ fp E2 _ fun w3 F3 H3 E3 e5 n5 r3 => ?_⟩
  exact ⟨x, y, z, by rw [show v = V.int x from r, show w = V.int y from r2, show w3 = V.int z from r3], h, h, hn, fun l hl => new_li E E3 ((e1.trans e3).trans e5) ((n1.trans n3).trans n5) hl q⟩
/-- list(range(a, b)) -/
theorem xn_listR2 {p1 p2 pos2 : Pos} {x y : Int} (hL : X.mg "list" = none) (hm : X.mg "range" = none) (ha : XE X c Γ a x) (hb : XE X c Γ b y) (h : -(2 ^ 62) ≤ x ∧ x < 2 ^ 62 ∧ -(2 ^ 62) ≤ y ∧ y < 2 ^ 62) (hn : (izs x (y - x).toNat).length ≤ 100000) (hc : X.calm = true := by rfl) (hg : Gl X "range" := by rfl) (hgl : Gl X "list" := by rfl)
    (hs : starEach [a, b] X.env = (false, eval a X.env) :: starEach [b] X.env := by rfl) (hs1 : starEach [b] X.env = [(false, eval b X.env)] := by rfl) (hpl : (backTo pos2 (starEach [b] X.env)).any (·.1) = false := by rfl)
    (hs3 : starEach [(.Call (.Name "range" p2) [a, b] [] pos2 : Expr)] X.env = [(false, eval (.Call (.Name "range" p2) [a, b] [] pos2) X.env)] := by rfl) :
    XN X c Γ (.Call (.Name "list" p1) [.Call (.Name "range" p2) [a, b] [] pos2] [] pos) (ol (izs x (y - x).toNat)) := by
  obtain ⟨t, h1, h2⟩ := ha
  obtain ⟨u, h3, h4⟩ := hb
  refine ⟨_, pe_listRg hc hgl hL (prg_2 hg hm h1 h3 hs hs1 hpl) hs3, fun F H σ fp E Q q => h2 F H σ fp E _ fun v F' H' E' e1 n1 r => h4 F' H' σ fp E' _ fun w F2 H2 E2 e3 n3 r2 => ?_⟩
  rw [izs_len] at hn
  refine ⟨x, y, r, r2, ⟨h.1, h.2.1, h.2.2.1, h.2.2.2, by omega⟩, fun l hl => ?_⟩
  have : rgV x y = (izs x (y - x).toNat).map V.int := by unfold rgV izs; rw [List.map_map]; rfl
  rw [this]
  exact new_li E E2 (e1.trans e3) (n1.trans n3) hl q
/-- P.f op= e, a number -/
theorem xs_faug {op : Operator} {rd : V → V → Hp → VK → Prop} {f : Str} {C : Addr} {ns : List Str} {j : Nat} {pf : Pos} {x y z : Int} {u : Int} (hop : InOp X op rd) (hrd : ∀ H Q, Q (.int z) H → rd (.int x) (.int y) H Q) (g : α → OT) {yy : α} (he : XE X c Γ e y) (hp : XPl X c Γ ep i p) (hs : Γ[i]? = some (.ow oa t)) (hg : t.get? p = some (.nd (.ins C ns) ts)) (hf : fIx ns f = some j) (hx : ts[j]? = some (.fz x)) (hl : ns.length < 1000) (hy : t.put p (.nd (.ins C ns) (ts.set j (.fz z))) = g yy) :
    XS X w c Γ (.AugAssign (.Attribute ep f pf) op e pos) (fun y : α => Γ.set i (.ow oa (g y))) GB (Out.nx yy : Out α B R.ρ) := by
  obtain ⟨te, h1, h2⟩ := he
  obtain ⟨tp, h3, h4⟩ := hp
  refine ⟨_, ps_fldaug h3 h1 hop, fun F H σ ⟨fp, E⟩ D q => h4 F H σ fp E _ fun vp v0 F1 H1 E1 e1 n1 g1 g2 => ?_⟩
  obtain ⟨v0', a, o, vs, fps, k1, k2, k3, k4, k5, k6, _⟩ := E1.node hs hg
  rw [g1] at k1; cases k1
  rw [g2] at k2; cases k2
  have k5' := k5
  obtain ⟨⟨hc, hn⟩, hlen, dx, rfl⟩ := k5
  obtain ⟨vj, lj, j1, j2, j3⟩ := k6.get hx
  have r0 : vj = .int x := by cases j3 with | fz r => exact r
  refine ⟨a, C, dx, _, vj, rfl, k4, hc, hn f (fIx_mem hf), lookup_zip hf j1, h2 F1 H1 σ fp E1 _ fun v2 F2 H2 E2 e2 n2 r2 => ?_⟩
  rw [r0, show v2 = V.int y from r2]
  refine hrd _ _ ?_
  have g2' := follow_ex n2.h g2
  obtain ⟨v0', a', o', vs', fps', m1, m2, m3, m4, m5, m6, m7, m8, m9⟩ := E2.node hs hg
  rw [g1] at m1; cases m1
  rw [g2'] at m2; cases m2
  obtain ⟨⟨hc', hn'⟩, hlen', dx', rfl⟩ := m5
  obtain ⟨vj', lj', j1', j2', j3'⟩ := m6.get hx
  have hjl : j < fps'.length := (List.getElem?_eq_some_iff.mp j2').1
  obtain ⟨q1, q2⟩ := nd_set (l := []) (j := j) m7 j2' List.nodup_nil (fun b hb => (nomatch hb))
  obtain ⟨fp', E3, _, _⟩ := m9 (.ins C dx' (putF f (.int z) (ns.zip vs'))) (.ins C ns) (vs'.set j (.int z)) (fps'.set j []) (ts.set j (.fz z)) ⟨⟨hc', hn'⟩, by simpa using hlen', dx', by rw [putF_zip hlen' hf]⟩ (m6.set j (.fz rfl)) q1 (fun b hb => (q2 b hb).imp id (fun h => (nomatch h)))
  rw [hy] at E3
  exact ⟨dx', _, m4, by rw [List.length_zip]; omega, q σ F2 _ ⟨fp', E3⟩ (e1.trans e2)⟩
theorem xs_faugA {f : Str} {C : Addr} {ns : List Str} {j : Nat} {pf : Pos} {x d : Int} {y : α} (g : α → OT) (he : XE X c Γ e d) (hp : XPl X c Γ ep i p) (hs : Γ[i]? = some (.ow oa t)) (hg : t.get? p = some (.nd (.ins C ns) ts)) (hf : fIx ns f = some j) (hx : ts[j]? = some (.fz x)) (hl : ns.length < 1000) (hy : t.put p (.nd (.ins C ns) (ts.set j (.fz (x + d)))) = g y) :
    XS X w c Γ (.AugAssign (.Attribute ep f pf) .Add e pos) (fun y : α => Γ.set i (.ow oa (g y))) GB (Out.nx y : Out α B R.ρ) :=
  xs_faug (u := 0) in_add (fun H Q q => ⟨x, d, rfl, rfl, q⟩) g he hp hs hg hf hx hl hy
theorem xs_faugS {f : Str} {C : Addr} {ns : List Str} {j : Nat} {pf : Pos} {x d : Int} {y : α} (g : α → OT) (he : XE X c Γ e d) (hp : XPl X c Γ ep i p) (hs : Γ[i]? = some (.ow oa t)) (hg : t.get? p = some (.nd (.ins C ns) ts)) (hf : fIx ns f = some j) (hx : ts[j]? = some (.fz x)) (hl : ns.length < 1000) (hy : t.put p (.nd (.ins C ns) (ts.set j (.fz (x - d)))) = g y) :
    XS X w c Γ (.AugAssign (.Attribute ep f pf) .Sub e pos) (fun y : α => Γ.set i (.ow oa (g y))) GB (Out.nx y : Out α B R.ρ) :=
  xs_faug (u := 0) in_sub (fun H Q q => ⟨x, d, rfl, rfl, q⟩) g he hp hs hg hf hx hl hy
end
section
variable {X : Cx} {w : Wx} {c : Cw} {Γ : List Slot} {S S' B : Type} {R : Rc} {GB : B → List Slot} {G : S → List Slot} {G' : S' → List Slot} {st : Stmt} {rest : List Stmt} {s : S'} {kV : S' → Prop} {n : S → R.ρ}
/-- .. with what is asked of the rest -/
theorem xo_nxtv {k : S' → Out S B R.ρ} (h : XS X w c Γ st G' GB (Out.nx s : Out S' B R.ρ)) (hv : bnd s kV) (hr : ∀ s', s' = s → kV s' → XO X w c (G' s') rest G GB (k s')) : XO X w c Γ (st :: rest) G GB (bnd s k) := xo_nxt h fun s' e => hr s' e (bnd_at hv e)
theorem xn_nxtv {kx : S' → S} (h : XS X w c Γ st G' GB (Out.nx s : Out S' B R.ρ)) (hv : bnd s kV) (hr : ∀ s', s' = s → kV s' → XO X w c (G' s') rest G GB (Out.nx (kx s') : Out S B R.ρ)) : XO X w c Γ (st :: rest) G GB (Out.nx (bnd s kx) : Out S B R.ρ) := xn_nxt h fun s' e => hr s' e (bnd_at hv e)
theorem xf_nxtv {k : S' → R.ρ} (h : XS X w c Γ st G' (fun e : Empty => e.elim) (Out.nx s : Out S' Empty R.ρ)) (hv : bnd s kV) (hr : ∀ s', s' = s → kV s' → XF X w c (G' s') rest n G (k s')) : XF X w c Γ (st :: rest) n G (bnd s k) := xf_nxt h fun s' e => hr s' e (bnd_at hv e)
end
section
variable {X : Cx} {c : Cw} {Γ : List Slot} {τ : Type} [Py τ] {a b : Expr} {pos : Pos}
/-- two tuples of like things, one behind the other -/
theorem xe_catT {x y : Tup τ} (ha : XE X c Γ a x) (hb : XE X c Γ b y) (h : x.l.length + y.l.length ≤ 100000 ∧ x.l ≠ []) : XE X c Γ (.BinOp a .Add b pos) (Tup.mk (x.l ++ y.l)) :=
  xe_op op_catT (fun F H u v e h1 h2 Q q => by
    obtain ⟨p, vs, rfl, r1, r2⟩ := h1
    obtain ⟨p', ws, rfl, s1, s2⟩ := h2
    have l1 := r2.length
    have l2 := s2.length
    refine ⟨p, p', _, _, rfl, rfl, e.t r1, e.t s1, fun z => h.2 (by subst z; exact List.eq_nil_of_length_eq_zero (by simpa using l1.symm)), by rw [sizeLine_eq]; omega, fun z => ?_, fun hn l hl => ?_⟩
    · have : y.l = [] := by subst z; exact List.eq_nil_of_length_eq_zero (by simpa using l2.symm)
      refine q _ F H (Ex.refl _) e (Ex.refl _) (fun _ h => .inl h) ⟨p, vs, rfl, r1, ?_⟩
      rw [this, List.append_nil]; exact r2
    · have hf : F l = none := by
        cases q : F l with
        | none => rfl
        | some o => rw [e _ _ q] at hl; cases hl
      refine q _ (upd F l (.tup (vs ++ ws))) _ (Ex.new hf) (fun z o hz => ?_) (Ex.new hl) (fun z hz => ?_) ⟨l, vs ++ ws, rfl, st_of upd_same, ?_⟩
      · by_cases hzl : z = l
        · subst hzl; rw [upd_same] at hz ⊢; exact hz
        · rw [upd_ne hzl] at hz ⊢; exact e _ _ hz
      · by_cases hzl : z = l
        · subst hzl; exact .inr hl
        · rw [upd_ne hzl] at hz; exact .inl hz
      · exact (Reps.mono (Ex.new hf) r2).app (Reps.mono (Ex.new hf) s2)) ha hb
end
end Fw
/-! dicts with numbers as keys and frozen values: shown, updated, asked with a value for want of one. -/
namespace Fw
open PySem L2 Py PyProof.Rows
/-- a dict from whole numbers to frozen data, its pairs in order -/
structure Di (τ : Type) where
  l : List (Int × τ)
instance {τ : Type} : Inhabited (Di τ) := ⟨⟨[]⟩⟩
@[reducible] def Di.ot {τ : Type} [Py τ] (d : Di τ) : OT := .nd (.dK (d.l.map fun z => Sum.inl z.1)) (d.l.map fun z => .fz z.2)
instance {τ : Type} [Py τ] : Py (Di τ) := pyOf Di.ot
def diGet {τ : Type} (k : Int) (z : τ) : List (Int × τ) → τ
  | [] => z
  | x :: r => if x.1 = k then x.2 else diGet k z r
section
variable {X : Cx} {w : Wx} {c : Cw} {Γ Γ' : List Slot} {S S' B τ υ α : Type} [Py τ] [Py υ] {R : Rc} {G : S → List Slot} {GB : B → List Slot} {o : Out S B R.ρ} {pos : Pos} {rest : List Stmt} {e d a ep ei : Expr} {k : Bool} {t u : OT} {ts us : List OT} {i : Nat} {p : List Nat} {oa : Option Addr}
theorem xpp_consI {ke : Expr} {keys : List (Option Expr)} {vals : List Expr} {s : Int} {ks : List Key} (hk : XE X c Γ ke s) (h : XN X c Γ e t) (hr : XPp X c Γ pos keys vals ks ts) : XPp X c Γ pos (some ke :: keys) (e :: vals) (.inl s :: ks) (t :: ts) := by
  obtain ⟨tk, k1, k2⟩ := hk
  obtain ⟨te, h1, h2⟩ := h
  obtain ⟨tr, h3, h4⟩ := hr
  refine ⟨_, pps_cons k1 h1 h3, fun F H σ fp E Q q => k2 F H σ fp E _ fun kv F0 H0 E0 e0 n0 r0 => h2 F0 H0 σ fp E0 _ fun v F1 H1 l E1 e1 n1 r1 hl => h4 F1 H1 σ fp E1 _ fun vs fps F2 H2 E2 e2 n2 r2 nd hf => ?_⟩
  have r1' : OA X.K F2 H2 v l t := r1.grow e2 fun b hb => by
    obtain ⟨d1, u, d2⟩ := r1.dom b hb
    exact ⟨Nw.none n2 d1 (by rw [d2]; simp), (n2.h _ _ d2).trans d2.symm⟩
  have hd : fps.flatten.Nodup ∧ ∀ b ∈ l, b ∉ fps.flatten := ⟨nd, fun b hb hc => by
    obtain ⟨_, u, d⟩ := r1.dom b hb
    rw [hf b hc] at d; cases d⟩
  have hh : ∀ b, H0 b = none → H b = none := fun b hb => by
    cases z : H b with
    | none => rfl
    | some o => rw [n0.h _ _ z] at hb; cases hb
  have hv : kv = V.int s := r0
  have := q (v :: vs) (l :: fps) F2 H2 E2 ((e0.trans e1).trans e2) ((n0.trans n1).trans n2) (.cons r1' r2) (by
    rw [List.flatten_cons]
    exact List.nodup_append.mpr ⟨r1.nodup, nd, fun b hb c hc z => by subst z; exact hd.2 b hb hc⟩) (fun b hb => by
    rw [List.flatten_cons] at hb
    rcases List.mem_append.mp hb with g | g
    · exact hh b (hl b g)
    · refine hh b ?_
      cases z : H0 b with
      | none => rfl
      | some o => have := hf b g; rw [n1.h _ _ z] at this; cases this)
  rw [hv]
  exact this
/-- the values of a dict of frozen data -/
theorem l3_di {K : Fg} {F H : Hp} {vs : List V} {fps : List (List Addr)} : ∀ {l : List (Int × τ)}, L3 (OA K F H) vs fps (l.map fun z => OT.fz z.2) → Reps K F vs (l.map Prod.snd) := by
  induction vs generalizing fps with
  | nil =>
    intro l r
    have h1 := r.1
    cases l with
    | nil => exact .nil
    | cons => simp at h1
  | cons v vs ih =>
    intro l r
    have h1 := r.1; have h2 := r.2.1
    cases l with
    | nil => simp at h1
    | cons x l =>
      cases fps with
      | nil => simp at h2
      | cons f fps =>
        rw [List.map_cons] at r
        refine .cons ?_ (ih r.tail)
        have := r.head
        cases this with
        | fz q => exact q
theorem di_val {K : Fg} {F : Hp} {n : Int} {z : V} {y : τ} (hz : rep K F z y) : ∀ {vs : List V} {l : List (Int × τ)}, Reps K F vs (l.map Prod.snd) → rep K F ((valV ((l.map fun z => (Sum.inl z.1 : Key)).zip vs) (.inl n)).getD z) (diGet n y l)
  | [], [], _ => hz
  | v :: vs, x :: l, .cons r t => by
    unfold diGet
    show rep K F ((valV ((Sum.inl x.1, v) :: ((l.map fun z => (Sum.inl z.1 : Key)).zip vs)) (.inl n)).getD z) _
    unfold valV
    rw [List.find?_cons]
    by_cases h : x.1 = n
    · rw [if_pos h]
      have : decide ((Sum.inl x.1 : Key) = Sum.inl n) = true := by rw [h]; simp
      simp only [this]
      exact r
    · rw [if_neg h]
      have : decide ((Sum.inl x.1 : Key) = Sum.inl n) = false := by simp [h]
      simp only [this]
      exact di_val hz t
theorem xe_diget {n : Int} {s : Di τ} {y : τ} {q1 q2 : Pos} (hu : X.A.units + 1 < cLine) (hp : XPl X c Γ ep i p) (hk : XE X c Γ ei n) (hd : XE X c Γ d y) (hs : Γ[i]? = some (.ow oa t)) (hg : t.get? p = some s.ot)
    (m : M2 X ep "get" q1 ei d q2 := by exact ⟨rfl, rfl, rfl, rfl⟩) :
    XE X c Γ (.Call (.Attribute ep "get" q1) [ei, d] [] q2) (diGet n y s.l) := by
  obtain ⟨tp, h3, h4⟩ := hp
  obtain ⟨ti, h5, h6⟩ := hk
  obtain ⟨td, h7, h8⟩ := hd
  refine ⟨_, pe_dget2 hu h3 h5 h7 m, fun F H σ fp E Q q => h4 F H σ fp E _ fun vp v0 F1 H1 E1 e1 n1 g1 g2 => ?_⟩
  have typ : ∃ ad, vp = .ref ad ∧ IsD H1 ad := by
    obtain ⟨v0', a, o, vs, fps, k1, k2, k3, k4, k5, _⟩ := E1.node hs hg
    rw [g1] at k1; cases k1
    rw [g2] at k2; cases k2
    obtain ⟨_, rfl⟩ := k5
    exact ⟨a, rfl, .inl ⟨_, .inl k4⟩⟩
  obtain ⟨ad, rfl, isd⟩ := typ
  refine ⟨ad, rfl, isd, h6 F1 H1 σ fp E1 _ fun v F2 H2 E2 e2 n2 r2 => h8 F2 H2 σ fp E2 _ fun z F3 H3 E3 e3 n3 r3 => ?_⟩
  obtain ⟨v0', a, o, vs, fps, k1, k2, k3, k4, k5, k6, k7, k8, k9⟩ := E3.node hs hg
  have g2' := follow_ex (n2.trans n3).h g2
  rw [g1] at k1; cases k1
  rw [g2'] at k2; cases k2
  obtain ⟨hlen, rfl⟩ := k5
  have hv : v = V.int n := r2
  subst hv
  exact ⟨_, DGet.k (k := .inl n) k4, q _ F3 H3 E3 ((e1.trans e2).trans e3) ((n1.trans n2).trans n3) (di_val r3 (l3_di k6))⟩
theorem xs_diupd {q1 q2 : Pos} {s s2 : Di τ} (g : α → OT) {y : α} (hp : XPl X c Γ ep i p) (he : XN X c Γ e s2.ot) (hs : Γ[i]? = some (.ow oa t)) (hg : t.get? p = some s.ot) (hk : ((s.l ++ s2.l).map Prod.fst).Nodup ∧ (s.l ++ s2.l).length ≤ 100000) (hy : t.put p (Di.ot ⟨s.l ++ s2.l⟩) = g y)
    (hst : starEach [e] X.env = [(false, eval e X.env)] := by rfl)
    (hsw : swapsWith (.Call (.Attribute ep "update" q1) [e] [] q2) none pos.line X.env = pure false := by rfl) (hab : attributeBase ep "update" X.env (eval ep X.env) = eval ep X.env := by rfl) (hln : (q1.endLine == q2.line) = true := by rfl)
    (hfew : ((backTo q2 (starEach [e] X.env)).all (fun x => !x.1) && (backToKw q2 (keywordEach [] X.env)).all (fun x => x.1.isSome) && decide (([e] : List Expr).length + ([] : List Keyword).length + (if ([] : List Keyword).isEmpty then 0 else 1) < 30)) = true := by rfl) :
    XS X w c Γ (.Expr (.Call (.Attribute ep "update" q1) [e] [] q2) pos) (fun y : α => Γ.set i (.ow oa (g y))) GB (Out.nx y : Out α B R.ρ) := by
  refine xs_dupd g hp he hs hg ?_ (by have := hk.2; rw [← List.map_append, List.length_map]; exact this) ?_ hst hsw hab hln hfew
  · have := hk.1
    rw [← List.map_append]
    unfold List.Nodup at this ⊢
    rw [List.pairwise_map] at this ⊢
    exact this.imp fun h1 h2 => h1 (Sum.inl.inj h2)
  · rw [← List.map_append, ← List.map_append]; exact hy
end
end Fw
/-! errors: defs that always raise, try with one except. -/
namespace Fw
open PySem L2 Py PyProof.Rows
/-- a class of the module whose instances may be raised, over ValueError -/
structure XcF (K : Fg) (mg : Str → Option Value) (n : Str) : Prop where
  ex : ∃ C, mg n = some (.ref C) ∧ PySem.W.excIn K C [.type "ValueError", .type "Exception", .type "BaseException", .type "object"] "ValueError.__new__" = true ∧ PySem.W.keepIn K (.ref C) = true ∧
    PySem.W.subIn K (.ref C) (.type "BaseException") = some true ∧ PySem.W.typeIn K (.ref C) = some (.type "type") ∧ ExcC K C
/-- an error of the class n is caught by 'except m' -/
structure CaF (K : Fg) (mg : Str → Option Value) (n m : Str) : Prop where
  ex : ∃ C D, mg n = some (.ref C) ∧ mg m = some (.ref D) ∧ PySem.W.exmOne K (.ref C) (.ref D) = some true
/-- isinstance of an error of the class n and the class m -/
structure KiF (K : Fg) (mg : Str → Option Value) (n m : Str) (b : Bool) : Prop where
  ex : ∃ C D, mg n = some (.ref C) ∧ mg m = some (.ref D) ∧ PySem.W.kitOne K (.ref C) (.ref D) = some b
/-- .. and a built-in class -/
structure KtF (K : Fg) (mg : Str → Option Value) (n : Str) (m : String) (b : Bool) : Prop where
  ex : ∃ C, mg n = some (.ref C) ∧ PySem.W.kitOne K (.ref C) (.type m) = some b
/-- an error that was caught: where it lies -/
structure Exn where
  a : Addr
instance : Py Exn := ⟨fun _ _ v x => v = .ref x.a, fun _ h => h⟩
/-- an expression that raises an error of the class n -/
def XR (X : Cx) (W : WX) (c : Cw) (Γ : List Slot) (e : Expr) (n : Str) : Prop := ∃ te, PE X e te ∧
  ∀ F H σ fp, EnvD X.K c F H σ Γ fp → ∀ Q : VK, (∀ C F' H', X.mg n = some (.ref C) → EnvD X.K c F' H' σ Γ fp → Ex F F' → W (.ref C) none σ H') → te σ H Q
theorem PSs.imp {X : Cx} {sts : List Stmt} {t u : TS} (h : PSs X sts t) (k : ∀ D σ H, u D σ H → t D σ H) : PSs X sts u := ⟨fun pins s σ H D I q => h.run pins s σ H D I (k D σ H q)⟩
theorem weak_nos : ∀ {Γ : List Slot} {k : Nat}, Γ.length = k → Weak Γ (List.replicate k .no)
  | [], _, h => by subst h; exact .nil
  | s :: r, _, h => by subst h; exact .no (weak_nos rfl)
section
variable {X : Cx} {w : Wx} {W : WX} {c : Cw} {Γ Γ' : List Slot} {S S' B τ υ ζ : Type} [Py τ] [Py υ] [Py ζ] {R : Rc} {G : S → List Slot} {GB : B → List Slot} {a b d e : Expr} {es : List Expr} {x : τ} {y : υ} {pos : Pos}
variable {α ρ : Type} {D0 : α → List ArgD} {pre : α → Prop} {D1 : ρ → List (Option OT)} {RS : ρ → Slot} {xn : ρ → Option Str} {m : α → ρ} {n nm : Str} {ps : List Str} {lv lj : Nat} {r : α} {as : List CA} {pf : Pos}
theorem xr_call (G : Fk X.prog X.w X.K X.mg X.base (L2.CX X.prog X.w) n ps [] lv (SpG X.K X.mg D0 pre D1 RS xn m)) (hr : Room lj X.A) (hj : lv ≤ lj) (tk : Takes X W) (ha : XAr X c Γ (e :: es) as) (hp : pre r) (hx : xn (m r) = some nm) (hD : as.map CA.d = D0 r := by rfl) (hz : caFz as = true := by rfl)
    (hgl : Gl X n := by rfl) (hdb : (n == ("__debug__" : Str)) = false := by decide) (hs : starEach (e :: es) X.env = (false, eval e X.env) :: starEach es X.env := by rfl) (hb : ((backTo pos (starEach es X.env)).any fun x => x.fst) = false := by rfl) :
    XR X W c Γ (.Call (.Name n pf) (e :: es) [] pos) nm := by
  obtain ⟨f, fd, g1, g2, g3, g4⟩ := G.ex
  obtain ⟨t, h1, h2⟩ := ha
  refine ⟨_, pe_callS (E := WE W) g4 (hr.mono hj) hgl g1 g2 g3 (fun σ => passAt tk σ) h1 hdb hs hb, fun F H σ fp E Q q => h2 F H σ fp E _ fun vs F1 H1 E1 e1 x1 k => ?_⟩
  have hn := caFz_ix hz
  have nd : (as.filterMap CA.ix).Nodup := by
    rw [List.filterMap_eq_nil_iff.mpr hn]; exact List.nodup_nil
  obtain ⟨l2, z1, z2, z3, z4⟩ := call_env E1 k (caFz_ok hz) nd
  have e2 := z3 hn
  subst e2
  refine ⟨F1, _, r, adr vs, by rw [← hD]; exact z1, hp, (fun h => by rw [hx] at h; cases h), fun n' h C F' H' hC wd => ?_⟩
  rw [hx] at h
  cases h
  have eh : Ex H1 H' := fun b o h => wd.keep b o (fun ⟨_, h⟩ => by cases h) h
  have en : ∀ b, F' b ≠ none → F1 b ≠ none ∨ H1 b = none := fun b hb => (wd.new b hb).imp id (fun h => h.elim (fun ⟨_, h⟩ => by cases h) id)
  exact q C F' H' hC (E1.grow wd.f0 wd.fh eh en) (e1.trans wd.f0)
/-- raise C('..') -/
theorem xs_raise {mm : Str} {j : Nat} {p p2 q1 : Pos} {rr : R.ρ} (T : XcF X.K X.mg n) (tk : Takes X w.W) (hx : R.xn rr = some n) (hw : Weak Γ w.Γ) (hc : X.calm = true := by rfl) (hg : Gl X n := by rfl) (hdb : (n == ("__debug__" : Str)) = false := by decide) :
    XS X w c Γ (.Raise (some (.Call (.Name n p) [.Constant (.str mm) j p2] [] q1)) none pos) G GB (Out.rt rr : Out S B R.ρ) := by
  obtain ⟨C, t1, t2, t3, t4, t5, t6⟩ := T.ex
  refine ⟨_, ps_raise hc tk (pmk_own PySem.F.excBase_ValueError t2 t1 t3 (raises_own t4 t5) hg hdb), fun F H σ E D q => ?_⟩
  exact q.2 n hx C σ F H t1 (E.weak hw) (Ex.refl _)
/-- a call that raises, as a statement -/
theorem xs_exprX {rr : R.ρ} (h : XR X w.W c Γ e n) (hx : R.xn rr = some n) (hw : Weak Γ w.Γ) (hs : swapsWith e none pos.line X.env = pure false := by rfl) : XS X w c Γ (.Expr e pos) G GB (Out.rt rr : Out S B R.ρ) := by
  obtain ⟨t, h1, h2⟩ := h
  exact ⟨_, ps_expr h1 hs, fun F H σ ⟨fp, E⟩ D q => h2 F H σ fp E _ fun C F' H' hC E' e1 => q.2 n hx C σ F' H' hC (Env.weak ⟨fp, E'⟩ hw) e1⟩
theorem xs_retX {rr : R.ρ} (h : XR X w.W c Γ e n) (hx : R.xn rr = some n) (hw : Weak Γ w.Γ) : XS X w c Γ (.Return (some e) pos) G GB (Out.rt rr : Out S B R.ρ) := by
  obtain ⟨t, h1, h2⟩ := h
  exact ⟨_, ps_ret h1, fun F H σ ⟨fp, E⟩ D q => h2 F H σ fp E _ fun C F' H' hC E' e1 => q.2 n hx C σ F' H' hC (Env.weak ⟨fp, E'⟩ hw) e1⟩
/-- try: e (it raises) except M as v: suite, that returns -/
theorem xs_tryX {M v : Str} {i : Nat} {suite : List Stmt} {b₀ : Stmt} {np pos' p0 : Pos} {rr : R.ρ} (T : XcF X.K X.mg n) (Cf : CaF X.K X.mg n M) (hN : X.N.Nodup)
    (he : ∀ (W : WX) (pn : List (Addr × Obj)) (xe : Value → Shared → Prop), Takes (X.tr pn xe) W → XR (X.tr pn xe) W c Γ e n)
    (hsu : ∀ (C : Addr) (a : Addr) (oe : Obj) (pn : List (Addr × Obj)), X.mg n = some (.ref C) → Zc (.ref C) none oe → (∃ vs, oe.data = .fields vs) → XO (X.suite a ((a, oe) :: pn)) w c (Γ.set i (.fz (⟨a⟩ : Exn))) (b₀ :: suite) (fun z : Empty => z.elim) GB (Out.rt rr : Out Empty B R.ρ))
    (hswap : ∀ pn xe, swapsWith e none p0.line (X.tr pn xe).env = pure false := by intros; rfl)
    (hs : X.stack = X.env :: X.outer := by rfl) (hf : X.env.frame = some X.env.locals := by rfl) (hi : X.N[i]? = some v := by rfl) (hln : X.env.kindOf v = some .local := by rfl) (hg : Gl X M := by rfl) (hdb : (M == ("__debug__" : Str)) = false := by decide) :
    XS X w c Γ (.Try [.Expr e p0] [.ExceptHandler (some (.Name M np)) (some v) (b₀ :: suite) pos'] [] [] pos) G GB (Out.rt rr : Out S B R.ρ) := by
  obtain ⟨C, t1, t2, t3, t4, t5, t6⟩ := T.ex
  obtain ⟨C', D', k1, k2, k3⟩ := Cf.ex
  rw [t1] at k1
  cases k1
  classical
  have hb : ∀ (W : WX) (pn : List (Addr × Obj)) (xe : Value → Shared → Prop), Takes (X.tr pn xe) W → ∃ t, PSs (X.tr pn xe) [.Expr e p0] t ∧ ∀ F H σ fp, EnvD X.K c F H σ Γ fp → ∀ D : Ends, (∀ C F' H', X.mg n = some (.ref C) → EnvD X.K c F' H' σ Γ fp → Ex F F' → W (.ref C) none σ H') → t D σ H := fun W pn xe tk => by
    obtain ⟨te, h1, h2⟩ := he W pn xe tk
    exact ⟨_, pss_one (ps_expr h1 (hswap pn xe)), fun F H σ fp E D q => h2 F H σ fp E _ q⟩
  -- the body's reading, for any wish
  let tb : WX → TS := fun W D σ H => ∃ F fp, EnvD X.K c F H σ Γ fp ∧ ∀ C F' H', X.mg n = some (.ref C) → EnvD X.K c F' H' σ Γ fp → Ex F F' → W (.ref C) none σ H'
  let ts : Addr → Value → Option Addr → TS := fun a cls dd D σ H => cls = .ref C ∧ dd = none ∧ ∃ F, Env X.K c F H σ (Γ.set i (.fz (⟨a⟩ : Exn))) ∧ OutOk X w c D F G GB (Out.rt rr : Out S B R.ρ)
  have P := ps_try_as (X := X) (tb := tb) (ts := ts) (Wout := fun _ _ _ _ => False) (pos := pos) (pos' := pos') (np := np) (body := [.Expr e p0]) (suite := suite) (b₀ := b₀) hs hf hN hi hln (⟨hg, hdb, .inl k2⟩ : Names X M (.ref D')) takes0
    (fun W pn xe tk _ => by
      obtain ⟨t, p1, p2⟩ := hb W pn xe tk
      exact PSs.imp p1 fun D σ H ⟨F, fp, E, q⟩ => p2 F H σ fp E D q)
    (fun a oe cls dd pn hz hfv => by
      by_cases hc : cls = .ref C ∧ dd = none
      · obtain ⟨rfl, rfl⟩ := hc
        obtain ⟨t, p1, p2⟩ := hsu C a oe pn t1 hz hfv
        exact PSs.imp p1 fun D σ H ⟨_, _, F, E, q⟩ => p2 F H σ E D q
      · exact PSs.imp pss_never fun D σ H ⟨h1, h2, _⟩ => hc ⟨h1, h2⟩)
  refine ⟨_, P, fun F H σ ⟨fp, E⟩ D q => ⟨F, fp, E, fun C2 F' H' hC E' e1 => ?_⟩⟩
  rw [t1] at hC
  cases hC
  refine ⟨true, k3, fun _ a ha => ⟨rfl, rfl, F', ⟨_, E'.set (x := (⟨a⟩ : Exn)) rfl⟩, ?_⟩, fun z => (nomatch z)⟩
  exact ⟨fun hn v σ' F2 H2 Γ2 fp2 l E2 x2 => q.1 hn v σ' F2 H2 Γ2 fp2 l E2 (e1.trans x2), fun n' hn C' σ' F2 H2 hC E2 x2 => q.2 n' hn C' σ' F2 H2 hC E2 (e1.trans x2)⟩
/-- isinstance of the caught error and a class of the module -/
theorem xe_isE {C ad : Addr} {oe : Obj} {pn : List (Addr × Obj)} {M : Str} {k : Bool} {p p2 : Pos} (T : XcF X.K X.mg n) (Kf : KiF X.K X.mg n M k) (hC : X.mg n = some (.ref C)) (hz : Zc (.ref C) none oe) (hfv : ∃ vs, oe.data = .fields vs) (hm : X.mg "isinstance" = none)
    (ha : XE (X.suite ad ((ad, oe) :: pn)) c Γ a (⟨ad⟩ : Exn)) (hg : Gl X "isinstance" := by rfl) (hgt : Gl X M := by rfl) (hdb : (M == ("__debug__" : Str)) = false := by decide)
    (hs : starEach [a, .Name M p2] X.env = (false, eval a X.env) :: starEach [.Name M p2] X.env := by rfl) (hs2 : starEach [.Name M p2] X.env = [(false, eval (.Name M p2) X.env)] := by rfl) (hbk : ((backTo pos (starEach [.Name M p2] X.env)).any fun x => x.fst) = false := by rfl) :
    XE (X.suite ad ((ad, oe) :: pn)) c Γ (.Call (.Name "isinstance" p) [a, .Name M p2] [] pos) k := by
  obtain ⟨C1, t1, t2, t3, t4, t5, t6⟩ := T.ex
  obtain ⟨C2, D, k1, k2, k3⟩ := Kf.ex
  rw [hC] at t1 k1
  cases t1; cases k1
  obtain ⟨ta, h1, h2⟩ := ha
  refine ⟨_, pe_callB (call_isE (X := X) t6 hz hfv) hg hm (by decide +kernel) (pa_cons h1 (pa_cons (pe_glob (v := .ref D) hgt k2 rfl hdb) pa_nil hs2) hs) (by decide) (by decide) hs hbk, fun F H σ fp E Q q => h2 F H σ fp E _ fun v F' H' E' e1 e2 r => ?_⟩
  cases (show v = V.ref ad from r)
  exact ⟨.ref D, .ref D, k, rfl, fun u hu => hu, k3, q _ F' H' E' e1 e2 rfl⟩
/-- .. and a built-in class -/
theorem xe_isT {C ad : Addr} {oe : Obj} {pn : List (Addr × Obj)} {M : Str} {t : String} {k : Bool} {p p2 : Pos} (T : XcF X.K X.mg n) (Kf : KtF X.K X.mg n t k) (hC : X.mg n = some (.ref C)) (hz : Zc (.ref C) none oe) (hfv : ∃ vs, oe.data = .fields vs) (hm : X.mg "isinstance" = none) (hmt : X.mg M = none)
    (ha : XE (X.suite ad ((ad, oe) :: pn)) c Γ a (⟨ad⟩ : Exn)) (hv : bootBuiltins M = some (.type t) := by decide +kernel) (hg : Gl X "isinstance" := by rfl) (hgt : Gl X M := by rfl) (hn : M ≠ "__name__" := by decide) (hdb : (M == ("__debug__" : Str)) = false := by decide)
    (hs : starEach [a, .Name M p2] X.env = (false, eval a X.env) :: starEach [.Name M p2] X.env := by rfl) (hs2 : starEach [.Name M p2] X.env = [(false, eval (.Name M p2) X.env)] := by rfl) (hbk : ((backTo pos (starEach [.Name M p2] X.env)).any fun x => x.fst) = false := by rfl) :
    XE (X.suite ad ((ad, oe) :: pn)) c Γ (.Call (.Name "isinstance" p) [a, .Name M p2] [] pos) k := by
  obtain ⟨C1, t1, t2, t3, t4, t5, t6⟩ := T.ex
  obtain ⟨C2, k1, k3⟩ := Kf.ex
  rw [hC] at t1 k1
  cases t1; cases k1
  obtain ⟨ta, h1, h2⟩ := ha
  refine ⟨_, pe_callB (call_isE (X := X) t6 hz hfv) hg hm (by decide +kernel) (pa_cons h1 (pa_cons (pe_bltn (v := .ty t) hgt hmt hv rfl hn hdb) pa_nil hs2) hs) (by decide) (by decide) hs hbk, fun F H σ fp E Q q => h2 F H σ fp E _ fun v F' H' E' e1 e2 r => ?_⟩
  cases (show v = V.ref ad from r)
  exact ⟨.ty t, .type t, k, rfl, fun u hu => hu, k3, q _ F' H' E' e1 e2 rfl⟩
end
end Fw
/-! effects within expressions: answers frozen, tuples of effects, a list and an effect, effects that lists are lengthened by, tests of them. -/
namespace Fw
open PySem L2 Py PyProof.Rows
section
variable {X : Cx} {w : Wx} {c : Cw} {Γ Γ1 Γ2 Γ' : List Slot} {S S' B τ υ ζ α : Type} [Py τ] [Py υ] [Py ζ] {R : Rc} {G : S → List Slot} {GB : B → List Slot} {a b d e ep : Expr} {es : List Expr} {x : τ} {y : υ} {z : ζ} {pos : Pos} {t u : OT} {ts : List OT} {k : Bool} {i : Nat} {oa : Option Addr}
/-- an answer that is new, read from here on -/
theorem xm_fr (h : XM X c Γ Γ' e (.ow none t)) (hf : FzT t x) : XM X c Γ Γ' e (.fz x) := by
  obtain ⟨te, h1, h2⟩ := h
  refine ⟨te, h1, fun F H σ fp E Q q => h2 F H σ fp E Q fun v F' H' fp' l E' e1 r hl => ?_⟩
  obtain ⟨u, hu, r, _⟩ := r
  cases hu
  have h0 : ∀ b ∈ l, F' b = none := fun b hb => (r.dom b hb).1
  exact q v (frz F' H' l) H' fp' [] (E'.frz fun b hb => ⟨h0 b hb, hl b hb⟩) (e1.trans (Ex.frz h0)) ⟨rfl, v, rfl, hf (r.fa (Ex.frz h0) fun b hb => frz_in hb)⟩ fun b hb => by cases hb
theorem xm_coe (h : XM X c Γ Γ' e (.fz x)) (k : ∀ F v, rep X.K F v x → rep X.K F v y) : XM X c Γ Γ' e (.fz y) := by
  obtain ⟨te, h1, h2⟩ := h
  refine ⟨te, h1, fun F H σ fp E Q q => h2 F H σ fp E Q fun v F' H' fp' l E' e1 r hl => ?_⟩
  obtain ⟨rfl, u, hu, r⟩ := r
  exact q v F' H' fp' [] E' e1 ⟨rfl, u, hu, k _ _ r⟩ fun b hb => by cases hb
/-- arguments, one of which changes what is owned, or more -/
def XMA (X : Cx) (c : Cw) (Γ Γ' : List Slot) {α : Type} [PyA α] (es : List Expr) (a : α) : Prop := ∃ t, PA X es t ∧
  ∀ F H σ fp, EnvD X.K c F H σ Γ fp → ∀ Q : List V → Hp → Prop, (∀ vs F' H' fp', EnvD X.K c F' H' σ Γ' fp' → Ex F F' → PyA.reps X.K F' vs a → Q vs H') → t σ H Q
theorem xma_nil : XMA X c Γ Γ [] () := ⟨_, pa_nil, fun F H σ fp E Q q => q [] F H fp E (Ex.refl _) rfl⟩
theorem xma_cons {β : Type} [PyA β] {r : β} (h : XM X c Γ Γ1 e (.fz x)) (hr : XMA X c Γ1 Γ2 es r) (hs : starEach (e :: es) X.env = (false, eval e X.env) :: starEach es X.env := by rfl) : XMA X c Γ Γ2 (e :: es) (x, r) := by
  obtain ⟨t, h1, h2⟩ := h
  obtain ⟨u, h3, h4⟩ := hr
  refine ⟨_, pa_cons h1 h3 hs, fun F H σ fp E Q q => h2 F H σ fp E _ fun v F1 H1 fp1 l E1 e1 r1 hl => h4 F1 H1 σ fp1 E1 _ fun vs F2 H2 fp2 E2 e2 r2 => ?_⟩
  obtain ⟨rfl, v', hv, r1⟩ := r1
  cases hv
  exact q _ F2 H2 fp2 E2 (e1.trans e2) ⟨_, _, rfl, Py.mono e2 r1, r2⟩
theorem xm_tup {β : Type} [PyA β] [PyT υ β] {kk} {r : β} (h : XMA X c Γ Γ' es r) : XM X c Γ Γ' (.Tuple es kk pos) (.fz (PyT.ofA r : υ)) := by
  obtain ⟨t, h1, h2⟩ := h
  refine ⟨_, pe_tup h1, fun F H σ fp E Q q => h2 F H σ fp E _ fun vs F1 H1 fp1 E1 e1 r1 => ⟨sz _ (by rw [PyT.len (υ := υ) r1]; exact Nat.le_trans (PyT.small (υ := υ)) (show 100 ≤ 100000 by decide)), fun p hp => ?_⟩⟩
  have ef : Ex F1 (upd F1 p (.tup vs)) := Ex.new (E1.ff hp)
  exact q _ _ _ fp1 [] (E1.lay hp) (e1.trans ef) ⟨rfl, _, rfl, PyT.of (st_of upd_same) (PyA.mono ef r1)⟩ fun b hb => by cases hb
/-- a list and what an effect answers, put together -/
theorem xm_catE {xs ys : List τ} (ha : XE X c Γ a xs) (hb : XM X c Γ Γ' b (.fz ys)) (h : xs.length + ys.length ≤ 100000) : XM X c Γ Γ' (.BinOp a .Add b pos) (.fz (xs ++ ys)) := by
  obtain ⟨t, a1, a2⟩ := ha
  obtain ⟨u, b1, b2⟩ := hb
  refine ⟨_, pe_op op_cat a1 b1, fun F H σ fp E Q q => a2 F H σ fp E _ fun v F1 H1 E1 e1 n1 r1 => b2 F1 H1 σ fp E1 _ fun v2 F2 H2 fp2 l E2 e2 r2 hl2 => ?_⟩
  obtain ⟨rfl, v', hv, r2⟩ := r2
  cases hv
  obtain ⟨p, vs, rfl, p1, p2⟩ := (Py.mono e2 r1 : rep X.K F2 v xs)
  obtain ⟨p', ws, rfl, q1, q2⟩ := r2
  refine ⟨p, p', vs, ws, rfl, rfl, E2.wd.fh _ _ p1, E2.wd.fh _ _ q1, sz _ (by rw [p2.length, q2.length]; exact h), fun l hl => ?_⟩
  have ef : Ex F2 (upd F2 l (.lst (vs ++ ws))) := Ex.new (E2.ff hl)
  exact q _ _ _ fp2 [] (E2.lay hl) ((e1.trans e2).trans ef) ⟨rfl, _, rfl, l, vs ++ ws, rfl, upd_same, (p2.app q2).mono ef⟩ fun b hb => by cases hb
theorem xm_eqD {x y : τ} [i : PyD τ] (hu : X.A.units + 64 < cLine) (ha : XM X c Γ Γ' a (.fz x)) (hb : XE X c Γ' b y) (hx : PyD.dok x) (hy : PyD.dok y) (hd : PyD.dep τ ≤ 64 := by decide) : XM X c Γ Γ' (.Compare a [.Eq] [b] pos) (.fz (eqb x y)) :=
  xm_cmp (op_eqD hu) (fun F H u v e h1 h2 Q q => ⟨_, _, PyD.dp (Py.mono e h1), PyD.dp (Py.mono e h2), shaped_of hx hd, shaped_of hy hd, by
    rw [PyD.eqv]; exact q _ F H (Ex.refl _) e (Ex.refl _) (fun _ h => .inl h) rfl⟩) ha hb (nomark _)
theorem xtm_eqD {x y : τ} [i : PyD τ] (hu : X.A.units + 64 < cLine) (ha : XM X c Γ Γ' a (.fz x)) (hb : XE X c Γ' b y) (hx : PyD.dok x) (hy : PyD.dok y) (hd : PyD.dep τ ≤ 64 := by decide) : XTM X c Γ Γ' (.Compare a [.Eq] [b] pos) (eqb x y) :=
  xtm_cmp (op_eqD hu) (fun F H u v e h1 h2 Q q => ⟨_, _, PyD.dp (Py.mono e h1), PyD.dp (Py.mono e h2), shaped_of hx hd, shaped_of hy hd, by
    rw [PyD.eqv]; exact q _ F H (Ex.refl _) e (Ex.refl _) (fun _ h => .inl h) rfl⟩) ha hb (nomark _)
theorem xtm_neD {x y : τ} [i : PyD τ] (hu : X.A.units + 64 < cLine) (ha : XM X c Γ Γ' a (.fz x)) (hb : XE X c Γ' b y) (hx : PyD.dok x) (hy : PyD.dok y) (hd : PyD.dep τ ≤ 64 := by decide) : XTM X c Γ Γ' (.Compare a [.NotEq] [b] pos) (!eqb x y) :=
  xtm_cmp (op_neD hu) (fun F H u v e h1 h2 Q q => ⟨_, _, PyD.dp (Py.mono e h1), PyD.dp (Py.mono e h2), shaped_of hx hd, shaped_of hy hd, by
    rw [PyD.eqv]; exact q _ F H (Ex.refl _) e (Ex.refl _) (fun _ h => .inl h) rfl⟩) ha hb (nomark _)
theorem li_eq {τ : Type} [Py τ] (xs ys : List τ) : OT.nd .lst (xs.map (fun z => OT.fz z) ++ ys.map fun z => OT.fz z) = ol (xs ++ ys) := by
  rw [← List.map_append]; rfl
/-- n.extend(an effect): n a list of its own, in a slot that the effect leaves -/
theorem xs_extendM {q1 q2 : Pos} {zs : List τ} (g : α → OT) {y : α} (hp : XPl X c Γ ep i []) (he : XM X c Γ Γ1 e (.fz zs)) (hs : Γ[i]? = some (.ow oa (.nd .lst ts))) (hs1 : Γ1[i]? = some (.ow oa (.nd .lst ts))) (hl : ts.length + zs.length ≤ 100000) (hy : .nd .lst (ts ++ zs.map fun z => OT.fz z) = g y)
    (hst : starEach [e] X.env = [(false, eval e X.env)] := by rfl)
    (hsw : swapsWith (.Call (.Attribute ep "extend" q1) [e] [] q2) none pos.line X.env = pure false := by rfl) (hab : attributeBase ep "extend" X.env (eval ep X.env) = eval ep X.env := by rfl) (hln : (q1.endLine == q2.line) = true := by rfl)
    (hfew : ((backTo q2 (starEach [e] X.env)).all (fun x => !x.1) && (backToKw q2 (keywordEach [] X.env)).all (fun x => x.1.isSome) && decide (([e] : List Expr).length + ([] : List Keyword).length + (if ([] : List Keyword).isEmpty then 0 else 1) < 30)) = true := by rfl) :
    XS X w c Γ (.Expr (.Call (.Attribute ep "extend" q1) [e] [] q2) pos) (fun y : α => Γ1.set i (.ow oa (g y))) GB (Out.nx y : Out α B R.ρ) := by
  obtain ⟨te, h1, h2⟩ := he
  obtain ⟨tp, h3, h4⟩ := hp
  refine ⟨_, ps_expr (pe_bm PySem.F.plainAttrs_list PySem.F.slot_list_extend PySem.F.type_list_extend mt_extend h3 (pa_cons h1 pa_nil hst) hab hfew hln hst rfl) hsw, fun F H σ ⟨fp, E⟩ D q => h4 F H σ fp E _ fun vp v0 F1 H1 E1 e1 n1 g1 g2 => ?_⟩
  have typ : tyV X.K "list" vp H1 := by
    obtain ⟨v0', a, o, vs, fps, k1, k2, k3, k4, k5, _⟩ := E1.node (p := []) hs rfl
    rw [g1] at k1; cases k1
    rw [g2] at k2; cases k2
    cases (show o = _ from k5)
    exact .inl ⟨rfl, _, sq_of k4⟩
  refine ⟨typ, h2 F1 H1 σ fp E1 _ fun v2 F2 H2 fp2 l2 E2 e2 r2 hl2 => ?_⟩
  obtain ⟨rfl, v', hv, r2⟩ := r2
  cases hv
  obtain ⟨p', ws, rfl, w1, w2⟩ := r2
  obtain ⟨v0', a, o, vs, fps, k1, k2, k3, k4, k5, k6, k7, k8, k9⟩ := E2.node (p := []) hs1 rfl
  rw [g1] at k1; cases k1
  have g2' : some v0 = some vp := g2
  have k2' : some v0 = some (V.ref a) := k2
  cases g2'
  cases k2'
  cases (show o = _ from k5)
  have hr : L3 (OA X.K F2 H2) ws (zs.map fun _ => []) (zs.map fun z => OT.fz z) := by
    refine ⟨by simp [w2.length], by simp, fun j v l t e1 e2 e3 => ?_⟩
    rw [List.getElem?_map] at e2 e3
    obtain ⟨x, h1, h2⟩ := w2.get e1
    rw [h1] at e2 e3
    cases e2; cases e3
    exact .fz h2
  have hfl : (zs.map fun _ => ([] : List Addr)).flatten = [] := by
    generalize zs = l
    induction l with
    | nil => rfl
    | cons m r ih => rw [List.map_cons, List.flatten_cons, ih]; rfl
  obtain ⟨fp', E4, _, _⟩ := k9 (.lst (vs ++ ws)) .lst (vs ++ ws) (fps ++ zs.map fun _ => []) (ts ++ zs.map fun z => OT.fz z) rfl (k6.app hr) (by rw [List.flatten_append, hfl, List.append_nil]; exact k7) (by rw [List.flatten_append, hfl, List.append_nil]; exact fun b hb => .inl hb)
  have hp2 : (OT.nd .lst ts).put [] (.nd .lst (ts ++ zs.map fun z => OT.fz z)) = g y := hy
  rw [hp2] at E4
  refine ⟨a, p', vs, ws, rfl, rfl, k4, E2.wd.fh _ _ w1, sz _ (by rw [k6.1, w2.length]; exact hl), q σ F2 _ ⟨fp', E4⟩ (e1.trans e2)⟩
end
section
variable {X : Cx} {w : Wx} {c : Cw} {Γ Γ' : List Slot} {S S' B τ υ α : Type} [Py τ] [Py υ] {R : Rc} {G : S → List Slot} {GB : B → List Slot} {pos : Pos} {e d a ep : Expr} {t u : OT} {ts us : List OT} {i : Nat} {p : List Nat} {oa : Option Addr} {st : Stmt}
theorem xs_faugZ {op : Operator} {rd : V → V → Hp → VK → Prop} {f : Str} {C : Addr} {ns : List Str} {j : Nat} {pf : Pos} {x y z : Str} (hop : InOp X op rd) (hrd : ∀ H Q, Q (.str z) H → rd (.str x) (.str y) H Q) (g : α → OT) {yy : α} (he : XE X c Γ e y) (hp : XPl X c Γ ep i p) (hs : Γ[i]? = some (.ow oa t)) (hg : t.get? p = some (.nd (.ins C ns) ts)) (hf : fIx ns f = some j) (hx : ts[j]? = some (.fz x)) (hl : ns.length < 1000) (hy : t.put p (.nd (.ins C ns) (ts.set j (.fz z))) = g yy) :
    XS X w c Γ (.AugAssign (.Attribute ep f pf) op e pos) (fun y : α => Γ.set i (.ow oa (g y))) GB (Out.nx yy : Out α B R.ρ) := by
  obtain ⟨te, h1, h2⟩ := he
  obtain ⟨tp, h3, h4⟩ := hp
  refine ⟨_, ps_fldaug h3 h1 hop, fun F H σ ⟨fp, E⟩ D q => h4 F H σ fp E _ fun vp v0 F1 H1 E1 e1 n1 g1 g2 => ?_⟩
  obtain ⟨v0', a, o, vs, fps, k1, k2, k3, k4, k5, k6, _⟩ := E1.node hs hg
  rw [g1] at k1; cases k1
  rw [g2] at k2; cases k2
  have k5' := k5
  obtain ⟨⟨hc, hn⟩, hlen, dx, rfl⟩ := k5
  obtain ⟨vj, lj, j1, j2, j3⟩ := k6.get hx
  have r0 : vj = .str x := by cases j3 with | fz r => exact r
  refine ⟨a, C, dx, _, vj, rfl, k4, hc, hn f (fIx_mem hf), lookup_zip hf j1, h2 F1 H1 σ fp E1 _ fun v2 F2 H2 E2 e2 n2 r2 => ?_⟩
  rw [r0, show v2 = V.str y from r2]
  refine hrd _ _ ?_
  have g2' := follow_ex n2.h g2
  obtain ⟨v0', a', o', vs', fps', m1, m2, m3, m4, m5, m6, m7, m8, m9⟩ := E2.node hs hg
  rw [g1] at m1; cases m1
  rw [g2'] at m2; cases m2
  obtain ⟨⟨hc', hn'⟩, hlen', dx', rfl⟩ := m5
  obtain ⟨vj', lj', j1', j2', j3'⟩ := m6.get hx
  have hjl : j < fps'.length := (List.getElem?_eq_some_iff.mp j2').1
  obtain ⟨q1, q2⟩ := nd_set (l := []) (j := j) m7 j2' List.nodup_nil (fun b hb => (nomatch hb))
  obtain ⟨fp', E3, _, _⟩ := m9 (.ins C dx' (putF f (.str z) (ns.zip vs'))) (.ins C ns) (vs'.set j (.str z)) (fps'.set j []) (ts.set j (.fz z)) ⟨⟨hc', hn'⟩, by simpa using hlen', dx', by rw [putF_zip hlen' hf]⟩ (m6.set j (.fz rfl)) q1 (fun b hb => (q2 b hb).imp id (fun h => (nomatch h)))
  rw [hy] at E3
  exact ⟨dx', _, m4, by rw [List.length_zip]; omega, q σ F2 _ ⟨fp', E3⟩ (e1.trans e2)⟩
theorem xs_faugT {f : Str} {C : Addr} {ns : List Str} {j : Nat} {pf : Pos} {x d : Str} {y : α} (g : α → OT) (he : XE X c Γ e d) (hp : XPl X c Γ ep i p) (hs : Γ[i]? = some (.ow oa t)) (hg : t.get? p = some (.nd (.ins C ns) ts)) (hf : fIx ns f = some j) (hx : ts[j]? = some (.fz x)) (hl : ns.length < 1000) (hy : t.put p (.nd (.ins C ns) (ts.set j (.fz (x ++ d)))) = g y) (hlen : x.length + d.length ≤ sizeLine) :
    XS X w c Γ (.AugAssign (.Attribute ep f pf) .Add e pos) (fun y : α => Γ.set i (.ow oa (g y))) GB (Out.nx y : Out α B R.ρ) :=
  xs_faugZ in_addS (fun H Q q => ⟨x, d, rfl, rfl, hlen, q⟩) g he hp hs hg hf hx hl hy
theorem xs_nx {G1 : S' → List Slot} {G2 : S → List Slot} {y1 : S'} {y2 : S} (h : XS X w c Γ st G1 GB (Out.nx y1 : Out S' B R.ρ)) (e : G1 y1 = G2 y2) : XS X w c Γ st G2 GB (Out.nx y2 : Out S B R.ρ) := by
  obtain ⟨t, h1, h2⟩ := h
  exact ⟨t, h1, fun F H σ E D q => h2 F H σ E D fun σ' F' H' E' => q σ' F' H' (e ▸ E')⟩
end
section
variable {α β γ δ : Type} [Py α] [Py β] [Py γ] [Py δ] [i1 : PyD α] [i2 : PyD β] [i3 : PyD γ] [i4 : PyD δ]
instance : PyD (T4 α β γ δ) where
  dec := @instDecidableEqT4 _ _ _ _ i1.dec i2.dec i3.dec i4.dec
  toD := fun x => .tuple [PyD.toD x.a, PyD.toD x.b, PyD.toD x.c, PyD.toD x.d]
  dok := fun x => PyD.dok x.a ∧ PyD.dok x.b ∧ PyD.dok x.c ∧ PyD.dok x.d
  dep := max (PyD.dep α) (max (PyD.dep β) (max (PyD.dep γ) (PyD.dep δ))) + 1
  nn := true
  dp := fun ⟨p, a, b, c, d, h1, h2, h3, h4, h5, h6⟩ => h1 ▸ .tup h2 (.cons (PyD.dp h3) (.cons (PyD.dp h4) (.cons (PyD.dp h5) (.cons (PyD.dp h6) .nil))))
  eqv := fun x y => by
    obtain ⟨a, b, c, d⟩ := x
    obtain ⟨a', b', c', d'⟩ := y
    show (PyData.eqv (PyD.toD a) (PyD.toD a') && (PyData.eqv (PyD.toD b) (PyD.toD b') && (PyData.eqv (PyD.toD c) (PyD.toD c') && (PyData.eqv (PyD.toD d) (PyD.toD d') && true)))) = _
    rw [PyD.eqv, PyD.eqv, PyD.eqv, PyD.eqv, Bool.and_true, Bool.eq_iff_iff, Bool.and_eq_true, Bool.and_eq_true, Bool.and_eq_true]
    simp only [@decide_eq_true_iff _ (_), T4.mk.injEq]
  lay := fun x h => by
    show ((PyD.toD x.a).canLay0 && ((PyD.toD x.b).canLay0 && ((PyD.toD x.c).canLay0 && ((PyD.toD x.d).canLay0 && true)))) = true
    rw [PyD.lay _ h.1, PyD.lay _ h.2.1, PyD.lay _ h.2.2.1, PyD.lay _ h.2.2.2]; rfl
  dle := fun x => by
    have h1 := PyD.dle x.a
    have h2 := PyD.dle x.b
    have h3 := PyD.dle x.c
    have h4 := PyD.dle x.d
    show max (PyD.toD x.a).depth (max (PyD.toD x.b).depth (max (PyD.toD x.c).depth (max (PyD.toD x.d).depth 0))) + 1 ≤ _
    omega
  nno := fun _ x h => by cases h
instance [PyDn α] [PyDn β] [PyDn γ] [PyDn δ] : PyDn (T4 α β γ δ) := ⟨fun x => ⟨PyDn.all _, PyDn.all _, PyDn.all _, PyDn.all _⟩⟩
instance : PyNN (T4 α β γ δ) := ⟨rfl⟩
end
section
variable {X : Cx} {c : Cw} {Γ Γ' : List Slot} {t : OT} {pos : Pos}
variable {α ρ : Type} {D0 : α → List ArgD} {pre : α → Prop} {D1 : ρ → List (Option OT)} {RS : ρ → Slot} {xn : ρ → Option Str} {m : α → ρ} {n : Str} {ps : List Str} {lv lj : Nat} {r : α} {as : List CA} {pf : Pos} {C : Addr}
theorem xn_make0 (G : Fc' X.prog X.w X.K X.mg X.base (L2.CX X.prog X.w) n C ps lv (SpG X.K X.mg D0 pre D1 RS xn m)) (cl : Cls X.K C) (hr : Room lj X.A) (hj : lv + 1 ≤ lj)
    (hp : pre r) {ds : List (Option OT)} (hd1 : D1 (m r) = some t :: ds := by rfl) (hD : ArgD.ow (.nd (.ins C []) []) :: ([] : List CA).map CA.d = D0 r := by rfl) (hRS : RS (m r) = .fz () := by rfl) (hx : xn (m r) = none := by rfl)
    (hgl : Gl X n := by rfl) (hdb : (n == ("__debug__" : Str)) = false := by decide) :
    XN X c Γ (.Call (.Name n pf) [] [] pos) t := by
  obtain ⟨f, fd, g1, g2, g3, g4⟩ := G.ex
  refine ⟨_, pe_make0 (E := E0) g1 g4 (hr.mono hj) hgl g2 g3 .nil passL hdb, fun F1 H1 σ fp E1 Q q => ?_⟩
  have e1 : Ex F1 F1 := Ex.refl _
  have x1 : Nw F1 H1 F1 H1 := Nw.refl
  have k : Pd (CAok X.K F1 H1 σ) ([] : List V) ([] : List CA) := .nil
  intro x dx hx1 hdx hne
  rw [List.append_nil]
  have hFx : F1 x = none := E1.ff hx1
  have hFd : F1 dx = none := E1.ff hdx
  let H2 : Hp := upd (upd H1 dx (.own x)) x (.ins C dx [])
  have eH : Ex H1 H2 := (Ex.new hdx).trans (Ex.new (by rw [upd_ne (Ne.symm hne)]; exact hx1))
  have eF : Ex F1 H2 := E1.wd.fh.trans eH
  have hlen : ([] : List V).length = ([] : List CA).length := Pd.length k
  -- the callee's slots
  have E0 : EnvD X.K (cwOf F1 H2 (fun k => if k = 0 then [x] else [])) F1 H2 ((V.ref x :: ([] : List V)).map some) (argSl (fun _ => x) 0 (D0 r)) (fun k => if k = 0 then [x] else []) := by
    rw [← hD]
    refine ⟨⟨Ex.refl _, eF, fun b o _ h => h, fun b h => .inl h⟩, by simp [argSl_len, hlen], fun j s hs => ?_, fun i j b h1 h2 => ?_, fun i b h => .inl ⟨i, h⟩, fun i h => ?_⟩
    · cases j with
      | zero =>
        have hs : Slot.ow (some x) (.nd (.ins C []) []) = s := by simpa [argSl, ArgD.slot] using hs
        subst hs
        refine ⟨some (.ref x), rfl, .ref x, rfl, ?_, fun a ha => by cases ha; rfl⟩
        have := OA.mk (K := X.K) (F := F1) (H := H2) (a := x) (fps := []) (ts := []) (vs := []) (k := .ins C []) (o := .ins C dx []) hFx upd_same ⟨⟨cl, fun n hn => by cases hn⟩, rfl, dx, rfl⟩ .nil (by simp)
        simpa using this
      | succ j => simp [argSl] at hs
    · (try dsimp only at h1 h2)
      split at h1
      · split at h2
        · omega
        · cases h2
      · cases h1
    · have : i ≠ 0 := by
        rintro rfl
        simp [argSl] at h
      rw [if_neg this]
  refine ⟨F1, _, r, fun _ => x, E0, hp, fun _ v F' H' fp' E' => ?_, fun n hn => by rw [hx] at hn; cases hn⟩
  rw [hd1, hRS] at E'
  obtain ⟨u, q1, q2, q3⟩ := E'.geto (i := 0) (oa := some x) (t := t) rfl
  cases q3 x rfl
  have l0 : (outSl (fun _ => x) 0 (some t :: ds) ++ [Slot.fz ()]).length = ([] : List V).length + 2 := by rw [← E'.len]; simp
  have hv : v = .non := by
    have hs : (outSl (fun _ => x) 0 (some t :: ds) ++ [Slot.fz ()])[([] : List V).length + 1]? = some (.fz ()) := by
      have l1 : (outSl (fun _ => x) 0 (some t :: ds)).length = ([] : List V).length + 1 := by simp at l0 ⊢; omega
      rw [List.getElem?_append_right (by omega), l1, Nat.sub_self]; rfl
    obtain ⟨z, z1, z2⟩ := E'.get hs
    have : some v = some z := by
      rw [List.getElem?_append_right (by simp)] at z1
      simpa using z1
    cases this
    exact z2
  have alH : ∀ b, (cwOf F1 H2 (fun k => if k = 0 then [x] else [])).al b → H1 b = none := fun b h => by
    rcases h with ⟨k, h⟩ | h
    · (try dsimp only at h)
      split at h
      · cases List.mem_singleton.mp h; exact hx1
      · cases h
    · cases z : H1 b with
      | none => rfl
      | some o => have := eH _ _ z; rw [show H2 b = none from h] at this; cases this
  have eh : Ex H1 H' := fun b o h => E'.wd.keep b o (fun ⟨k, h2⟩ => by
    (try dsimp only at h2)
    split at h2
    · cases List.mem_singleton.mp h2; rw [hx1] at h; cases h
    · cases h2) (eH _ _ h)
  have en : ∀ b, F' b ≠ none → F1 b ≠ none ∨ H1 b = none := fun b hb => (E'.wd.new b hb).imp id (alH b)
  refine ⟨hv, q (.ref x) F' H' (fp' 0) (E1.grow E'.wd.f0 E'.wd.fh eh en) (e1.trans E'.wd.f0) (x1.trans ⟨eh, en⟩) q2 fun b hb => ?_⟩
  exact alH b (E'.al 0 b hb)
end
end Fw
/-! while: at most so many turns. -/
namespace Fw
open PySem L2 Py PyProof.Rows
def runWh {S B R : Type} (k : S → Bool) (f : S → Out S S R) : Nat → S → Out S B R
  | 0, s => .nx s
  | n + 1, s => if k s then (match f s with
    | .nx s' => runWh k f n s'
    | .ct s' => runWh k f n s'
    | .bk s' => .nx s'
    | .rt x => .rt x) else .nx s
/-- what a while asks of its turns, its end among it -/
def vWh {S R : Type} (k : S → Bool) (f : S → Out S S R) (vk vb : S → Prop) : Nat → S → Prop
  | 0, s => vk s ∧ k s = false
  | n + 1, s => vk s ∧ (k s = true → vb s ∧ match f s with
    | .nx s' => vWh k f vk vb n s'
    | .ct s' => vWh k f vk vb n s'
    | _ => True)
section
variable {X : Cx} {w : Wx} {c : Cw} {Γ : List Slot} {S B : Type} {R : Rc} {GB : B → List Slot} {pos : Pos}
theorem xs_whileV {tst : Expr} {body : List Stmt} {L : S → List Slot} {s0 : S} {k : S → Bool} {f : S → Out S S R.ρ} {vk vb : S → Prop} {n : Nat} (hw : Weak Γ (L s0)) (hv : vWh k f vk vb n s0)
    (ht : ∀ s, vk s → XT X c (L s) tst (k s)) (hb : ∀ s, k s = true → vb s → XO X w c (L s) body L L (f s))
    (hp : PassesOwn (model X.prog X.w) X.A X.env X.xe := by first | exact PassesOwn.never | exact passes_of rfl | assumption) :
    XS X w c Γ (.While tst body [] pos) L GB (runWh k f n s0 : Out S B R.ρ) := by
  classical
  have kt : ∃ tt, PT X tst tt ∧ ∀ s, vk s → ETr X.K c tt (L s) (k s) := by
    refine ⟨fun σ H Q => ∃ t, PT X tst t ∧ t σ H Q, ⟨fun pins s σ H Q I h => ?_⟩, fun s hs F H σ fp E Q q => ?_⟩
    · obtain ⟨t, h1, h2⟩ := h
      exact h1.run pins s σ H Q I h2
    · obtain ⟨t, h1, h2⟩ := ht s hs
      exact ⟨t, h1, h2 F H σ fp E Q q⟩
  obtain ⟨tt, t1, t2⟩ := kt
  have key : ∃ tb, PSs X body tb ∧ ∀ s, k s = true → vb s → ∀ F H σ, Env X.K c F H σ (L s) → ∀ D : Ends, OutOk X w c D F L L (f s) → tb D σ H := by
    refine ⟨fun D σ H => ∃ (t : TS), PSs X body t ∧ t D σ H, ⟨fun pins s σ H D I h => ?_⟩, fun s hk hs F H σ E D q => ?_⟩
    · obtain ⟨t, p, q⟩ := h
      exact p.run pins s σ H D I q
    · obtain ⟨t, p, q'⟩ := hb s hk hs
      exact ⟨t, p, q' F H σ E D q⟩
  obtain ⟨tb, b1, b2⟩ := key
  refine ⟨_, ps_while hp t1 b1, fun F H σ E D q => ?_⟩
  obtain ⟨fin, hfin⟩ : ∃ fin, runWh (B := B) k f n s0 = fin := ⟨_, rfl⟩
  rw [hfin] at q
  refine ⟨fun m σ' H' => ∃ s F', Ex F F' ∧ vWh k f vk vb m s ∧ Env X.K c F' H' σ' (L s) ∧ runWh (B := B) k f m s = fin, ⟨n, s0, F, Ex.refl _, hv, Env.weak E hw, hfin⟩, ?_⟩
  rintro m σ' H' ⟨s, F', x1, hV, ⟨fpE, E'⟩, hr⟩
  have hvk : vk s := by cases m <;> exact hV.1
  refine t2 s hvk F' H' σ' fpE E' _ fun F2 H2 E2 e2 n2 => ?_
  cases hk : k s with
  | false =>
    rw [if_neg Bool.false_ne_true]
    have hf : fin = .nx s := by
      rw [← hr]
      cases m with
      | zero => rfl
      | succ m => unfold runWh; rw [hk]; rfl
    rw [hf] at q
    exact q σ' F2 H2 ⟨fpE, E2⟩ (x1.trans e2)
  | true =>
    rw [if_pos rfl]
    cases m with
    | zero => have := hV.2; rw [hk] at this; cases this
    | succ m =>
      obtain ⟨v1, v2⟩ := hV.2 hk
      refine ⟨fun σ' H' => ∃ s F', Ex F F' ∧ vWh k f vk vb m s ∧ Env X.K c F' H' σ' (L s) ∧ runWh (B := B) k f m s = fin, fun σ3 H3 h => ⟨m, Nat.lt_succ_self _, h⟩, ?_⟩
      refine b2 s hk v1 F2 H2 σ' ⟨fpE, E2⟩ _ ?_
      unfold runWh at hr
      rw [hk, if_pos rfl] at hr
      cases hf : f s with
      | nx s' =>
        rw [hf] at hr v2
        exact fun σ3 F3 H3 E3 x3 => ⟨s', F3, (x1.trans e2).trans x3, v2, E3, hr⟩
      | ct s' =>
        rw [hf] at hr v2
        exact fun σ3 F3 H3 E3 x3 => ⟨s', F3, (x1.trans e2).trans x3, v2, E3, hr⟩
      | bk s' =>
        rw [hf] at hr
        rw [← hr] at q
        exact fun σ3 F3 H3 E3 x3 => q σ3 F3 H3 E3 ((x1.trans e2).trans x3)
      | rt r =>
        rw [hf] at hr
        rw [← hr] at q
        exact ⟨fun hn v σ3 F3 H3 Γ' fp' l E3 x3 => q.1 hn v σ3 F3 H3 Γ' fp' l E3 ((x1.trans e2).trans x3), fun nn hn C σ3 F3 H3 hC E3 x3 => q.2 nn hn C σ3 F3 H3 hC E3 ((x1.trans e2).trans x3)⟩
end
section
variable {X : Cx} {c : Cw} {Γ : List Slot} {υ : Type} [Py υ] {a e : Expr}
/-- as above, of a list, of a script: the value as it stands -/
theorem xi_enumL {p tpos pos : Pos} {elts : List Expr} {kk : Nat} {xs : List υ} (hm : X.mg "enumerate" = none) (h : XE X c Γ a xs) (hg : Gl X "enumerate" := by rfl) (hs : starEach [a] X.env = [(false, eval a X.env)] := by rfl) :
    XI X c Γ (.Tuple elts kk tpos) (.Call (.Name "enumerate" p) [a] [] pos) (enumL xs) := xi_enum hm h hg hs
theorem xq_scr {s : Scr υ} (h : XE X c Γ e s) : XQ X c Γ .r e (fun z : υ => OT.fz z) s.l := xq_rd h
end
end Fw
/-! texts more; arguments that are effects; tests of several, one of which is an effect behind others. -/
namespace Fw
open PySem L2 Py PyProof.Rows
section
variable {X : Cx} {c : Cw} {Γ Γ1 Γ2 Γ' : List Slot} {τ υ ζ : Type} [Py τ] [Py υ] [Py ζ] {a b d e o : Expr} {es more : List Expr} {x : τ} {y : υ} {z : ζ} {pos ap : Pos} {k l : Bool} {t u : OT}
theorem xe_upper {s : Str} (ho : XE X c Γ o s) (h : s.length ≤ 5592405) (hbase : attributeBase o "upper" X.env (eval o X.env) = eval o X.env := by rfl) (hline : (ap.endLine == pos.line) = true := by rfl) :
    XE X c Γ (.Call (.Attribute o "upper" ap) [] [] pos) (Txt.upper s : Str) := by
  obtain ⟨t1, a1, a2⟩ := ho
  refine ⟨_, pe_upper a1 hbase hline, fun F H σ fp E Q q => a2 F H σ fp E _ fun v F1 H1 E1 e1 g1 r1 => ⟨⟨s, r1⟩, s, r1, rfl, h, q _ _ _ E1 e1 g1 rfl⟩⟩
/-- str(a whole number) -/
def strI (i : Int) : Str := Str.ofString (toString i)
theorem xe_strI {i : Int} {p : Pos} (hm : X.mg "str" = none) (ha : XE X c Γ a i) (h : i.natAbs.log2 < 1920) (hg : Gl X "str" := by rfl)
    (hs : starEach [a] X.env = [(false, eval a X.env)] := by rfl) : XE X c Γ (.Call (.Name "str" p) [a] [] pos) (strI i) := by
  obtain ⟨t, h1, h2⟩ := ha
  exact ⟨_, pe_callTy call_str_int hg hm (by decide +kernel) (pa_cons h1 pa_nil hs) (by decide) (by decide) hs rfl, fun F H σ fp E Q q => h2 F H σ fp E _ fun v F' H' E' e1 e2 r' => ⟨i, by rw [show v = V.int i from r'], h, q _ F' H' E' e1 e2 rfl⟩⟩
/-! ### arguments, some of which are effects -/
def XArM (X : Cx) (c : Cw) (Γ Γ' : List Slot) (es : List Expr) (as : List CA) : Prop := ∃ t, PA X es t ∧
  ∀ F H σ fp, EnvD X.K c F H σ Γ fp → ∀ Q : List V → Hp → Prop, (∀ vs F' H' fp', EnvD X.K c F' H' σ Γ' fp' → Ex F F' → Pd (CAok X.K F' H' σ) vs as → Q vs H') → t σ H Q
theorem xrm_of {as : List CA} (h : XAr X c Γ es as) : XArM X c Γ Γ es as := by
  obtain ⟨t, h1, h2⟩ := h
  exact ⟨t, h1, fun F H σ fp E Q q => h2 F H σ fp E Q fun vs F' H' E' e1 _ p => q vs F' H' fp E' e1 p⟩
theorem xrm_fz {as : List CA} (h : XE X c Γ e x) (hr : XArM X c Γ Γ' es as) (hs : starEach (e :: es) X.env = (false, eval e X.env) :: starEach es X.env := by rfl) : XArM X c Γ Γ' (e :: es) (.fz x :: as) := by
  obtain ⟨t, h1, h2⟩ := h
  obtain ⟨u, h3, h4⟩ := hr
  exact ⟨_, pa_cons h1 h3 hs, fun F H σ fp E Q q => h2 F H σ fp E _ fun v F1 H1 E1 e1 n1 r1 => h4 F1 H1 σ fp E1 _ fun vs F2 H2 fp2 E2 e2 p => q _ F2 H2 fp2 E2 (e1.trans e2) (.cons (Py.mono e2 r1) p)⟩
theorem xrm_ef {as : List CA} (h : XM X c Γ Γ1 e (.fz x)) (hr : XArM X c Γ1 Γ' es as) (hs : starEach (e :: es) X.env = (false, eval e X.env) :: starEach es X.env := by rfl) : XArM X c Γ Γ' (e :: es) (.fz x :: as) := by
  obtain ⟨t, h1, h2⟩ := h
  obtain ⟨u, h3, h4⟩ := hr
  refine ⟨_, pa_cons h1 h3 hs, fun F H σ fp E Q q => h2 F H σ fp E _ fun v F1 H1 fp1 l E1 e1 r1 _ => h4 F1 H1 σ fp1 E1 _ fun vs F2 H2 fp2 E2 e2 p => ?_⟩
  obtain ⟨_, w, hw, r1⟩ := r1
  cases hw
  exact q _ F2 H2 fp2 E2 (e1.trans e2) (.cons (Py.mono e2 r1) p)
section
variable {n : Str} {ps : List Str} {lv lj : Nat} {α ρ : Type} {D0 : α → List ArgD} {pre : α → Prop} {D1 : ρ → List (Option OT)} {RS : ρ → Slot} {xn : ρ → Option Str} {m : α → ρ} {r : α} {as : List CA} {pf : Pos}
theorem xm_callM (G : Fk X.prog X.w X.K X.mg X.base (L2.CX X.prog X.w) n ps [] lv (SpG X.K X.mg D0 pre D1 RS xn m)) (hr : Room lj X.A) (hj : lv ≤ lj) (ha : XArM X c Γ Γ' (e :: es) as) (hp : pre r) (hD : as.map CA.d = D0 r := by rfl) (hg : caOk Γ' as := by trivial) (nd : (as.filterMap CA.ix).Nodup := by exact List.nodup_nil) (hsh : (D1 (m r)).map Option.isSome = (D0 r).map ArgD.isOw := by rfl) (hx : xn (m r) = none := by rfl)
    (hgl : Gl X n := by rfl) (hdb : (n == ("__debug__" : Str)) = false := by decide) (hs : starEach (e :: es) X.env = (false, eval e X.env) :: starEach es X.env := by rfl) (hb : ((backTo pos (starEach es X.env)).any fun x => x.fst) = false := by rfl) :
    XM X c Γ (caUp Γ' as (D1 (m r))) (.Call (.Name n pf) (e :: es) [] pos) (RS (m r)) := by
  obtain ⟨f, fd, g1, g2, g3, g4⟩ := G.ex
  obtain ⟨t, h1, h2⟩ := ha
  refine ⟨_, pe_call (E := E0) g4 (hr.mono hj) hgl g1 g2 g3 .nil passL h1 hdb hs hb, fun F H σ fp E Q q => h2 F H σ fp E _ fun vs F1 H1 fp1 E1 e1 k => ?_⟩
  rw [List.append_nil]
  exact call_res (CX := L2.CX X.prog X.w) (F := F) (H := H) hD hg nd hp hx hsh E1 k fun v F' H' fp' l y1 y2 y3 y4 => q v F' H' fp' l y1 (e1.trans y2) y3 y4
end
/-! ### tests of several -/
def XWM (X : Cx) (c : Cw) (Γ Γ' : List Slot) (e : Expr) (b : Bool) : Prop := ∃ t, PW X e t ∧ ∀ F H σ fp, EnvD X.K c F H σ Γ fp → ∀ Q : Bool → Hp → Prop, (∀ F' H' fp', EnvD X.K c F' H' σ Γ' fp' → Ex F F' → Q b H') → t σ H Q
theorem XWM.tm (h : XWM X c Γ Γ' e k) : XTM X c Γ Γ' e k := let ⟨t, h1, h2⟩ := h; ⟨t, h1.pt, h2⟩
theorem xwm_of (h : XW X c Γ e k) : XWM X c Γ Γ e k := by
  obtain ⟨t, h1, h2⟩ := h
  exact ⟨t, h1, fun F H σ fp E Q q => h2 F H σ fp E Q fun F' H' E' e1 _ => q F' H' fp E' e1⟩
theorem xwm_or1 (h : XTM X c Γ Γ' a k) : XWM X c Γ Γ' (.BoolOp .Or [a] pos) k := by
  obtain ⟨t, h1, h2⟩ := h
  exact ⟨t, pw_or1 h1, h2⟩
theorem xwm_and1 (h : XTM X c Γ Γ' a k) : XWM X c Γ Γ' (.BoolOp .And [a] pos) k := by
  obtain ⟨t, h1, h2⟩ := h
  exact ⟨t, pw_and1 h1, h2⟩
/-- .. the first does not hold -/
theorem xwm_orM (ha : XTM X c Γ Γ1 a k) (hk : k = false) (hb : XWM X c Γ1 Γ' (.BoolOp .Or (b :: more) pos) l) : XWM X c Γ Γ' (.BoolOp .Or (a :: b :: more) pos) l := by
  subst hk
  obtain ⟨t, h1, h2⟩ := ha
  obtain ⟨u, h3, h4⟩ := hb
  refine ⟨tOr t u, pw_or h1 h3, fun F H σ fp E Q q => h2 F H σ fp E _ fun F' H' fp' E' e1 => ?_⟩
  rw [if_neg Bool.false_ne_true]
  exact h4 F' H' σ fp' E' Q fun F2 H2 fp2 E2 e2 => q F2 H2 fp2 E2 (e1.trans e2)
theorem xwm_orP (ha : XT X c Γ a k) (hk : k = false) (hb : XWM X c Γ Γ' (.BoolOp .Or (b :: more) pos) l) : XWM X c Γ Γ' (.BoolOp .Or (a :: b :: more) pos) l := xwm_orM (xtm_of ha) hk hb
/-- .. only pure ones behind an effect -/
theorem xwm_orQ (ha : XTM X c Γ Γ' a k) (hb : k = false → XW X c Γ' (.BoolOp .Or (b :: more) pos) l) : XWM X c Γ Γ' (.BoolOp .Or (a :: b :: more) pos) (k || l) := by
  obtain ⟨t, h1, h2⟩ := ha
  cases k with
  | false =>
    obtain ⟨u, h3, h4⟩ := hb rfl
    refine ⟨tOr t u, pw_or h1 h3, fun F H σ fp E Q q => h2 F H σ fp E _ fun F' H' fp' E' e1 => ?_⟩
    rw [if_neg Bool.false_ne_true]
    exact h4 F' H' σ fp' E' Q fun F2 H2 E2 e2 _ => q F2 H2 fp' E2 (e1.trans e2)
  | true =>
    refine ⟨tOr t _, pw_or h1 ⟨fun _ _ _ _ _ _ _ (h : False) => h.elim⟩, fun F H σ fp E Q q => h2 F H σ fp E _ fun F' H' fp' E' e1 => ?_⟩
    rw [if_pos rfl]
    exact q F' H' fp' E' e1
/-- an effect that is a truth, and a pure one -/
theorem xm_and (ha : XM X c Γ Γ' a (.fz k)) (hb : k = true → XE X c Γ' (.BoolOp .And (b :: more) pos) l) : XM X c Γ Γ' (.BoolOp .And (a :: b :: more) pos) (.fz (k && l)) := by
  obtain ⟨t, h1, h2⟩ := ha
  cases k with
  | false =>
    refine ⟨tAndV t _, pe_and h1 ⟨fun _ _ _ _ _ _ (h : False) => h.elim⟩, fun F H σ fp E Q q => h2 F H σ fp E _ fun v F1 H1 fp1 l1 E1 e1 r1 hl => ?_⟩
    obtain ⟨rfl, w, hw, r1⟩ := r1
    cases hw
    refine ⟨false, r1, ?_⟩
    rw [if_neg Bool.false_ne_true]
    exact q _ F1 H1 fp1 [] E1 e1 ⟨rfl, _, rfl, rfl⟩ fun b hb => by cases hb
  | true =>
    obtain ⟨u, h3, h4⟩ := hb rfl
    refine ⟨tAndV t u, pe_and h1 h3, fun F H σ fp E Q q => h2 F H σ fp E _ fun v F1 H1 fp1 l1 E1 e1 r1 hl => ?_⟩
    obtain ⟨rfl, w, hw, r1⟩ := r1
    cases hw
    refine ⟨true, r1, ?_⟩
    rw [if_pos rfl]
    exact h4 F1 H1 σ fp1 E1 _ fun v2 F2 H2 E2 e2 n2 r2 => q _ F2 H2 fp1 [] E2 (e1.trans e2) ⟨rfl, _, rfl, r2⟩ fun b hb => by cases hb
end
end Fw
/-! errors more: suites of many statements, try that lets by, defaults, making; facts of the classes. -/
namespace Fw
open PySem L2 Py PyProof.Rows
section
variable {X : Cx} {w : Wx} {W : WX} {c : Cw} {Γ Γ' : List Slot} {S S' B τ υ ζ : Type} [Py τ] [Py υ] [Py ζ] {R : Rc} {G : S → List Slot} {GB : B → List Slot} {a b d e : Expr} {es : List Expr} {x : τ} {y : υ} {pos : Pos}
variable {α ρ : Type} {D0 : α → List ArgD} {pre : α → Prop} {D1 : ρ → List (Option OT)} {RS : ρ → Slot} {xn : ρ → Option Str} {m : α → ρ} {n nm : Str} {ps : List Str} {lv lj : Nat} {r : α} {as : List CA} {pf : Pos}
/-- try: e (it raises) except M as v: a suite that leaves -/
theorem xs_tryF {M v : Str} {i : Nat} {suite : List Stmt} {b₀ : Stmt} {np pos' p0 : Pos} {rr : R.ρ} (T : XcF X.K X.mg n) (Cf : CaF X.K X.mg n M) (hN : X.N.Nodup)
    (he : ∀ (W : WX) (pn : List (Addr × Obj)) (xe : Value → Shared → Prop), Takes (X.tr pn xe) W → XR (X.tr pn xe) W c Γ e n)
    (hsu : ∀ (C : Addr) (a : Addr) (oe : Obj) (pn : List (Addr × Obj)), X.mg n = some (.ref C) → Zc (.ref C) none oe → (∃ vs, oe.data = .fields vs) → XF (X.suite a ((a, oe) :: pn)) w c (Γ.set i (.fz (⟨a⟩ : Exn))) (b₀ :: suite) (S := Empty) (fun z : Empty => z.elim) (fun z : Empty => z.elim) rr)
    (hswap : ∀ pn xe, swapsWith e none p0.line (X.tr pn xe).env = pure false := by intros; rfl)
    (hs : X.stack = X.env :: X.outer := by rfl) (hf : X.env.frame = some X.env.locals := by rfl) (hi : X.N[i]? = some v := by rfl) (hln : X.env.kindOf v = some .local := by rfl) (hg : Gl X M := by rfl) (hdb : (M == ("__debug__" : Str)) = false := by decide) :
    XS X w c Γ (.Try [.Expr e p0] [.ExceptHandler (some (.Name M np)) (some v) (b₀ :: suite) pos'] [] [] pos) G GB (Out.rt rr : Out S B R.ρ) := by
  obtain ⟨C, t1, t2, t3, t4, t5, t6⟩ := T.ex
  obtain ⟨C', D', k1, k2, k3⟩ := Cf.ex
  rw [t1] at k1
  cases k1
  classical
  have hb : ∀ (W : WX) (pn : List (Addr × Obj)) (xe : Value → Shared → Prop), Takes (X.tr pn xe) W → ∃ t, PSs (X.tr pn xe) [.Expr e p0] t ∧ ∀ F H σ fp, EnvD X.K c F H σ Γ fp → ∀ D : Ends, (∀ C F' H', X.mg n = some (.ref C) → EnvD X.K c F' H' σ Γ fp → Ex F F' → W (.ref C) none σ H') → t D σ H := fun W pn xe tk => by
    obtain ⟨te, h1, h2⟩ := he W pn xe tk
    exact ⟨_, pss_one (ps_expr h1 (hswap pn xe)), fun F H σ fp E D q => h2 F H σ fp E _ q⟩
  let tb : WX → TS := fun W D σ H => ∃ F fp, EnvD X.K c F H σ Γ fp ∧ ∀ C F' H', X.mg n = some (.ref C) → EnvD X.K c F' H' σ Γ fp → Ex F F' → W (.ref C) none σ H'
  let ts : Addr → Value → Option Addr → TS := fun a cls dd D σ H => cls = .ref C ∧ dd = none ∧ ∃ F, Env X.K c F H σ (Γ.set i (.fz (⟨a⟩ : Exn))) ∧ OutOk X w c D F G GB (Out.rt rr : Out S B R.ρ)
  have P := ps_try_as (X := X) (tb := tb) (ts := ts) (Wout := fun _ _ _ _ => False) (pos := pos) (pos' := pos') (np := np) (body := [.Expr e p0]) (suite := suite) (b₀ := b₀) hs hf hN hi hln (⟨hg, hdb, .inl k2⟩ : Names X M (.ref D')) takes0
    (fun W pn xe tk _ => by
      obtain ⟨t, p1, p2⟩ := hb W pn xe tk
      exact PSs.imp p1 fun D σ H ⟨F, fp, E, q⟩ => p2 F H σ fp E D q)
    (fun a oe cls dd pn hz hfv => by
      by_cases hc : cls = .ref C ∧ dd = none
      · obtain ⟨rfl, rfl⟩ := hc
        obtain ⟨o, ho, t, p1, p2⟩ := hsu C a oe pn t1 hz hfv
        cases o with
        | rt r =>
          cases (show r = rr from ho)
          exact PSs.imp p1 fun D σ H ⟨_, _, F, E, q⟩ => p2 F H σ E D q
        | nx s => exact s.elim
        | bk s => exact s.elim
        | ct s => exact s.elim
      · exact PSs.imp pss_never fun D σ H ⟨h1, h2, _⟩ => hc ⟨h1, h2⟩)
  refine ⟨_, P, fun F H σ ⟨fp, E⟩ D q => ⟨F, fp, E, fun C2 F' H' hC E' e1 => ?_⟩⟩
  rw [t1] at hC
  cases hC
  refine ⟨true, k3, fun _ a ha => ⟨rfl, rfl, F', ⟨_, E'.set (x := (⟨a⟩ : Exn)) rfl⟩, ?_⟩, fun z => (nomatch z)⟩
  exact ⟨fun hn v σ' F2 H2 Γ2 fp2 l E2 x2 => q.1 hn v σ' F2 H2 Γ2 fp2 l E2 (e1.trans x2), fun n' hn C' σ' F2 H2 hC E2 x2 => q.2 n' hn C' σ' F2 H2 hC E2 (e1.trans x2)⟩
/-- try: e (nothing is raised) except M as v: .. -/
theorem xs_tryN {M v : Str} {i : Nat} {suite : List Stmt} {b₀ : Stmt} {np pos' p0 : Pos} {D' : Addr} (hM : X.mg M = some (.ref D')) (hN : X.N.Nodup)
    (he : ∀ (pn : List (Addr × Obj)) (xe : Value → Shared → Prop), ∃ s, XM (X.tr pn xe) c Γ Γ' e s)
    (hswap : ∀ pn xe, swapsWith e none p0.line (X.tr pn xe).env = pure false := by intros; rfl)
    (hs : X.stack = X.env :: X.outer := by rfl) (hf : X.env.frame = some X.env.locals := by rfl) (hi : X.N[i]? = some v := by rfl) (hln : X.env.kindOf v = some .local := by rfl) (hg : Gl X M := by rfl) (hdb : (M == ("__debug__" : Str)) = false := by decide) :
    XS X w c Γ (.Try [.Expr e p0] [.ExceptHandler (some (.Name M np)) (some v) (b₀ :: suite) pos'] [] [] pos) (fun _ : Unit => Γ') GB (Out.nx () : Out Unit B R.ρ) := by
  classical
  let tb : WX → TS := fun W D σ H => ∃ F, Env X.K c F H σ Γ ∧ OutOk X w c D F (fun _ : Unit => Γ') GB (Out.nx () : Out Unit B R.ρ)
  have P := ps_try_as (X := X) (tb := tb) (ts := fun _ _ _ _ _ _ => False) (Wout := fun _ _ _ _ => False) (pos := pos) (pos' := pos') (np := np) (body := [.Expr e p0]) (suite := suite) (b₀ := b₀) hs hf hN hi hln (⟨hg, hdb, .inl hM⟩ : Names X M (.ref D')) takes0
    (fun W pn xe tk _ => by
      obtain ⟨s, te, h1, h2⟩ := he pn xe
      exact PSs.imp (pss_one (ps_expr h1 (hswap pn xe))) fun D σ H ⟨F, ⟨fp, E⟩, q⟩ => h2 F H σ fp E _ fun v F' H' fp' l E' e1 _ _ => q σ F' H' ⟨fp', E'⟩ e1)
    (fun a oe cls dd pn hz hfv => PSs.imp pss_never fun D σ H h => h)
  exact ⟨_, P, fun F H σ E D q => ⟨F, E, fun σ' F' H' E' e1 => q σ' F' H' E' e1⟩⟩
/-- a call that raises, defaults left out -/
theorem xr_callD {dvs : List V} {as0 bs : List CA} (Gd : FkD X.prog X.w X.K X.mg X.base (L2.CX X.prog X.w) n ps dvs lv (SpG X.K X.mg D0 pre D1 RS xn m)) (hdv : ∀ F H σ vs, Pd (CAok X.K F H σ) vs as0 → Pd (CAok X.K F H σ) (vs ++ dvs) (as0 ++ bs)) (hr : Room lj X.A) (hj : lv ≤ lj) (tk : Takes X W) (ha : XAr X c Γ (e :: es) as0) (hp : pre r) (hx : xn (m r) = some nm) (hD : (as0 ++ bs).map CA.d = D0 r := by rfl) (hz : caFz (as0 ++ bs) = true := by rfl)
    (hgl : Gl X n := by rfl) (hdb : (n == ("__debug__" : Str)) = false := by decide) (hs : starEach (e :: es) X.env = (false, eval e X.env) :: starEach es X.env := by rfl) (hb : ((backTo pos (starEach es X.env)).any fun x => x.fst) = false := by rfl) :
    XR X W c Γ (.Call (.Name n pf) (e :: es) [] pos) nm := by
  obtain ⟨ds, hd, G⟩ := Gd.ex
  obtain ⟨f, fd, g1, g2, g3, g4⟩ := G.ex
  obtain ⟨t, h1, h2⟩ := ha
  refine ⟨_, pe_callSD (E := WE W) g4 (hr.mono hj) hgl g1 g2 g3 hd (fun σ => passAt tk σ) h1 hdb hs hb, fun F H σ fp E Q q => h2 F H σ fp E _ fun vs F1 H1 E1 e1 x1 k0 => ?_⟩
  have k := hdv _ _ _ _ k0
  have hn := caFz_ix hz
  have nd : ((as0 ++ bs).filterMap CA.ix).Nodup := by
    rw [List.filterMap_eq_nil_iff.mpr hn]; exact List.nodup_nil
  obtain ⟨l2, z1, z2, z3, z4⟩ := call_env E1 k (caFz_ok hz) nd
  have e2 := z3 hn
  subst e2
  refine ⟨F1, _, r, adr (vs ++ dvs), by rw [← hD]; exact z1, hp, (fun h => by rw [hx] at h; cases h), fun n' h C F' H' hC wd => ?_⟩
  rw [hx] at h
  cases h
  have eh : Ex H1 H' := fun b o h => wd.keep b o (fun ⟨_, h⟩ => by cases h) h
  have en : ∀ b, F' b ≠ none → F1 b ≠ none ∨ H1 b = none := fun b hb => (wd.new b hb).imp id (fun h => h.elim (fun ⟨_, h⟩ => by cases h) id)
  exact q C F' H' hC (E1.grow wd.f0 wd.fh eh en) (e1.trans wd.f0)
end
section
variable {X : Cx} {CX : CXT} {k : Nat} {f C : Addr} {fd : FuncData} {ps : List Str} {sp : Sp} {E : L2.St → XK} {x : Str} {p pos : Pos} {e : Expr} {es : List Expr} {t : TA}
theorem run_makeS {pins : List (Addr × Obj)} {σ : L2.St} {H : Hp} {s : Shared} {Q : VK} {us : List Value} {vs : List V} (M : Mk X.K C f) (F : FnOk X.prog X.w X.K X.mg X.base CX k f fd ps sp) (hr : Room (k + 1) X.A) (hb : Binds X.K fd ps [])
    (hx : PassesAt CX X σ (E σ)) (I : Inv X pins σ H s) (r : Vals vs us)
    (h : ∀ x dx, H x = none → H dx = none → dx ≠ x → sp (.ref x :: vs) (upd (upd H dx (.own x)) x (.ins C dx [])) (fun v H2 => v = .non ∧ Q (.ref x) H2) (E σ)) :
    wpAny (model X.prog X.w) X.A (call (.ref C) us) (EP X pins σ Q) X.xe s := by
  have hq := h (s.heap.objs.size + 1) s.heap.objs.size (I.hok.fresh (Nat.le_succ _)) (I.hok.fresh (Nat.le_refl _)) (Nat.ne_of_lt (Nat.lt_succ_self _))
  have I2 := Inv.made (C := C) I
  have r2 : Vals (V.ref (s.heap.objs.size + 1) :: vs) (Value.ref (s.heap.objs.size + 1) :: us) := .cons rfl r
  have hl : (Value.ref (s.heap.objs.size + 1) :: us).length = ps.length := by
    have e := r2.length
    rw [F.len _ _ _ _ hq] at e
    exact e.symm
  refine wpAny_call (make_map (f := f) I.kIn M.makes M.init (beq_iff_eq.mp M.fn) (codeAny_mono (F.run _ X.stack _ _ ⟨Value.ref (s.heap.objs.size + 1) :: us, []⟩ (Value.ref (s.heap.objs.size + 1) :: us) _ _ (E σ) (hr.make C us [])
    (I2.env0.make C us []) (by have b := hb _ (Value.ref (s.heap.objs.size + 1) :: us) I2.kIn (by rw [List.append_nil]; exact hl); rw [List.append_nil] at b; exact b) r2 hq) fun r s' hq' => ?_))
  cases r with
  | error e => exact hx pins _ _ e s' I2 hq'
  | ok fl =>
    cases fl with
    | ret u =>
      obtain ⟨v, H', I3, rv, ev, q3⟩ := I2.after hq'
      subst ev
      exact ⟨rv, ⟨V.ref (s.heap.objs.size + 1), H', I3, rfl, q3⟩⟩
    | next => exact False.elim hq'
    | brk => exact False.elim hq'
    | cont => exact False.elim hq'
theorem pe_makeS (M : Mk X.K C f) (F : FnOk X.prog X.w X.K X.mg X.base CX k f fd ps sp) (hr : Room (k + 1) X.A) (hg : Gl X x) (hm : X.mg x = some (.ref C)) (hb : Binds X.K fd ps []) (hx : ∀ σ, PassesAt CX X σ (E σ))
    (ha : PA X (e :: es) t) (hdb : (x == ("__debug__" : Str)) = false := by decide) (he : starEach (e :: es) X.env = (false, eval e X.env) :: starEach es X.env := by rfl) (hpl : (backTo pos (starEach es X.env)).any (·.1) = false := by rfl) :
    PE X (.Call (.Name x p) (e :: es) [] pos) (fun σ H Q => t σ H fun vs H1 => ∀ x dx, H1 x = none → H1 dx = none → dx ≠ x → sp (.ref x :: vs) (upd (upd H1 dx (.own x)) x (.ins C dx [])) (fun v H2 => v = .non ∧ Q (.ref x) H2) (E σ)) := by
  refine ⟨fun pins s σ H Q I h => ?_⟩
  refine wpAny_Call_Name_kw (ld_glob I hg hm ?_ hdb)
  refine PySem.W.callWith_K (h₀ := X.base) I.ok.mod.kin M.kp (thn (ha.run pos pins s σ H _ I h) fun us s1 ⟨vs, H1, I1, r, q⟩ => ⟨I1.kIn, ?_⟩) he hpl
  exact run_makeS M F hr hb (hx σ) I1 r q
end
section
variable {X : Cx} {W : WX} {c : Cw} {Γ : List Slot} {e : Expr} {es : List Expr} {pos : Pos}
variable {α ρ : Type} {D0 : α → List ArgD} {pre : α → Prop} {D1 : ρ → List (Option OT)} {RS : ρ → Slot} {xn : ρ → Option Str} {m : α → ρ} {n nm : Str} {ps : List Str} {lv lj : Nat} {r : α} {as : List CA} {pf : Pos} {C : Addr}
/-- a class whose making raises -/
theorem xr_make (G : Fc' X.prog X.w X.K X.mg X.base (L2.CX X.prog X.w) n C ps lv (SpG X.K X.mg D0 pre D1 RS xn m)) (cl : Cls X.K C) (hr : Room lj X.A) (hj : lv + 1 ≤ lj) (tk : Takes X W) (ha : XAr X c Γ (e :: es) as)
    (hp : pre r) (hx : xn (m r) = some nm) (hD : ArgD.ow (.nd (.ins C []) []) :: as.map CA.d = D0 r := by rfl) (hz : caFz as = true := by rfl)
    (hgl : Gl X n := by rfl) (hdb : (n == ("__debug__" : Str)) = false := by decide) (he : starEach (e :: es) X.env = (false, eval e X.env) :: starEach es X.env := by rfl) (hpl : (backTo pos (starEach es X.env)).any (·.1) = false := by rfl) :
    XR X W c Γ (.Call (.Name n pf) (e :: es) [] pos) nm := by
  have hn := caFz_ix hz
  obtain ⟨f, fd, g1, g2, g3, g4⟩ := G.ex
  obtain ⟨ta, h1, h2⟩ := ha
  refine ⟨_, pe_makeS (E := WE W) g1 g4 (hr.mono hj) hgl g2 g3 (fun σ => passAt tk σ) h1 hdb he hpl, fun F H σ fp E Q q => h2 F H σ fp E _ fun vs F1 H1 E1 e1 x1 k => ?_⟩
  intro x dx hx1 hdx hne
  have hFx : F1 x = none := E1.ff hx1
  have hFd : F1 dx = none := E1.ff hdx
  let H2 : Hp := upd (upd H1 dx (.own x)) x (.ins C dx [])
  have eH : Ex H1 H2 := (Ex.new hdx).trans (Ex.new (by rw [upd_ne (Ne.symm hne)]; exact hx1))
  have eF : Ex F1 H2 := E1.wd.fh.trans eH
  have hlen : vs.length = as.length := Pd.length k
  have nov : ∀ (j : Nat) (a : CA), as[j]? = some a → ∃ (ζ : Type) (i : Py ζ) (z : ζ), a = CA.fz z := fun j a ha => by
    have := hn a (List.mem_of_getElem? ha)
    cases a with
    | fz z => exact ⟨_, _, z, rfl⟩
    | pl => cases this
  have E0 : EnvD X.K (cwOf F1 H2 (fun k => if k = 0 then [x] else [])) F1 H2 ((V.ref x :: vs).map some) (argSl (fun _ => x) 0 (D0 r)) (fun k => if k = 0 then [x] else []) := by
    rw [← hD]
    refine ⟨⟨Ex.refl _, eF, fun b o _ h => h, fun b h => .inl h⟩, by simp [argSl_len, hlen], fun j s hs => ?_, fun i j b h1 h2 => ?_, fun i b h => .inl ⟨i, h⟩, fun i h => ?_⟩
    · cases j with
      | zero =>
        have hs : Slot.ow (some x) (.nd (.ins C []) []) = s := by simpa [argSl, ArgD.slot] using hs
        subst hs
        refine ⟨some (.ref x), rfl, .ref x, rfl, ?_, fun a ha => by cases ha; rfl⟩
        have := OA.mk (K := X.K) (F := F1) (H := H2) (a := x) (fps := []) (ts := []) (vs := []) (k := .ins C []) (o := .ins C dx []) hFx upd_same ⟨⟨cl, fun n hn => by cases hn⟩, rfl, dx, rfl⟩ .nil (by simp)
        simpa using this
      | succ j =>
        have hs : (argSl (fun _ => x) 1 (as.map CA.d))[j]? = some s := by simpa [argSl] using hs
        rw [argSl_get, List.getElem?_map] at hs
        by_cases hj : j < as.length
        · rw [List.getElem?_eq_getElem hj] at hs
          obtain ⟨v, q1, q2⟩ := paired_get k (List.getElem?_eq_getElem hj)
          obtain ⟨ζ, i, z, hz⟩ := nov j _ (List.getElem?_eq_getElem hj)
          rw [hz] at hs q2
          have hs : Slot.fz z = s := by simpa [CA.d, ArgD.slot] using hs
          subst hs
          exact ⟨some v, by simp [q1], by simp, v, rfl, q2⟩
        · rw [List.getElem?_eq_none (by omega)] at hs; cases hs
    · (try dsimp only at h1 h2)
      split at h1
      · split at h2
        · omega
        · cases h2
      · cases h1
    · have : i ≠ 0 := by
        rintro rfl
        simp [argSl] at h
      rw [if_neg this]
  refine ⟨F1, _, r, fun _ => x, E0, hp, (fun h => by rw [hx] at h; cases h), fun n' h C2 F' H' hC wd => ?_⟩
  rw [hx] at h
  cases h
  have alH : ∀ b, (cwOf F1 H2 (fun k => if k = 0 then [x] else [])).al b → H1 b = none := fun b h => by
    rcases h with ⟨k, h⟩ | h
    · (try dsimp only at h)
      split at h
      · cases List.mem_singleton.mp h; exact hx1
      · cases h
    · cases z : H1 b with
      | none => rfl
      | some o => have := eH _ _ z; rw [show H2 b = none from h] at this; cases this
  have eh : Ex H1 H' := fun b o h => wd.keep b o (fun ⟨k, h2⟩ => by
    (try dsimp only at h2)
    split at h2
    · cases List.mem_singleton.mp h2; rw [hx1] at h; cases h
    · cases h2) (eH _ _ h)
  have en : ∀ b, F' b ≠ none → F1 b ≠ none ∨ H1 b = none := fun b hb => (wd.new b hb).imp id (alH b)
  exact q C2 F' H' hC (E1.grow wd.f0 wd.fh eh en) (e1.trans wd.f0)
end
section
variable {X : Cx} {w : Wx} {c : Cw} {Γ : List Slot} {S B : Type} {R : Rc} {G : S → List Slot} {GB : B → List Slot} {e : Expr} {n : Str} {pos : Pos}
theorem pg_never {tg : Expr} : PG X tg (fun _ _ _ _ => False) := ⟨by intros; rename_i h; exact h.elim⟩
/-- a target = e, e raises -/
theorem xs_asgX {tg : Expr} {rr : R.ρ} (h : XR X w.W c Γ e n) (hx : R.xn rr = some n) (hw : Weak Γ w.Γ) (hs : swapsWithSole [tg] e pos.line X.env = pure false := by rfl) (hw2 : swappedStores [tg] e X.env = pure none := by rfl) (h1' : (assignEach [tg] X.env).map (·.2) = [assign tg X.env] := by rfl) :
    XS X w c Γ (.Assign [tg] e pos) G GB (Out.rt rr : Out S B R.ρ) := by
  obtain ⟨t, h1, h2⟩ := h
  exact ⟨_, ps_asg h1 pg_never hs hw2 h1', fun F H σ ⟨fp, E⟩ D q => h2 F H σ fp E _ fun C F' H' hC E' e1 => q.2 n hx C σ F' H' hC (Env.weak ⟨fp, E'⟩ hw) e1⟩
theorem xs_letX {rr : R.ρ} {y : Str} {p : Pos} (i : Nat) (hN : X.N.Nodup) (h : XR X w.W c Γ e n) (hx : R.xn rr = some n) (hw : Weak Γ w.Γ) (hi : X.N[i]? = some y := by rfl) (hl : Loc X.env.scope y := by first | exact .inl rfl | exact .inr rfl) (hs : swapsWith e (some (.Name y p)) pos.line X.env = pure false := by rfl)
    (hf : X.fn y = true ∨ X.env.scope.names.lookup y = some .local := by first | exact .inl rfl | exact .inr rfl | assumption) : XS X w c Γ (.Assign [.Name y p] e pos) G GB (Out.rt rr : Out S B R.ρ) := by
  obtain ⟨t, h1, h2⟩ := h
  exact ⟨_, ps_set (i := i) hN hi hl h1 hs hf, fun F H σ ⟨fp, E⟩ D q => h2 F H σ fp E _ fun C F' H' hC E' e1 => q.2 n hx C σ F' H' hC (Env.weak ⟨fp, E'⟩ hw) e1⟩
end
section
variable {X : Cx} {w : Wx} {c : Cw} {Γ Γ' : List Slot} {B : Type} {R : Rc} {GB : B → List Slot} {e : Expr} {n : Str} {pos : Pos}
theorem xs_tryM {M v : Str} {i : Nat} {suite : List Stmt} {b₀ : Stmt} {np pos' p0 : Pos} (Cf : CaF X.K X.mg n M) (hN : X.N.Nodup)
    (he : ∀ (pn : List (Addr × Obj)) (xe : Value → Shared → Prop), ∃ s, XM (X.tr pn xe) c Γ Γ' e s)
    (hswap : ∀ pn xe, swapsWith e none p0.line (X.tr pn xe).env = pure false := by intros; rfl)
    (hs : X.stack = X.env :: X.outer := by rfl) (hf : X.env.frame = some X.env.locals := by rfl) (hi : X.N[i]? = some v := by rfl) (hln : X.env.kindOf v = some .local := by rfl) (hg : Gl X M := by rfl) (hdb : (M == ("__debug__" : Str)) = false := by decide) :
    XS X w c Γ (.Try [.Expr e p0] [.ExceptHandler (some (.Name M np)) (some v) (b₀ :: suite) pos'] [] [] pos) (fun _ : Unit => Γ') GB (Out.nx () : Out Unit B R.ρ) := by
  obtain ⟨_, D', _, k2, _⟩ := Cf.ex
  exact xs_tryN k2 hN he hswap hs hf hi hln hg hdb
end
/-! ### in a def that always raises -/
section
variable {X : Cx} {w : Wx} {c : Cw} {Γ : List Slot} {S B : Type} {as : Nat → Addr} {D1 : Unit → List (Option OT)} {RS : Unit → Slot} {xn : Unit → Option Str} {G : S → List Slot} {GB : B → List Slot} {e : Expr} {n : Str} {pos : Pos} {rest : List Stmt}
theorem xf_neverU {nf : S → Unit} (h : False) : XF X w c Γ rest (R := RcG as D1 RS xn) nf G () := h.elim
theorem xs_raiseU {mm : Str} {j : Nat} {p p2 q1 : Pos} (T : XcF X.K X.mg n) (tk : Takes X w.W) (hx : xn () = some n) (hw : Weak Γ w.Γ) (hc : X.calm = true := by rfl) (hg : Gl X n := by rfl) (hdb : (n == ("__debug__" : Str)) = false := by decide) :
    XS X w c Γ (.Raise (some (.Call (.Name n p) [.Constant (.str mm) j p2] [] q1)) none pos) (R := RcG as D1 RS xn) G GB (Out.rt () : Out S B Unit) := xs_raise (R := RcG as D1 RS xn) (rr := ()) T tk hx hw hc hg hdb
theorem xs_exprU (h : XR X w.W c Γ e n) (hx : xn () = some n) (hw : Weak Γ w.Γ) (hs : swapsWith e none pos.line X.env = pure false := by rfl) : XS X w c Γ (.Expr e pos) (R := RcG as D1 RS xn) G GB (Out.rt () : Out S B Unit) := xs_exprX (R := RcG as D1 RS xn) (rr := ()) h hx hw hs
theorem xs_retU (h : XR X w.W c Γ e n) (hx : xn () = some n) (hw : Weak Γ w.Γ) : XS X w c Γ (.Return (some e) pos) (R := RcG as D1 RS xn) G GB (Out.rt () : Out S B Unit) := xs_retX (R := RcG as D1 RS xn) (rr := ()) h hx hw
theorem xs_asgU {tg : Expr} (h : XR X w.W c Γ e n) (hx : xn () = some n) (hw : Weak Γ w.Γ) (hs : swapsWithSole [tg] e pos.line X.env = pure false := by rfl) (hw2 : swappedStores [tg] e X.env = pure none := by rfl) (h1' : (assignEach [tg] X.env).map (·.2) = [assign tg X.env] := by rfl) :
    XS X w c Γ (.Assign [tg] e pos) (R := RcG as D1 RS xn) G GB (Out.rt () : Out S B Unit) := xs_asgX (R := RcG as D1 RS xn) (rr := ()) h hx hw hs hw2 h1'
theorem xs_letU {y : Str} {p : Pos} (i : Nat) (hN : X.N.Nodup) (h : XR X w.W c Γ e n) (hx : xn () = some n) (hw : Weak Γ w.Γ) (hi : X.N[i]? = some y := by rfl) (hl : Loc X.env.scope y := by first | exact .inl rfl | exact .inr rfl) (hs : swapsWith e (some (.Name y p)) pos.line X.env = pure false := by rfl)
    (hf : X.fn y = true ∨ X.env.scope.names.lookup y = some .local := by first | exact .inl rfl | exact .inr rfl | assumption) : XS X w c Γ (.Assign [.Name y p] e pos) (R := RcG as D1 RS xn) G GB (Out.rt () : Out S B Unit) := xs_letX (R := RcG as D1 RS xn) (rr := ()) i hN h hx hw hi hl hs hf
end
/-! ### facts -/
section
variable {K : Fg} {mg : Str → Option Value} {h : Heap} {n m : Str} {C D : Addr} {b : Bool}
theorem xcf_mk (KX : K.In h) (G : h.Ns mainGlobals mg) (a : PySem.W.nsIn K mainGlobals n = some (some (.ref C))) (q : PySem.W.excIn K C [.type "ValueError", .type "Exception", .type "BaseException", .type "object"] "ValueError.__new__" = true) (k : PySem.W.keepIn K (.ref C) = true)
    (s : PySem.W.subIn K (.ref C) (.type "BaseException") = some true) (t : PySem.W.typeIn K (.ref C) = some (.type "type"))
    (e1 : PySem.W.findIn K (.ref C) "__getattribute__" = some (some (.builtin "BaseException.__getattribute__"))) (e2 : PySem.W.findIn K (.ref C) "__getattr__" = some none) (e4 : PySem.W.hasDictIn K C = true)
    (e5 : PySem.W.findIn K (.ref C) "__class__" = some (some (.builtin "object.__class__"))) (e6 : PySem.W.specialIn K (.builtin "object.__class__") "__get__" = some (some (.builtin "getset_descriptor.__get__"))) (e7 : PySem.W.takesIn K (.builtin "object.__class__") = some true) (e8 : PySem.W.mroIn K C (.type "object") = some true) : XcF K mg n :=
  ⟨C, PySem.W.mg_of KX G a, q, k, s, t, ⟨e1, e2, s, e4, e5, e6, e7, e8⟩⟩
theorem caf_mk (KX : K.In h) (G : h.Ns mainGlobals mg) (a : PySem.W.nsIn K mainGlobals n = some (some (.ref C))) (a2 : PySem.W.nsIn K mainGlobals m = some (some (.ref D))) (h1 : PySem.W.subIn K (.ref D) (.type "BaseException") = some true) (hd : PySem.W.hasDictIn K D = true) (ht : PySem.W.typeIn K (.ref D) = some (.type "type")) (h4 : PySem.W.subIn K (.ref C) (.ref D) = some true) : CaF K mg n m :=
  ⟨C, D, PySem.W.mg_of KX G a, PySem.W.mg_of KX G a2, PySem.W.exm_ref h1 hd ht h4⟩
theorem kif_mk (KX : K.In h) (G : h.Ns mainGlobals mg) (a : PySem.W.nsIn K mainGlobals n = some (some (.ref C))) (a2 : PySem.W.nsIn K mainGlobals m = some (some (.ref D))) (k : PySem.W.kitOne K (.ref C) (.ref D) = some b) : KiF K mg n m b := ⟨C, D, PySem.W.mg_of KX G a, PySem.W.mg_of KX G a2, k⟩
theorem kit_own (ne : (Value.ref C == Value.ref D) = false) (hd : PySem.W.hasDictIn K D = true) (ht : PySem.W.typeIn K (.ref D) = some (.type "type")) (h4 : PySem.W.subIn K (.ref C) (.ref D) = some b) : PySem.W.kitOne K (.ref C) (.ref D) = some b := by
  obtain ⟨cd, hc, _⟩ := PySem.W.any_some hd
  unfold PySem.W.kitOne PySem.W.kitCls
  rw [ne, if_neg Bool.false_ne_true]
  dsimp only
  rw [hc, ht]
  exact h4
theorem kit_same : PySem.W.kitOne K (.ref C) (.ref C) = some true := by
  unfold PySem.W.kitOne
  rw [if_pos]
  simp
theorem ktf_mk {t : String} (KX : K.In h) (G : h.Ns mainGlobals mg) (a : PySem.W.nsIn K mainGlobals n = some (some (.ref C))) (ne : (Value.ref C == Value.type t) = false) (hm : PySem.W.kitMeta t = true) (h4 : PySem.W.subIn K (.ref C) (.type t) = some b) : KtF K mg n t b := by
  refine ⟨C, PySem.W.mg_of KX G a, ?_⟩
  unfold PySem.W.kitOne PySem.W.kitCls
  rw [ne, if_neg Bool.false_ne_true]
  dsimp only
  rw [if_pos hm]
  exact h4
end
/-! ### things of any kind, told as of one -/
section
variable {X : Cx} {c : Cw} {Γ : List Slot} {e : Expr} {τ : Type} [Py τ]
def Dy.isL : Dy → Bool | .lst _ => true | _ => false
def Dy.asL : Dy → List Dy | .lst l => l | _ => []
def Dy.isT : Dy → Bool | .tup _ => true | _ => false
def Dy.asT : Dy → Tup Dy | .tup l => ⟨l⟩ | _ => ⟨[]⟩
def Dy.isI : Dy → Bool | .int _ => true | _ => false
def Dy.asI : Dy → Int | .int i => i | _ => 0
def Dy.isS : Dy → Bool | .str _ => true | _ => false
def Dy.asS : Dy → Str | .str s => s | _ => ("" : Str)
theorem xe_asL {d : Dy} (h : XE X c Γ e d) (k : d.isL = true) : XE X c Γ e d.asL := by
  cases d with
  | lst l =>
    exact h.coe fun F v r => by
      change Dy.rep X.K F (.lst l) v at r
      unfold Dy.rep at r
      obtain ⟨a, vs, h1, h2, h3⟩ := r
      exact ⟨a, vs, h1, h2, Dy.reps_iff.mp h3⟩
  | _ => cases k
theorem xe_asT {d : Dy} (h : XE X c Γ e d) (k : d.isT = true) : XE X c Γ e d.asT := by
  cases d with
  | tup l =>
    exact h.coe fun F v r => by
      change Dy.rep X.K F (.tup l) v at r
      unfold Dy.rep at r
      obtain ⟨a, vs, h1, h2, h3⟩ := r
      exact ⟨a, vs, h1, h2, Dy.reps_iff.mp h3⟩
  | _ => cases k
theorem xe_asI {d : Dy} (h : XE X c Γ e d) (k : d.isI = true) : XE X c Γ e d.asI := by
  cases d with
  | int i => exact h.coe fun F v r => by change Dy.rep X.K F (.int i) v at r; unfold Dy.rep at r; exact r
  | _ => cases k
theorem xe_asS {d : Dy} (h : XE X c Γ e d) (k : d.isS = true) : XE X c Γ e d.asS := by
  cases d with
  | str i => exact h.coe fun F v r => by change Dy.rep X.K F (.str i) v at r; unfold Dy.rep at r; exact r
  | _ => cases k
theorem reps_dy [ToDy τ] {K : Fg} {F : Hp} : ∀ {vs : List V} {xs : List τ}, Reps K F vs xs → Reps K F vs (xs.map (ToDy.dy (τ := τ)))
  | _, _, .nil => .nil
  | _, _, .cons h t => .cons (ToDy.ok h) (reps_dy t)
/-- a list of things of one kind, told as things of any -/
theorem xe_mapdy [ToDy τ] {xs : List τ} (h : XE X c Γ e xs) : XE X c Γ e (xs.map (ToDy.dy (τ := τ))) := h.coe fun F v ⟨a, vs, h1, h2, h3⟩ => ⟨a, vs, h1, h2, reps_dy h3⟩
end
/-! ### repr of a tuple of four numbers -/
section
variable {X : Cx} {c : Cw} {Γ : List Slot} {e : Expr} {pos : Pos}
def dy4 (x : T4 Int Int Int Int) : List Dy := [.int x.a, .int x.b, .int x.c, .int x.d]
theorem shw4_ex : ∃ f : T4 Int Int Int Int → Str, ∀ x, f x = (Dy.toD (.tup (dy4 x))).shown := ⟨fun x => (Dy.toD (.tup (dy4 x))).shown, fun _ => rfl⟩
/-- how it is shown (never unfolded) -/
noncomputable def shw4 : T4 Int Int Int Int → Str := Classical.choose shw4_ex
theorem shw4_is (x : T4 Int Int Int Int) : shw4 x = (Dy.toD (.tup (dy4 x))).shown := Classical.choose_spec shw4_ex x
structure Shn4 (x : T4 Int Int Int Int) : Prop where
  a : x.a.natAbs < 10 ^ 10
  b : x.b.natAbs < 10 ^ 10
  c : x.c.natAbs < 10 ^ 10
  d : x.d.natAbs < 10 ^ 10
theorem xe_repr4 {x : T4 Int Int Int Int} {pf : Pos} (hm : X.mg "repr" = none) (gd : X.A.guards = some []) (hu : X.A.units + 64 < cLine) (he : XE X c Γ e x) (h : Shn4 x) (hg : Gl X "repr" := by rfl) (hs : starEach [e] X.env = [(false, eval e X.env)] := by rfl) : XE X c Γ (.Call (.Name "repr" pf) [e] [] pos) (shw4 x) := by
  obtain ⟨te, h1, h2⟩ := he
  obtain ⟨b1, b2, b3, b4, b5, b6⟩ := list_ok (n := 0) (b := 11) (l := dy4 x) fun z hz => by
    obtain ⟨a1, a2, a3, a4, a5⟩ := tiny_ok (d := z) (by
      unfold dy4 at hz
      simp only [List.mem_cons, List.not_mem_nil, or_false] at hz
      rcases hz with rfl | rfl | rfl | rfl
      · exact h.a
      · exact h.b
      · exact h.c
      · exact h.d)
    exact ⟨a1, a2, a3, by omega, a5⟩
  refine ⟨_, pe_callB (call_reprD gd hu) hg hm (by decide +kernel) (pa_cons h1 pa_nil hs) (by decide) (by decide) hs rfl, fun F H σ fp E Q q => h2 F H σ fp E _ fun v F1 H1 E1 e1 n1 r => ?_⟩
  obtain ⟨p, v1, v2, v3, v4, rfl, r1, r2, r3, r4, r5⟩ := (Py.mono E1.wd.fh r : rep X.K H1 v x)
  have rd : Dy.rep X.K H1 (.tup (dy4 x)) (.ref p) := by
    unfold Dy.rep
    refine ⟨p, _, rfl, r1, Dy.reps_iff.mpr ?_⟩
    have i : ∀ {u : V} {n : Int}, rep X.K H1 u n → rep X.K H1 u (Dy.int n) := fun {u n} h => by
      show Dy.rep X.K H1 (.int n) u
      unfold Dy.rep; exact h
    exact .cons (i r2) (.cons (i r3) (.cons (i r4) (.cons (i r5) .nil)))
  refine ⟨.ref p, _, rfl, ⟨p, rfl⟩, Dy.dp (.tup (dy4 x)) _ (by unfold Dy.nice; exact b1) rd, by unfold Dy.toD PyData.showable; exact b2, by unfold Dy.toD PyData.hasDict; exact b3, by unfold Dy.toD PyData.depth; omega, ?_, q _ F1 H1 E1 e1 n1 (by rw [shw4_is]; rfl)⟩
  unfold Dy.toD PyData.shown
  have k := tupleText_len_le (PyData.shownAll (Dy.toDs (dy4 x)))
  have k2 := sum_le b6
  rw [b5] at k k2
  have h4 : (dy4 x).length = 4 := rfl
  rw [h4] at k k2
  exact sz _ (by omega)
end
end Fw
/-! list.count, list.index of truths; numbers that are known; trees seen otherwise; a for over what is owned; blocks within a try -/
namespace Fw
open PySem L2 Py PyProof.Rows PySem.Spec
section
variable {X : Cx}
theorem cnt_eqU {x : V} : ∀ {xs : List V} {us : List Value}, Vals xs us → xs.all flatV = true → us.countP (eqU x) = xs.countP fun y => eqV y x
  | _, _, .nil, _ => rfl
  | y :: xs, u :: us, .cons r t, f => by
    rw [List.all_cons, Bool.and_eq_true] at f
    rw [List.countP_cons, List.countP_cons, eqU_of r f.1, cnt_eqU t f.2]
def rCntF (K : PySem.W.Frag) : V → List V → Hp → VK → Prop := fun x xs H Q => ∃ (p : Addr) (ys : List V) (y : V), x = .ref p ∧ xs = [y] ∧ SqL K H p ys ∧ flatV y = true ∧ ys.all flatV = true ∧ Q (.int ((ys.countP fun z => eqV z y : Nat) : Int)) H
theorem mt_lcountF : MtR X "list.count" (rCntF X.K) := by
  intro pins s σ H x xs v us Q I rx rxs h
  obtain ⟨p, ys, y, rfl, rfl, hs, fy, fys, q⟩ := h
  cases rx
  obtain ⟨u, rfl, ru⟩ := rxs.one
  obtain ⟨its, rv, ⟨⟨cls, dd, data, sl⟩, n, ho, hc, hdn, hd⟩, hlen⟩ := I.list hs
  simp only at hc hd
  subst hc hd
  refine call_meets PySem.F.slot_list_count ⟨_, ho, rfl⟩ PySem.F.entry_list_count (PySem.F.args_list_count_2 _ _)
    (SeqAt.list_countAt p its.toArray n dd sl u (eqU y)) ⟨ho, fun z hz => mem_eqAt ru fy rv fys z (by simpa using hz), ?_⟩
  have ec : its.toArray.toList.countP (eqU y) = ys.countP fun z => eqV z y := cnt_eqU rv fys
  refine ⟨.int ((ys.countP fun z => eqV z y : Nat) : Int), H, I.tok _, ⟨s.toks, ?_⟩, q⟩
  show Value.int ((its.toArray.toList.countP (eqU y) : Nat) : Int) s.toks = Value.int ((ys.countP fun z => eqV z y : Nat) : Int) s.toks
  rw [ec]
end
theorem repsB : ∀ {K : Fg} {F : Hp} {vs : List V} {xs : List Bool}, Reps K F vs xs → vs = xs.map V.bl
  | _, _, _, _, .nil => rfl
  | _, _, _, _, .cons (b := x) r t => by
    cases (show _ = V.bl _ from r)
    rw [repsB t]; rfl
theorem flatB (xs : List Bool) : (xs.map V.bl).all flatV = true := by
  induction xs with
  | nil => rfl
  | cons x r ih => rw [List.map_cons, List.all_cons, ih]; rfl
def cntB (xs : List Bool) (b : Bool) : Int := ((xs.countP fun z => z == b : Nat) : Int)
theorem cntB_V (xs : List Bool) (b : Bool) : (xs.map V.bl).countP (fun z => eqV z (.bl b)) = xs.countP fun z => z == b := by
  rw [List.countP_map]; rfl
def idxB (xs : List Bool) (b : Bool) : Int := ((xs.findIdx fun z => z == b : Nat) : Int)
section
variable {X : Cx} {c : Cw} {Γ : List Slot} {o e : Expr} {pos ap : Pos}
theorem xe_lcntB {xs : List Bool} {b : Bool} (ho : XE X c Γ o xs) (he : XE X c Γ e b) (hst : starEach [e] X.env = [(false, eval e X.env)] := by rfl) (hab : attributeBase o "count" X.env (eval o X.env) = eval o X.env := by rfl) (hln : (ap.endLine == pos.line) = true := by rfl)
    (hfew : ((backTo pos (starEach [e] X.env)).all (fun x => !x.1) && (backToKw pos (keywordEach [] X.env)).all (fun x => x.1.isSome) && decide (([e] : List Expr).length + ([] : List Keyword).length + (if ([] : List Keyword).isEmpty then 0 else 1) < 30)) = true := by rfl) :
    XE X c Γ (.Call (.Attribute o "count" ap) [e] [] pos) (cntB xs b) := by
  obtain ⟨t1, a1, a2⟩ := ho
  obtain ⟨t2, b1, b2⟩ := he
  refine ⟨_, pe_bm PySem.F.plainAttrs_list PySem.F.slot_list_count PySem.F.type_list_count mt_lcountF a1 (pa_cons b1 pa_nil hst) hab hfew hln hst rfl, fun F H σ fp E Q q => a2 F H σ fp E _ fun v F1 H1 E1 e1 g1 r1 => ?_⟩
  obtain ⟨a, vs, rfl, r2, r3⟩ := r1
  refine ⟨.inl ⟨rfl, _, sq_of (E1.wd.fh _ _ r2)⟩, b2 F1 H1 σ fp E1 _ fun u F2 H2 E2 e2 g2 ru => ?_⟩
  cases (show u = V.bl b from ru)
  have hvs := repsB r3
  subst hvs
  refine ⟨a, _, _, rfl, rfl, sq_of (E2.wd.fh _ _ (e2 _ _ r2)), rfl, flatB xs, q _ F2 H2 E2 (e1.trans e2) (g1.trans g2) ?_⟩
  show V.int _ = V.int (cntB xs b)
  rw [cntB_V]; rfl
theorem xe_lidxB {xs : List Bool} {b : Bool} (ho : XE X c Γ o xs) (he : XE X c Γ e b) (hm : b ∈ xs) (hst : starEach [e] X.env = [(false, eval e X.env)] := by rfl) (hab : attributeBase o "index" X.env (eval o X.env) = eval o X.env := by rfl) (hln : (ap.endLine == pos.line) = true := by rfl)
    (hfew : ((backTo pos (starEach [e] X.env)).all (fun x => !x.1) && (backToKw pos (keywordEach [] X.env)).all (fun x => x.1.isSome) && decide (([e] : List Expr).length + ([] : List Keyword).length + (if ([] : List Keyword).isEmpty then 0 else 1) < 30)) = true := by rfl) :
    XE X c Γ (.Call (.Attribute o "index" ap) [e] [] pos) (idxB xs b) := by
  obtain ⟨t1, a1, a2⟩ := ho
  obtain ⟨t2, b1, b2⟩ := he
  refine ⟨_, pe_bm PySem.F.plainAttrs_list PySem.F.slot_list_index PySem.F.type_list_index mt_index a1 (pa_cons b1 pa_nil hst) hab hfew hln hst rfl, fun F H σ fp E Q q => a2 F H σ fp E _ fun v F1 H1 E1 e1 g1 r1 => ?_⟩
  obtain ⟨a, vs, rfl, r2, r3⟩ := r1
  refine ⟨.inl ⟨rfl, _, sq_of (E1.wd.fh _ _ r2)⟩, b2 F1 H1 σ fp E1 _ fun u F2 H2 E2 e2 g2 ru => ?_⟩
  cases (show u = V.bl b from ru)
  have hvs := repsB r3
  subst hvs
  have hj : xs.findIdx (fun z => z == b) < xs.length := List.findIdx_lt_length_of_exists ⟨b, hm, by simp⟩
  have hz := List.findIdx_getElem (p := fun z => z == b) (w := hj)
  refine ⟨a, _, _, xs.findIdx (fun z => z == b), V.bl b, rfl, rfl, sq_of (E2.wd.fh _ _ (e2 _ _ r2)), rfl, flatB xs, ?_, by show (b == b) = true; simp, fun m z' hm' hz' => ?_, q _ F2 H2 E2 (e1.trans e2) (g1.trans g2) rfl⟩
  · rw [List.getElem?_map, List.getElem?_eq_getElem hj]
    have : xs[xs.findIdx fun z => z == b] = b := by simpa using hz
    rw [this]; rfl
  · have hml : m < xs.length := by omega
    rw [List.getElem?_map, List.getElem?_eq_getElem hml] at hz'
    cases hz'
    have := List.not_of_lt_findIdx hm'
    show (xs[m] == b) = false
    simpa using this
end
/-! ### numbers that are known -/
structure LitI (k : Int) where
deriving Inhabited
instance {k : Int} : Py (LitI k) := ⟨fun _ _ v _ => v = .int k, fun _ h => h⟩
section
variable {X : Cx} {c : Cw} {Γ : List Slot} {e : Expr}
theorem xe_lit {k : Int} (h : XE X c Γ e k) : XE X c Γ e (⟨⟩ : LitI k) := h
theorem xe_unlit {k : Int} {x : LitI k} (h : XE X c Γ e x) : XE X c Γ e k := h
end
/-! ### a tree seen otherwise -/
def Rt (t t' : OT) : Prop := ∀ {K : Fg} {F H : Hp} {v : V} {l : List Addr}, OA K F H v l t → OA K F H v l t'
theorem rt_refl {t : OT} : Rt t t := fun h => h
theorem rt_fz {τ υ : Type} [Py τ] [Py υ] {x : τ} {y : υ} (h : ∀ {K : Fg} {F : Hp} {v : V}, rep K F v x → rep K F v y) : Rt (.fz x) (.fz y) := fun {K F H v l} a => by
  cases a with
  | fz r => exact .fz (h r)
theorem rt_nd {k : Kind} {ts us : List OT} (hl : ts.length = us.length) (h : ∀ (i : Nat) t u, ts[i]? = some t → us[i]? = some u → Rt t u) : Rt (.nd k ts) (.nd k us) := fun {K F H v l} a => by
  obtain ⟨a, o, vs, fps, rfl, rfl, hF, hH, ko, hc, nd⟩ := a.l3
  refine OA.mk hF hH ko ⟨by rw [hc.1, hl], by rw [hc.2.1, hl], fun i v l u h1 h2 h3 => ?_⟩ nd
  have hi : i < ts.length := by rw [hl]; exact (List.getElem?_eq_some_iff.mp h3).1
  exact h i ts[i] u (List.getElem?_eq_getElem hi) h3 (hc.2.2 i v l ts[i] h1 h2 (List.getElem?_eq_getElem hi))
theorem rt_li {α β : Type} {g : α → OT} {h : β → OT} {φ : α → β} {xs : List α} (k : ∀ x, Rt (g x) (h (φ x))) : Rt (OT.li g xs) (OT.li h (xs.map φ)) := rt_nd (by simp) fun i t u h1 h2 => by
  rw [List.getElem?_map] at h1
  rw [List.getElem?_map, List.getElem?_map] at h2
  cases q : xs[i]? with
  | none => rw [q] at h1; cases h1
  | some x =>
    rw [q] at h1 h2
    cases h1; cases h2
    exact k x
theorem rt_olD {τ : Type} [Py τ] [ToDy τ] {xs : List τ} : Rt (ol xs) (ol (xs.map fun z => ToDy.dy z)) := rt_li fun x => rt_fz fun r => ToDy.ok r
section
variable {X : Cx} {w : Wx} {c : Cw} {Γ : List Slot} {S B : Type} {R : Rc} {G : S → List Slot} {GB : B → List Slot} {o : Out S B R.ρ} {rest : List Stmt} {oa : Option Addr} {t t' : OT} {nf : S → R.ρ} {r : R.ρ}
theorem env_rt {K : Fg} {F H : Hp} {σ : L2.St} {i : Nat} (h : Rt t t') (hs : Γ[i]? = some (.ow oa t)) (E : Env K c F H σ Γ) : Env K c F H σ (Γ.set i (.ow oa t')) := by
  obtain ⟨fp, E⟩ := E
  have hil := get_lt hs
  refine ⟨fp, E.wd, by rw [E.len]; simp, fun j s hj => ?_, E.dis, E.al, fun j hj => E.out j (by simpa using hj)⟩
  by_cases hij : j = i
  · subst hij
    rw [List.getElem?_set_self hil] at hj
    cases hj
    obtain ⟨v, h1, h2, h3⟩ := E.geto hs
    exact ⟨some v, h1, v, rfl, h h2, h3⟩
  · rw [List.getElem?_set_ne (Ne.symm hij)] at hj
    exact E.ok j s hj
theorem xo_rt (i : Nat) (h : Rt t t') (k : XO X w c (Γ.set i (.ow oa t')) rest G GB o) (hs : Γ[i]? = some (.ow oa t) := by rfl) : XO X w c Γ rest G GB o := by
  obtain ⟨tr, t1, t2⟩ := k
  exact ⟨tr, t1, fun F H σ E D q => t2 F H σ (env_rt h hs E) D q⟩
theorem xf_rt (i : Nat) (h : Rt t t') (k : XF X w c (Γ.set i (.ow oa t')) rest nf G r) (hs : Γ[i]? = some (.ow oa t) := by rfl) : XF X w c Γ rest nf G r := by
  obtain ⟨o, ho, k⟩ := k
  exact ⟨o, ho, xo_rt i h k hs⟩
/-- an address is forgotten, or told where it is known -/
theorem env_oa {K : Fg} {F H : Hp} {σ : L2.St} {i : Nat} {a : Addr} (hs : Γ[i]? = some (.ow (some a) t)) (ho : oa = none ∨ oa = some a) (E : Env K c F H σ Γ) : Env K c F H σ (Γ.set i (.ow oa t)) := by
  obtain ⟨fp, E⟩ := E
  have hil := get_lt hs
  refine ⟨fp, E.wd, by rw [E.len]; simp, fun j s hj => ?_, E.dis, E.al, fun j hj => E.out j (by simpa using hj)⟩
  by_cases hij : j = i
  · subst hij
    rw [List.getElem?_set_self hil] at hj
    cases hj
    obtain ⟨v, h1, h2, h3⟩ := E.geto hs
    refine ⟨some v, h1, v, rfl, h2, fun b hb => ?_⟩
    rcases ho with rfl | rfl
    · cases hb
    · cases hb; exact h3 _ rfl
  · rw [List.getElem?_set_ne (Ne.symm hij)] at hj
    exact E.ok j s hj
theorem env_oas {K : Fg} {F H : Hp} {σ : L2.St} {i : Nat} {a : Addr} (hs : Γ[i]? = some (.ow oa t)) (hv : σ[i]? = some (some (.ref a))) (E : Env K c F H σ Γ) : Env K c F H σ (Γ.set i (.ow (some a) t)) := by
  obtain ⟨fp, E⟩ := E
  have hil := get_lt hs
  refine ⟨fp, E.wd, by rw [E.len]; simp, fun j s hj => ?_, E.dis, E.al, fun j hj => E.out j (by simpa using hj)⟩
  by_cases hij : j = i
  · subst hij
    rw [List.getElem?_set_self hil] at hj
    cases hj
    obtain ⟨v, h1, h2, h3⟩ := E.geto hs
    rw [hv] at h1
    cases h1
    exact ⟨some (.ref a), hv, _, rfl, h2, fun b hb => by cases hb; rfl⟩
  · rw [List.getElem?_set_ne (Ne.symm hij)] at hj
    exact E.ok j s hj
end
/-! ### a for over an owned list: each item is had by the name while its turn goes on -/
def vRunO {S α R : Type} (f : S → Int → Out S S R) (vb : S → Int → Prop) (cur : S → List α) (n : Nat) (s0 : S) : Prop :=
  vRun f (fun s y => (cur s).length = n ∧ vb s y) s0 (izs 0 n) ∧ ∀ s', (runFor f s0 (izs 0 n) : Out S Empty R) = .nx s' → (cur s').length = n
section
variable {X : Cx} {w : Wx} {c : Cw} {Γ : List Slot} {S B α : Type} [Inhabited α] {R : Rc} {G : S → List Slot} {GB : B → List Slot} {oa : Option Addr} {pos : Pos}
theorem xs_forO {n : Str} {p : Pos} {it : Expr} {body : List Stmt} {xs0 : List α} {g : α → OT} (i k : Nat) {L : Addr → S → List Slot} {cur : S → List α} {s0 : S} {f : S → Int → Out S S R.ρ} {vb : S → Int → Prop}
    (hp : XPl X c Γ it i []) (hs : Γ[i]? = some (.ow oa (OT.li g xs0))) (hN : X.N.Nodup) (hv : vRunO f vb cur xs0.length s0)
    (hb : ∀ a b y s, (oa = none ∨ oa = some a) → InB (cur s) y → vb s y → XO X w c (((L a s).set i (.ow (some a) ((OT.li g (cur s)).put (([] : List Nat) ++ [ixn (cur s) y]) (.hole b)))).set k (.ow (some b) (g (ix (cur s) y)))) body (L a) (L a) (f s y))
    (hw : ∀ a, (oa = none ∨ oa = some a) → Weak (Γ.set i (.ow (some a) (OT.li g xs0))) (L a s0)) (hL : ∀ a s, (oa = none ∨ oa = some a) → (L a s)[i]? = some (.ow (some a) (OT.li g (cur s)))) (hG : ∀ a s, (oa = none ∨ oa = some a) → (L a s).set i (.ow oa (OT.li g (cur s))) = G s) (hnd : ∀ x, (g x).isNd = true)
    (hoa : oa = none ∨ ∃ a, oa = some a) (hik : i ≠ k) (hkl : ∀ a s, (oa = none ∨ oa = some a) → k < (L a s).length)
    (hk : X.N[k]? = some n := by rfl) (hx : Loc X.env.scope n := by first | exact .inl rfl | exact .inr rfl) (hf : X.fn n = true ∨ X.env.scope.names.lookup n = some .local := by first | exact .inl rfl | exact .inr rfl | assumption)
    (hc : X.calm = true := by rfl) (hpo : PassesOwn (model X.prog X.w) X.A X.env X.xe := by first | exact PassesOwn.never | exact passes_of rfl | assumption) (hfs : ∀ x, foldedSetIterable it X.env x = pure x := by intro _; rfl) :
    XS X w c Γ (.For (.Name n p) it body [] pos) G GB (runFor f s0 (izs 0 xs0.length) : Out S B R.ρ) := by
  obtain ⟨te, h1, h2⟩ := hp
  obtain ⟨hv1, hv2⟩ := hv
  have key : PSs X body (fun D σ H => ∃ (t : TS), PSs X body t ∧ t D σ H) := ⟨fun pins s σ H D I ⟨t, p, q⟩ => p.run pins s σ H D I q⟩
  refine ⟨_, ps_for hpo hc (pi_list h1) (pg_name (i := k) hN hk hx hf) key hfs, fun F H σ ⟨fp0, E⟩ D q => h2 F H σ fp0 E _ fun v v0 F1 H1 E1 e1 _ g1 g2 => ?_⟩
  obtain ⟨v0', m1, m2, m3⟩ := E1.geto hs
  rw [g1] at m1; cases m1
  have ev : v = v0 := by
    unfold follow at g2
    exact (Option.some.inj g2).symm
  subst ev
  obtain ⟨a0, o0, vs0, fps0, rfl, _, _, hH0, ko0, hc0, _⟩ := OA.l3 (ts := xs0.map g) (k := .lst) m2
  cases (show o0 = _ from ko0)
  refine ⟨a0, rfl, ⟨vs0, sq_of hH0⟩, ?_⟩
  have hao : oa = none ∨ oa = some a0 := by
    rcases hoa with h | ⟨a, h⟩
    · exact .inl h
    · subst h
      cases m3 a rfl
      exact .inr rfl
  have E1' : Env X.K c F1 H1 σ (L a0 s0) := (env_oas hs g1 ⟨fp0, E1⟩).weak (hw a0 hao)
  obtain ⟨fin, hfin⟩ : ∃ fin, runFor (B := B) f s0 (izs 0 xs0.length) = fin := ⟨_, rfl⟩
  rw [hfin] at q
  generalize hn : xs0.length = N at *
  have lenI : (izs 0 N).length = N := izs_len
  let Pv : Nat → L2.St → Hp → Prop := fun j σ' H' => ∃ s F', Ex F1 F' ∧ vRun f (fun s y => (cur s).length = N ∧ vb s y) s ((izs 0 N).drop j) ∧ Env X.K c F' H' σ' (L a0 s) ∧ runFor (B := B) f s ((izs 0 N).drop j) = fin ∧ (∀ s', (runFor f s ((izs 0 N).drop j) : Out S Empty R.ρ) = .nx s' → (cur s').length = N)
  refine ⟨fun j m σ' H' => m = N - j ∧ j ≤ N ∧ Pv j σ' H', ⟨N, by simp, Nat.zero_le _, s0, F1, Ex.refl _, by simpa using hv1, E1', by simpa using hfin, by simpa using hv2⟩, ?_⟩
  rintro j m σ' H' ⟨rfl, hj, s, F', x1, hI, ⟨fpE, E'⟩, hr, hl⟩
  -- the list as it stands
  obtain ⟨v1, n1, n2, n3⟩ := E'.geto (hL a0 s hao)
  cases n3 a0 rfl
  obtain ⟨a1, o1, vs1, fps1, ea, _, _, hH1, ko1, hc1, _⟩ := OA.l3 (ts := (cur s).map g) (k := .lst) n2
  cases ea
  cases (show o1 = _ from ko1)
  have hlen1 : vs1.length = (cur s).length := by rw [hc1.1]; simp
  by_cases hlt : j < N
  · have hdr : (izs 0 N).drop j = (izs 0 N)[j] :: (izs 0 N).drop (j + 1) := List.drop_eq_getElem_cons (by omega)
    have hy : (izs 0 N)[j]'(by omega) = (j : Int) := by
      have := (izs_get (List.getElem?_eq_getElem (l := izs 0 N) (i := j) (by omega))).2
      omega
    rw [hdr, hy] at hI hr hl
    obtain ⟨⟨hcl, hvb⟩, hI2⟩ := hI
    have hin : InB (cur s) (j : Int) := ⟨by omega, by omega⟩
    have hix : ixn (cur s) (j : Int) = j := by
      unfold ixn ixN
      rw [if_pos (by omega)]
      have : (Int.toNat (j : Int)) = j := by omega
      rw [this, if_pos (by omega)]; rfl
    have hjv : j < vs1.length := by omega
    refine .inr ⟨⟨vs1, vs1[j], sq_of hH1, List.getElem?_eq_getElem hjv⟩, Pv (j + 1), fun σ2 H2 p' => ⟨N - (j + 1), by omega, rfl, hlt, p'⟩, fun x H2 ⟨hHe, hxe⟩ => ?_⟩
    subst hHe
    have hxv := hxe vs1 (sq_of hH1)
    -- the item
    obtain ⟨tb, b1, b2⟩ : ∃ b : Addr, x = .ref b ∧ True := by
      obtain ⟨v', l', q1, q2, q3⟩ := hc1.get (i := j) (t := g (ix (cur s) (j : Int))) (by
        have := ix_ixn (xs := cur s) hin
        rw [hix] at this
        rw [List.getElem?_map, this]; rfl)
      rw [hxv] at q1
      cases q1
      have := hnd (ix (cur s) (j : Int))
      revert q3 this
      generalize g (ix (cur s) (j : Int)) = tt
      intro q3 this
      cases q3 with
      | fz r => cases this
      | hole => cases this
      | nd => exact ⟨_, rfl, trivial⟩
    subst b1
    have hgg : (OT.li g (cur s)).get? (([] : List Nat) ++ [ixn (cur s) (j : Int)]) = some (g (ix (cur s) (j : Int))) := get_ix (t := OT.li g (cur s)) (p := []) (by unfold OT.get?; rfl) hin
    have hgg' := hgg
    rw [hix] at hgg'
    obtain ⟨wv, l2, l1, f1, f2, f3, f4⟩ := n2.focus hgg
    have ew : wv = .ref tb := by
      rw [hix] at f1
      unfold follow at f1
      rw [show (([] : List Nat) ++ [j]) = j :: [] from rfl] at f1
      simp only at f1
      rw [hH1] at f1
      simp only [kids] at f1
      rw [hxv] at f1
      simp only [follow] at f1
      exact (Option.some.inj f1).symm
    subst ew
    have nd := List.nodup_append.mp (f3.nodup_iff.mp n2.nodup)
    have hil := get_lt (hL a0 s hao)
    have hkL := hkl a0 s hao
    obtain ⟨l', z1, z2⟩ := f4 F' H2 [] (.hole tb) (Ex.refl _) (fun b hb => ⟨(n2.dom b (f3.mem_iff.mpr (List.mem_append_right _ hb))).1, rfl⟩) .hole (fun b hb => by cases hb)
    have E2 := E'.two (σ' := σ'.set k (some (.ref tb))) (s1 := .ow (some a0) ((OT.li g (cur s)).put (([] : List Nat) ++ [ixn (cur s) (j : Int)]) (.hole tb))) (s2 := .ow (some tb) (g (ix (cur s) (j : Int)))) (l1 := l') (l2 := l2) hik hil hkL (by simp) (fun q _ hq => List.getElem?_set_ne (Ne.symm hq)) ⟨some (.ref a0), by rw [List.getElem?_set_ne (Ne.symm hik)]; exact n1, _, rfl, z1, fun b hb => by cases hb; rfl⟩
      ⟨some (.ref tb), List.getElem?_set_self (by rw [E'.len]; exact hkL), _, rfl, f2, fun b hb => by cases hb; rfl⟩ (fun b hb hb2 => nd.2.2 b hb2 b (by simpa using z2.mem_iff.mp hb) rfl) (fun b hb => .inl (f3.mem_iff.mpr (List.mem_append.mpr (by
        rcases hb with hb | hb
        · exact .inr (by simpa using z2.mem_iff.mp hb)
        · exact .inl hb))))
    obtain ⟨tr, t1, t2⟩ := hb a0 tb (j : Int) s hao hin hvb
    show ∃ (t : TS), PSs X body t ∧ t _ _ _
    refine ⟨tr, t1, t2 F' H2 _ ⟨_, E2⟩ _ ?_⟩
    unfold runFor at hr hl
    cases hff : f s (j : Int) with
    | nx s' =>
      rw [hff] at hr hl hI2
      exact fun σ3 F3 H3 E3 x3 => ⟨s', F3, x1.trans x3, hI2, E3, hr, hl⟩
    | ct s' =>
      rw [hff] at hr hl hI2
      exact fun σ3 F3 H3 E3 x3 => ⟨s', F3, x1.trans x3, hI2, E3, hr, hl⟩
    | bk s' =>
      rw [hff] at hr
      rw [← hr] at q
      exact fun σ3 F3 H3 E3 x3 => q σ3 F3 H3 (hG a0 s' hao ▸ env_oa (hL a0 s' hao) hao E3) ((e1.trans x1).trans x3)
    | rt r =>
      rw [hff] at hr
      rw [← hr] at q
      exact OutOk.ex (o := Out.rt r) (G := L a0) (GB := L a0) q (e1.trans x1)
  · have e : j = N := by omega
    subst e
    rw [List.drop_of_length_le (by omega)] at hr hl
    unfold runFor at hr hl
    rw [← hr] at q
    have hls : (cur s).length = j := hl s rfl
    exact .inl ⟨⟨vs1, sq_of hH1, by omega⟩, q σ' F' H' (hG a0 s hao ▸ env_oa (hL a0 s hao) hao ⟨fpE, E'⟩) (e1.trans x1)⟩
end
/-! ### blocks within a try -/
def XRs (X : Cx) (W : WX) (c : Cw) (Γ : List Slot) (sts : List Stmt) (n : Str) : Prop := ∃ t, PSs X sts t ∧
  ∀ F H σ fp, EnvD X.K c F H σ Γ fp → ∀ D : Ends, (∀ C F' H', X.mg n = some (.ref C) → EnvD X.K c F' H' σ Γ fp → Ex F F' → W (.ref C) none σ H') → t D σ H
section
variable {X : Cx} {w : Wx} {c : Cw} {Γ Γ' : List Slot} {S S' B : Type} {R : Rc} {G : S → List Slot} {GB : B → List Slot} {e d : Expr} {n : Str} {pos : Pos} {o : Out S B R.ρ} {k : Bool} {W : WX}
theorem xrs_expr (h : XR X W c Γ e n) (hs : swapsWith e none pos.line X.env = pure false := by rfl) : XRs X W c Γ [.Expr e pos] n := by
  obtain ⟨te, h1, h2⟩ := h
  exact ⟨_, pss_one (ps_expr h1 hs), fun F H σ fp E D q => h2 F H σ fp E _ q⟩
theorem xrs_ret (h : XR X W c Γ e n) : XRs X W c Γ [.Return (some e) pos] n := by
  obtain ⟨te, h1, h2⟩ := h
  exact ⟨_, pss_one (ps_ret h1), fun F H σ fp E D q => h2 F H σ fp E _ q⟩
theorem xrs_let {y : Str} {p : Pos} (i : Nat) (hN : X.N.Nodup) (h : XR X W c Γ e n) (hi : X.N[i]? = some y := by rfl) (hl : Loc X.env.scope y := by first | exact .inl rfl | exact .inr rfl) (hs : swapsWith e (some (.Name y p)) pos.line X.env = pure false := by rfl)
    (hf : X.fn y = true ∨ X.env.scope.names.lookup y = some .local := by first | exact .inl rfl | exact .inr rfl | assumption) : XRs X W c Γ [.Assign [.Name y p] e pos] n := by
  obtain ⟨te, h1, h2⟩ := h
  exact ⟨_, pss_one (ps_set (i := i) hN hi hl h1 hs hf), fun F H σ fp E D q => h2 F H σ fp E _ q⟩
theorem xrs_ifT {A C : List Stmt} (hd : XT X c Γ d k) (hk : k = true) (ha : XRs X W c Γ A n) : XRs X W c Γ [.If d A C pos] n := by
  subst hk
  obtain ⟨t, h1, h2⟩ := hd
  obtain ⟨u, h3, h4⟩ := ha
  refine ⟨_, pss_one (ps_if h1 h3 pss_never), fun F H σ fp E D q => h2 F H σ fp E _ fun F' H' E' e1 e2 => ?_⟩
  rw [if_pos rfl]
  exact h4 F' H' σ fp E' D fun C2 F2 H2 hC E2 x2 => q C2 F2 H2 hC E2 (e1.trans x2)
theorem xrs_ifF {A C : List Stmt} (hd : XT X c Γ d k) (hk : k = false) (ha : XRs X W c Γ C n) : XRs X W c Γ [.If d A C pos] n := by
  subst hk
  obtain ⟨t, h1, h2⟩ := hd
  obtain ⟨u, h3, h4⟩ := ha
  refine ⟨_, pss_one (ps_if h1 pss_never h3), fun F H σ fp E D q => h2 F H σ fp E _ fun F' H' E' e1 e2 => ?_⟩
  rw [if_neg Bool.false_ne_true]
  exact h4 F' H' σ fp E' D fun C2 F2 H2 hC E2 x2 => q C2 F2 H2 hC E2 (e1.trans x2)
theorem xs_ifT {A C : List Stmt} (hd : XT X c Γ d k) (hk : k = true) (ha : XO X w c Γ A G GB o) : XS X w c Γ (.If d A C pos) G GB o := by
  subst hk
  exact xs_if (o1 := o) (o2 := o) hd (fun _ => ha) (fun h => by cases h)
theorem xs_ifF {A C : List Stmt} (hd : XT X c Γ d k) (hk : k = false) (ha : XO X w c Γ C G GB o) : XS X w c Γ (.If d A C pos) G GB o := by
  subst hk
  exact xs_if (o1 := o) (o2 := o) hd (fun h => by cases h) (fun _ => ha)
/-- try: a block that raises except M as v: a suite that leaves -/
theorem xs_tryB {M v : Str} {i : Nat} {body suite : List Stmt} {b₀ : Stmt} {np pos' : Pos} {rr : R.ρ} (T : XcF X.K X.mg n) (Cf : CaF X.K X.mg n M) (hN : X.N.Nodup)
    (he : ∀ (W : WX) (pn : List (Addr × Obj)) (xe : Value → Shared → Prop), Takes (X.tr pn xe) W → XRs (X.tr pn xe) W c Γ body n)
    (hsu : ∀ (C : Addr) (a : Addr) (oe : Obj) (pn : List (Addr × Obj)), X.mg n = some (.ref C) → Zc (.ref C) none oe → (∃ vs, oe.data = .fields vs) → XF (X.suite a ((a, oe) :: pn)) w c (Γ.set i (.fz (⟨a⟩ : Exn))) (b₀ :: suite) (S := Empty) (fun z : Empty => z.elim) (fun z : Empty => z.elim) rr)
    (hs : X.stack = X.env :: X.outer := by rfl) (hf : X.env.frame = some X.env.locals := by rfl) (hi : X.N[i]? = some v := by rfl) (hln : X.env.kindOf v = some .local := by rfl) (hg : Gl X M := by rfl) (hdb : (M == ("__debug__" : Str)) = false := by decide) :
    XS X w c Γ (.Try body [.ExceptHandler (some (.Name M np)) (some v) (b₀ :: suite) pos'] [] [] pos) G GB (Out.rt rr : Out S B R.ρ) := by
  obtain ⟨C, t1, t2, t3, t4, t5, t6⟩ := T.ex
  obtain ⟨C', D', k1, k2, k3⟩ := Cf.ex
  rw [t1] at k1
  cases k1
  classical
  let tb : WX → TS := fun W D σ H => ∃ F fp, EnvD X.K c F H σ Γ fp ∧ ∀ C F' H', X.mg n = some (.ref C) → EnvD X.K c F' H' σ Γ fp → Ex F F' → W (.ref C) none σ H'
  let ts : Addr → Value → Option Addr → TS := fun a cls dd D σ H => cls = .ref C ∧ dd = none ∧ ∃ F, Env X.K c F H σ (Γ.set i (.fz (⟨a⟩ : Exn))) ∧ OutOk X w c D F G GB (Out.rt rr : Out S B R.ρ)
  have P := ps_try_as (X := X) (tb := tb) (ts := ts) (Wout := fun _ _ _ _ => False) (pos := pos) (pos' := pos') (np := np) (body := body) (suite := suite) (b₀ := b₀) hs hf hN hi hln (⟨hg, hdb, .inl k2⟩ : Names X M (.ref D')) takes0
    (fun W pn xe tk _ => by
      obtain ⟨t, p1, p2⟩ := he W pn xe tk
      exact PSs.imp p1 fun D σ H ⟨F, fp, E, q⟩ => p2 F H σ fp E D q)
    (fun a oe cls dd pn hz hfv => by
      by_cases hc : cls = .ref C ∧ dd = none
      · obtain ⟨rfl, rfl⟩ := hc
        obtain ⟨o, ho, t, p1, p2⟩ := hsu C a oe pn t1 hz hfv
        cases o with
        | rt r =>
          cases (show r = rr from ho)
          exact PSs.imp p1 fun D σ H ⟨_, _, F, E, q⟩ => p2 F H σ E D q
        | nx s => exact s.elim
        | bk s => exact s.elim
        | ct s => exact s.elim
      · exact PSs.imp pss_never fun D σ H ⟨h1, h2, _⟩ => hc ⟨h1, h2⟩)
  refine ⟨_, P, fun F H σ ⟨fp, E⟩ D q => ⟨F, fp, E, fun C2 F' H' hC E' e1 => ?_⟩⟩
  rw [t1] at hC
  cases hC
  refine ⟨true, k3, fun _ a ha => ⟨rfl, rfl, F', ⟨_, E'.set (x := (⟨a⟩ : Exn)) rfl⟩, ?_⟩, fun z => (nomatch z)⟩
  exact ⟨fun hn v σ' F2 H2 Γ2 fp2 l E2 x2 => q.1 hn v σ' F2 H2 Γ2 fp2 l E2 (e1.trans x2), fun n' hn C' σ' F2 H2 hC E2 x2 => q.2 n' hn C' σ' F2 H2 hC E2 (e1.trans x2)⟩
/-- try: a block that raises nothing -/
theorem xs_tryO {M v : Str} {i : Nat} {body suite : List Stmt} {b₀ : Stmt} {np pos' : Pos} (Cf : CaF X.K X.mg n M) (hN : X.N.Nodup)
    (he : ∀ (pn : List (Addr × Obj)) (xe : Value → Shared → Prop), XO (X.tr pn xe) w c Γ body G GB o)
    (hs : X.stack = X.env :: X.outer := by rfl) (hf : X.env.frame = some X.env.locals := by rfl) (hi : X.N[i]? = some v := by rfl) (hln : X.env.kindOf v = some .local := by rfl) (hg : Gl X M := by rfl) (hdb : (M == ("__debug__" : Str)) = false := by decide) :
    XS X w c Γ (.Try body [.ExceptHandler (some (.Name M np)) (some v) (b₀ :: suite) pos'] [] [] pos) G GB o := by
  obtain ⟨_, D', _, hM, _⟩ := Cf.ex
  classical
  let tb : WX → TS := fun W D σ H => ∃ F, Env X.K c F H σ Γ ∧ OutOk X w c D F G GB o
  have P := ps_try_as (X := X) (tb := tb) (ts := fun _ _ _ _ _ _ => False) (Wout := fun _ _ _ _ => False) (pos := pos) (pos' := pos') (np := np) (body := body) (suite := suite) (b₀ := b₀) hs hf hN hi hln (⟨hg, hdb, .inl hM⟩ : Names X M (.ref D')) takes0
    (fun W pn xe tk _ => by
      obtain ⟨te, h1, h2⟩ := he pn xe
      exact PSs.imp h1 fun D σ H ⟨F, E, q⟩ => h2 F H σ E D q)
    (fun a oe cls dd pn hz hfv => PSs.imp pss_never fun D σ H h => h)
  exact ⟨_, P, fun F H σ E D q => ⟨F, E, q⟩⟩
end
end Fw
/-! a new thing handed to a def that may change it -/
namespace Fw
open PySem L2 Py PyProof.Rows PySem.Spec
section
variable {X : Cx} {c : Cw} {Γ : List Slot} {e : Expr} {es : List Expr} {pos pf : Pos} {t0 : OT} {τ : Type} [Py τ] {x : τ} {as : List CA}
variable {α ρ : Type} {D0 : α → List ArgD} {pre : α → Prop} {D1 : ρ → List (Option OT)} {RS : ρ → Slot} {xn : ρ → Option Str} {m : α → ρ} {n : Str} {ps : List Str} {lv lj : Nat} {r : α}
theorem xe_callN (G : Fk X.prog X.w X.K X.mg X.base (L2.CX X.prog X.w) n ps [] lv (SpG X.K X.mg D0 pre D1 RS xn m)) (hr : Room lj X.A) (hj : lv ≤ lj) (h0 : XN X c Γ e t0) (ha : XAr X c Γ es as) (hp : pre r) (hR : RS (m r) = .fz x := by rfl) (hD : ArgD.ow t0 :: as.map CA.d = D0 r := by rfl) (hz : caFz as = true := by rfl) (hnd : t0.isNd = true := by rfl) (hx : xn (m r) = none := by rfl)
    (hgl : Gl X n := by rfl) (hdb : (n == ("__debug__" : Str)) = false := by decide) (hs : starEach (e :: es) X.env = (false, eval e X.env) :: starEach es X.env := by rfl) (hb : ((backTo pos (starEach es X.env)).any fun x => x.fst) = false := by rfl) :
    XE X c Γ (.Call (.Name n pf) (e :: es) [] pos) x := by
  obtain ⟨f, fd, g1, g2, g3, g4⟩ := G.ex
  obtain ⟨t1, a1, a2⟩ := h0
  obtain ⟨t, h1, h2⟩ := ha
  refine ⟨_, pe_call (E := E0) g4 (hr.mono hj) hgl g1 g2 g3 .nil passL (pa_cons a1 h1 hs) hdb hs hb, fun F H σ fp E Q q => a2 F H σ fp E _ fun v F1 H1 l E1 e1 x1 ra hl => h2 F1 H1 σ fp E1 _ fun vs F2 H2 E2 e2 x2 k => ?_⟩
  show SpG X.K X.mg D0 pre D1 RS xn m ((v :: vs) ++ []) H2 Q E0
  rw [List.append_nil]
  have dom := ra.dom
  have hn2 : ∀ b ∈ l, F2 b = none ∧ H2 b = H1 b := fun b hb => by
    obtain ⟨d1, o, d2⟩ := dom b hb
    refine ⟨?_, by rw [d2]; exact x2.h _ _ d2⟩
    cases z : F2 b with
    | none => rfl
    | some o2 =>
      rcases x2.n b (by rw [z]; simp) with h | h
      · exact absurd d1 h
      · rw [d2] at h; cases h
  have ra2 := ra.grow e2 hn2
  have ⟨a, hav⟩ : ∃ a, v = .ref a := by
    cases ra2 with
    | fz r => cases hnd
    | hole => cases hnd
    | nd => exact ⟨_, rfl⟩
  subst hav
  have hlen : vs.length = as.length := Pd.length k
  have Eb : EnvD X.K (cwOf F2 H2 fun j => if j = 0 then l else []) F2 H2 ((V.ref a :: vs).map some) (argSl (adr (V.ref a :: vs)) 0 (D0 r)) (fun j => if j = 0 then l else []) := by
    rw [← hD]
    refine ⟨⟨Ex.refl _, E2.wd.fh, fun b o _ h => h, fun b h => .inl h⟩, by simp [argSl_len, hlen], fun i s hs => ?_, fun i j b h3 h4 => ?_, fun i b h => .inl ⟨i, h⟩, fun i hi => ?_⟩
    · rw [argSl_get] at hs
      cases i with
      | zero =>
        simp only [List.getElem?_cons_zero, Option.map_some, Option.some.injEq] at hs
        subst hs
        exact ⟨some (.ref a), rfl, _, rfl, ra2, fun b hb => by cases hb; rfl⟩
      | succ i =>
        rw [List.getElem?_cons_succ, List.getElem?_map] at hs
        cases ha : as[i]? with
        | none => rw [ha] at hs; simp at hs
        | some y =>
          rw [ha] at hs
          obtain ⟨u, u1, u2⟩ := paired_get k ha
          have hy := caFz_ix hz y (List.mem_of_getElem? ha)
          cases y with
          | fz z =>
            simp only [Option.map_some, Option.some.injEq] at hs
            subst hs
            exact ⟨some u, by simp [u1], rfl, u, rfl, u2⟩
          | pl i' p oa t u' => cases hy
    · split at h3
      · split at h4
        · omega
        · cases h4
      · cases h3
    · rw [if_neg]
      rintro rfl
      simp [argSl_len] at hi
  refine ⟨F2, _, r, adr (V.ref a :: vs), Eb, hp, fun _ v' F' H' fp' E3 => ?_, fun n' hn => by rw [hx] at hn; cases hn⟩
  have hW : ∀ b o, H b = some o → ¬ ∃ j, b ∈ (fun j => if j = 0 then l else []) j := fun b o h ⟨j, hj⟩ => by
    dsimp only at hj
    split at hj
    · rw [hl b hj] at h; cases h
    · cases hj
  have eh : Ex H H' := fun b o h => E3.wd.keep b o (hW b o h) ((x1.trans x2).h _ _ h)
  have en : ∀ b, F' b ≠ none → F b ≠ none ∨ H b = none := fun b hb => by
    rcases E3.wd.new b hb with h | h
    · exact (x1.trans x2).n b h
    · cases z : H b with
      | none => exact .inr rfl
      | some o =>
        rcases h with h | h
        · exact absurd h (hW b o z)
        · have h : H2 b = none := h
          rw [(x1.trans x2).h _ _ z] at h; cases h
  have e3 : Ex F F' := (e1.trans e2).trans E3.wd.f0
  have len3 := E3.len
  rw [hR] at E3 len3
  have il : (outSl (adr (V.ref a :: vs)) 0 (D1 (m r))).length = ((V.ref a :: vs).map some).length := by
    simp only [List.length_append, List.length_cons, List.length_nil, List.length_map] at len3 ⊢
    omega
  obtain ⟨v2, w1, _, u, w3, w4⟩ := E3.ok ((V.ref a :: vs).map some).length (.fz x) (by rw [List.getElem?_append_right (by omega), il]; simp)
  rw [List.getElem?_append_right (by omega)] at w1
  simp at w1
  subst w1
  cases w3
  exact q v' F' H' (E.grow e3 E3.wd.fh eh en) e3 ⟨eh, en⟩ w4
end
section
variable {X : Cx} {c : Cw} {Γ : List Slot} {a : Expr}
theorem xc_isU {x : Unit} {j p} (ha : XE X c Γ a x) : XC X c Γ .Is a (.Constant .none j p) true :=
  xc_of (y := ()) op_isN (fun F H u v e h1 h2 Q q => ⟨h2, q _ F H (Ex.refl _) e (Ex.refl _) (fun _ h => .inl h) (by
    cases (show u = V.non from h1); rfl)⟩) ha xe_nil (nomark _)
theorem xc_notU {x : Unit} {j p} (ha : XE X c Γ a x) : XC X c Γ .IsNot a (.Constant .none j p) false :=
  xc_of (y := ()) op_notN (fun F H u v e h1 h2 Q q => ⟨h2, q _ F H (Ex.refl _) e (Ex.refl _) (fun _ h => .inl h) (by
    cases (show u = V.non from h1); rfl)⟩) ha xe_nil (nomark _)
end
end Fw
/-! enumerate(zip(a, b)): a zip whose tuple is out, kept or gone -/
namespace PySem
open Sem (wp)
/-- a zip as it stands: its tuple f0, f: whether that is known to be kept -/
abbrev ZR (h : Heap) (z TI TO : Addr) (f0 : Value) (f : Bool) : Prop :=
  h.get? z = some { cls := .type "zip", dict := none, data := .fields #[f0, .bool f, .bool false, .ref TI, .ref TO], slots := #[] }
def ZS (h : Heap) (z TI TO : Addr) : Prop := ∃ f0 f, ZR h z TI TO f0 f ∧ (f0 = .none ∨ ∃ T : Addr, f0 = rawInt T)
section
variable {prog : Program} {w : World} {A : Around} {E : Value → Shared → Prop} {s : Shared} {z TI TO i1 i2 l1 l2 : Addr} {k1 k2 : Nat} {xs ys : Array Value} {x y a b f0 : Value} {f : Bool}
theorem zr_free {Q : Bool → Shared → Prop} (hz : ZR s.heap z TI TO f0 f) (hf : f0 = .none ∨ ∃ T : Addr, f0 = rawInt T ∧ s.heap.get? T = none) (h : Q true s) : wpAny (model prog w) A (Builtin.SmallTypes.ownedTupleIsFree (.ref z)) Q E s := by
  unfold Builtin.SmallTypes.ownedTupleIsFree
  rcases hf with rfl | ⟨T, rfl, hT⟩
  · exact wpAny_bind (wpAny_field hz rfl (x := .none) rfl (wpAny_pure h))
  · refine wpAny_bind (wpAny_field hz rfl (x := rawInt T) rfl ?_)
    show wpAny _ _ (loadIfAlive ((T : Int).toNat) >>= _) _ _ _
    rw [Int.toNat_natCast]
    refine wpAny_bind ?_
    have h' : wpAny (model prog w) A (loadIfAlive T) (fun o s1 => o = none ∧ s1 = s) E s := by
      have k : s.heap.get? T = none ∧ s = s := ⟨hT, rfl⟩
      exact fun _ _ _ => k
    refine wpAny_mono h' (fun o s1 ⟨e1, e2⟩ => ?_) fun _ _ e => e
    subst e1; subst e2
    simp only [Option.isNone_none, if_true]
    exact wpAny_pure h
theorem zip_free_item {Q : Value → Shared → Prop} (D : ZipApart z TI TO i1 i2 l1 l2) (hz : ZR s.heap z TI TO f0 f) (hf : f0 = .none ∨ ∃ T : Addr, f0 = rawInt T ∧ s.heap.get? T = none) (hTI : IsPair s.heap TI (.ref i1) (.ref i2)) (hTO : IsPair s.heap TO a b)
    (h1 : s.heap.IsListIter i1 l1 k1) (h2 : s.heap.IsListIter i2 l2 k2) (hl1 : s.heap.IsList l1 xs) (hl2 : s.heap.IsList l2 ys) (hx : xs[k1]? = some x) (hy : ys[k2]? = some y)
    (hQ : ∀ h', ZS h' z TI TO → IsPair h' TO x y → h'.IsListIter i1 l1 (k1 + 1) → h'.IsListIter i2 l2 (k2 + 1) → IsPair h' s.heap.objs.size x y → h'.objs.size = s.heap.objs.size + 1 →
      (∀ c o, c ≠ z → c ≠ TO → c ≠ i1 → c ≠ i2 → s.heap.get? c = some o → h'.get? c = some o) → Q (.ref s.heap.objs.size) { s with heap := h' }) :
    wpAny (model prog w) A (Builtin.«zip.__next__» ⟨[.ref z], []⟩) (fun fin s' => ∃ v, fin = .done (.ret v) ∧ Q v s') E s := by
  show wpAny _ _ (field (.ref z) 2 >>= _) _ _ _
  refine wpAny_bind (wpAny_field hz rfl (x := .bool false) rfl ?_)
  show wpAny _ _ (field (.ref z) 3 >>= _) _ _ _
  refine wpAny_bind (wpAny_field hz rfl (x := .ref TI) rfl ?_)
  refine wpAny_bind (wpAny_seqItems hTI rfl ?_)
  show wpAny _ _ (Builtin.SmallTypes.ownedTupleIsFree (.ref z) >>= _) _ _ _
  refine wpAny_bind (zr_free hz hf ?_)
  simp only [if_true]
  refine wpAny_bind (wpAny_rule ?_)
  refine wpAny_bind (wpAny_field hz rfl (x := .ref TO) rfl ?_)
  refine wpAny_bind (wpAny_setField_rec hz (by simp) fun ha za sa => ?_)
  replace za : ZR ha z TI TO .ellipsis f := za
  refine wpAny_bind ?_
  simp only [List.zipIdx_cons, List.zipIdx_nil, List.forIn_cons, List.forIn_nil]
  refine wpAny_bind (wpAny_bind (wpAny_onRaise ?_))
  show wpAny _ _ (Builtin.SmallTypes.nextOf (.ref i1) >>= _) _ _ _
  refine wpAny_bind (wpAny_nextOf_list_item (h1.extBut sa.extBut D.i1z) (hl1.extBut sa.extBut D.l1z) hx fun hb ib sb => wpAny_pure ?_)
  have tb : IsPair hb TO a b := sb.extBut _ _ D.TOi1 (sa.extBut _ _ D.TOz hTO)
  refine wpAny_bind (wpAny_seqItems tb rfl ?_)
  refine wpAny_bind (wpAny_updateSeq_pair tb fun hc tc sc => ?_)
  replace tc : IsPair hc TO x b := tc
  refine wpAny_bind (wpAny_letGo (wpAny_pure ?_))
  refine wpAny_bind (wpAny_bind (wpAny_onRaise ?_))
  show wpAny _ _ (Builtin.SmallTypes.nextOf (.ref i2) >>= _) _ _ _
  refine wpAny_bind (wpAny_nextOf_list_item (((h2.extBut sa.extBut D.i2z).extBut sb.extBut D.i12.symm).extBut sc.extBut D.TOi2.symm)
    (((hl2.extBut sa.extBut D.l2z).extBut sb.extBut D.l2i1).extBut sc.extBut D.l2TO) hy fun hd jd sd => wpAny_pure ?_)
  have td : IsPair hd TO x b := sd.extBut _ _ D.TOi2 tc
  refine wpAny_bind (wpAny_seqItems td rfl ?_)
  refine wpAny_bind (wpAny_updateSeq_pair td fun he te se => ?_)
  replace te : IsPair he TO x y := te
  refine wpAny_bind (wpAny_letGo (wpAny_pure (wpAny_pure ?_)))
  refine wpAny_bind (wpAny_seqItems te rfl ?_)
  refine wpAny_bind (wpAny_newTuple ?_)
  have hsz : he.objs.size = s.heap.objs.size := by rw [se.1, sd.1, sc.1, sb.1, sa.1]
  have ze : ZR he z TI TO .ellipsis f := se.extBut _ _ D.TOz.symm (sd.extBut _ _ D.i2z.symm (sc.extBut _ _ D.TOz.symm (sb.extBut _ _ D.i1z.symm za)))
  have keep : ∀ c o, c ≠ z → c ≠ TO → c ≠ i1 → c ≠ i2 → s.heap.get? c = some o → he.get? c = some o := fun c o c1 c2 c3 c4 e =>
    se.extBut _ _ c2 (sd.extBut _ _ c4 (sc.extBut _ _ c2 (sb.extBut _ _ c3 (sa.extBut _ _ c1 e))))
  have i1e : he.IsListIter i1 l1 (k1 + 1) := ((ib.extBut sc.extBut D.TOi1.symm).extBut sd.extBut D.i12).extBut se.extBut D.TOi1.symm
  have i2e : he.IsListIter i2 l2 (k2 + 1) := jd.extBut se.extBut D.TOi2.symm
  have zlt : z < he.objs.size := Heap.lt_size ze
  show wpAny _ _ (Builtin.SmallTypes.ownedTupleHandOut (.ref z) (.ref he.objs.size) >>= _) _ _ _
  refine wpAny_bind ?_
  unfold Builtin.SmallTypes.ownedTupleHandOut
  have zp : ZR (he.push { cls := .type "tuple", data := .seq #[x, y] }) z TI TO .ellipsis f := Heap.get?_push_of_some _ ze
  refine wpAny_bind (wpAny_setField_rec zp (by simp) fun hg zg sg => ?_)
  replace zg : ZR hg z TI TO (rawInt he.objs.size) f := zg
  refine wpAny_setField_rec zg (by simp) fun hh zh sh => ?_
  replace zh : ZR hh z TI TO (rawInt he.objs.size) false := zh
  have up : ∀ c o, c ≠ z → he.get? c = some o → hh.get? c = some o := fun c o c1 e => sh.extBut _ _ c1 (sg.extBut _ _ c1 (Heap.get?_push_of_some _ e))
  have tn : IsPair hh he.objs.size x y := sh.extBut _ _ (Nat.ne_of_gt zlt) (sg.extBut _ _ (Nat.ne_of_gt zlt) (Heap.get?_push_size _ rfl))
  have sz : hh.objs.size = he.objs.size + 1 := by rw [sh.1, sg.1, Heap.size_push]
  rw [hsz] at zh tn sz
  refine wpAny_pure ⟨_, rfl, ?_⟩
  show Q (.ref he.objs.size) _
  rw [hsz]
  exact hQ hh ⟨_, _, zh, .inr ⟨_, rfl⟩⟩ (up _ _ D.TOz te) (i1e.at fun o e => up _ o D.i1z e) (i2e.at fun o e => up _ o D.i2z e) tn sz fun c o c1 c2 c3 c4 e => up c o c1 (keep c o c1 c2 c3 c4 e)
theorem zip_free_end {Q : Fin → Shared → Prop} (hh : A.handled = none) (D : ZipApart z TI TO i1 i2 l1 l2) (hz : ZR s.heap z TI TO f0 f) (hf : f0 = .none ∨ ∃ T : Addr, f0 = rawInt T ∧ s.heap.get? T = none) (hTI : IsPair s.heap TI (.ref i1) (.ref i2)) (hTO : IsPair s.heap TO a b)
    (h1 : s.heap.IsListIter i1 l1 k1) (h2 : s.heap.IsListIter i2 l2 k2) (hl1 : s.heap.IsList l1 xs) (hl2 : s.heap.IsList l2 ys) (hend : xs[k1]? = none ∨ ys[k2]? = none)
    (hE : ∀ h' e, (∀ c o, c ≠ z → c ≠ TO → c ≠ i1 → c ≠ i2 → s.heap.get? c = some o → h'.get? c = some o) → (∃ o, h'.get? e = some o ∧ o.cls = .type "StopIteration") → E (.ref e) { s with heap := h' }) :
    wpAny (model prog w) A (Builtin.«zip.__next__» ⟨[.ref z], []⟩) Q E s := by
  show wpAny _ _ (field (.ref z) 2 >>= _) _ _ _
  refine wpAny_bind (wpAny_field hz rfl (x := .bool false) rfl ?_)
  show wpAny _ _ (field (.ref z) 3 >>= _) _ _ _
  refine wpAny_bind (wpAny_field hz rfl (x := .ref TI) rfl ?_)
  refine wpAny_bind (wpAny_seqItems hTI rfl ?_)
  show wpAny _ _ (Builtin.SmallTypes.ownedTupleIsFree (.ref z) >>= _) _ _ _
  refine wpAny_bind (zr_free hz hf ?_)
  simp only [if_true]
  refine wpAny_bind (wpAny_rule ?_)
  refine wpAny_bind (wpAny_field hz rfl (x := .ref TO) rfl ?_)
  refine wpAny_bind (wpAny_setField_rec hz (by simp) fun ha za sa => ?_)
  replace za : ZR ha z TI TO .ellipsis f := za
  refine wpAny_bind ?_
  simp only [List.zipIdx_cons, List.zipIdx_nil, List.forIn_cons, List.forIn_nil]
  refine wpAny_bind (wpAny_bind (wpAny_onRaise ?_))
  show wpAny _ _ (Builtin.SmallTypes.nextOf (.ref i1) >>= _) _ _ _
  cases hx : xs[k1]? with
  | none =>
    refine wpAny_bind (wpAny_nextOf_list_end hh (h1.extBut sa.extBut D.i1z) (hl1.extBut sa.extBut D.l1z) hx fun hb e sb he => ?_)
    obtain ⟨oe, hoe, hce⟩ := he
    have zb : ZR hb z TI TO .ellipsis f := sb _ _ D.i1z.symm za
    have hez : e ≠ z := fun q => by subst q; rw [zb] at hoe; cases hoe; simp at hce
    exact wpAny_setField_rec zb (by simp) fun hc _ sc => hE hc e (fun c o c1 _ c3 _ q => sc.extBut _ _ c1 (sb _ _ c3 (sa.extBut _ _ c1 q))) ⟨oe, sc.extBut _ _ hez hoe, hce⟩
  | some x =>
    have hy : ys[k2]? = none := by
      rcases hend with h | h
      · rw [hx] at h; cases h
      · exact h
    refine wpAny_bind (wpAny_nextOf_list_item (h1.extBut sa.extBut D.i1z) (hl1.extBut sa.extBut D.l1z) hx fun hb ib sb => wpAny_pure ?_)
    have tb : IsPair hb TO a b := sb.extBut _ _ D.TOi1 (sa.extBut _ _ D.TOz hTO)
    refine wpAny_bind (wpAny_seqItems tb rfl ?_)
    refine wpAny_bind (wpAny_updateSeq_pair tb fun hc tc sc => ?_)
    refine wpAny_bind (wpAny_letGo (wpAny_pure ?_))
    refine wpAny_bind (wpAny_bind (wpAny_onRaise ?_))
    show wpAny _ _ (Builtin.SmallTypes.nextOf (.ref i2) >>= _) _ _ _
    refine wpAny_bind (wpAny_nextOf_list_end hh (((h2.extBut sa.extBut D.i2z).extBut sb.extBut D.i12.symm).extBut sc.extBut D.TOi2.symm)
      (((hl2.extBut sa.extBut D.l2z).extBut sb.extBut D.l2i1).extBut sc.extBut D.l2TO) hy fun hd e sd he => ?_)
    obtain ⟨oe, hoe, hce⟩ := he
    have zd : ZR hd z TI TO .ellipsis f := sd _ _ D.i2z.symm (sc.extBut _ _ D.TOz.symm (sb.extBut _ _ D.i1z.symm za))
    have hez : e ≠ z := fun q => by subst q; rw [zd] at hoe; cases hoe; simp at hce
    exact wpAny_setField_rec zd (by simp) fun he2 _ se => hE he2 e (fun c o c1 c2 c3 c4 q => se.extBut _ _ c1 (sd _ _ c4 (sc.extBut _ _ c2 (sb.extBut _ _ c3 (sa.extBut _ _ c1 q))))) ⟨oe, se.extBut _ _ hez hoe, hce⟩
/-- the next pair of a zip, whatever became of the one before -/
theorem zip_any_item {Q : Value → Shared → Prop} (D : ZipApart z TI TO i1 i2 l1 l2) (hz : ZS s.heap z TI TO) (hTI : IsPair s.heap TI (.ref i1) (.ref i2)) (hTO : IsPair s.heap TO a b)
    (h1 : s.heap.IsListIter i1 l1 k1) (h2 : s.heap.IsListIter i2 l2 k2) (hl1 : s.heap.IsList l1 xs) (hl2 : s.heap.IsList l2 ys) (hx : xs[k1]? = some x) (hy : ys[k2]? = some y)
    (hQ : ∀ h', ZS h' z TI TO → (∃ a b, IsPair h' TO a b) → h'.IsListIter i1 l1 (k1 + 1) → h'.IsListIter i2 l2 (k2 + 1) → IsPair h' s.heap.objs.size x y → h'.objs.size = s.heap.objs.size + 1 →
      (∀ c o, c ≠ z → c ≠ TO → c ≠ i1 → c ≠ i2 → s.heap.get? c = some o → h'.get? c = some o) → Q (.ref s.heap.objs.size) { s with heap := h' }) :
    wpAny (model prog w) A (Builtin.«zip.__next__» ⟨[.ref z], []⟩) (fun fin s' => ∃ v, fin = .done (.ret v) ∧ Q v s') E s := by
  obtain ⟨f0, f, hz, hf⟩ := hz
  rcases hf with rfl | ⟨T, rfl⟩
  · exact zip_free_item D hz (.inl rfl) hTI hTO h1 h2 hl1 hl2 hx hy fun h' q1 q2 q3 q4 q5 q6 q7 => hQ h' q1 ⟨_, _, q2⟩ q3 q4 q5 q6 q7
  · cases hT : s.heap.get? T with
    | none => exact zip_free_item D hz (.inr ⟨T, rfl, hT⟩) hTI hTO h1 h2 hl1 hl2 hx hy fun h' q1 q2 q3 q4 q5 q6 q7 => hQ h' q1 ⟨_, _, q2⟩ q3 q4 q5 q6 q7
    | some oT => exact zip_next_item_held D hz hT hTI h1 h2 hl1 hl2 hx hy fun h' q1 q2 q3 q4 q5 q6 => hQ h' ⟨_, _, q1, .inr ⟨T, rfl⟩⟩ ⟨a, b, q6 _ _ D.TOz D.TOi1 D.TOi2 hTO⟩ q2 q3 q4 q5 fun c o c1 c2 c3 c4 e => q6 c o c1 c3 c4 e
theorem zip_any_end {Q : Fin → Shared → Prop} (hh : A.handled = none) (D : ZipApart z TI TO i1 i2 l1 l2) (hz : ZS s.heap z TI TO) (hTI : IsPair s.heap TI (.ref i1) (.ref i2)) (hTO : IsPair s.heap TO a b)
    (h1 : s.heap.IsListIter i1 l1 k1) (h2 : s.heap.IsListIter i2 l2 k2) (hl1 : s.heap.IsList l1 xs) (hl2 : s.heap.IsList l2 ys) (hend : xs[k1]? = none ∨ ys[k2]? = none)
    (hE : ∀ h' e, (∀ c o, c ≠ z → c ≠ TO → c ≠ i1 → c ≠ i2 → s.heap.get? c = some o → h'.get? c = some o) → (∃ o, h'.get? e = some o ∧ o.cls = .type "StopIteration") → E (.ref e) { s with heap := h' }) :
    wpAny (model prog w) A (Builtin.«zip.__next__» ⟨[.ref z], []⟩) Q E s := by
  obtain ⟨f0, f, hz, hf⟩ := hz
  rcases hf with rfl | ⟨T, rfl⟩
  · exact zip_free_end hh D hz (.inl rfl) hTI hTO h1 h2 hl1 hl2 hend hE
  · cases hT : s.heap.get? T with
    | none => exact zip_free_end hh D hz (.inr ⟨T, rfl, hT⟩) hTI hTO h1 h2 hl1 hl2 hend hE
    | some oT => exact zip_next_end_held hh D hz hT hTI h1 h2 hl1 hl2 hend fun h' e q1 q2 => hE h' e (fun c o c1 c2 c3 c4 q => q1 c o c1 c3 c4 q) q2
end
end PySem
/-! enumerate(zip(a, b)), walked -/
namespace PySem
open Sem (wp)
section
variable {prog : Program} {w : World} {A : Around} {E : Value → Shared → Prop} {s : Shared} {z TI TO i1 i2 l1 l2 : Addr} {k1 k2 : Nat} {xs ys : Array Value} {x y a b : Value}
theorem nextOf_zip_item {Q : Value → Shared → Prop} (D : ZipApart z TI TO i1 i2 l1 l2) (hz : ZS s.heap z TI TO) (hTI : IsPair s.heap TI (.ref i1) (.ref i2)) (hTO : IsPair s.heap TO a b)
    (h1 : s.heap.IsListIter i1 l1 k1) (h2 : s.heap.IsListIter i2 l2 k2) (hl1 : s.heap.IsList l1 xs) (hl2 : s.heap.IsList l2 ys) (hx : xs[k1]? = some x) (hy : ys[k2]? = some y)
    (hQ : ∀ h', ZS h' z TI TO → (∃ a b, IsPair h' TO a b) → h'.IsListIter i1 l1 (k1 + 1) → h'.IsListIter i2 l2 (k2 + 1) → IsPair h' s.heap.objs.size x y → h'.objs.size = s.heap.objs.size + 1 →
      (∀ c o, c ≠ z → c ≠ TO → c ≠ i1 → c ≠ i2 → s.heap.get? c = some o → h'.get? c = some o) → Q (.ref s.heap.objs.size) { s with heap := h' }) :
    wpAny (model prog w) A (Builtin.SmallTypes.nextOf (.ref z)) Q E s := by
  have hT : s.TypeIs (.ref z) "zip" := by
    obtain ⟨f0, f, h, _⟩ := hz
    exact ⟨_, h, rfl⟩
  unfold Builtin.SmallTypes.nextOf
  exact wpAny_bind (wpAny_callSpecial?_slot (name := Str.ofString "__next__") hT F.slot_zip_next
    (wpAny_call_entry F.slot_zip_next hT F.entry_zip_next (zip_any_item D hz hTI hTO h1 h2 hl1 hl2 hx hy fun h' q1 q2 q3 q4 q5 q6 q7 => wpAny_pure (hQ h' q1 q2 q3 q4 q5 q6 q7)) (F.args_zip_next_1 _)))
theorem nextOf_zip_end {Q : Value → Shared → Prop} (hh : A.in1.handled = none) (D : ZipApart z TI TO i1 i2 l1 l2) (hz : ZS s.heap z TI TO) (hTI : IsPair s.heap TI (.ref i1) (.ref i2)) (hTO : IsPair s.heap TO a b)
    (h1 : s.heap.IsListIter i1 l1 k1) (h2 : s.heap.IsListIter i2 l2 k2) (hl1 : s.heap.IsList l1 xs) (hl2 : s.heap.IsList l2 ys) (hend : xs[k1]? = none ∨ ys[k2]? = none)
    (hE : ∀ h' e, (∀ c o, c ≠ z → c ≠ TO → c ≠ i1 → c ≠ i2 → s.heap.get? c = some o → h'.get? c = some o) → (∃ o, h'.get? e = some o ∧ o.cls = .type "StopIteration") → E (.ref e) { s with heap := h' }) :
    wpAny (model prog w) A (Builtin.SmallTypes.nextOf (.ref z)) Q E s := by
  have hT : s.TypeIs (.ref z) "zip" := by
    obtain ⟨f0, f, h, _⟩ := hz
    exact ⟨_, h, rfl⟩
  unfold Builtin.SmallTypes.nextOf
  exact wpAny_bind (wpAny_callSpecial?_slot (name := Str.ofString "__next__") hT F.slot_zip_next
    (wpAny_call_entry F.slot_zip_next hT F.entry_zip_next (zip_any_end hh D hz hTI hTO h1 h2 hl1 hl2 hend hE) (F.args_zip_next_1 _)))
/-- the next of an enumerate, by what its iterator draws -/
theorem enum_next_gen {e it : Addr} {c : Int} {old : Value} {Dr : Value → Heap → Prop} {Q : Value → Shared → Prop} (he : IsEnum s.heap e it c old)
    (hd : ∀ Q' : Value → Shared → Prop, (∀ x hN, Dr x hN → Q' x { s with heap := hN }) → wpAny (model prog w) A (Builtin.SmallTypes.nextOf (.ref it)) Q' E s)
    (hek : ∀ x hN, Dr x hN → IsEnum hN e it c old)
    (hQ : ∀ x hN h', Dr x hN → IsEnumOut h' e it (c + 1) x hN.objs.size → h'.get? hN.objs.size = some { cls := .type "tuple", data := .seq #[.int c s.toks, x] } → h'.objs.size = hN.objs.size + 1 →
      (∀ b o, b ≠ e → hN.get? b = some o → h'.get? b = some o) → Q (.ref hN.objs.size) { s with heap := h', toks := s.toks + 1 }) :
    wpAny (model prog w) A (Builtin.«enumerate.__next__» ⟨[.ref e], []⟩) (fun fin s' => ∃ v, fin = .done (.ret v) ∧ Q v s') E s := by
  obtain ⟨hp, g, d, tk, os⟩ := s
  show wpAny _ _ (field (.ref e) 2 >>= _) _ _ _
  refine wpAny_bind (wpAny_field he rfl (x := .ref it) rfl ?_)
  refine wpAny_bind (hd _ fun x hN hx => ?_)
  have e1 := hek x hN hx
  show wpAny _ _ (field (.ref e) 3 >>= _) _ _ ⟨hN, g, d, tk, os⟩
  refine wpAny_bind (wpAny_field e1 rfl (x := rawInt c) rfl ?_)
  show wpAny _ _ (field (.ref e) 4 >>= _) _ _ ⟨hN, g, d, tk, os⟩
  refine wpAny_bind (wpAny_field e1 rfl (x := .none) rfl ?_)
  show wpAny _ _ (mkInt c >>= _) _ _ ⟨hN, g, d, tk, os⟩
  refine wpAny_bind (wpAny_mkInt ?_)
  show wpAny _ _ (setField (.ref e) 3 (rawInt (c + 1)) >>= _) _ _ ⟨hN, g, d, tk + 1, os⟩
  refine wpAny_bind (wpAny_setField_rec e1 (by simp) fun ha ea sa => ?_)
  replace sa : Heap.SameBut e hN ha := sa
  replace ea : IsEnum ha e it (c + 1) old := ea
  show wpAny _ _ (setField (.ref e) 4 .none >>= _) _ _ ⟨ha, g, d, tk + 1, os⟩
  refine wpAny_bind (wpAny_setField_rec ea (by simp) fun hb eb sb => ?_)
  replace sb : Heap.SameBut e ha hb := sb
  replace eb : IsEnum hb e it (c + 1) old := eb
  show wpAny _ _ (newTuple [.int c tk, x] >>= _) _ _ ⟨hb, g, d, tk + 1, os⟩
  refine wpAny_bind (wpAny_newTuple ?_)
  have ec : IsEnum (hb.push { cls := .type "tuple", data := .seq #[.int c tk, x] }) e it (c + 1) old := Heap.get?_push_of_some _ eb
  generalize hcd : hb.push { cls := .type "tuple", data := .seq #[.int c tk, x] } = hc at ec
  have hsz : hb.objs.size = hN.objs.size := by rw [sb.1, sa.1]
  have hel : e < hN.objs.size := Heap.lt_size e1
  have tc : hc.get? hN.objs.size = some { cls := .type "tuple", data := .seq #[.int c tk, x] } := by rw [← hcd, ← hsz]; exact Heap.get?_push_size _ rfl
  have zc : hc.objs.size = hN.objs.size + 1 := by rw [← hcd, Heap.size_push, hsz]
  have kc : ∀ b o, b ≠ e → hN.get? b = some o → hc.get? b = some o := fun b o hbe hb' => by
    rw [← hcd]; exact Heap.get?_push_of_some _ (sb.extBut b o hbe (sa.extBut b o hbe hb'))
  show wpAny _ _ (Builtin.SmallTypes.ownedTupleIsFree (.ref e) >>= _) _ _ ⟨hc, g, d, tk + 1, os⟩
  rw [hsz]
  clear hcd eb sb ea sa hsz
  refine wpAny_bind ?_
  unfold Builtin.SmallTypes.ownedTupleIsFree
  refine wpAny_bind (wpAny_field ec rfl (x := .none) rfl (wpAny_pure ?_))
  simp only [if_true]
  refine wpAny_bind (wpAny_rule ?_)
  refine wpAny_bind (wpAny_field ec rfl (x := old) rfl ?_)
  refine wpAny_bind (wpAny_setField_rec ec (by simp) fun hd' ed sd => ?_)
  replace sd : Heap.SameBut e hc hd' := sd
  replace ed : IsEnum hd' e it (c + 1) x := ed
  show wpAny _ _ (Builtin.SmallTypes.ownedTupleHandOut (.ref e) (.ref hN.objs.size) >>= _) _ _ ⟨hd', g, d, tk + 1, os⟩
  refine wpAny_bind ?_
  unfold Builtin.SmallTypes.ownedTupleHandOut
  refine wpAny_bind (wpAny_setField_rec ed (by simp) fun he' ee se => ?_)
  replace se : Heap.SameBut e hd' he' := se
  replace ee : IsEnumOut he' e it (c + 1) x hN.objs.size := ee
  refine wpAny_setField_rec ee (by simp) fun hf ef sf => ?_
  replace sf : Heap.SameBut e he' hf := sf
  replace ef : IsEnumOut hf e it (c + 1) x hN.objs.size := ef
  have up : ∀ b o, b ≠ e → hc.get? b = some o → hf.get? b = some o := fun b o hbe q => sf.extBut b o hbe (se.extBut b o hbe (sd.extBut b o hbe q))
  exact wpAny_bind (wpAny_letGo (wpAny_pure ⟨_, rfl, hQ x hN hf hx ef (up _ _ (Nat.ne_of_gt hel) tc) (by rw [sf.1, se.1, sd.1, zc]) fun b o hbe q => up b o hbe (kc b o hbe q)⟩))
theorem pyNext_enum_gen {e it : Addr} {c : Int} {old : Value} {Dr : Value → Heap → Prop} {Q : Option Value → Shared → Prop} (he : IsEnum s.heap e it c old)
    (hd : ∀ (Q' : Value → Shared → Prop) (E' : Value → Shared → Prop), (∀ x hN, Dr x hN → Q' x { s with heap := hN }) → wpAny (model prog w) A.in1 (Builtin.SmallTypes.nextOf (.ref it)) Q' E' s)
    (hek : ∀ x hN, Dr x hN → IsEnum hN e it c old)
    (hQ : ∀ x hN h', Dr x hN → IsEnumOut h' e it (c + 1) x hN.objs.size → h'.get? hN.objs.size = some { cls := .type "tuple", data := .seq #[.int c s.toks, x] } → h'.objs.size = hN.objs.size + 1 →
      (∀ b o, b ≠ e → hN.get? b = some o → h'.get? b = some o) → Q (some (.ref hN.objs.size)) { s with heap := h', toks := s.toks + 1 }) :
    wpAny (model prog w) A (pyNext (.ref e)) Q E s := by
  have hT : s.TypeIs (.ref e) "enumerate" := ⟨_, he, rfl⟩
  unfold pyNext
  exact wpAny_bind (wpAny_attempt (wpAny_callSpecial?_slot (name := Str.ofString "__next__") hT F.slot_enumerate_next
    (wpAny_call_entry F.slot_enumerate_next hT F.entry_enumerate_next (enum_next_gen he (fun Q' => hd Q' _) hek fun x hN h' q1 q2 q3 q4 q5 => wpAny_pure (hQ x hN h' q1 q2 q3 q4 q5)) (F.args_enumerate_next_1 _))))
theorem pyNext_enum_end {e it : Addr} {c : Int} {old : Value} {Q : Option Value → Shared → Prop} {Ke : Heap → Prop} (he : IsEnum s.heap e it c old)
    (hd : ∀ (Q' : Value → Shared → Prop) (E' : Value → Shared → Prop), (∀ h' x, Ke h' → (∃ o, h'.get? x = some o ∧ o.cls = .type "StopIteration") → E' (.ref x) { s with heap := h' }) → wpAny (model prog w) A.in1 (Builtin.SmallTypes.nextOf (.ref it)) Q' E' s)
    (hQ : ∀ h', Ke h' → Q none { s with heap := h' }) : wpAny (model prog w) A (pyNext (.ref e)) Q E s := by
  have hT : s.TypeIs (.ref e) "enumerate" := ⟨_, he, rfl⟩
  unfold pyNext
  refine wpAny_bind (wpAny_attempt (wpAny_callSpecial?_slot (name := Str.ofString "__next__") hT F.slot_enumerate_next
    (wpAny_call_entry F.slot_enumerate_next hT F.entry_enumerate_next ?_ (F.args_enumerate_next_1 _))))
  show wpAny _ _ (field (.ref e) 2 >>= _) _ _ _
  refine wpAny_bind (wpAny_field he rfl (x := .ref it) rfl ?_)
  refine wpAny_bind (hd _ _ fun h' x he' hx' => ?_)
  obtain ⟨o, ho, hc⟩ := hx'
  refine wpAny_bind (wpAny_isInstance (T := "StopIteration") (b := true) ⟨o, ho, hc⟩ isSubtype_stop ?_)
  exact wpAny_pure (hQ _ he')
theorem meets_enumerate_newZ (z TI TO : Addr) (f0 : Value) :
    Meets (Builtin.«enumerate.__new__» ⟨[.type "enumerate", .ref z], []⟩) (fun _ R s => IsZip s.heap z TI TO f0 ∧
      R (.ok (.ret (.ref s.heap.objs.size))) { s with heap := s.heap.push { cls := .type "enumerate", data := .fields #[.none, .bool false, .ref z, rawInt 0, .none, .none] } }) :=
  .of_wp fun prog w A R s h => by
    obtain ⟨hp, g, d, tk, os⟩ := s
    obtain ⟨hz, h⟩ := h
    have hsub := sub_enumerate
    have hZ : IsZip (Shared.heap ⟨hp, g, d, tk, os⟩) z TI TO f0 := hz
    wp_walk
    refine wpAny_stack_any fun st => wpAny_pure ?_
    split
    · rename_i c _ _ _ _ _
      cases (c == Value.type "enumerate")
      · wp_walk using wpAny_pyIter_zip hZ
        exact ⟨_, rfl, h⟩
      · wp_walk using wpAny_pyIter_zip hZ
        exact ⟨_, rfl, h⟩
    · wp_walk using wpAny_pyIter_zip hZ
      exact ⟨_, rfl, h⟩
theorem call_enumerate_zip {f0 : Value} {Q : Value → Shared → Prop} (hz : IsZip s.heap z TI TO f0)
    (h : IsEnum (s.heap.push { cls := .type "enumerate", data := .fields #[.none, .bool false, .ref z, rawInt 0, .none, .none] }) s.heap.objs.size z 0 .none → Q (.ref s.heap.objs.size) { s with heap := s.heap.push { cls := .type "enumerate", data := .fields #[.none, .bool false, .ref z, rawInt 0, .none, .none] } }) :
    wpAny (model prog w) A (call (.type "enumerate") [.ref z]) Q E s := by
  refine callType_new F.called_enumerate (by decide) (F.typeCall_enumerate_1 _) (F.newCall_enumerate_1 _) (fun obj => F.args_object_init_2 obj _) F.entry_enumerate_new
    (meets_enumerate_newZ z TI TO f0) ⟨hz, ?_⟩
  have he : IsEnum (s.heap.push { cls := .type "enumerate", data := .fields #[.none, .bool false, .ref z, rawInt 0, .none, .none] }) s.heap.objs.size z 0 .none := Heap.get?_push_size _ rfl
  exact ⟨⟨_, he, rfl⟩, h he⟩
end
end PySem
/-! for i, pair in enumerate(zip(a, b)) -/
namespace Fw
open PySem L2 Py PyProof.Rows
/-- the lists at a and b: each turn a new pair of items, and a new pair of the place and it -/
def ItEZ (K : Fg) (a b : Addr) : It :=
  ⟨fun i H => ∃ (xs ys : List V) (x y : V), SqL K H a xs ∧ SqL K H b ys ∧ xs[i]? = some x ∧ ys[i]? = some y,
   fun i H v H' => ∃ (N T : Addr) (x y : V), v = V.ref T ∧ H N = none ∧ H T = none ∧ T ≠ N ∧ H' = upd (upd H N (.tup [x, y])) T (.tup [V.int (i : Nat), V.ref N]) ∧ (∀ xs, SqL K H a xs → xs[i]? = some x) ∧ ∀ ys, SqL K H b ys → ys[i]? = some y,
   fun i H => ∃ xs ys : List V, SqL K H a xs ∧ SqL K H b ys ∧ (xs.length ≤ i ∨ ys.length ≤ i)⟩
structure Far (e z TI TO i1 i2 : Addr) : Prop where
  z : e ≠ z
  TI : e ≠ TI
  TO : e ≠ TO
  i1 : e ≠ i1
  i2 : e ≠ i2
theorem turn_enumZ {P : Program} {w : World} {K : Fg} {elts : List Expr} {kk : Nat} {tpos : Pos} {a b e z TI TO i1 i2 : Addr} (D : ZipApart z TI TO i1 i2 a b) (Fe : Far e z TI TO i1 i2) :
    Turn P w K (.Tuple elts kk tpos) (ItEZ K a b) [e, z, TI, TO, i1, i2] e (fun i h => (∃ old, IsEnum h e z ((i : Nat) : Int) old) ∧ ZS h z TI TO ∧ IsPair h TI (.ref i1) (.ref i2) ∧ (∃ x y, IsPair h TO x y) ∧ h.IsListIter i1 a i ∧ h.IsListIter i2 b i) where
  mem := by simp
  obj := fun i h ⟨⟨old, he⟩, ⟨f0, f, hz, _⟩, hTI, ⟨x, y, hTO⟩, ⟨o1, e1, _, d1⟩, ⟨o2, e2, _, d2⟩⟩ c hc => by
    have e' : c = e ∨ c = z ∨ c = TI ∨ c = TO ∨ c = i1 ∨ c = i2 := by simpa using hc
    rcases e' with rfl | rfl | rfl | rfl | rfl | rfl
    · exact ⟨_, he, fun v q => nomatch q⟩
    · exact ⟨_, hz, fun v q => nomatch q⟩
    · exact ⟨_, hTI, fun v q => nomatch q⟩
    · exact ⟨_, hTO, fun v q => nomatch q⟩
    · exact ⟨o1, e1, fun v q => by rw [d1] at q; cases q⟩
    · exact ⟨o2, e2, fun v q => by rw [d2] at q; cases q⟩
  keep := fun i h h' ⟨⟨old, he⟩, ⟨f0, f, hz, hf⟩, hTI, ⟨x, y, hTO⟩, h1, h2⟩ k =>
    ⟨⟨old, k e (by simp) _ he⟩, ⟨f0, f, k z (by simp) _ hz, hf⟩, k TI (by simp) _ hTI, ⟨x, y, k TO (by simp) _ hTO⟩, h1.at fun o q => k i1 (by simp) o q, h2.at fun o q => k i2 (by simp) o q⟩
  item := by
    rintro X rfl rfl rfl hc i pins s σ H E I hf ⟨⟨old, he⟩, hz, hTI, ⟨x0, y0, hTO⟩, h1, h2⟩ ⟨xs, ys, x, y, hqx, hqy, hx, hy⟩
    obtain ⟨its, rv, p, _⟩ := I.list hqx
    obtain ⟨its2, rv2, p2, _⟩ := I.list hqy
    obtain ⟨u, hu, ru⟩ := rv.get hx
    obtain ⟨u2, hu2, ru2⟩ := rv2.get hy
    have hel : e < s.heap.objs.size := Heap.lt_size he
    refine pyNext_enum_gen (Dr := fun v hN => v = .ref s.heap.objs.size ∧ ZS hN z TI TO ∧ (∃ a b, IsPair hN TO a b) ∧ hN.IsListIter i1 a (i + 1) ∧ hN.IsListIter i2 b (i + 1) ∧ IsPair hN s.heap.objs.size u u2 ∧ hN.objs.size = s.heap.objs.size + 1 ∧
      (∀ c o, c ≠ z → c ≠ TO → c ≠ i1 → c ≠ i2 → s.heap.get? c = some o → hN.get? c = some o)) he (fun Q' E' hq => nextOf_zip_item D hz hTI hTO h1 h2 p.isList p2.isList (x := u) (y := u2) (by simpa using hu) (by simpa using hu2) fun h' q1 q2 q3 q4 q5 q6 q7 => hq _ h' ⟨rfl, q1, q2, q3, q4, q5, q6, q7⟩)
      (fun v hN ⟨_, _, _, _, _, _, _, k⟩ => k _ _ Fe.z Fe.TO Fe.i1 Fe.i2 he) fun v hN h' ⟨ev, zN, ⟨x1, y1, tN⟩, i1N, i2N, pN, sN, kN⟩ eo hT hsz hk => ?_
    subst ev
    refine ⟨_, rfl, wpAny_letOwnedTupleGo_enum (s := { s with heap := h', toks := s.toks + 1 }) eo fun g ge sb => ?_⟩
    have zl : z < s.heap.objs.size := by obtain ⟨_, _, q, _⟩ := hz; exact Heap.lt_size q
    have tl : TO < s.heap.objs.size := Heap.lt_size hTO
    have Tl : TI < s.heap.objs.size := Heap.lt_size hTI
    have i1l : i1 < s.heap.objs.size := by obtain ⟨_, q, _⟩ := h1; exact Heap.lt_size q
    have i2l : i2 < s.heap.objs.size := by obtain ⟨_, q, _⟩ := h2; exact Heap.lt_size q
    -- the heap behind the inner draw
    have I1 : L2.Inv X pins σ (upd H s.heap.objs.size (.tup [x, y])) { s with heap := hN } :=
      I.turnedNew (t' := s.toks) (ch := [z, TO, i1, i2]) (fun c o hb q => kN c o (fun q' => hb (by simp [q'])) (fun q' => hb (by simp [q'])) (fun q' => hb (by simp [q'])) (fun q' => hb (by simp [q'])) q) (fun c hc => hf c (by
        have e' : c = z ∨ c = TO ∨ c = i1 ∨ c = i2 := by simpa using hc
        rcases e' with rfl | rfl | rfl | rfl <;> simp)) (Nat.le_refl _) ⟨by show 2 ≤ sizeLine; decide, [u, u2], .cons ru (.cons ru2 .nil), ⟨_, pN, rfl, _, rfl⟩⟩
    have fe : FpOk X pins (upd H s.heap.objs.size (.tup [x, y])) e := by
      obtain ⟨f1, f2⟩ := hf e (by simp)
      exact ⟨by rw [upd_ne (Nat.ne_of_lt hel)]; exact f1, f2⟩
    have up : ∀ c o, c ≠ e → hN.get? c = some o → g.get? c = some o := fun c o hce q => (sb.2 c hce).trans (hk c o hce q)
    have hT2 : g.get? hN.objs.size = some { cls := .type "tuple", data := .seq #[.int i s.toks, .ref s.heap.objs.size] } := (sb.2 _ (by rw [sN]; exact Nat.ne_of_gt (Nat.lt_succ_of_lt hel))).trans hT
    have ne : hN.objs.size ≠ s.heap.objs.size := by rw [sN]; exact Nat.succ_ne_self _
    have I2 : L2.Inv X pins σ (upd (upd H s.heap.objs.size (.tup [x, y])) hN.objs.size (.tup [V.int (i : Nat), V.ref s.heap.objs.size])) { s with heap := g, toks := s.toks + 1 } :=
      I1.turnedNew (t' := s.toks + 1) (ch := [e]) (fun c o hb q => up c o (fun q' => hb (by simp [q'])) q) (fun c hc => by
        cases List.mem_singleton.mp hc; exact fe) (Nat.le_refl _) ⟨by show 2 ≤ sizeLine; decide, [.int i s.toks, .ref s.heap.objs.size], .cons ⟨_, rfl⟩ (.cons rfl .nil), ⟨_, hT2, rfl, _, rfl⟩⟩
    refine ⟨.ref hN.objs.size, _, I2, rfl, ⟨_, _, x, y, rfl, I.hok.fresh (Nat.le_refl _), I.hok.fresh (by rw [sN]; exact Nat.le_succ _), ne, rfl, fun l hl => by rw [I.list_inj hl hqx]; exact hx, fun l hl => by rw [I.list_inj hl hqy]; exact hy⟩,
      ⟨⟨_, by rw [show ((i + 1 : Nat) : Int) = (i : Int) + 1 by omega]; exact ge⟩, ?_, ?_, ⟨x1, y1, up _ _ (Ne.symm Fe.TO) tN⟩, i1N.at fun o q => up _ o (Ne.symm Fe.i1) q, i2N.at fun o q => up _ o (Ne.symm Fe.i2) q⟩, fun c hcm => ?_⟩
    · obtain ⟨f0, f, q1, q2⟩ := zN
      exact ⟨f0, f, up _ _ (Ne.symm Fe.z) q1, q2⟩
    · exact up _ _ (Ne.symm Fe.TI) (kN _ _ D.TIz D.TITO D.TIi1 D.TIi2 hTI)
    · have hlt : c < s.heap.objs.size := by
        have e' : c = e ∨ c = z ∨ c = TI ∨ c = TO ∨ c = i1 ∨ c = i2 := by simpa using hcm
        rcases e' with rfl | rfl | rfl | rfl | rfl | rfl <;> assumption
      rw [upd_ne (by rw [sN]; exact Nat.ne_of_lt (Nat.lt_succ_of_lt hlt)), upd_ne (Nat.ne_of_lt hlt)]
      exact (hf c hcm).1
  done := by
    rintro X rfl rfl rfl hc i pins s σ H E I hf ⟨⟨old, he⟩, hz, hTI, ⟨x0, y0, hTO⟩, h1, h2⟩ ⟨xs, ys, hqx, hqy, hend⟩
    obtain ⟨its, rv, p, _⟩ := I.list hqx
    obtain ⟨its2, rv2, p2, _⟩ := I.list hqy
    have l1 := rv.length
    have l2 := rv2.length
    have hen : its.toArray[i]? = none ∨ its2.toArray[i]? = none := by
      rcases hend with q | q
      · exact .inl (by simp; omega)
      · exact .inr (by simp; omega)
    have hh : X.A.in1.handled = none := I.ok.hd hc
    exact pyNext_enum_end (Ke := fun h' => ∀ c o, c ≠ z → c ≠ TO → c ≠ i1 → c ≠ i2 → s.heap.get? c = some o → h'.get? c = some o) he (fun Q' E' hq => nextOf_zip_end hh D hz hTI hTO h1 h2 p.isList p2.isList hen fun h' x q1 q2 => hq h' x q1 q2)
      fun h' hk => ⟨rfl, I.turnedL (t' := s.toks) (ch := [z, TO, i1, i2]) (fun c o hb q => hk c o (fun q' => hb (by simp [q'])) (fun q' => hb (by simp [q'])) (fun q' => hb (by simp [q'])) (fun q' => hb (by simp [q'])) q) fun c hc => hf c (by
        have e' : c = z ∨ c = TO ∨ c = i1 ∨ c = i2 := by simpa using hc
        rcases e' with rfl | rfl | rfl | rfl <;> simp)⟩
  self := fun A i s Q E ⟨⟨_, he⟩, _⟩ h => wpAny_pyIter_enum he h
def iEnumZ (K : Fg) (ta : TA) : TI := fun σ H R => ta σ H fun vs H1 => ∃ a b xs ys, vs = [V.ref a, V.ref b] ∧ SqL K H1 a xs ∧ SqL K H1 b ys ∧ R (ItEZ K a b) H1
theorem pi_enumZ {X : Cx} {e e2 : Expr} {ta : TA} {p q1 pos zpos tpos : Pos} {elts : List Expr} {kk : Nat} (gl : Gl X "enumerate") (gm : X.mg "enumerate" = none) (hg : Gl X "zip") (hm : X.mg "zip" = none) (ha : PA X [e, e2] ta)
    (gs : starEach [.Call (.Name "zip" q1) [e, e2] [] zpos] X.env = [(false, eval (.Call (.Name "zip" q1) [e, e2] [] zpos) X.env)] := by rfl)
    (hs : starEach [e, e2] X.env = (false, eval e X.env) :: starEach [e2] X.env := by rfl) (hpl : (backTo zpos (starEach [e2] X.env)).any (·.1) = false := by rfl) :
    PI X (.Tuple elts kk tpos) (.Call (.Name "enumerate" p) [.Call (.Name "zip" q1) [e, e2] [] zpos] [] pos) (iEnumZ X.K ta) := ⟨fun pins s σ H R I h => by
  refine Call_ (ld_blt I gl gm boot_enumerate ?_)
  rw [gs]
  refine callWith_type1 (pos := pos) ?_
  refine Call_ (ld_blt I hg hm PyProof.Rows.boot_zip (PyProof.Rows.callWith_type1 (thn (ha.run zpos pins s σ H _ I h) fun us s1 ⟨vs, H1, I1, r1, k1⟩ => ?_) hs hpl))
  obtain ⟨a, b, xs, ys, ex, hqx, hqy, k1⟩ := k1
  subst ex
  cases r1 with
  | cons r rr =>
    cases rr with
    | cons r' rr =>
      cases rr
      cases r
      cases r'
      obtain ⟨its, rv, p1, _⟩ := I1.list hqx
      obtain ⟨its2, rv2, p2, _⟩ := I1.list hqy
      have la : a < s1.heap.objs.size := p1.lt
      have lb : b < s1.heap.objs.size := p2.lt
      refine call_zip_2 p1.isList p2.isList fun h' hz hTI hTO h1 h2 hsz hk => ?_
      refine call_enumerate_zip (s := { s1 with heap := h' }) hz fun he => wpAny_pyIter_enum he ?_
      have up : ∀ c o, h'.get? c = some o → (h'.push { cls := .type "enumerate", data := .fields #[.none, .bool false, .ref (s1.heap.objs.size + 4), rawInt 0, .none, .none] }).get? c = some o := fun c o q => Heap.get?_push_of_some _ q
      have I2 := I1.kept (t' := s1.toks) fun c o q => up c o (hk c o q)
      refine ⟨h'.objs.size, [h'.objs.size, s1.heap.objs.size + 4, s1.heap.objs.size + 2, s1.heap.objs.size + 3, s1.heap.objs.size, s1.heap.objs.size + 1], _, _, H1, rfl, I2, turn_enumZ (PySem.W.ktu_apart s1.heap.objs.size a b la lb) ⟨Nat.ne_of_gt (by rw [hsz]; omega), Nat.ne_of_gt (by rw [hsz]; omega), Nat.ne_of_gt (by rw [hsz]; omega), Nat.ne_of_gt (by rw [hsz]; omega), Nat.ne_of_gt (by rw [hsz]; omega)⟩,
        ⟨⟨_, he⟩, ⟨_, _, up _ _ hz, .inl rfl⟩, up _ _ hTI, ⟨_, _, up _ _ hTO⟩, h1.at fun o q => up _ o q, h2.at fun o q => up _ o q⟩, fun c hcm => ?_, k1⟩
      have e' : c = h'.objs.size ∨ c = s1.heap.objs.size + 4 ∨ c = s1.heap.objs.size + 2 ∨ c = s1.heap.objs.size + 3 ∨ c = s1.heap.objs.size ∨ c = s1.heap.objs.size + 1 := by simpa using hcm
      have hle : s1.heap.objs.size ≤ c := by
        rcases e' with rfl | rfl | rfl | rfl | rfl | rfl
        · rw [hsz]; exact Nat.le_add_right _ _
        · exact Nat.le_add_right _ _
        · exact Nat.le_add_right _ _
        · exact Nat.le_add_right _ _
        · exact Nat.le_refl _
        · exact Nat.le_add_right _ _
      exact I1.fpOk hle (I1.hok.fresh hle)⟩
def YEZ (vs ws : List V) : Nat → Hp → V → Hp → Prop := fun i H v H' => ∃ (N T : Addr) (x y : V), v = V.ref T ∧ H N = none ∧ H T = none ∧ T ≠ N ∧ H' = upd (upd H N (.tup [x, y])) T (.tup [V.int (i : Nat), V.ref N]) ∧ vs[i]? = some x ∧ ws[i]? = some y
theorem walk_enumZ {K : Fg} {a b : Addr} {vs ws : List V} : Walk (ItEZ K a b) (min vs.length ws.length) (fun H => SqL K H a vs ∧ SqL K H b ws) (YEZ vs ws) :=
  ⟨fun i H hi ⟨q1, q2⟩ => ⟨vs, ws, vs[i]'(by omega), ws[i]'(by omega), q1, q2, List.getElem?_eq_getElem _, List.getElem?_eq_getElem _⟩, fun H ⟨q1, q2⟩ => ⟨vs, ws, q1, q2, by omega⟩,
    fun i H v H' _ ⟨q1, q2⟩ ⟨N, T, x, y, h1, h2, h3, h4, h5, h6, h7⟩ => ⟨N, T, x, y, h1, h2, h3, h4, h5, h6 vs q1, h7 ws q2⟩⟩
section
variable {X : Cx} {c : Cw} {Γ : List Slot} {τ υ : Type} [Py τ] [Py υ]
theorem xi_enumZ {a b : Expr} {p q1 zpos tpos pos : Pos} {elts : List Expr} {kk : Nat} {xs : List τ} {ys : List υ} (gm : X.mg "enumerate" = none) (hm : X.mg "zip" = none) (ha : XE X c Γ a xs) (hb : XE X c Γ b ys) (gl : Gl X "enumerate" := by rfl) (hg : Gl X "zip" := by rfl)
    (gs : starEach [.Call (.Name "zip" q1) [a, b] [] zpos] X.env = [(false, eval (.Call (.Name "zip" q1) [a, b] [] zpos) X.env)] := by rfl)
    (hs : starEach [a, b] X.env = (false, eval a X.env) :: starEach [b] X.env := by rfl) (hs2 : starEach [b] X.env = [(false, eval b X.env)] := by rfl) (hpl : (backTo zpos (starEach [b] X.env)).any (·.1) = false := by rfl) :
    XI X c Γ (.Tuple elts kk tpos) (.Call (.Name "enumerate" p) [.Call (.Name "zip" q1) [a, b] [] zpos] [] pos) (enumL (xs.zip ys)) := by
  obtain ⟨t, h1, h2⟩ := ha
  obtain ⟨u, h3, h4⟩ := hb
  refine ⟨_, pi_enumZ gl gm hg hm (pa_cons h1 (pa_cons h3 pa_nil hs2) hs) gs hs hpl, fun F H σ fp E R q => h2 F H σ fp E _ fun v F' H' E' e1 e2 r => h4 F' H' σ fp E' _ fun v2 F2 H2 E2 e3 e4 r2 => ?_⟩
  obtain ⟨ad, vs, rfl, r1, r1'⟩ := (Py.mono e3 r : rep X.K F2 v xs)
  obtain ⟨bd, ws, rfl, s1, s1'⟩ := r2
  refine ⟨ad, bd, vs, ws, rfl, E2.wd.fh.l (sq_of r1), E2.wd.fh.l (sq_of s1), q _ F2 H2 E2 (e1.trans e3) (e2.trans e4) ⟨fun H => SqL X.K H ad vs ∧ SqL X.K H bd ws, YEZ vs ws, (by
    have : (enumL (xs.zip ys)).length = min vs.length ws.length := by rw [enumL_len, List.length_zip, r1'.length, s1'.length]
    rw [this]; exact walk_enumZ), fun F1 H1 x1 x2 => ⟨(x1.trans x2).l (sq_of r1), (x1.trans x2).l (sq_of s1)⟩, fun i F1 H1 v H2 y x1 x2 hy hx => ?_⟩⟩
  obtain ⟨N, T, u, w, rfl, hN, hT, hne, rfl, e5, e6⟩ := hy
  obtain ⟨y1, y2⟩ := enumL_get hx
  rw [List.getElem?_zip_eq_some] at y2
  obtain ⟨z1, hz1, r3⟩ := Reps.get (i := i) r1' e5
  obtain ⟨z2, hz2, r4⟩ := Reps.get (i := i) s1' e6
  rw [y2.1] at hz1; cases hz1
  rw [y2.2] at hz2; cases hz2
  obtain ⟨F2', a1, a2, a3, a4, a5⟩ := pair_new (T := N) (u := u) (w := w) (p := y.2) x2 hN rfl (Py.mono x1 r3) (Py.mono x1 r4)
  have hT2 : upd H1 N (.tup [u, w]) T = none := by rw [upd_ne hne]; exact hT
  obtain ⟨F3, b1, b2, b3, b4, b5⟩ := pair_new (T := T) (u := V.int (i : Nat)) (w := V.ref N) (p := y) a2 hT2 rfl (show V.int _ = V.int _ by rw [y1]) a5
  refine ⟨F3, a1.trans b1, b2, a3.trans b3, fun b hb => ?_, b5⟩
  rcases b4 b hb with h | h
  · exact a4 b h
  · refine .inr ?_
    by_cases e : b = N
    · subst e; exact hN
    · rw [upd_ne e] at h; exact h
end
end Fw
/-! a for over an owned list of frozen items -/
namespace Fw
open PySem L2 Py PyProof.Rows PySem.Spec
section
variable {X : Cx} {w : Wx} {c : Cw} {Γ : List Slot} {S B α : Type} [Inhabited α] [Py α] {R : Rc} {G : S → List Slot} {GB : B → List Slot} {oa : Option Addr} {pos : Pos}
theorem xs_forF {n : Str} {p : Pos} {it : Expr} {body : List Stmt} {xs0 : List α} (i k : Nat) {L : Addr → S → List Slot} {cur : S → List α} {s0 : S} {f : S → Int → Out S S R.ρ} {vb : S → Int → Prop}
    (hp : XPl X c Γ it i []) (hs : Γ[i]? = some (.ow oa (ol xs0))) (hN : X.N.Nodup) (hv : vRunO f vb cur xs0.length s0)
    (hb : ∀ a y s, (oa = none ∨ oa = some a) → InB (cur s) y → vb s y → XO X w c ((L a s).set k (.fz (ix (cur s) y))) body (L a) (L a) (f s y))
    (hw : ∀ a, (oa = none ∨ oa = some a) → Weak (Γ.set i (.ow (some a) (ol xs0))) (L a s0)) (hL : ∀ a s, (oa = none ∨ oa = some a) → (L a s)[i]? = some (.ow (some a) (ol (cur s)))) (hG : ∀ a s, (oa = none ∨ oa = some a) → (L a s).set i (.ow oa (ol (cur s))) = G s)
    (hoa : oa = none ∨ ∃ a, oa = some a) (hik : i ≠ k) (hkl : ∀ a s, (oa = none ∨ oa = some a) → k < (L a s).length)
    (hk : X.N[k]? = some n := by rfl) (hx : Loc X.env.scope n := by first | exact .inl rfl | exact .inr rfl) (hf : X.fn n = true ∨ X.env.scope.names.lookup n = some .local := by first | exact .inl rfl | exact .inr rfl | assumption)
    (hc : X.calm = true := by rfl) (hpo : PassesOwn (model X.prog X.w) X.A X.env X.xe := by first | exact PassesOwn.never | exact passes_of rfl | assumption) (hfs : ∀ x, foldedSetIterable it X.env x = pure x := by intro _; rfl) :
    XS X w c Γ (.For (.Name n p) it body [] pos) G GB (runFor f s0 (izs 0 xs0.length) : Out S B R.ρ) := by
  obtain ⟨te, h1, h2⟩ := hp
  obtain ⟨hv1, hv2⟩ := hv
  have key : PSs X body (fun D σ H => ∃ (t : TS), PSs X body t ∧ t D σ H) := ⟨fun pins s σ H D I ⟨t, p, q⟩ => p.run pins s σ H D I q⟩
  refine ⟨_, ps_for hpo hc (pi_list h1) (pg_name (i := k) hN hk hx hf) key hfs, fun F H σ ⟨fp0, E⟩ D q => h2 F H σ fp0 E _ fun v v0 F1 H1 E1 e1 _ g1 g2 => ?_⟩
  obtain ⟨v0', m1, m2, m3⟩ := E1.geto hs
  rw [g1] at m1; cases m1
  have ev : v = v0 := by
    unfold follow at g2
    exact (Option.some.inj g2).symm
  subst ev
  obtain ⟨a0, o0, vs0, fps0, rfl, _, _, hH0, ko0, hc0, _⟩ := OA.l3 (ts := xs0.map OT.fz) (k := .lst) m2
  cases (show o0 = _ from ko0)
  refine ⟨a0, rfl, ⟨vs0, sq_of hH0⟩, ?_⟩
  have hao : oa = none ∨ oa = some a0 := by
    rcases hoa with h | ⟨a, h⟩
    · exact .inl h
    · subst h
      cases m3 a rfl
      exact .inr rfl
  have E1' : Env X.K c F1 H1 σ (L a0 s0) := (env_oas hs g1 ⟨fp0, E1⟩).weak (hw a0 hao)
  obtain ⟨fin, hfin⟩ : ∃ fin, runFor (B := B) f s0 (izs 0 xs0.length) = fin := ⟨_, rfl⟩
  rw [hfin] at q
  generalize hn : xs0.length = N at *
  have lenI : (izs 0 N).length = N := izs_len
  let Pv : Nat → L2.St → Hp → Prop := fun j σ' H' => ∃ s F', Ex F1 F' ∧ vRun f (fun s y => (cur s).length = N ∧ vb s y) s ((izs 0 N).drop j) ∧ Env X.K c F' H' σ' (L a0 s) ∧ runFor (B := B) f s ((izs 0 N).drop j) = fin ∧ (∀ s', (runFor f s ((izs 0 N).drop j) : Out S Empty R.ρ) = .nx s' → (cur s').length = N)
  refine ⟨fun j m σ' H' => m = N - j ∧ j ≤ N ∧ Pv j σ' H', ⟨N, by simp, Nat.zero_le _, s0, F1, Ex.refl _, by simpa using hv1, E1', by simpa using hfin, by simpa using hv2⟩, ?_⟩
  rintro j m σ' H' ⟨rfl, hj, s, F', x1, hI, ⟨fpE, E'⟩, hr, hl⟩
  -- the list as it stands
  obtain ⟨v1, n1, n2, n3⟩ := E'.geto (hL a0 s hao)
  cases n3 a0 rfl
  obtain ⟨a1, o1, vs1, fps1, ea, _, _, hH1, ko1, hc1, _⟩ := OA.l3 (ts := (cur s).map OT.fz) (k := .lst) n2
  cases ea
  cases (show o1 = _ from ko1)
  have hlen1 : vs1.length = (cur s).length := by rw [hc1.1]; simp
  by_cases hlt : j < N
  · have hdr : (izs 0 N).drop j = (izs 0 N)[j] :: (izs 0 N).drop (j + 1) := List.drop_eq_getElem_cons (by omega)
    have hy : (izs 0 N)[j]'(by omega) = (j : Int) := by
      have := (izs_get (List.getElem?_eq_getElem (l := izs 0 N) (i := j) (by omega))).2
      omega
    rw [hdr, hy] at hI hr hl
    obtain ⟨⟨hcl, hvb⟩, hI2⟩ := hI
    have hin : InB (cur s) (j : Int) := ⟨by omega, by omega⟩
    have hix : ixn (cur s) (j : Int) = j := by
      unfold ixn ixN
      rw [if_pos (by omega)]
      have : (Int.toNat (j : Int)) = j := by omega
      rw [this, if_pos (by omega)]; rfl
    have hjv : j < vs1.length := by omega
    refine .inr ⟨⟨vs1, vs1[j], sq_of hH1, List.getElem?_eq_getElem hjv⟩, Pv (j + 1), fun σ2 H2 p' => ⟨N - (j + 1), by omega, rfl, hlt, p'⟩, fun x H2 ⟨hHe, hxe⟩ => ?_⟩
    subst hHe
    have hxv := hxe vs1 (sq_of hH1)
    -- the item
    have rx : rep X.K F' x (ix (cur s) (j : Int)) := by
      obtain ⟨v', l', q1, q2, q3⟩ := hc1.get (i := j) (t := OT.fz (ix (cur s) (j : Int))) (by
        have := ix_ixn (xs := cur s) hin
        rw [hix] at this
        rw [List.getElem?_map, this]; rfl)
      rw [hxv] at q1
      cases q1
      cases q3 with
      | fz r => exact r
    have E2 := E'.set (i := k) rx
    obtain ⟨tr, t1, t2⟩ := hb a0 (j : Int) s hao hin hvb
    show ∃ (t : TS), PSs X body t ∧ t _ _ _
    refine ⟨tr, t1, t2 F' H2 _ ⟨_, E2⟩ _ ?_⟩
    unfold runFor at hr hl
    cases hff : f s (j : Int) with
    | nx s' =>
      rw [hff] at hr hl hI2
      exact fun σ3 F3 H3 E3 x3 => ⟨s', F3, x1.trans x3, hI2, E3, hr, hl⟩
    | ct s' =>
      rw [hff] at hr hl hI2
      exact fun σ3 F3 H3 E3 x3 => ⟨s', F3, x1.trans x3, hI2, E3, hr, hl⟩
    | bk s' =>
      rw [hff] at hr
      rw [← hr] at q
      exact fun σ3 F3 H3 E3 x3 => q σ3 F3 H3 (hG a0 s' hao ▸ env_oa (hL a0 s' hao) hao E3) ((e1.trans x1).trans x3)
    | rt r =>
      rw [hff] at hr
      rw [← hr] at q
      exact OutOk.ex (o := Out.rt r) (G := L a0) (GB := L a0) q (e1.trans x1)
  · have e : j = N := by omega
    subst e
    rw [List.drop_of_length_le (by omega)] at hr hl
    unfold runFor at hr hl
    rw [← hr] at q
    have hls : (cur s).length = j := hl s rfl
    exact .inl ⟨⟨vs1, sq_of hH1, by omega⟩, q σ' F' H' (hG a0 s hao ▸ env_oa (hL a0 s hao) hao ⟨fpE, E'⟩) (e1.trans x1)⟩
end
instance : PyFl Bool := ⟨inferInstance, fun {K F u v x y} h1 h2 => by
  cases (show _ = _ from h1); cases (show _ = _ from h2)
  exact ⟨rfl, by show (y == x) = _; by_cases h : y = x <;> simp [h]⟩⟩
end Fw
/-! tuple.index of texts; f'{..}..'; partition -/
namespace Fw
open PySem L2 Py PyProof.Rows PySem.Spec
theorem repsS : ∀ {K : Fg} {F : Hp} {vs : List V} {xs : List Str}, Reps K F vs xs → vs = xs.map V.str
  | _, _, _, _, .nil => rfl
  | _, _, _, _, .cons (b := x) r t => by
    cases (show _ = V.str _ from r)
    rw [repsS t]; rfl
def idxS (xs : List Str) (s : Str) : Int := ((xs.findIdx fun z => z == s : Nat) : Int)
/-- a tuple of texts of the module, as it is read and searched -/
structure GtD (K : Fg) (mg : Str → Option Value) (n : Str) (t : Tup Str) : Prop where
  ex : ∃ (ad : Addr) (o : Obj) (its : Array Value) (k : Nat), mg n = some (.ref ad) ∧ K.lookup ad = some o ∧ o.cls = .type "tuple" ∧ o.dict = none ∧ o.data = .seq its k ∧ its.size ≤ sizeLine ∧ Vals (t.l.map V.str) its.toList
theorem GtD.gt {K : Fg} {mg : Str → Option Value} {n : Str} {t : Tup Str} (h : GtD K mg n t) : Gt K mg n t :=
  let ⟨ad, o, its, k, h1, h2, h3, _, h5, h6, h7⟩ := h.ex
  ⟨ad, o, its, k, h1, h2, h3, h5, h6, h7⟩
theorem gtd_mk {K : Fg} {h : Heap} {mg : Str → Option Value} {n : Str} {t : Tup Str} {ad : Addr} {its : Array Value} {k : Nat} {sl : Array (Option Value)} (X : K.In h) (G : h.Ns mainGlobals mg) (a : PySem.W.nsIn K mainGlobals n = some (some (.ref ad))) (l : K.lookup ad = some { cls := .type "tuple", dict := none, data := .seq its k, slots := sl }) (z : its.size ≤ sizeLine) (v : Vals (t.l.map V.str) its.toList) : GtD K mg n t :=
  ⟨ad, _, its, k, PySem.W.mg_of X G a, l, rfl, rfl, rfl, z, v⟩
section
variable {X : Cx} {c : Cw} {Γ : List Slot} {o e : Expr} {es : List Expr} {pos ap : Pos}
theorem xe_gidxS {n : Str} {np : Pos} {xs : Tup Str} {s : Str} (hG : GtD X.K X.mg n xs) (he : XE X c Γ e s) (hm : s ∈ xs.l) (hg : Gl X n := by rfl) (hdb : (n == ("__debug__" : Str)) = false := by decide) (hst : starEach [e] X.env = [(false, eval e X.env)] := by rfl) (hab : attributeBase (.Name n np) "index" X.env (eval (.Name n np) X.env) = eval (.Name n np) X.env := by rfl) (hln : (ap.endLine == pos.line) = true := by rfl)
    (hfew : ((backTo pos (starEach [e] X.env)).all (fun x => !x.1) && (backToKw pos (keywordEach [] X.env)).all (fun x => x.1.isSome) && decide (([e] : List Expr).length + ([] : List Keyword).length + (if ([] : List Keyword).isEmpty then 0 else 1) < 30)) = true := by rfl) :
    XE X c Γ (.Call (.Attribute (.Name n np) "index" ap) [e] [] pos) (idxS xs.l s) := by
  obtain ⟨ad, o, its, k, k1, k2, k3, k4, k5, k6, k7⟩ := hG.ex
  obtain ⟨t2, b1, b2⟩ := he
  refine ⟨_, pe_bm PySem.F.plainAttrs_tuple PySem.F.slot_tuple_index PySem.F.type_tuple_index mt_tup_index (pe_glob (v := .ref ad) hg k1 rfl hdb) (pa_cons b1 pa_nil hst) hab hfew hln hst rfl, fun F H σ fp E Q q => ?_⟩
  refine ⟨.inr (.inl ⟨rfl, o, k2, k3, k4⟩), b2 F H σ fp E _ fun u F2 H2 E2 e2 g2 ru => ?_⟩
  cases (show u = V.str s from ru)
  have hj : xs.l.findIdx (fun z => z == s) < xs.l.length := List.findIdx_lt_length_of_exists ⟨s, hm, by simp⟩
  have hz := List.findIdx_getElem (p := fun z => z == s) (w := hj)
  refine ⟨ad, xs.l, s, xs.l.findIdx (fun z => z == s), rfl, rfl, .inr ⟨o, its, k, k2, k3, k5, k6, k7⟩, ?_, fun m hm' hz' => ?_, q _ F2 H2 E2 e2 g2 rfl⟩
  · rw [List.getElem?_eq_getElem hj]
    have : xs.l[xs.l.findIdx fun z => z == s] = s := by simpa using hz
    rw [this]
  · have hml : m < xs.l.length := by omega
    rw [List.getElem?_eq_getElem hml] at hz'
    have := List.not_of_lt_findIdx hm'
    simp at hz' this
    exact this hz'
/-- the parts of f'..' -/
def XJ (X : Cx) (c : Cw) (Γ : List Slot) (es : List Expr) (s : Str) : Prop := ∃ ts, PJ X es ts ∧
  ∀ F H σ fp, EnvD X.K c F H σ Γ fp → ∀ (acc : Str) (Q : Str → Hp → Prop), (acc ++ s).length ≤ sizeLine → (∀ F' H', EnvD X.K c F' H' σ Γ fp → Ex F F' → Nw F H F' H' → Q (acc ++ s) H') → tJs ts acc σ H Q
theorem str_app_assoc (a b d : Str) : a ++ b ++ d = a ++ (b ++ d) := by
  show Str.mk _ = Str.mk _
  congr 1
  try exact Array.append_assoc ..
theorem str_app_nil (a : Str) : a ++ ("" : Str) = a := by
  show Str.mk _ = a
  cases a with
  | mk x =>
    congr 1
    try exact Array.append_empty ..
theorem xj_nil : XJ X c Γ [] ("" : Str) := ⟨[], .nil, fun F H σ fp E acc Q _ q => by
  have := q F H E (Ex.refl _) Nw.refl
  rw [str_app_nil] at this
  exact this⟩
theorem xj_cons {x t : Str} {te : TE} (hp : PE X e te) (h2 : ∀ F H σ fp, EnvD X.K c F H σ Γ fp → ∀ Q : VK, (∀ F' H', EnvD X.K c F' H' σ Γ fp → Ex F F' → Nw F H F' H' → Q (.str x) H') → te σ H Q) (r : XJ X c Γ es t) : XJ X c Γ (e :: es) (x ++ t) := by
  obtain ⟨ts, h3, h4⟩ := r
  refine ⟨te :: ts, .cons hp h3, fun F H σ fp E acc Q hl q => h2 F H σ fp E _ fun F1 H1 E1 e1 n1 => ⟨x, rfl, ?_, h4 F1 H1 σ fp E1 (acc ++ x) Q (by rw [str_app_assoc]; exact hl) fun F2 H2 E2 e2 n2 => ?_⟩⟩
  · rw [← str_app_assoc, Str.length_append] at hl
    omega
  · rw [str_app_assoc]; exact q F2 H2 E2 (e1.trans e2) (n1.trans n2)
theorem xj_const {x t : Str} (h : XE X c Γ e x) (r : XJ X c Γ es t) : XJ X c Γ (e :: es) (x ++ t) := by
  obtain ⟨te, h1, h2⟩ := h
  exact xj_cons h1 (fun F H σ fp E Q q => h2 F H σ fp E _ fun v F1 H1 E1 e1 n1 r1 => by rw [show v = V.str x from r1]; exact q F1 H1 E1 e1 n1) r
theorem xj_str {x t : Str} {q1 : Pos} (h : XE X c Γ e x) (hl : x.length ≤ sizeLine) (r : XJ X c Γ es t) : XJ X c Γ (.FormattedValue e (-1) none q1 :: es) (x ++ t) := by
  obtain ⟨te, h1, h2⟩ := h
  exact xj_cons (pe_fmt h1) (fun F H σ fp E Q q => h2 F H σ fp E _ fun v F1 H1 E1 e1 n1 r1 => .inl ⟨x, r1, hl, q F1 H1 E1 e1 n1⟩) r
theorem xj_int {i : Int} {t : Str} {q1 : Pos} (h : XE X c Γ e i) (hl : i.natAbs.log2 < 1920) (r : XJ X c Γ es t) : XJ X c Γ (.FormattedValue e (-1) none q1 :: es) (strI i ++ t) := by
  obtain ⟨te, h1, h2⟩ := h
  exact xj_cons (pe_fmt h1) (fun F H σ fp E Q q => h2 F H σ fp E _ fun v F1 H1 E1 e1 n1 r1 => .inr ⟨i, r1, hl, q F1 H1 E1 e1 n1⟩) r
theorem xe_fstr {v1 v2 : Expr} {rest : List Expr} {s : Str} (h : XJ X c Γ (v1 :: v2 :: rest) s) (hl : s.length ≤ sizeLine) : XE X c Γ (.JoinedStr (v1 :: v2 :: rest) pos) s := by
  obtain ⟨ts, h1, h2⟩ := h
  have e0 : ∀ s : Str, Str.empty ++ s = s := fun s => by
    show Str.mk _ = s
    cases s with
    | mk x =>
      congr 1
      try exact Array.empty_append ..
  refine ⟨_, pe_joined h1, fun F H σ fp E Q q => h2 F H σ fp E Str.empty _ (by rw [e0]; exact hl) fun F1 H1 E1 e1 n1 => ?_⟩
  rw [e0]
  exact q _ F1 H1 E1 e1 n1 rfl
/-- s.partition(t) -/
theorem xe_part {s t : Str} (ho : XE X c Γ o s) (he : XE X c Γ e t) (ht : (t.length == 0) = false) (hl : s.length ≤ sizeLine) (hs : starEach [e] X.env = [(false, eval e X.env)] := by rfl) (hbase : attributeBase o "partition" X.env (eval o X.env) = eval o X.env := by rfl) (hline : (ap.endLine == pos.line) = true := by rfl) :
    XE X c Γ (.Call (.Attribute o "partition" ap) [e] [] pos) (T3.mk (Txt.partition s t).1 (Txt.partition s t).2.1 (Txt.partition s t).2.2) := by
  obtain ⟨t1, a1, a2⟩ := ho
  obtain ⟨t2, b1, b2⟩ := he
  refine ⟨_, pe_m1 F.slot_str_partition F.type_str_partition mt_partition a1 b1 hs hbase hline, fun F H σ fp E Q q => a2 F H σ fp E _ fun v F1 H1 E1 e1 g1 r1 => ⟨⟨s, r1⟩, b2 F1 H1 σ fp E1 _ fun u F2 H2 E2 e2 g2 r2 => ?_⟩⟩
  refine ⟨s, t, r1, by rw [show u = V.str t from r2], ht, hl, fun p hp => ?_⟩
  have ef := Ex.new (o := HO.tup [V.str (Txt.partition s t).1, V.str (Txt.partition s t).2.1, V.str (Txt.partition s t).2.2]) (E2.ff hp)
  exact q _ _ _ (E2.lay hp) ((e1.trans e2).trans ef) ((g1.trans g2).trans (Nw.lay hp)) ⟨p, _, _, _, rfl, st_of upd_same, rfl, rfl, rfl⟩
end
end Fw
/-! try, nothing raised, whatever the handlers; else -/
namespace Fw
open PySem L2 Py PyProof.Rows PySem.Spec
section
variable {X : Cx} {w : Wx} {c : Cw} {Γ Γ' : List Slot} {S S1 B B1 : Type} {R : Rc} {G : S → List Slot} {G1 : S1 → List Slot} {GB : B → List Slot} {GB1 : B1 → List Slot} {pos : Pos} {o : Out S B R.ρ} {body orelse : List Stmt} {hds : List ExceptHandler} {h₀ : ExceptHandler} {s1 : S1}
theorem xs_tryE (he : XO X.nox w c Γ body G1 GB1 (Out.nx s1 : Out S1 B1 R.ρ)) (ho : XO X w c (G1 s1) orelse G GB o) : XS X w c Γ (.Try body (h₀ :: hds) orelse [] pos) G GB o := by
  obtain ⟨t, p, q⟩ := he
  obtain ⟨u, p2, q2⟩ := ho
  exact ⟨_, ps_try_thru p p2, fun F H σ E D d => q F H σ E _ fun σ' F' H' E' e1 => q2 F' H' σ' E' D (OutOk.ex (o := o) d e1)⟩
end
end Fw
/-! enumerate of a tuple -/
namespace PySem
open Sem (wp)
theorem meets_enumerate_newT (l : Addr) (items : Array Value) :
    Meets (Builtin.«enumerate.__new__» ⟨[.type "enumerate", .ref l], []⟩) (fun _ R s => s.heap.IsTuple l items ∧
      R (.ok (.ret (.ref (s.heap.push { cls := .type "tuple_iterator", data := .fields #[.ref l, .int 0 0] }).objs.size)))
        { s with heap := (s.heap.push { cls := .type "tuple_iterator", data := .fields #[.ref l, .int 0 0] }).push { cls := .type "enumerate", data := .fields #[.none, .bool false, .ref s.heap.objs.size, rawInt 0, .none, .none] } }) :=
  .of_wp fun prog w A R s h => by
    obtain ⟨hp, g, d, tk, os⟩ := s
    obtain ⟨hz, h⟩ := h
    have hsub := sub_enumerate
    have hT : Heap.IsTuple (Shared.heap ⟨hp, g, d, tk, os⟩) l items := hz
    wp_walk
    refine wpAny_stack_any fun st => wpAny_pure ?_
    split
    · rename_i c _ _ _ _ _
      cases (c == Value.type "enumerate")
      · wp_walk using wpAny_pyIter_tuple hT
        exact ⟨_, rfl, h⟩
      · wp_walk using wpAny_pyIter_tuple hT
        exact ⟨_, rfl, h⟩
    · wp_walk using wpAny_pyIter_tuple hT
      exact ⟨_, rfl, h⟩
section
variable {prog : Program} {w : World} {A : Around} {E : Value → Shared → Prop} {s : Shared}
theorem call_enumerate_tuple {l : Addr} {items : Array Value} {Q : Value → Shared → Prop} (hl : s.heap.IsTuple l items)
    (h : ∀ h', IsEnum h' (s.heap.objs.size + 1) s.heap.objs.size 0 .none → h'.IsTupleIter s.heap.objs.size l 0 → h'.objs.size = s.heap.objs.size + 2 →
      (∀ b o, s.heap.get? b = some o → h'.get? b = some o) → Q (.ref (s.heap.objs.size + 1)) { s with heap := h' }) :
    wpAny (model prog w) A (call (.type "enumerate") [.ref l]) Q E s := by
  refine callType_new F.called_enumerate (by decide) (F.typeCall_enumerate_1 _) (F.newCall_enumerate_1 _) (fun obj => F.args_object_init_2 obj _) F.entry_enumerate_new
    (meets_enumerate_newT l items) ⟨hl, ?_⟩
  have hz : (s.heap.push { cls := .type "tuple_iterator", data := .fields #[.ref l, .int 0 0] }).objs.size = s.heap.objs.size + 1 := Heap.size_push ..
  show _ ∧ _
  rw [hz]
  have he : IsEnum ((s.heap.push { cls := .type "tuple_iterator", data := .fields #[.ref l, .int 0 0] }).push
      { cls := .type "enumerate", data := .fields #[.none, .bool false, .ref s.heap.objs.size, rawInt 0, .none, .none] }) (s.heap.objs.size + 1) s.heap.objs.size 0 .none := by
    have := Heap.get?_push_size (s.heap.push { cls := .type "tuple_iterator", data := .fields #[.ref l, .int 0 0] })
      (o := { cls := .type "enumerate", data := .fields #[.none, .bool false, .ref s.heap.objs.size, rawInt 0, .none, .none] }) rfl
    rw [hz] at this; exact this
  exact ⟨⟨_, he, rfl⟩, h _ he ⟨_, Heap.get?_push_of_some _ (Heap.get?_push_size _ rfl), rfl, rfl⟩ (by rw [Heap.size_push, hz]) fun b o x => Heap.get?_push_of_some _ (Heap.get?_push_of_some _ x)⟩
end
end PySem
namespace Fw
open PySem L2 Py PyProof.Rows
def IteT (K : Fg) (a : Addr) : It :=
  ⟨fun i H => ∃ (xs : List V) (x : V), SqT K H a xs ∧ xs[i]? = some x, fun i H v H' => ∃ T x, v = V.ref T ∧ H T = none ∧ H' = upd H T (.tup [V.int (i : Nat), x]) ∧ ∀ xs, SqT K H a xs → xs[i]? = some x, fun i H => ∃ xs : List V, SqT K H a xs ∧ xs.length ≤ i⟩
theorem turn_enumT {P : Program} {w : World} {K : Fg} {elts : List Expr} {kk : Nat} {tpos : Pos} (a e it : Addr) :
    Turn P w K (.Tuple elts kk tpos) (IteT K a) [e, it] e (fun i h => (∃ old, IsEnum h e it ((i : Nat) : Int) old) ∧ h.IsTupleIter it a i ∧ e ≠ it) where
  mem := by simp
  obj := fun i h ⟨⟨old, he⟩, ⟨o, ho, hc, hd⟩, _⟩ b hb => by
    have e' : b = e ∨ b = it := by simpa using hb
    rcases e' with rfl | rfl
    · exact ⟨_, he, fun v q => nomatch q⟩
    · exact ⟨o, ho, fun v q => by rw [hd] at q; cases q⟩
  keep := fun i h h' ⟨⟨old, he⟩, hi, hne⟩ k => ⟨⟨old, k e (by simp) _ he⟩, hi.at fun o q => k it (by simp) o q, hne⟩
  item := by
    rintro X rfl rfl rfl hc i pins s σ H E I hf ⟨⟨old, he⟩, hit, hne⟩ ⟨xs, x, hq, hx⟩
    obtain ⟨its, rv, p, hz⟩ := I.tuple hq
    obtain ⟨u, hu, ru⟩ := rv.get hx
    have hel : e < s.heap.objs.size := Heap.lt_size he
    have hil : it < s.heap.objs.size := by obtain ⟨_, q, _⟩ := hit; exact Heap.lt_size q
    refine pyNext_enum_gen (Dr := fun v hN => v = u ∧ hN.IsTupleIter it a (i + 1) ∧ Heap.SameBut it s.heap hN) he (fun Q' E' hq => wpAny_nextOf_tuple_item hit (show s.heap.IsTuple a its.toArray from p) (x := u) (by simpa using hu) fun h' q1 q2 => hq _ h' ⟨rfl, q1, q2⟩)
      (fun v hN ⟨_, _, k⟩ => k.extBut _ _ hne he) fun v hN h' ⟨ev, itN, kN⟩ eo hT hsz hk => ?_
    subst ev
    refine ⟨_, rfl, wpAny_letOwnedTupleGo_enum (s := { s with heap := h', toks := s.toks + 1 }) eo fun g ge sb => ?_⟩
    have hs : hN.objs.size = s.heap.objs.size := kN.1
    rw [hs] at hT
    have up : ∀ c o, c ≠ e → c ≠ it → s.heap.get? c = some o → g.get? c = some o := fun c o c1 c2 q => (sb.2 c c1).trans (hk c o c1 (kN.extBut _ _ c2 q))
    have hT2 : g.get? s.heap.objs.size = some { cls := .type "tuple", data := .seq #[.int i s.toks, v] } := (sb.2 _ (Nat.ne_of_gt hel)).trans hT
    have I1 : L2.Inv X pins σ (upd H s.heap.objs.size (.tup [V.int (i : Nat), x])) { s with heap := g, toks := s.toks + 1 } :=
      I.turnedNew (t' := s.toks + 1) (ch := [e, it]) (fun c o hb q => up c o (fun q' => hb (by simp [q'])) (fun q' => hb (by simp [q'])) q) hf (Nat.le_refl _) ⟨by show 2 ≤ sizeLine; decide, [.int i s.toks, v], .cons ⟨_, rfl⟩ (.cons ru .nil), ⟨_, hT2, rfl, _, rfl⟩⟩
    rw [hs]
    refine ⟨.ref s.heap.objs.size, _, I1, rfl, ⟨_, x, rfl, I.hok.fresh (Nat.le_refl _), rfl, fun l hl => by rw [I.tuple_inj hl hq]; exact hx⟩, ⟨⟨_, by rw [show ((i + 1 : Nat) : Int) = (i : Int) + 1 by omega]; exact ge⟩, itN.at fun o q => (sb.2 it (Ne.symm hne)).trans (hk it o (Ne.symm hne) q), hne⟩, fun c hcm => ?_⟩
    have hlt : c < s.heap.objs.size := by
      have e' : c = e ∨ c = it := by simpa using hcm
      rcases e' with rfl | rfl <;> assumption
    rw [upd_ne (Nat.ne_of_lt hlt)]
    exact (hf c hcm).1
  done := by
    rintro X rfl rfl rfl hc i pins s σ H E I hf ⟨⟨old, he⟩, hit, hne⟩ ⟨xs, hq, hx⟩
    obtain ⟨its, rv, p, hz⟩ := I.tuple hq
    obtain ⟨f0, f1, f2, f3, f4, f5⟩ := hf it (by simp)
    have hl := rv.length
    have hh : X.A.in1.handled = none := I.ok.hd hc
    exact pyNext_enum_end (Ke := fun h' => Heap.ExtBut it s.heap h') he (fun Q' E' hq => wpAny_nextOf_tuple_end hh hit (show s.heap.IsTuple a its.toArray from p) (by simp; omega) fun h' x q1 q2 => hq h' x q1 q2)
      fun h' hk => ⟨rfl, I.turned (t' := s.toks) (fun b o hb q => hk b o hb q) f0 f1 f3 f4 f5⟩
  self := fun A i s Q E ⟨⟨_, he⟩, _⟩ h => wpAny_pyIter_enum he h
def iEnumT (K : Fg) (ta : TA) : TI := fun σ H R => ta σ H fun vs H1 => ∃ a xs, vs = [V.ref a] ∧ SqT K H1 a xs ∧ R (IteT K a) H1
theorem pi_enumT {X : Cx} {e : Expr} {ta : TA} {p pos tpos : Pos} {elts : List Expr} {kk : Nat} (hg : Gl X "enumerate") (hm : X.mg "enumerate" = none) (ha : PA X [e] ta) (hs : starEach [e] X.env = [(false, eval e X.env)] := by rfl) :
    PI X (.Tuple elts kk tpos) (.Call (.Name "enumerate" p) [e] [] pos) (iEnumT X.K ta) := ⟨fun pins s σ H R I h => by
  refine Call_ (ld_blt I hg hm boot_enumerate (PyProof.Rows.callWith_type1 (thn (ha.run pos pins s σ H _ I h) fun us s1 ⟨vs, H1, I1, r1, q1⟩ => ?_) hs rfl))
  obtain ⟨a, xs, ex, hq, q⟩ := q1
  subst ex
  cases r1 with
  | cons r rr =>
    cases rr
    cases r
    obtain ⟨its, rv, p', hz⟩ := I1.tuple hq
    refine call_enumerate_tuple (show s1.heap.IsTuple a its.toArray from p') fun h' he hit hsz hk => wpAny_pyIter_enum he ?_
    have I2 : L2.Inv X pins σ H1 { s1 with heap := h' } := I1.kept (t' := s1.toks) hk
    refine ⟨s1.heap.objs.size + 1, [s1.heap.objs.size + 1, s1.heap.objs.size], _, _, H1, rfl, I2, turn_enumT a (s1.heap.objs.size + 1) s1.heap.objs.size, ⟨⟨.none, he⟩, hit, Nat.succ_ne_self _⟩, fun b hb => ?_, q⟩
    have e' : b = s1.heap.objs.size + 1 ∨ b = s1.heap.objs.size := by simpa using hb
    have hle : s1.heap.objs.size ≤ b := by
      rcases e' with rfl | rfl
      · exact Nat.le_add_right _ _
      · exact Nat.le_refl _
    exact I1.fpOk hle (I1.hok.fresh hle)⟩
theorem walk_enumT {K : Fg} {a : Addr} {vs : List V} : Walk (IteT K a) vs.length (fun H => SqT K H a vs) (YPair (fun i => some (.int (i : Nat))) (fun i => vs[i]?)) :=
  ⟨fun i _ hi q => ⟨vs, vs[i], q, List.getElem?_eq_getElem hi⟩, fun _ q => ⟨vs, q, Nat.le_refl _⟩, fun i H v H' _ q ⟨T, x, h1, h2, h3, h4⟩ => ⟨T, .int (i : Nat), x, h1, h2, h3, rfl, h4 vs q⟩⟩
theorem xi_enumT {X : Cx} {c : Cw} {Γ : List Slot} {τ : Type} [Py τ] {a : Expr} {p tpos pos : Pos} {elts : List Expr} {kk : Nat} {xs : Tup τ} (hm : X.mg "enumerate" = none) (h : XE X c Γ a xs) (hg : Gl X "enumerate" := by rfl) (hs : starEach [a] X.env = [(false, eval a X.env)] := by rfl) :
    XI X c Γ (.Tuple elts kk tpos) (.Call (.Name "enumerate" p) [a] [] pos) (enumL xs.l) := by
  obtain ⟨t, h1, h2⟩ := h
  refine ⟨_, pi_enumT hg hm (pa_cons h1 pa_nil hs) hs, fun F H σ fp E R q => h2 F H σ fp E _ fun v F' H' E' e1 e2 r => ?_⟩
  obtain ⟨ad, vs, rfl, r1, r2⟩ := r
  refine ⟨ad, vs, rfl, E'.wd.fh.t r1, q _ F' H' E' e1 e2 ⟨fun H => SqT X.K H ad vs, _, (by
    have : (enumL xs.l).length = vs.length := by rw [enumL_len, r2.length]
    rw [this]; exact walk_enumT), fun F1 H1 x1 x2 => (x1.trans x2).t r1, fun i F1 H1 v H2 y x1 x2 hy hx => ?_⟩⟩
  obtain ⟨T, u, w, rfl, hT, hH, e3, e4⟩ := hy
  obtain ⟨y1, y2⟩ := enumL_get hx
  cases e3
  obtain ⟨z, hz, r3⟩ := Reps.get (i := i) r2 e4
  rw [y2] at hz; cases hz
  exact pair_new x2 hT hH (show V.int _ = V.int _ by rw [y1]) (Py.mono x1 r3)
end Fw
/-! list(zip(a, b)) of a text and a list -/
namespace PySem
open Sem (wp)
namespace F
theorem zip_no_len : typeLookup (.type "zip") "__len__" = pure none := by rw [typeLookup_type, builtinLookup_eq_fast]; kernel_rfl
theorem zip_no_hint : typeLookup (.type "zip") "__length_hint__" = pure none := by rw [typeLookup_type, builtinLookup_eq_fast]; kernel_rfl
end F
section
variable {prog : Program} {w : World} {A : Around} {E : Value → Shared → Prop} {s : Shared} {z TI TO i1 i2 : Addr} {fp1 fp2 : List Addr} {n1 n2 i : Nat} {P1 P2 : Nat → Value → Prop} {St1 St2 : Nat → Heap → Prop} {a1 a2 f0 : Value} {f : Bool}
theorem zrD_item {Q : Value → Shared → Prop} (S : ZipSep2 z TI TO i1 i2 fp1 fp2) (D1 : Draws prog w A i1 fp1 n1 P1 St1) (D2 : Draws prog w A i2 fp2 n2 P2 St2)
    (hz : ZR s.heap z TI TO f0 f) (hf : f0 = .none ∨ ∃ T : Addr, f0 = rawInt T ∧ s.heap.get? T = none) (hTI : IsTupOf2 s.heap TI (.ref i1) (.ref i2)) (hTO : IsTupOf2 s.heap TO a1 a2) (st1 : St1 i s.heap) (st2 : St2 i s.heap) (hlt1 : i < n1) (hlt2 : i < n2)
    (hQ : ∀ x1 x2 h' tk, P1 i x1 → P2 i x2 → ZS h' z TI TO → (∃ a b, IsTupOf2 h' TO a b) → St1 (i + 1) h' → St2 (i + 1) h' → IsTupOf2 h' s.heap.objs.size x1 x2 → h'.objs.size = s.heap.objs.size + 1 →
      (∀ c o, c ≠ z → c ≠ TO → c ≠ i1 → c ≠ i2 → s.heap.get? c = some o → h'.get? c = some o) → Q (.ref s.heap.objs.size) { s with heap := h', toks := tk }) :
    wpAny (model prog w) A (Builtin.«zip.__next__» ⟨[.ref z], []⟩) (fun fin s' => ∃ v, fin = .done (.ret v) ∧ Q v s') E s := by
  obtain ⟨hp, g, d, tk0, os⟩ := s
  show wpAny _ _ (field (.ref z) 2 >>= _) _ _ _
  refine wpAny_bind (wpAny_field hz rfl (x := .bool false) rfl ?_)
  show wpAny _ _ (field (.ref z) 3 >>= _) _ _ _
  refine wpAny_bind (wpAny_field hz rfl (x := .ref TI) rfl ?_)
  refine wpAny_bind (wpAny_seqItems hTI rfl ?_)
  show wpAny _ _ (Builtin.SmallTypes.ownedTupleIsFree (.ref z) >>= _) _ _ _
  refine wpAny_bind (zr_free hz hf ?_)
  simp only [if_true]
  refine wpAny_bind (wpAny_rule ?_)
  refine wpAny_bind (wpAny_field hz rfl (x := .ref TO) rfl ?_)
  refine wpAny_bind (wpAny_setField_rec hz (by simp) fun g0 hz0 hs0 => ?_)
  replace hz0 : ZR g0 z TI TO .ellipsis f := hz0
  replace hs0 : Heap.SameBut z hp g0 := hs0
  refine wpAny_bind ?_
  simp only [List.zipIdx_cons, List.zipIdx_nil, List.forIn_cons, List.forIn_nil]
  refine wpAny_bind (wpAny_bind (wpAny_onRaise ?_))
  show wpAny _ _ (Builtin.SmallTypes.nextOf (.ref i1) >>= _) _ _ ⟨g0, g, d, tk0, os⟩
  refine wpAny_bind (D1.item i _ _ _ hlt1 (D1.over st1 hs0 S.zf1) fun x1 p1 tk1 hx1 sn1 hp1 => wpAny_pure ?_)
  replace hp1 : Heap.SameBut i1 g0 p1 := hp1
  have hU1 : IsTupOf2 p1 TO a1 a2 := hp1.extBut _ _ S.Ti1 (hs0.extBut _ _ S.TOz hTO)
  refine wpAny_bind (wpAny_seqItems (s := ⟨p1, g, d, tk1, os⟩) hU1 rfl ?_)
  refine wpAny_bind (updateSeq_IsTupOf2 (s := ⟨p1, g, d, tk1, os⟩) hU1 fun g1 hT1 hs1 => ?_)
  replace hT1 : IsTupOf2 g1 TO x1 a2 := hT1
  replace hs1 : Heap.SameBut TO p1 g1 := hs1
  refine wpAny_bind (wpAny_letGo (wpAny_pure ?_))
  refine wpAny_bind (wpAny_bind (wpAny_onRaise ?_))
  show wpAny _ _ (Builtin.SmallTypes.nextOf (.ref i2) >>= _) _ _ ⟨g1, g, d, tk1, os⟩
  refine wpAny_bind (D2.item i _ _ _ hlt2 (D2.over (D2.over (D2.over st2 hs0 S.zf2) hp1 S.sep1_2) hs1 S.Tf2) fun x2 p2 tk2 hx2 sn2 hp2 => wpAny_pure ?_)
  replace hp2 : Heap.SameBut i2 g1 p2 := hp2
  have hU2 : IsTupOf2 p2 TO x1 a2 := hp2.extBut _ _ S.Ti2 hT1
  refine wpAny_bind (wpAny_seqItems (s := ⟨p2, g, d, tk2, os⟩) hU2 rfl ?_)
  refine wpAny_bind (updateSeq_IsTupOf2 (s := ⟨p2, g, d, tk2, os⟩) hU2 fun g2 hT2 hs2 => ?_)
  replace hT2 : IsTupOf2 g2 TO x1 x2 := hT2
  replace hs2 : Heap.SameBut TO p2 g2 := hs2
  refine wpAny_bind (wpAny_letGo (wpAny_pure (wpAny_pure ?_)))
  refine wpAny_bind (wpAny_seqItems (s := ⟨g2, g, d, tk2, os⟩) hT2 rfl ?_)
  refine wpAny_bind (wpAny_newTuple ?_)
  have hsz : g2.objs.size = hp.objs.size := by rw [hs2.1, hp2.1, hs1.1, hp1.1, hs0.1]
  have hzz : ZR g2 z TI TO .ellipsis f := (hs2.extBut _ _ S.TOz.symm (hp2.extBut _ _ S.zi2 (hs1.extBut _ _ S.TOz.symm (hp1.extBut _ _ S.zi1 hz0))))
  have hkk : ∀ c o, c ≠ z → c ≠ TO → c ≠ i1 → c ≠ i2 → hp.get? c = some o → g2.get? c = some o := fun c o cz cT c1 c2 e =>
    (hs2.extBut _ _ cT (hp2.extBut _ _ c2 (hs1.extBut _ _ cT (hp1.extBut _ _ c1 (hs0.extBut _ _ cz e)))))
  have hj1 : St1 (i + 1) g2 := (D1.over (D1.over (D1.over sn1 hs1 S.Tf1) hp2 S.sep2_1) hs2 S.Tf1)
  have hj2 : St2 (i + 1) g2 := (D2.over sn2 hs2 S.Tf2)
  have hzlt : z < g2.objs.size := Heap.lt_size hzz
  show wpAny _ _ (Builtin.SmallTypes.ownedTupleHandOut (.ref z) (.ref g2.objs.size) >>= _) _ _ ⟨g2.push { cls := .type "tuple", data := .seq #[x1, x2] }, g, d, tk2, os⟩
  refine wpAny_bind ?_
  unfold Builtin.SmallTypes.ownedTupleHandOut
  have hz₆ : ZR (g2.push { cls := .type "tuple", data := .seq #[x1, x2] }) z TI TO .ellipsis f := Heap.get?_push_of_some _ hzz
  refine wpAny_bind (wpAny_setField_rec hz₆ (by simp) fun h₇ hz₇ hs₇ => ?_)
  replace hz₇ : ZR h₇ z TI TO (rawInt g2.objs.size) f := hz₇
  refine wpAny_setField_rec hz₇ (by simp) fun h₈ hz₈ hs₈ => ?_
  replace hz₈ : ZR h₈ z TI TO (rawInt g2.objs.size) false := hz₈
  replace hs₇ : Heap.SameBut z (g2.push { cls := .type "tuple", data := .seq #[x1, x2] }) h₇ := hs₇
  replace hs₈ : Heap.SameBut z h₇ h₈ := hs₈
  have up : ∀ c o, c ≠ z → g2.get? c = some o → h₈.get? c = some o := fun c o c1 e => hs₈.extBut _ _ c1 (hs₇.extBut _ _ c1 (Heap.get?_push_of_some _ e))
  have hT₈ : IsTupOf2 h₈ g2.objs.size x1 x2 := hs₈.extBut _ _ (Nat.ne_of_gt hzlt) (hs₇.extBut _ _ (Nat.ne_of_gt hzlt) (Heap.get?_push_size _ rfl))
  have hz8 : h₈.objs.size = g2.objs.size + 1 := by rw [hs₈.1, hs₇.1, Heap.size_push]
  rw [hsz] at hz₈ hT₈ hz8
  refine wpAny_pure ⟨_, rfl, ?_⟩
  show Q (.ref g2.objs.size) ⟨h₈, g, d, tk2, os⟩
  rw [hsz]
  exact hQ x1 x2 h₈ tk2 hx1 hx2 ⟨_, _, hz₈, .inr ⟨_, rfl⟩⟩ ⟨_, _, up _ _ S.TOz hT2⟩ (D1.frame _ _ _ hj1 fun b hb o e => up b o (fun q => S.zf1 (q ▸ hb)) e) (D2.frame _ _ _ hj2 fun b hb o e => up b o (fun q => S.zf2 (q ▸ hb)) e) hT₈ hz8 fun c o cz cT c1 c2 e => up c o cz (hkk c o cz cT c1 c2 e)
theorem zrD_held {T : Addr} {oT : Obj} {Q : Value → Shared → Prop} (S : ZipSep2 z TI TO i1 i2 fp1 fp2) (D1 : Draws prog w A i1 fp1 n1 P1 St1) (D2 : Draws prog w A i2 fp2 n2 P2 St2)
    (hz : IsZipHeld s.heap z TI TO T f) (hT : s.heap.get? T = some oT) (hTI : IsTupOf2 s.heap TI (.ref i1) (.ref i2)) (hTO : IsTupOf2 s.heap TO a1 a2) (st1 : St1 i s.heap) (st2 : St2 i s.heap) (hlt1 : i < n1) (hlt2 : i < n2)
    (hQ : ∀ x1 x2 h' tk, P1 i x1 → P2 i x2 → ZS h' z TI TO → (∃ a b, IsTupOf2 h' TO a b) → St1 (i + 1) h' → St2 (i + 1) h' → IsTupOf2 h' s.heap.objs.size x1 x2 → h'.objs.size = s.heap.objs.size + 1 →
      (∀ c o, c ≠ z → c ≠ TO → c ≠ i1 → c ≠ i2 → s.heap.get? c = some o → h'.get? c = some o) → Q (.ref s.heap.objs.size) { s with heap := h', toks := tk }) :
    wpAny (model prog w) A (Builtin.«zip.__next__» ⟨[.ref z], []⟩) (fun fin s' => ∃ v, fin = .done (.ret v) ∧ Q v s') E s := by
  obtain ⟨hp, g, d, tk0, os⟩ := s
  show wpAny _ _ (field (.ref z) 2 >>= _) _ _ _
  refine wpAny_bind (wpAny_field hz rfl (x := .bool false) rfl ?_)
  show wpAny _ _ (field (.ref z) 3 >>= _) _ _ _
  refine wpAny_bind (wpAny_field hz rfl (x := .ref TI) rfl ?_)
  refine wpAny_bind (wpAny_seqItems hTI rfl ?_)
  show wpAny _ _ (Builtin.SmallTypes.ownedTupleIsFree (.ref z) >>= _) _ _ _
  refine wpAny_bind (wpAny_tupleHeld_zip hz hT fun g0 hz0 hs0 => ?_)
  replace hs0 : Heap.SameBut z hp g0 := hs0
  simp only [Bool.false_eq_true, if_false]
  refine wpAny_bind ?_
  rw [← Array.forIn_toList]
  simp only [List.forIn_cons, List.forIn_nil]
  refine wpAny_bind (wpAny_bind (wpAny_holding ?_))
  show wpAny _ _ (Builtin.SmallTypes.nextOf (.ref i1) >>= _) _ _ ⟨g0, g, d, tk0, os⟩
  refine wpAny_bind (D1.item i _ _ _ hlt1 (D1.over st1 hs0 S.zf1) fun x1 p1 tk1 hx1 sn1 hp1 => wpAny_pure ?_)
  replace hp1 : Heap.SameBut i1 g0 p1 := hp1
  refine wpAny_pure ?_
  refine wpAny_bind (wpAny_bind (wpAny_holding ?_))
  show wpAny _ _ (Builtin.SmallTypes.nextOf (.ref i2) >>= _) _ _ ⟨p1, g, d, tk1, os⟩
  refine wpAny_bind (D2.item i _ _ _ hlt2 (D2.over (D2.over st2 hs0 S.zf2) hp1 S.sep1_2) fun x2 p2 tk2 hx2 sn2 hp2 => wpAny_pure ?_)
  replace hp2 : Heap.SameBut i2 p1 p2 := hp2
  refine wpAny_pure (wpAny_pure ?_)
  show wpAny _ _ (newTuple [x1, x2] >>= _) _ _ _
  refine wpAny_bind (wpAny_newTuple ?_)
  have hsz : p2.objs.size = hp.objs.size := by rw [hp2.1, hp1.1, hs0.1]
  have hzz : IsZipHeld p2 z TI TO T true := hp2.extBut _ _ S.zi2 (hp1.extBut _ _ S.zi1 hz0)
  have hkk : ∀ c o, c ≠ z → c ≠ i1 → c ≠ i2 → hp.get? c = some o → p2.get? c = some o := fun c o cz c1 c2 e => hp2.extBut _ _ c2 (hp1.extBut _ _ c1 (hs0.extBut _ _ cz e))
  have hj1 : St1 (i + 1) p2 := D1.over sn1 hp2 S.sep2_1
  refine wpAny_pure ⟨_, rfl, ?_⟩
  show Q (.ref p2.objs.size) _
  have hTp : IsTupOf2 (p2.push { cls := .type "tuple", data := .seq #[x1, x2] }) p2.objs.size x1 x2 := Heap.get?_push_size _ rfl
  have hzp : (p2.push { cls := .type "tuple", data := .seq #[x1, x2] }).objs.size = p2.objs.size + 1 := Heap.size_push ..
  have up : ∀ c o, p2.get? c = some o → (p2.push { cls := .type "tuple", data := .seq #[x1, x2] }).get? c = some o := fun c o e => Heap.get?_push_of_some _ e
  rw [hsz] at hTp hzp ⊢
  exact hQ x1 x2 _ tk2 hx1 hx2 ⟨_, _, up _ _ hzz, .inr ⟨T, rfl⟩⟩ ⟨_, _, up _ _ (hkk _ _ S.TOz S.Ti1 S.Ti2 hTO)⟩ (D1.frame _ _ _ hj1 fun b hb o e => up b o e) (D2.frame _ _ _ sn2 fun b hb o e => up b o e) hTp hzp fun c o cz _ c1 c2 e => up c o (hkk c o cz c1 c2 e)
theorem zrD_any {Q : Value → Shared → Prop} (S : ZipSep2 z TI TO i1 i2 fp1 fp2) (D1 : Draws prog w A i1 fp1 n1 P1 St1) (D2 : Draws prog w A i2 fp2 n2 P2 St2)
    (hz : ZS s.heap z TI TO) (hTI : IsTupOf2 s.heap TI (.ref i1) (.ref i2)) (hTO : ∃ a1 a2, IsTupOf2 s.heap TO a1 a2) (st1 : St1 i s.heap) (st2 : St2 i s.heap) (hlt1 : i < n1) (hlt2 : i < n2)
    (hQ : ∀ x1 x2 h' tk, P1 i x1 → P2 i x2 → ZS h' z TI TO → (∃ a b, IsTupOf2 h' TO a b) → St1 (i + 1) h' → St2 (i + 1) h' → IsTupOf2 h' s.heap.objs.size x1 x2 → h'.objs.size = s.heap.objs.size + 1 →
      (∀ c o, c ≠ z → c ≠ TO → c ≠ i1 → c ≠ i2 → s.heap.get? c = some o → h'.get? c = some o) → Q (.ref s.heap.objs.size) { s with heap := h', toks := tk }) :
    wpAny (model prog w) A (Builtin.«zip.__next__» ⟨[.ref z], []⟩) (fun fin s' => ∃ v, fin = .done (.ret v) ∧ Q v s') E s := by
  obtain ⟨f0, f, hz, hf⟩ := hz
  obtain ⟨a1, a2, hTO⟩ := hTO
  rcases hf with rfl | ⟨T, rfl⟩
  · exact zrD_item S D1 D2 hz (.inl rfl) hTI hTO st1 st2 hlt1 hlt2 hQ
  · cases hT : s.heap.get? T with
    | none => exact zrD_item S D1 D2 hz (.inr ⟨T, rfl, hT⟩) hTI hTO st1 st2 hlt1 hlt2 hQ
    | some oT => exact zrD_held S D1 D2 hz hT hTI hTO st1 st2 hlt1 hlt2 hQ
theorem zrD_end0 {Q : Fin → Shared → Prop} (S : ZipSep2 z TI TO i1 i2 fp1 fp2) (D1 : Draws prog w A i1 fp1 n1 P1 St1) (D2 : Draws prog w A i2 fp2 n2 P2 St2)
    (hz : ZR s.heap z TI TO f0 f) (hf : f0 = .none ∨ ∃ T : Addr, f0 = rawInt T ∧ s.heap.get? T = none) (hTI : IsTupOf2 s.heap TI (.ref i1) (.ref i2)) (hTO : IsTupOf2 s.heap TO a1 a2) (st1 : St1 i s.heap) (st2 : St2 i s.heap) (hle1 : i ≤ n1) (hle2 : i ≤ n2) (hend : i = n1 ∨ i = n2)
    (hE : ∀ h' tk e, (∀ c o, c ≠ z → c ≠ TO → c ≠ i1 → c ≠ i2 → s.heap.get? c = some o → h'.get? c = some o) → (∃ o, h'.get? e = some o ∧ o.cls = .type "StopIteration") → E (.ref e) { s with heap := h', toks := tk }) :
    wpAny (model prog w) A (Builtin.«zip.__next__» ⟨[.ref z], []⟩) Q E s := by
  obtain ⟨hp, g, d, tk0, os⟩ := s
  show wpAny _ _ (field (.ref z) 2 >>= _) _ _ _
  refine wpAny_bind (wpAny_field hz rfl (x := .bool false) rfl ?_)
  show wpAny _ _ (field (.ref z) 3 >>= _) _ _ _
  refine wpAny_bind (wpAny_field hz rfl (x := .ref TI) rfl ?_)
  refine wpAny_bind (wpAny_seqItems hTI rfl ?_)
  show wpAny _ _ (Builtin.SmallTypes.ownedTupleIsFree (.ref z) >>= _) _ _ _
  refine wpAny_bind (zr_free hz hf ?_)
  simp only [if_true]
  refine wpAny_bind (wpAny_rule ?_)
  refine wpAny_bind (wpAny_field hz rfl (x := .ref TO) rfl ?_)
  refine wpAny_bind (wpAny_setField_rec hz (by simp) fun g0 hz0 hs0 => ?_)
  replace hz0 : ZR g0 z TI TO .ellipsis f := hz0
  replace hs0 : Heap.SameBut z hp g0 := hs0
  refine wpAny_bind ?_
  simp only [List.zipIdx_cons, List.zipIdx_nil, List.forIn_cons, List.forIn_nil]
  refine wpAny_bind (wpAny_bind (wpAny_onRaise ?_))
  show wpAny _ _ (Builtin.SmallTypes.nextOf (.ref i1) >>= _) _ _ ⟨g0, g, d, tk0, os⟩
  by_cases hlt1 : i < n1
  · refine wpAny_bind (D1.item i _ _ _ hlt1 (D1.over st1 hs0 S.zf1) fun x1 p1 tk1 hx1 sn1 hp1 => wpAny_pure ?_)
    replace hp1 : Heap.SameBut i1 g0 p1 := hp1
    have hU1 : IsTupOf2 p1 TO a1 a2 := hp1.extBut _ _ S.Ti1 (hs0.extBut _ _ S.TOz hTO)
    refine wpAny_bind (wpAny_seqItems (s := ⟨p1, g, d, tk1, os⟩) hU1 rfl ?_)
    refine wpAny_bind (updateSeq_IsTupOf2 (s := ⟨p1, g, d, tk1, os⟩) hU1 fun g1 hT1 hs1 => ?_)
    replace hT1 : IsTupOf2 g1 TO x1 a2 := hT1
    replace hs1 : Heap.SameBut TO p1 g1 := hs1
    refine wpAny_bind (wpAny_letGo (wpAny_pure ?_))
    have hi2 : i = n2 := by omega
    refine wpAny_bind (wpAny_bind (wpAny_onRaise ?_))
    show wpAny _ _ (Builtin.SmallTypes.nextOf (.ref i2) >>= _) _ _ ⟨g1, g, d, tk1, os⟩
    refine wpAny_bind (D2.done ⟨g1, g, d, tk1, os⟩ _ _ (by rw [← hi2]; exact (D2.over (D2.over (D2.over st2 hs0 S.zf2) hp1 S.sep1_2) hs1 S.Tf2)) fun q e hq he => ?_)
    replace hq : Heap.ExtBut i2 g1 q := hq
    obtain ⟨oe, hoe, hce⟩ := he
    replace hoe : q.get? e = some oe := hoe
    have hzq : ZR q z TI TO .ellipsis f := hq _ _ S.zi2 (hs1.extBut _ _ S.TOz.symm (hp1.extBut _ _ S.zi1 hz0))
    have hez : e ≠ z := fun x => by subst x; rw [hzq] at hoe; cases hoe; simp at hce
    refine wpAny_setField_rec (s := ⟨q, g, d, tk1, os⟩) hzq (by simp) fun q' _ hq' => ?_
    replace hq' : Heap.SameBut z q q' := hq'
    exact hE q' tk1 e (fun c o cz cT c1 c2 x => hq'.extBut _ _ cz (hq _ _ c2 (hs1.extBut _ _ cT (hp1.extBut _ _ c1 (hs0.extBut _ _ cz x))))) ⟨oe, hq'.extBut _ _ hez hoe, hce⟩
  · have hi1 : i = n1 := by omega
    refine wpAny_bind (D1.done ⟨g0, g, d, tk0, os⟩ _ _ (by rw [← hi1]; exact (D1.over st1 hs0 S.zf1)) fun q e hq he => ?_)
    replace hq : Heap.ExtBut i1 g0 q := hq
    obtain ⟨oe, hoe, hce⟩ := he
    replace hoe : q.get? e = some oe := hoe
    have hzq : ZR q z TI TO .ellipsis f := hq _ _ S.zi1 hz0
    have hez : e ≠ z := fun x => by subst x; rw [hzq] at hoe; cases hoe; simp at hce
    refine wpAny_setField_rec (s := ⟨q, g, d, tk0, os⟩) hzq (by simp) fun q' _ hq' => ?_
    replace hq' : Heap.SameBut z q q' := hq'
    exact hE q' tk0 e (fun c o cz cT c1 c2 x => hq'.extBut _ _ cz (hq _ _ c1 (hs0.extBut _ _ cz x))) ⟨oe, hq'.extBut _ _ hez hoe, hce⟩
theorem zrD_end1 {T : Addr} {oT : Obj} {Q : Fin → Shared → Prop} (S : ZipSep2 z TI TO i1 i2 fp1 fp2) (D1 : Draws prog w A i1 fp1 n1 P1 St1) (D2 : Draws prog w A i2 fp2 n2 P2 St2)
    (hz : IsZipHeld s.heap z TI TO T f) (hT : s.heap.get? T = some oT) (hTI : IsTupOf2 s.heap TI (.ref i1) (.ref i2)) (st1 : St1 i s.heap) (st2 : St2 i s.heap) (hle1 : i ≤ n1) (hle2 : i ≤ n2) (hend : i = n1 ∨ i = n2)
    (hE : ∀ h' tk e, (∀ c o, c ≠ z → c ≠ TO → c ≠ i1 → c ≠ i2 → s.heap.get? c = some o → h'.get? c = some o) → (∃ o, h'.get? e = some o ∧ o.cls = .type "StopIteration") → E (.ref e) { s with heap := h', toks := tk }) :
    wpAny (model prog w) A (Builtin.«zip.__next__» ⟨[.ref z], []⟩) Q E s := by
  obtain ⟨hp, g, d, tk0, os⟩ := s
  show wpAny _ _ (field (.ref z) 2 >>= _) _ _ _
  refine wpAny_bind (wpAny_field hz rfl (x := .bool false) rfl ?_)
  show wpAny _ _ (field (.ref z) 3 >>= _) _ _ _
  refine wpAny_bind (wpAny_field hz rfl (x := .ref TI) rfl ?_)
  refine wpAny_bind (wpAny_seqItems hTI rfl ?_)
  show wpAny _ _ (Builtin.SmallTypes.ownedTupleIsFree (.ref z) >>= _) _ _ _
  refine wpAny_bind (wpAny_tupleHeld_zip hz hT fun g0 hz0 hs0 => ?_)
  replace hs0 : Heap.SameBut z hp g0 := hs0
  simp only [Bool.false_eq_true, if_false]
  refine wpAny_bind ?_
  rw [← Array.forIn_toList]
  simp only [List.forIn_cons, List.forIn_nil]
  refine wpAny_bind (wpAny_bind (wpAny_holding ?_))
  show wpAny _ _ (Builtin.SmallTypes.nextOf (.ref i1) >>= _) _ _ ⟨g0, g, d, tk0, os⟩
  by_cases hlt1 : i < n1
  · refine wpAny_bind (D1.item i _ _ _ hlt1 (D1.over st1 hs0 S.zf1) fun x1 p1 tk1 hx1 sn1 hp1 => wpAny_pure ?_)
    replace hp1 : Heap.SameBut i1 g0 p1 := hp1
    refine wpAny_pure ?_
    have hi2 : i = n2 := by omega
    refine wpAny_bind (wpAny_bind (wpAny_holding ?_))
    show wpAny _ _ (Builtin.SmallTypes.nextOf (.ref i2) >>= _) _ _ ⟨p1, g, d, tk1, os⟩
    refine wpAny_bind (D2.done ⟨p1, g, d, tk1, os⟩ _ _ (by rw [← hi2]; exact (D2.over (D2.over st2 hs0 S.zf2) hp1 S.sep1_2)) fun q e hq he => ?_)
    exact hE q tk1 e (fun c o cz cT c1 c2 x => hq _ _ c2 (hp1.extBut _ _ c1 (hs0.extBut _ _ cz x))) he
  · have hi1 : i = n1 := by omega
    refine wpAny_bind (D1.done ⟨g0, g, d, tk0, os⟩ _ _ (by rw [← hi1]; exact (D1.over st1 hs0 S.zf1)) fun q e hq he => ?_)
    exact hE q tk0 e (fun c o cz cT c1 c2 x => hq _ _ c1 (hs0.extBut _ _ cz x)) he
theorem zrD_end {Q : Fin → Shared → Prop} (S : ZipSep2 z TI TO i1 i2 fp1 fp2) (D1 : Draws prog w A i1 fp1 n1 P1 St1) (D2 : Draws prog w A i2 fp2 n2 P2 St2)
    (hz : ZS s.heap z TI TO) (hTI : IsTupOf2 s.heap TI (.ref i1) (.ref i2)) (hTO : ∃ a1 a2, IsTupOf2 s.heap TO a1 a2) (st1 : St1 i s.heap) (st2 : St2 i s.heap) (hle1 : i ≤ n1) (hle2 : i ≤ n2) (hend : i = n1 ∨ i = n2)
    (hE : ∀ h' tk e, (∀ c o, c ≠ z → c ≠ TO → c ≠ i1 → c ≠ i2 → s.heap.get? c = some o → h'.get? c = some o) → (∃ o, h'.get? e = some o ∧ o.cls = .type "StopIteration") → E (.ref e) { s with heap := h', toks := tk }) :
    wpAny (model prog w) A (Builtin.«zip.__next__» ⟨[.ref z], []⟩) Q E s := by
  obtain ⟨f0, f, hz, hf⟩ := hz
  obtain ⟨a1, a2, hTO⟩ := hTO
  rcases hf with rfl | ⟨T, rfl⟩
  · exact zrD_end0 S D1 D2 hz (.inl rfl) hTI hTO st1 st2 hle1 hle2 hend hE
  · cases hT : s.heap.get? T with
    | none => exact zrD_end0 S D1 D2 hz (.inr ⟨T, rfl, hT⟩) hTI hTO st1 st2 hle1 hle2 hend hE
    | some oT => exact zrD_end1 S D1 D2 hz hT hTI st1 st2 hle1 hle2 hend hE
theorem zs_next {Q : Option Value → Shared → Prop} (S : ZipSep2 z TI TO i1 i2 fp1 fp2) (D1 : Draws prog w A.in1 i1 fp1 n1 P1 St1) (D2 : Draws prog w A.in1 i2 fp2 n2 P2 St2)
    (hz : ZS s.heap z TI TO) (hTI : IsTupOf2 s.heap TI (.ref i1) (.ref i2)) (hTO : ∃ a1 a2, IsTupOf2 s.heap TO a1 a2) (st1 : St1 i s.heap) (st2 : St2 i s.heap) (hlt1 : i < n1) (hlt2 : i < n2)
    (hQ : ∀ x1 x2 h' tk, P1 i x1 → P2 i x2 → ZS h' z TI TO → (∃ a b, IsTupOf2 h' TO a b) → St1 (i + 1) h' → St2 (i + 1) h' → IsTupOf2 h' s.heap.objs.size x1 x2 → h'.objs.size = s.heap.objs.size + 1 →
      (∀ c o, c ≠ z → c ≠ TO → c ≠ i1 → c ≠ i2 → s.heap.get? c = some o → h'.get? c = some o) → Q (some (.ref s.heap.objs.size)) { s with heap := h', toks := tk }) :
    wpAny (model prog w) A (pyNext (.ref z)) Q E s := by
  have hT : s.TypeIs (.ref z) "zip" := by
    obtain ⟨f0, f, hz, _⟩ := hz
    exact ⟨_, hz, rfl⟩
  unfold pyNext
  exact wpAny_bind (wpAny_attempt (wpAny_callSpecial?_slot (name := Str.ofString "__next__") hT F.slot_zip_next
    (wpAny_call_entry F.slot_zip_next hT F.entry_zip_next
      (zrD_any S D1 D2 hz hTI hTO st1 st2 hlt1 hlt2 fun x1 x2 h' tk y1 y2 b1 b2 d1 d2 b5 b6 b7 => wpAny_pure (hQ x1 x2 h' tk y1 y2 b1 b2 d1 d2 b5 b6 b7)) (F.args_zip_next_1 _))))
theorem zs_over {Q : Option Value → Shared → Prop} (S : ZipSep2 z TI TO i1 i2 fp1 fp2) (D1 : Draws prog w A.in1 i1 fp1 n1 P1 St1) (D2 : Draws prog w A.in1 i2 fp2 n2 P2 St2)
    (hz : ZS s.heap z TI TO) (hTI : IsTupOf2 s.heap TI (.ref i1) (.ref i2)) (hTO : ∃ a1 a2, IsTupOf2 s.heap TO a1 a2) (st1 : St1 i s.heap) (st2 : St2 i s.heap) (hle1 : i ≤ n1) (hle2 : i ≤ n2) (hend : i = n1 ∨ i = n2)
    (hQ : ∀ h' tk, (∀ c o, c ≠ z → c ≠ TO → c ≠ i1 → c ≠ i2 → s.heap.get? c = some o → h'.get? c = some o) → Q none { s with heap := h', toks := tk }) : wpAny (model prog w) A (pyNext (.ref z)) Q E s := by
  have hT : s.TypeIs (.ref z) "zip" := by
    obtain ⟨f0, f, hz, _⟩ := hz
    exact ⟨_, hz, rfl⟩
  unfold pyNext
  refine wpAny_bind (wpAny_attempt (wpAny_callSpecial?_slot (name := Str.ofString "__next__") hT F.slot_zip_next
    (wpAny_call_entry F.slot_zip_next hT F.entry_zip_next (zrD_end S D1 D2 hz hTI hTO st1 st2 hle1 hle2 hend fun h' tk e hk he => ?_) (F.args_zip_next_1 _))))
  obtain ⟨o, ho, hc⟩ := he
  refine wpAny_bind (wpAny_isInstance (T := "StopIteration") (b := true) ⟨o, ho, hc⟩ isSubtype_stop ?_)
  exact wpAny_pure (hQ _ _ hk)
end
end PySem
/-! list(zip(a, b)) of a text and a list: the loop, the expression -/
namespace Fw
open PySem L2 Py PyProof.Rows
theorem inv_adopt {X : Cx} {pins : List (Addr × Obj)} {σ : L2.St} {H : Hp} {s : Shared} {S : Addr} {o : HO} (I : L2.Inv X pins σ H s) (hf : FpOk X pins H S) (hS : ∃ ob, s.heap.get? S = some ob) (new : ObjOk X.prog X.w (upd H S o) s.heap S o) : L2.Inv X pins σ (upd H S o) s := by
  obtain ⟨f0, f1, f2, f3, f4, f5⟩ := hf
  refine I.call' (ch := [S]) rfl ⟨fun b o q _ _ _ => q, fun b o q _ _ _ => ⟨o.slots, q⟩, fun b ob q n hx => ?_, fun b o q _ => ⟨o, q⟩, fun b xs q => ?_, fun b ob y q => ?_, fun b qs q => ⟨#[], ?_⟩⟩ (fun b u q => ?_) I.bare (fun b hb => ?_)
  · rw [upd_ne (fun e => hx (by simp [e]))]; exact n
  · rw [upd_ne (ne_of_none q f0)]; exact q
  · rw [upd_ne (ne_of_none q f0)]; exact q
  · rw [upd_ne (ne_of_none q f0)]; simpa using q
  · by_cases hb : b = S
    · subst hb
      rw [upd_same] at q
      cases q
      exact new
    · rw [upd_ne hb] at q
      exact (I.hok b u q).stay (fun _ _ _ z => z) (fun d z => by rw [upd_ne (ne_of_none z f0)]; exact z) fun d xs z => by rw [upd_ne (ne_of_none z f0)]; exact z
  · cases List.mem_singleton.mp hb
    exact ⟨f3, f1, f4, f5⟩
/-- the pairs of two rows, laid one by one -/
structure ZIt (H0 H : Hp) (xs ys : List V) (vs : List V) (i : Nat) : Prop where
  ex : Ex H0 H
  len : vs.length = i
  at_ : ∀ (j : Nat) v, vs[j]? = some v → ∃ T x y, v = V.ref T ∧ H0 T = none ∧ H T = some (.tup [x, y]) ∧ xs[j]? = some x ∧ ys[j]? = some y
theorem ZIt.push {H0 H : Hp} {xs ys vs : List V} {i : Nat} {T : Addr} {x y : V} (z : ZIt H0 H xs ys vs i) (hT : H T = none) (hx : xs[i]? = some x) (hy : ys[i]? = some y) : ZIt H0 (upd H T (.tup [x, y])) xs ys (vs ++ [.ref T]) (i + 1) := by
  refine ⟨z.ex.trans (Ex.new hT), by simp [z.len], fun j v h => ?_⟩
  by_cases hj : j < vs.length
  · rw [List.getElem?_append_left hj] at h
    obtain ⟨T', x', y', h1, h0, h2, h3, h4⟩ := z.at_ j v h
    exact ⟨T', x', y', h1, h0, by rw [upd_ne (ne_of_none h2 hT)]; exact h2, h3, h4⟩
  · have hl : j < (vs ++ [V.ref T]).length := (List.getElem?_eq_some_iff.mp h).1
    have e : j = i := by
      simp at hl
      have := z.len
      omega
    subst e
    rw [List.getElem?_append_right (by omega), show j - vs.length = 0 by have := z.len; omega] at h
    cases h
    have h0 : H0 T = none := by
      cases q : H0 T with
      | none => rfl
      | some o => rw [z.ex _ _ q] at hT; cases hT
    exact ⟨T, x, y, rfl, h0, upd_same, hx, hy⟩
section
variable {X : Cx} {z TI TO i1 i2 : Addr} {fp1 fp2 : List Addr} {n1 n2 : Nat} {P1 P2 : Nat → Value → Prop} {St1 St2 : Nat → Heap → Prop} {xs ys : List V}
structure ZTn (z TI TO i1 i2 : Addr) (St1 St2 : Nat → Heap → Prop) (i : Nat) (h : Heap) : Prop where
  z : ZS h z TI TO
  ti : IsTupOf2 h TI (.ref i1) (.ref i2)
  to : ∃ a b, IsTupOf2 h TO a b
  a : St1 i h
  b : St2 i h
theorem ZTn.frame {A : Around} {i : Nat} {h h' : Heap} (D1 : Draws X.prog X.w A i1 fp1 n1 P1 St1) (D2 : Draws X.prog X.w A i2 fp2 n2 P2 St2) (t : ZTn z TI TO i1 i2 St1 St2 i h) (hk : ∀ b, (b = z ∨ b = TI ∨ b = TO ∨ b ∈ fp1 ∨ b ∈ fp2) → ∀ o, h.get? b = some o → h'.get? b = some o) : ZTn z TI TO i1 i2 St1 St2 i h' := by
  obtain ⟨⟨f0, f, tz, tf⟩, ti, ⟨a, b, to⟩, t1, t2⟩ := t
  exact ⟨⟨f0, f, hk _ (.inl rfl) _ tz, tf⟩, hk _ (.inr (.inl rfl)) _ ti, ⟨a, b, hk _ (.inr (.inr (.inl rfl))) _ to⟩, D1.frame _ _ _ t1 fun b hb => hk b (.inr (.inr (.inr (.inl hb)))), D2.frame _ _ _ t2 fun b hb => hk b (.inr (.inr (.inr (.inr hb))))⟩
theorem zip_loop {A : Around} {R : Result → Shared → Prop} {pins : List (Addr × Obj)} {σ : L2.St} {L : Addr} {H0 : Hp} {res : Value} (S : ZipSep2 z TI TO i1 i2 fp1 fp2) (D1 : Draws X.prog X.w A.in1.in1 i1 fp1 n1 P1 St1) (D2 : Draws X.prog X.w A.in1.in1 i2 fp2 n2 P2 St2)
    (h1 : ∀ i x, P1 i x → ∃ y, xs[i]? = some y ∧ RelV y x) (h2 : ∀ i x, P2 i x → ∃ y, ys[i]? = some y ∧ RelV y x) (hL : L ≠ z ∧ L ≠ TI ∧ L ≠ TO ∧ L ∉ fp1 ∧ L ∉ fp2) (hn : min n1 n2 ≤ sizeLine) :
    ∀ (k i : Nat) (s : Shared) (H : Hp) (acc : Array Value) (cc : Nat) (vs : List V), min n1 n2 - i = k → i ≤ min n1 n2 → L2.Inv X pins σ H s → (∀ b ∈ [L, z, TO, i1, i2], FpOk X pins H b) → ZTn z TI TO i1 i2 St1 St2 i s.heap → s.heap.get? L = some (lstObj acc cc) → Vals vs acc.toList → ZIt H0 H xs ys vs i →
      (∀ s' H' vs' acc' c', L2.Inv X pins σ H' s' → FpOk X pins H' L → s'.heap.get? L = some (lstObj acc' c') → Vals vs' acc'.toList → ZIt H0 H' xs ys vs' (min n1 n2) → R (.ok (.ret res)) s') →
      codeAny (model X.prog X.w) A (.builtin "list.extend.loop" ⟨[.ref L, .ref z, res], []⟩) R s := by
  obtain ⟨hLz, hLI, hLO, hL1, hL2⟩ := hL
  intro k
  induction k with
  | zero =>
    intro i s H acc cc vs hk hi I hf T hS hv hz hR
    have hin : i = min n1 n2 := by omega
    subst hin
    refine codeAny_builtin F.entry_extend_loop ?_
    rw [Around.under_plainId F.plain_extend_loop _]
    show wpAny _ A.in1 (pyNext (.ref z) >>= _) _ _ s
    refine wpAny_bind (zs_over S D1 D2 T.z T.ti T.to T.a T.b (Nat.min_le_left ..) (Nat.min_le_right ..) (by omega) fun h' tk hk => ?_)
    have I1 : L2.Inv X pins σ H { s with heap := h', toks := tk } := I.turnedL (ch := [L, z, TO, i1, i2]) (fun b o nb e => hk b o (fun q => nb (by simp [q])) (fun q => nb (by simp [q])) (fun q => nb (by simp [q])) (fun q => nb (by simp [q])) e) hf
    exact wpAny_pure (hR _ H vs acc cc I1 (hf L (by simp)) (hk _ _ hLz hLO (fun q => hL1 (q ▸ S.mem1)) (fun q => hL2 (q ▸ S.mem2)) hS) hv hz)
  | succ k ih =>
    intro i s H acc cc vs hk hi I hf T hS hv hz hR
    refine codeAny_builtin F.entry_extend_loop ?_
    rw [Around.under_plainId F.plain_extend_loop _]
    show wpAny _ A.in1 (pyNext (.ref z) >>= _) _ _ s
    refine wpAny_bind (zs_next S D1 D2 T.z T.ti T.to T.a T.b (by omega) (by omega) fun x1 x2 h' tk p1 p2 tz to ta tb hT hsz hk' => ?_)
    obtain ⟨y1, e1, r1⟩ := h1 _ _ p1
    obtain ⟨y2, e2, r2⟩ := h2 _ _ p2
    have hSL : s.heap.objs.size ≠ L := Nat.ne_of_gt (Heap.lt_size hS)
    have lt : ∀ b ∈ [L, z, TO, i1, i2], b < s.heap.objs.size := fun b hb => by
      simp only [List.mem_cons, List.not_mem_nil, or_false] at hb
      rcases hb with rfl | rfl | rfl | rfl | rfl
      · exact Heap.lt_size hS
      · obtain ⟨_, _, q, _⟩ := T.z; exact Heap.lt_size q
      · obtain ⟨_, _, q⟩ := T.to; exact Heap.lt_size q
      · obtain ⟨_, q⟩ := D1.live _ _ T.a; exact Heap.lt_size q
      · obtain ⟨_, q⟩ := D2.live _ _ T.b; exact Heap.lt_size q
    have hTn : H s.heap.objs.size = none := I.hok.fresh (Nat.le_refl _)
    have I1 : L2.Inv X pins σ (upd H s.heap.objs.size (.tup [y1, y2])) { s with heap := h', toks := tk } :=
      I.turnedNew (ch := [L, z, TO, i1, i2]) (fun b o nb e => hk' b o (fun q => nb (by simp [q])) (fun q => nb (by simp [q])) (fun q => nb (by simp [q])) (fun q => nb (by simp [q])) e) hf (Nat.le_refl _) ⟨by show 2 ≤ sizeLine; decide, [x1, x2], .cons r1 (.cons r2 .nil), ⟨_, hT, rfl, _, rfl⟩⟩
    have hf1 : ∀ b ∈ [L, z, TO, i1, i2], FpOk X pins (upd H s.heap.objs.size (.tup [y1, y2])) b := fun b hb => by
      obtain ⟨f0, f⟩ := hf b hb
      exact ⟨by rw [upd_ne (Nat.ne_of_lt (lt b hb))]; exact f0, f⟩
    have hS' := hk' _ _ hLz hLO (fun q => hL1 (q ▸ S.mem1)) (fun q => hL2 (q ▸ S.mem2)) hS
    show wpAny _ A.in1 (updateSeq L (·.push (.ref s.heap.objs.size)) >>= _) _ _ _
    refine wpAny_bind ?_
    have hal : acc.size = i := by
      have := hv.length
      rw [hz.len] at this
      simpa using this.symm
    have up : ∀ b o, b ≠ L → h'.get? b = some o → (h'.update L (Obj.mapSeq (·.push (.ref s.heap.objs.size)))).get? b = some o := fun b o hb e => (Heap.get?_update_other _ _ (Ne.symm hb)).trans e
    have T1 : ZTn z TI TO i1 i2 St1 St2 (i + 1) h' := ⟨tz, hk' _ _ S.TIz S.TITO S.TIi1 S.TIi2 T.ti, to, ta, tb⟩
    refine wpAny_updateSeq (s := { s with heap := h', toks := tk }) hS' rfl (wpAny_pure ⟨plainId_quiet F.plain_extend_loop _, ih (i + 1) _ (upd H s.heap.objs.size (.tup [y1, y2])) (acc.push (.ref s.heap.objs.size)) _ (vs ++ [.ref s.heap.objs.size]) (by omega) (by omega)
      (I1.turnedL (t' := tk) (ch := [L]) (fun b o nb e => up b o (fun q => nb (by simp [q])) e) fun b hb => hf1 b (by cases List.mem_singleton.mp hb; simp)) hf1
      (T1.frame D1 D2 fun b hb o e => up b o (fun q => by
        subst q
        rcases hb with h | h | h | h | h
        · exact hLz h
        · exact hLI h
        · exact hLO h
        · exact hL1 h
        · exact hL2 h) e)
      (Heap.get?_update_self _ hS' rfl) (by simpa using hv.append (.cons (show RelV (V.ref s.heap.objs.size) (.ref s.heap.objs.size) from rfl) .nil)) (hz.push hTn e1 e2) hR⟩)
      (by rw [hal]; omega) (by show (acc.push _).size ≤ sizeLine + 1; rw [Array.size_push, hal]; omega)
theorem call_list_zip {A : Around} {pins : List (Addr × Obj)} {σ : L2.St} {H : Hp} {s : Shared} {Q : Value → Shared → Prop} {E : Value → Shared → Prop} (S : ZipSep2 z TI TO i1 i2 fp1 fp2) (D1 : Draws X.prog X.w A.in1.in1.in1.in1 i1 fp1 n1 P1 St1) (D2 : Draws X.prog X.w A.in1.in1.in1.in1 i2 fp2 n2 P2 St2)
    (h1 : ∀ i x, P1 i x → ∃ y, xs[i]? = some y ∧ RelV y x) (h2 : ∀ i x, P2 i x → ∃ y, ys[i]? = some y ∧ RelV y x) (hn : min n1 n2 ≤ sizeLine) (I : L2.Inv X pins σ H s) (hf : ∀ b ∈ [z, TO, i1, i2], FpOk X pins H b) (T : ZTn z TI TO i1 i2 St1 St2 0 s.heap) (hz0 : IsZip s.heap z TI TO .none) (hb1 : ∀ b ∈ fp1, b < s.heap.objs.size) (hb2 : ∀ b ∈ fp2, b < s.heap.objs.size)
    (hQ : ∀ s' H' vs' l, L2.Inv X pins σ (upd H' l (.lst vs')) s' → H' l = none → ZIt H H' xs ys vs' (min n1 n2) → Q (.ref l) s') : wpAny (model X.prog X.w) A (call (.type "list") [.ref z]) Q E s := by
  obtain ⟨a0, b0, hTO0⟩ := T.to
  have zl : z < s.heap.objs.size := Heap.lt_size hz0
  have hLz : s.heap.objs.size ≠ z := Nat.ne_of_gt zl
  have hL : s.heap.objs.size ≠ z ∧ s.heap.objs.size ≠ TI ∧ s.heap.objs.size ≠ TO ∧ s.heap.objs.size ∉ fp1 ∧ s.heap.objs.size ∉ fp2 :=
    ⟨hLz, Nat.ne_of_gt (Heap.lt_size T.ti), Nat.ne_of_gt (Heap.lt_size hTO0), fun h => Nat.lt_irrefl _ (hb1 _ h), fun h => Nat.lt_irrefl _ (hb2 _ h)⟩
  refine callType_codes (Q₁ := fun obj s₁ => obj = .ref s.heap.objs.size ∧ s₁ = { s with heap := s.heap.push { cls := .type "list", data := .seq #[] } }) F.called_list (F.typeCall_list_1 _) F.entry_list_init
    (code_list_new _ ⟨rfl, rfl⟩) fun obj s₁ h₁ => ?_
  obtain ⟨rfl, rfl⟩ := h₁
  have hS : (s.heap.push { cls := .type "list", data := .seq #[] }).get? s.heap.objs.size = some { cls := .type "list", data := .seq #[] } := Heap.get?_push_size _ rfl
  refine ⟨⟨_, hS, rfl⟩, F.args_list_init_2 _ _, ?_⟩
  show wpAny _ A.in1.in1 (do let old ← Builtin.List.listItems (.ref s.heap.objs.size); Builtin.List.listUpdate (.ref s.heap.objs.size) (fun _ => #[]); letGo old.toList.reverse; Builtin.List.listExtendWith (.ref s.heap.objs.size) (.ref z) .none) _ _ _
  refine wpAny_bind ?_
  unfold Builtin.List.listItems
  refine wpAny_bind (wpAny_seqItems hS rfl (wpAny_pure ?_))
  show wpAny _ A.in1.in1 (updateSeq s.heap.objs.size (fun _ => #[]) >>= fun _ => letGo (#[] : Array Value).toList.reverse >>= fun _ => Builtin.List.listExtendWith (.ref s.heap.objs.size) (.ref z) .none) _ _ _
  refine wpAny_bind (wpAny_updateSeq hS rfl ?_)
  have hS2 := Heap.get?_update_self (Obj.mapSeq (fun _ => (#[] : Array Value))) hS rfl
  refine wpAny_bind (wpAny_letGo ?_)
  unfold Builtin.List.listExtendWith
  have up : ∀ (h : Heap) (f : Obj → Obj), (∀ b o, s.heap.get? b = some o → h.get? b = some o) → ∀ b o, s.heap.get? b = some o → (h.update s.heap.objs.size f).get? b = some o := fun h f q b o e =>
    (Heap.get?_update_other _ _ (Ne.symm (Nat.ne_of_lt (Heap.lt_size e)))).trans (q b o e)
  have k1 : ∀ b o, s.heap.get? b = some o → (s.heap.push { cls := .type "list", data := .seq #[] }).get? b = some o := fun b o e => Heap.get?_push_of_some _ e
  have k2 := up _ (Obj.mapSeq (fun _ => (#[] : Array Value))) k1
  have zty : ∀ {h : Heap}, (∀ b o, s.heap.get? b = some o → h.get? b = some o) → ({ s with heap := h } : Shared).TypeIs (.ref z) "zip" := fun {h} q => ⟨_, q _ _ hz0, rfl⟩
  refine wpAny_bind (wpAny_typeOf (zty k2) ?_)
  have e1 : Builtin.List.listSameRef (.ref s.heap.objs.size) (.ref z) = false := by simp [Builtin.List.listSameRef, hLz]
  have e2 : (Value.type "zip" == Value.type "list") = false := by decide
  have e3 : (Value.type "zip" == Value.type "tuple") = false := by decide
  simp only [e1, e2, e3, Bool.or_false, Bool.false_eq_true, if_false]
  refine wpAny_bind (wpAny_pyIter_zip (s := { s with heap := _ }) (k2 _ _ hz0) ?_)
  refine wpAny_bind (wpAny_holding ?_)
  unfold Builtin.List.listLengthHint
  refine wpAny_bind (wpAny_specialOf (zty k2) F.zip_no_len ?_)
  show wpAny _ A.in1.in1 (specialOf (Value.ref z) (Str.ofString "__length_hint__") >>= _) _ _ _
  refine wpAny_bind (wpAny_specialOf (zty k2) F.zip_no_hint ?_)
  refine wpAny_pure ?_
  show wpAny _ A.in1.in1 (rule "list.extend.makes-room" >>= fun _ => Builtin.List.listTouch (.ref s.heap.objs.size) >>= fun _ =>
    again (.builtin "list.extend.loop" ⟨[.ref s.heap.objs.size, .ref z, .none], []⟩)) _ _ _
  refine wpAny_bind (wpAny_rule ?_)
  refine wpAny_bind ?_
  show wpAny _ A.in1.in1 (updateSeq s.heap.objs.size (·.push .none) >>= fun _ => updateSeq s.heap.objs.size (·.pop)) _ _ _
  refine wpAny_bind (wpAny_updateSeq hS2 rfl ?_)
  have hS3 := Heap.get?_update_self (Obj.mapSeq (·.push Value.none)) hS2 rfl
  refine wpAny_updateSeq (hz := by seq_fits) hS3 rfl ?_
  have hS4 := Heap.get?_update_self (Obj.mapSeq (·.pop)) hS3 rfl
  have k4 := up _ (Obj.mapSeq (·.pop)) (up _ (Obj.mapSeq (·.push Value.none)) k2)
  refine wpAny_pure ⟨plainId_quiet F.plain_extend_loop _, ?_⟩
  have hHL : H s.heap.objs.size = none := I.hok.fresh (Nat.le_refl _)
  refine zip_loop (A := A.in1) (X := X) (pins := pins) (σ := σ) S (Draws.of_in1 D1) (Draws.of_in1 D2) h1 h2 hL hn (min n1 n2) 0 _ H #[] _ [] (by omega) (Nat.zero_le _) (I.kept (t' := s.toks) k4) (fun b hb => ?_) (T.frame D1 D2 fun b _ o e => k4 b o e) hS4 .nil ⟨Ex.refl _, rfl, fun j v h => by simp at h⟩ fun s' H' vs' acc' c' q1 q2 q3 q4 q5 => ⟨rfl, hQ s' H' vs' _ (inv_adopt q1 q2 ⟨_, q3⟩ ⟨?_, acc'.toList, c', q4, by rw [q3]⟩) q2.1 q5⟩
  · rcases List.mem_cons.mp hb with rfl | hb
    · exact I.fpOk (Nat.le_refl _) hHL
    · exact hf b hb
  · rw [q5.len]; exact hn
end
end Fw
/-! list(zip(a, b)) of a text and a list: the expression -/
namespace Fw
open PySem L2 Py PyProof.Rows
theorem paired_get' {α β : Type} {F : α → β → Prop} : ∀ {l₁ : List α} {l₂ : List β} {i : Nat} {b : β}, Paired F l₁ l₂ → l₂[i]? = some b → ∃ a, l₁[i]? = some a ∧ F a b
  | _, _, _, _, .nil, e => by simp at e
  | _, _, 0, _, .cons r _, e => by simp at e; subst e; exact ⟨_, rfl, r⟩
  | _, _, i + 1, v, .cons _ t, e => by
    obtain ⟨x, h1, h2⟩ := paired_get' (i := i) (b := v) t (by simpa using e)
    exact ⟨x, by simpa using h1, h2⟩
def signsV (x : Str) : List V := x.cps.toList.map fun c => V.str ⟨#[c]⟩
def tZipS (K : Fg) (t : TA) : TE := fun σ H Q => t σ H fun vs H1 => ∃ (x : Str) (b : Addr) (ys : List V), vs = [V.str x, V.ref b] ∧ SqL K H1 b ys ∧ min x.cps.size ys.length ≤ sizeLine ∧ ∀ H' us l, ZIt H1 H' (signsV x) ys us (min x.cps.size ys.length) → H' l = none → Q (.ref l) (upd H' l (.lst us))
theorem pe_listZipS {X : Cx} {a b : Expr} {t : TA} {p p2 pos pos2 : Pos} (hc : X.calm = true) (hgl : Gl X "list") (hL : X.mg "list" = none) (hgz : Gl X "zip") (hZ : X.mg "zip" = none) (ha : PA X [a, b] t)
    (hs : starEach [a, b] X.env = (false, eval a X.env) :: starEach [b] X.env) (hpl : (backTo pos2 (starEach [b] X.env)).any (·.1) = false)
    (hs3 : starEach [(.Call (.Name "zip" p2) [a, b] [] pos2 : Expr)] X.env = (false, eval (.Call (.Name "zip" p2) [a, b] [] pos2) X.env) :: starEach [] X.env) :
    PE X (.Call (.Name "list" p) [.Call (.Name "zip" p2) [a, b] [] pos2] [] pos) (tZipS X.K t) := by
  refine ⟨fun pins s σ H Q I hq => ?_⟩
  refine wpAny_Call_Name_kw (ld_blt I hgl hL (u := .type "list") (by decide +kernel) ?_)
  refine PyProof.Rows.callWith_type1 ?_ hs3 rfl
  rw [hs3]
  show wpAny _ _ (spliced ((false, eval (.Call (.Name "zip" p2) [a, b] [] pos2) X.env) :: backTo pos (starEach [] X.env))) _ _ s
  refine Calls.spliced_cons ?_
  refine wpAny_Call_Name_kw (ld_blt I hgz hZ PyProof.Rows.boot_zip (PyProof.Rows.callWith_type1 (thn (ha.run pos2 pins s σ H _ I hq) fun us s1 ⟨vs, H1, I1, r1, q1⟩ => ?_) hs hpl))
  obtain ⟨x, bb, ys, ex, hqy, hsz0, q⟩ := q1
  subst ex
  cases r1 with
  | cons r rr =>
    cases rr with
    | cons r' rr =>
      cases rr
      cases r'
      obtain ⟨tk, rfl⟩ := r
      obtain ⟨its, rv, pl, _⟩ := I1.list hqy
      have hh : X.A.in1.in1.in1.in1.handled = none := I1.ok.hd hc
      have hlen := rv.length
      refine zip_begins2 (begins_text x tk) (begins_list bb its.toArray) trivial pl.isList fun h' hz hTI hTO o1 o2 hsz hk => ?_
      refine Calls.spliced_nil ?_
      have hl' : h'.IsList bb its.toArray := pl.isList.at fun o e => hk _ o e
      have lb : bb < s1.heap.objs.size := pl.lt
      have lx : s1.heap.objs.size < h'.objs.size := by omega
      have I2 : L2.Inv X pins σ H1 { s1 with heap := h' } := I1.kept (t' := s1.toks) hk
      have D1 := Draws.text (prog := X.prog) (w := X.w) hh s1.heap.objs.size x tk
      have D2 := Draws.list (prog := X.prog) (w := X.w) hh (s1.heap.objs.size + 1) bb (Nat.ne_of_lt (Nat.lt_succ_of_lt lb)) its.toArray
      have S : ZipSep2 (s1.heap.objs.size + 4) (s1.heap.objs.size + 2) (s1.heap.objs.size + 3) s1.heap.objs.size (s1.heap.objs.size + 1) [s1.heap.objs.size] [s1.heap.objs.size + 1, bb] := by
        exact zip_sep2 (fp1 := []) (fp2 := [bb]) (fun b hb => by cases hb) (fun b hb => by cases List.mem_singleton.mp hb; exact lb)
      have eN : min x.cps.size its.toArray.size = min x.cps.size ys.length := by rw [List.size_toArray]; exact congrArg _ hlen.symm
      refine call_list_zip (X := X) (pins := pins) (σ := σ) (H := H1) (s := { s1 with heap := h' }) (xs := signsV x) (ys := ys) S D1 D2 (fun i v ⟨cc, u, e1, e2⟩ => ⟨V.str ⟨#[cc]⟩, ?_, by subst e2; exact ⟨u, rfl⟩⟩) (fun i v e => ?_) (by rw [eN]; exact hsz0) I2 (fun b hb => ?_) ⟨⟨_, _, hz, .inl rfl⟩, hTI, ⟨_, _, hTO⟩, ⟨_, o1, rfl, rfl⟩, ⟨⟨_, o2, rfl, rfl⟩, hl'⟩⟩ hz (fun b hb => ?_) (fun b hb => ?_) fun s' H' us l q1 q2 q3 => ⟨.ref l, _, q1, rfl, q H' us l (by rw [← eN]; exact q3) q2⟩
      · show (x.cps.toList.map _)[i]? = _
        rw [List.getElem?_map, Array.getElem?_toList, e1]; rfl
      · have e' : its[i]? = some v := by simpa using e
        exact paired_get' rv e'
      · have hb' : s1.heap.objs.size ≤ b := by
          simp only [List.mem_cons, List.not_mem_nil, or_false] at hb
          rcases hb with rfl | rfl | rfl | rfl
          · exact Nat.le_add_right _ _
          · exact Nat.le_add_right _ _
          · exact Nat.le_refl _
          · exact Nat.le_add_right _ _
        exact I1.fpOk hb' (I1.hok.fresh hb')
      · cases List.mem_singleton.mp hb
        exact lx
      · simp only [List.mem_cons, List.not_mem_nil, or_false] at hb
        rcases hb with rfl | rfl
        · exact Heap.lt_size o2
        · exact Nat.lt_trans lb lx
theorem paired_of {α β : Type} {F : α → β → Prop} : ∀ {l₁ : List α} {l₂ : List β}, l₁.length = l₂.length → (∀ (i : Nat) a b, l₁[i]? = some a → l₂[i]? = some b → F a b) → Paired F l₁ l₂
  | [], [], _, _ => .nil
  | [], _ :: _, h, _ => by cases h
  | _ :: _, [], h, _ => by cases h
  | a :: r, b :: s, h, k => .cons (k 0 a b rfl rfl) (paired_of (by simpa using h) fun i x y hx hy => k (i + 1) x y hx hy)
theorem new_liT {X : Cx} {c : Cw} {Γ : List Slot} {τ : Type} [Py τ] {F H F1 H1 : Hp} {σ : L2.St} {fp : Nat → List Addr} (E : EnvD X.K c F H σ Γ fp) (E1 : EnvD X.K c F1 H1 σ Γ fp) (e1 : Ex F F1) (n1 : Nw F H F1 H1) {l : Addr} (hl : H1 l = none) {vs : List V} {ys : List τ} (r : Reps X.K F1 vs ys) {Q : VK}
    (q : ∀ (v : V) (F' H' : Hp) (l : List Addr), EnvD X.K c F' H' σ Γ fp → Ex F F' → Nw F H F' H' → OA X.K F' H' v l (ol ys) → (∀ b ∈ l, H b = none) → Q v H') : Q (.ref l) (upd H1 l (.lst vs)) := by
  obtain ⟨k1, k2, k3⟩ := lay_li E1 hl (l3_fz r) (by rw [flat_nil]; exact List.nodup_nil)
  refine q _ _ _ _ k1 e1 (n1.trans k2) k3 fun b hb => ?_
  rw [flat_nil] at hb
  cases List.mem_singleton.mp hb
  cases z : H l with
  | none => rfl
  | some o => rw [n1.h _ _ z] at hl; cases hl
theorem zit_reps {K : Fg} {τ : Type} [Py τ] {F1 H1 H' : Hp} {x : Str} {ys us : List V} {xs : List τ} (x1 : Ex F1 H1) (r : Reps K F1 ys xs) (hz : ZIt H1 H' (signsV x) ys us (min x.cps.size ys.length)) :
    ∃ F2, Ex F1 F2 ∧ Ex F2 H' ∧ (∀ b, F2 b ≠ none → F1 b ≠ none ∨ H1 b = none) ∧ Reps K F2 us ((signsL x).zip xs) := by
  classical
  let F2 : Hp := fun b => if (F1 b).isSome then F1 b else if ∃ j : Nat, us[j]? = some (V.ref b) then H' b else none
  have e1 : Ex F1 F2 := fun b o h => by
    show (if (F1 b).isSome then _ else _) = _
    rw [h]; rfl
  have new : ∀ (j : Nat) (T : Addr), us[j]? = some (V.ref T) → F2 T = H' T ∧ H1 T = none := fun j T h => by
    obtain ⟨T', a, b, e, h0, h2, _, _⟩ := hz.at_ j _ h
    cases e
    have hF : F1 T = none := by
      cases q : F1 T with
      | none => rfl
      | some o => rw [x1 _ _ q] at h0; cases h0
    refine ⟨?_, h0⟩
    show (if (F1 T).isSome then _ else _) = _
    rw [hF, if_neg (by simp), if_pos ⟨j, h⟩]
  refine ⟨F2, e1, fun b o h => ?_, fun b h => ?_, ?_⟩
  · have h' : (if (F1 b).isSome then F1 b else if ∃ j : Nat, us[j]? = some (V.ref b) then H' b else none) = some o := h
    split at h'
    · exact hz.ex _ _ (x1 _ _ h')
    · split at h'
      · exact h'
      · cases h'
  · have h' : (if (F1 b).isSome then F1 b else if ∃ j : Nat, us[j]? = some (V.ref b) then H' b else none) ≠ none := h
    split at h'
    · exact .inl h'
    · split at h'
      · next q => obtain ⟨j, q⟩ := q; exact .inr (new j b q).2
      · exact absurd rfl h'
  · refine paired_of ?_ ?_
    · rw [hz.len, List.length_zip]
      have : (signsL x).length = x.cps.size := by unfold signsL; rw [List.length_map, Array.length_toList]
      rw [this, r.length]
    · intro i v z hv hzz
      rw [List.getElem?_zip_eq_some] at hzz
      obtain ⟨T, a, b, rfl, h0, h2, h3, h4⟩ := hz.at_ i v hv
      obtain ⟨y', hy', ry⟩ := Reps.get (i := i) r h4
      rw [hzz.2] at hy'; cases hy'
      have hs : a = V.str z.1 := by
        have q1 : (x.cps.toList.map fun c => V.str ⟨#[c]⟩)[i]? = some a := h3
        have q2 : (x.cps.toList.map fun c => (⟨#[c]⟩ : Str))[i]? = some z.1 := hzz.1
        rw [List.getElem?_map] at q1 q2
        cases q : x.cps.toList[i]? with
        | none => rw [q] at q1; cases q1
        | some c =>
          rw [q] at q1 q2
          have e1 : V.str ⟨#[c]⟩ = a := Option.some.inj q1
          have e2 : (⟨#[c]⟩ : Str) = z.1 := Option.some.inj q2
          rw [← e1, ← e2]
      exact ⟨T, a, b, rfl, .inl (.inl ((new i T hv).1.trans h2)), hs, Py.mono e1 ry⟩
section
variable {X : Cx} {c : Cw} {Γ : List Slot} {τ : Type} [Py τ] {a b : Expr} {pos : Pos}
theorem xn_listZS {p p2 pos2 : Pos} {x : Str} {xs : List τ} (hL : X.mg "list" = none) (hZ : X.mg "zip" = none) (ha : XE X c Γ a x) (hb : XE X c Γ b xs) (h : xs.length ≤ 100000) (hc : X.calm = true := by rfl) (hgl : Gl X "list" := by rfl) (hgz : Gl X "zip" := by rfl)
    (hs : starEach [a, b] X.env = (false, eval a X.env) :: starEach [b] X.env := by rfl) (hs1 : starEach [b] X.env = [(false, eval b X.env)] := by rfl) (hpl : (backTo pos2 (starEach [b] X.env)).any (·.1) = false := by rfl)
    (hs3 : starEach [(.Call (.Name "zip" p2) [a, b] [] pos2 : Expr)] X.env = (false, eval (.Call (.Name "zip" p2) [a, b] [] pos2) X.env) :: starEach [] X.env := by rfl) :
    XN X c Γ (.Call (.Name "list" p) [.Call (.Name "zip" p2) [a, b] [] pos2] [] pos) (ol ((signsL x).zip xs)) := by
  obtain ⟨t, h1, h2⟩ := ha
  obtain ⟨u, h3, h4⟩ := hb
  refine ⟨_, pe_listZipS hc hgl hL hgz hZ (pa_cons h1 (pa_cons h3 pa_nil hs1) hs) hs hpl hs3, fun F H σ fp E Q q => h2 F H σ fp E _ fun v F' H' E' e1 n1 r => h4 F' H' σ fp E' _ fun w F2 H2 E2 e3 n3 r2 => ?_⟩
  obtain ⟨bb, ys, rfl, r3, r4⟩ := r2
  refine ⟨x, bb, ys, by rw [show v = V.str x from r], E2.wd.fh.l (sq_of r3), ?_, fun H3 us l hz hl => ?_⟩
  · have := r4.length
    exact sz _ (by omega)
  · obtain ⟨F3, k1, k2, k3, k4⟩ := zit_reps E2.wd.fh r4 hz
    have E3 : EnvD X.K c F3 H3 σ Γ fp := E2.grow k1 k2 hz.ex k3
    exact new_liT E E3 ((e1.trans e3).trans k1) ((n1.trans n3).trans ⟨hz.ex, k3⟩) hl k4 (fun l' F' H' a1 a2 a3 a4 a5 => q l' F' H' a1 a2 a3 a4 a5)
end
end Fw
/-! P.pop() as a value; targets that are attributes; dict(zip(a, b)); an update of keys that are there -/
namespace Fw
open PySem L2 Py PyProof.Rows
theorem dropLast_er.{u} {β : Type u} (zs : List β) : zs.dropLast = zs.eraseIdx (zs.length - 1) := by
  cases zs with
  | nil => rfl
  | cons z r => exact (List.eraseIdx_eq_dropLast (by simp)).symm
theorem li_drop {α : Type} (g : α → OT) (xs : List α) : (OT.nd .lst ((xs.map g).dropLast)) = OT.li g xs.dropLast := by
  unfold OT.li
  rw [List.map_dropLast]
theorem last_ix {τ : Type} [Inhabited τ] {xs : List τ} (h : 0 < xs.length) : xs[xs.length - 1]? = some (ix xs (-1)) := by
  have e : ix xs (-1) = xs[xs.length - 1] := by
    unfold ix atI
    rw [ixN_last h]
    simp [List.getElem?_eq_getElem (show xs.length - 1 < xs.length by omega)]
  rw [e]
  exact List.getElem?_eq_getElem (by omega)
section
variable {X : Cx} {w : Wx} {c : Cw} {Γ Γ' Γ1 : List Slot} {S B α τ υ : Type} [Py τ] [Py υ] {R : Rc} {GB : B → List Slot} {a b e ep : Expr} {pos : Pos} {i : Nat} {p : List Nat} {oa : Option Addr} {t t' : OT} {ts : List OT} {x : τ} {y : υ}
/-- P.pop() -/
theorem xm_popF {q1 q2 : Pos} (hp : XPl X c Γ ep i p) (hs : Γ[i]? = some (.ow oa t)) (hg : t.get? p = some (.nd .lst ts)) (hx : ts[ts.length - 1]? = some (.fz x)) (hy : t.put p (.nd .lst ts.dropLast) = t')
    (hab : attributeBase ep "pop" X.env (eval ep X.env) = eval ep X.env := by rfl) (hln : (q1.endLine == q2.line) = true := by rfl) :
    XM X c Γ (Γ.set i (.ow oa t')) (.Call (.Attribute ep "pop" q1) [] [] q2) (.fz x) := by
  obtain ⟨tp, h3, h4⟩ := hp
  refine ⟨_, pe_bm0 PySem.F.plainAttrs_list PySem.F.slot_list_pop PySem.F.type_list_pop mt_pop h3 hab hln, fun F H σ fp E Q q => h4 F H σ fp E _ fun vp v0 F1 H1 E1 e1 n1 g1 g2 => ?_⟩
  obtain ⟨v0', ad, o, vs, fps, k1, k2, k3, k4, k5, k6, k7, k8, k9⟩ := E1.node hs hg
  rw [g1] at k1; cases k1
  rw [g2] at k2; cases k2
  cases (show o = _ from k5)
  have hl := k6.1
  obtain ⟨v, l, hv, hfl, hv2⟩ := k6.get hx
  rw [← hl] at hv
  cases hv2 with
  | fz r =>
  have hpos : 0 < ts.length := by
    have := (List.getElem?_eq_some_iff.mp hx).1
    omega
  obtain ⟨m1, m2⟩ := nd_sub k7 (List.eraseIdx_sublist fps (ts.length - 1))
  have d1 : vs.dropLast = vs.eraseIdx (ts.length - 1) := by rw [← hl]; exact dropLast_er vs
  have d2 : ts.dropLast = ts.eraseIdx (ts.length - 1) := dropLast_er ts
  obtain ⟨fp', E4, _, _⟩ := k9 (.lst vs.dropLast) .lst _ (fps.eraseIdx (ts.length - 1)) (ts.eraseIdx (ts.length - 1)) rfl (by rw [d1]; exact k6.erase _) m1 (fun b hb => .inl (m2 b hb))
  rw [← d2, hy] at E4
  exact ⟨.inl ⟨rfl, _, sq_of k4⟩, ad, vs, v, rfl, rfl, k4, hv, q v F1 _ fp' [] E4 e1 ⟨rfl, v, rfl, r⟩ (fun b hb => by cases hb)⟩
/-! ### targets that are attributes -/
def gAttr (K : Fg) (to : TE) (f : Str) : TG := fun v σ H Q => to σ H fun o H2 => ∃ a C dx fs, o = .ref a ∧ H2 a = some (.ins C dx fs) ∧ Cls K C ∧ NoAttr K C f ∧ fs.length < 1000 ∧ Q σ (upd H2 a (.ins C dx (putF f v fs)))
theorem pg_attr {to : TE} {f : Str} (ho : PE X e to) : PG X (.Attribute e f pos) (gAttr X.K to f) := by
  refine ⟨fun pins s σ H v u Q I r h => ?_⟩
  rw [assign_Attribute]
  refine wpAny_bind (wpAny_holding (thn (ho.run pins s σ H _ I h) fun ov s1 ⟨o, H1, I1, r1, a, C, dx, fs, e1, ea, c, n, l, q⟩ => ?_))
  subst e1
  obtain rfl : ov = Value.ref a := r1
  refine wpAny_bind (wpAny_standAt (wpAny_bind (wpAny_holding (setattr_ok I1 ea c n l r fun s3 I3 => ?_))))
  exact wpAny_release ⟨σ, _, I3, q⟩
/-- a target, what the slots are behind it -/
def XGM (X : Cx) (c : Cw) (tg : Expr) (Γ : List Slot) (y : υ) (Γ' : List Slot) : Prop := ∃ g, PG X tg g ∧ ∀ F H σ fp v, EnvD X.K c F H σ Γ fp → rep X.K F v y → ∀ Q : L2.St → Hp → Prop, (∀ σ' F' H' fp', EnvD X.K c F' H' σ' Γ' fp' → Ex F F' → Q σ' H') → g v σ H Q
theorem xgm_name (i : Nat) {n : Str} (hN : X.N.Nodup) (hi : X.N[i]? = some n := by rfl) (hx : Loc X.env.scope n := by first | exact .inl rfl | exact .inr rfl) (hf : X.fn n = true ∨ X.env.scope.names.lookup n = some .local := by first | exact .inl rfl | exact .inr rfl | assumption) :
    XGM X c (.Name n pos) Γ y (Γ.set i (.fz y)) := ⟨_, pg_name (i := i) hN hi hx hf, fun F H σ fp v E r Q q => q _ F H _ (E.set r) (Ex.refl _)⟩
theorem xgm_attr {f : Str} {C : Addr} {ns : List Str} {j : Nat} (hp : XPl X c Γ ep i p) (hs : Γ[i]? = some (.ow oa t)) (hg : t.get? p = some (.nd (.ins C ns) ts)) (hf : fIx ns f = some j) (hl : ns.length < 1000) (hy : t.put p (.nd (.ins C ns) (ts.set j (.fz y))) = t') :
    XGM X c (.Attribute ep f pos) Γ y (Γ.set i (.ow oa t')) := by
  obtain ⟨tp, h3, h4⟩ := hp
  refine ⟨_, pg_attr h3, fun F H σ fp v E r Q q => h4 F H σ fp E _ fun vp v0 F2 H2 E2 e2 n2 g1 g2 => ?_⟩
  obtain ⟨v0', a, o, vs, fps, k1, k2, k3, k4, k5, k6, k7, k8, k9⟩ := E2.node hs hg
  rw [g1] at k1; cases k1
  rw [g2] at k2; cases k2
  obtain ⟨⟨hc, hn⟩, hlen, dx, rfl⟩ := k5
  have hj : j < ns.length := (List.getElem?_eq_some_iff.mp (fIx_get hf)).1
  have hjl : j < fps.length := by rw [k6.2.1, ← k6.1, ← hlen]; exact hj
  have r2 : OA X.K F2 H2 v [] (.fz y) := .fz (Py.mono e2 r)
  obtain ⟨m1, m2⟩ := nd_set (j := j) (l := []) k7 (List.getElem?_eq_getElem hjl) List.nodup_nil (fun b hb => by cases hb)
  obtain ⟨fp', E3, _, _⟩ := k9 (.ins C dx (putF f v (ns.zip vs))) (.ins C ns) (vs.set j v) (fps.set j []) (ts.set j (.fz y)) ⟨⟨hc, hn⟩, by simpa using hlen, dx, by rw [putF_zip hlen hf]⟩ (k6.set j r2) m1 (fun b hb => .inl ((m2 b hb).elim id fun h => by cases h))
  rw [hy] at E3
  exact ⟨a, C, dx, _, rfl, k4, hc, hn f (fIx_mem hf), by rw [List.length_zip]; omega, q σ F2 _ fp' E3 e2⟩
def XGMs (X : Cx) (c : Cw) {α : Type} [PyA α] (tgs : List Expr) (Γ : List Slot) (y : α) (Γ' : List Slot) : Prop := ∃ g, PGs X tgs g ∧ ∀ F H σ fp vs, EnvD X.K c F H σ Γ fp → PyA.reps X.K F vs y → ∀ Q : L2.St → Hp → Prop, (∀ σ' F' H' fp', EnvD X.K c F' H' σ' Γ' fp' → Ex F F' → Q σ' H') → g vs σ H Q
theorem xgms_nil : XGMs X c [] Γ () Γ := ⟨_, pgs_nil, fun F H σ fp vs E r Q q => ⟨r, q σ F H fp E (Ex.refl _)⟩⟩
theorem xgms_cons {α : Type} [PyA α] {tg : Expr} {tgs : List Expr} {r : α} (h1 : XGM X c tg Γ y Γ1) (h2 : XGMs X c tgs Γ1 r Γ') (hs : (assignEach (tg :: tgs) X.env).map (·.2) = assign tg X.env :: (assignEach tgs X.env).map (·.2) := by rfl) : XGMs X c (tg :: tgs) Γ (y, r) Γ' := by
  obtain ⟨g1, p1, q1⟩ := h1
  obtain ⟨g2, p2, q2⟩ := h2
  refine ⟨_, pgs_cons p1 p2 hs, fun F H σ fp vs E r Q q => ?_⟩
  obtain ⟨u, rs, rfl, r1, r2⟩ := r
  exact ⟨u, rs, rfl, q1 F H σ fp u E r1 _ fun σ1 F1 H1 fp1 E1 e1 => q2 F1 H1 σ1 fp1 rs E1 (PyA.mono e1 r2) Q fun σ2 F2 H2 fp2 E2 e2 => q σ2 F2 H2 fp2 E2 (e1.trans e2)⟩
theorem xgm_tup {α : Type} [PyA α] [PyT υ α] {es : List Expr} {x1} (h : XGMs X c es Γ (PyT.toA y) Γ') (hc : X.calm = true := by rfl) (hn : (assignEach es X.env).length = PyT.ar υ := by rfl) (hst : (assignEach es X.env).findIdx? (·.1) = none := by rfl) : XGM X c (.Tuple es x1 pos) Γ y Γ' := by
  obtain ⟨g, p, q⟩ := h
  refine ⟨_, pg_tup hc p hn hst, fun F H σ fp v E r Q k => ?_⟩
  obtain ⟨a, vs, rfl, r1, r2, r3⟩ := PyT.to r
  exact ⟨a, vs, rfl, E.wd.fh.t r1, r2, q F H σ fp vs E r3 Q k⟩
/-- targets = e -/
theorem xs_asgG {tg : Expr} {L : α → List Slot} {s0 : α} (he : XE X c Γ e y) (hg : XGM X c tg Γ y Γ') (hL : L s0 = Γ') (hs : swapsWithSole [tg] e pos.line X.env = pure false := by rfl) (hw : swappedStores [tg] e X.env = pure none := by rfl) (h1' : (assignEach [tg] X.env).map (·.2) = [assign tg X.env] := by rfl) :
    XS X w c Γ (.Assign [tg] e pos) L GB (Out.nx s0 : Out α B R.ρ) := by
  obtain ⟨t, h1, h2⟩ := he
  obtain ⟨g, p, k⟩ := hg
  exact ⟨_, ps_asg h1 p hs hw h1', fun F H σ ⟨fp, E⟩ D q => h2 F H σ fp E _ fun v F1 H1 E1 e1 n1 r => k F1 H1 σ fp v E1 r _ fun σ' F' H' fp' E' e' => q σ' F' H' (hL ▸ ⟨fp', E'⟩) (e1.trans e')⟩
theorem xs_asgGM {tg : Expr} {L : α → List Slot} {s0 : α} (he : XM X c Γ Γ1 e (.fz y)) (hg : XGM X c tg Γ1 y Γ') (hL : L s0 = Γ') (hs : swapsWithSole [tg] e pos.line X.env = pure false := by rfl) (hw : swappedStores [tg] e X.env = pure none := by rfl) (h1' : (assignEach [tg] X.env).map (·.2) = [assign tg X.env] := by rfl) :
    XS X w c Γ (.Assign [tg] e pos) L GB (Out.nx s0 : Out α B R.ρ) := by
  obtain ⟨t, h1, h2⟩ := he
  obtain ⟨g, p, k⟩ := hg
  refine ⟨_, ps_asg h1 p hs hw h1', fun F H σ ⟨fp, E⟩ D q => h2 F H σ fp E _ fun v F1 H1 fp1 l E1 e1 ⟨_, u, hu, r⟩ _ => ?_⟩
  cases hu
  exact k F1 H1 σ fp1 v E1 r _ fun σ' F' H' fp' E' e' => q σ' F' H' (hL ▸ ⟨fp', E'⟩) (e1.trans e')
end
end Fw
/-! dict(zip(a, b)); an update of keys that are there -/
namespace Fw
open PySem L2 Py PyProof.Rows
def tDZip (K : Fg) (t : TA) : TE := fun σ H Q => t σ H fun vs H1 => ∃ (a b : Addr) (ks : List Key) (ws : List V), vs = [V.ref a, V.ref b] ∧ SqL K H1 a (ks.map kV) ∧ SqL K H1 b ws ∧ ks.length = ws.length ∧ ∀ p, H1 p = none → Q (.ref p) (upd H1 p (.dK (mergeK [] (ks.zip ws))))
theorem rel_key {k : Key} {u : Value} (h : RelV (kV k) u) : keyIs k u = true := by
  cases k with
  | inl i => obtain ⟨t, rfl⟩ := h; exact keyIs_int i t
  | inr x => obtain ⟨t, rfl⟩ := h; exact keyIs_str x t
theorem pe_dictZip {X : Cx} {a b : Expr} {t : TA} {p p2 pos pos2 : Pos} (hc : X.calm = true) (hgl : Gl X "dict") (hL : X.mg "dict" = none) (hgz : Gl X "zip") (hZ : X.mg "zip" = none) (ha : PA X [a, b] t)
    (hs : starEach [a, b] X.env = (false, eval a X.env) :: starEach [b] X.env) (hpl : (backTo pos2 (starEach [b] X.env)).any (·.1) = false)
    (hs3 : starEach [(.Call (.Name "zip" p2) [a, b] [] pos2 : Expr)] X.env = (false, eval (.Call (.Name "zip" p2) [a, b] [] pos2) X.env) :: starEach [] X.env) :
    PE X (.Call (.Name "dict" p) [.Call (.Name "zip" p2) [a, b] [] pos2] [] pos) (tDZip X.K t) := by
  refine ⟨fun pins s σ H Q I hq => ?_⟩
  refine wpAny_Call_Name_kw (ld_blt I hgl hL (u := .type "dict") (by decide +kernel) ?_)
  refine PyProof.Rows.callWith_type1 ?_ hs3 rfl
  rw [hs3]
  show wpAny _ _ (spliced ((false, eval (.Call (.Name "zip" p2) [a, b] [] pos2) X.env) :: backTo pos (starEach [] X.env))) _ _ s
  refine Calls.spliced_cons ?_
  refine wpAny_Call_Name_kw (ld_blt I hgz hZ PyProof.Rows.boot_zip (PyProof.Rows.callWith_type1 (thn (ha.run pos2 pins s σ H _ I hq) fun us s1 ⟨vs, H1, I1, r1, q1⟩ => ?_) hs hpl))
  obtain ⟨aa, bb, ks, ws, ex, hqx, hqy, hlen, q⟩ := q1
  subst ex
  cases r1 with
  | cons r rr =>
    cases rr with
    | cons r' rr =>
      cases rr
      cases r
      cases r'
      obtain ⟨its, rv, pl, _⟩ := I1.list hqx
      obtain ⟨its2, rv2, pl2, hz2⟩ := I1.list hqy
      have hh : X.A.in1.handled = none := I1.ok.hd hc
      have l1 := rv.length
      have l2 := rv2.length
      rw [List.length_map] at l1
      refine call_zip_2 pl.isList pl2.isList fun h' hz hTI hTO o1 o2 hsz hk => ?_
      refine Calls.spliced_nil ?_
      have D := PySem.W.ktu_apart s1.heap.objs.size aa bb pl.lt pl2.lt
      have P := PairArg.zip (prog := X.prog) (w := X.w) (s1.heap.objs.size + 4) (s1.heap.objs.size + 2) (s1.heap.objs.size + 3) s1.heap.objs.size (s1.heap.objs.size + 1) aa bb D its.toArray its2.toArray
      have ok : IsZip h' (s1.heap.objs.size + 4) (s1.heap.objs.size + 2) (s1.heap.objs.size + 3) .none ∧ IsPair h' (s1.heap.objs.size + 2) (.ref s1.heap.objs.size) (.ref (s1.heap.objs.size + 1)) ∧ (∃ a b, IsPair h' (s1.heap.objs.size + 3) a b) ∧ h'.IsListIter s1.heap.objs.size aa 0 ∧ h'.IsListIter (s1.heap.objs.size + 1) bb 0 ∧ h'.IsList aa its.toArray ∧ h'.IsList bb its2.toArray :=
        ⟨hz, hTI, ⟨_, _, hTO⟩, o1, o2, pl.isList.at fun o e => hk _ o e, pl2.isList.at fun o e => hk _ o e⟩
      have em : min its.toArray.size its2.toArray.size = its2.length := by
        rw [List.size_toArray, List.size_toArray]
        exact Nat.min_eq_right (by rw [← l2, ← hlen, l1]; exact Nat.le_refl _)
      have hle : s1.heap.objs.size ≤ h'.objs.size := by rw [hsz]; exact Nat.le_add_right _ _
      refine call_dict_pairs (s := { s1 with heap := h' }) (knd := mixKind X.prog X.w) (kvs := ks.zip its2) P hh ok ⟨?_, fun i key v ⟨e1, e2⟩ => ?_⟩ (by rw [em, ← l2]; exact hz2) fun g tk hd hk2 => ?_
      · rw [em, List.length_zip, hlen, l2, Nat.min_self]
      · have e1' : its[i]? = some key := by simpa using e1
        have e2' : its2[i]? = some v := by simpa using e2
        obtain ⟨kv, g1, g2⟩ := paired_get' rv e1'
        rw [List.getElem?_map] at g1
        cases gk : ks[i]? with
        | none => rw [gk] at g1; cases g1
        | some k =>
          rw [gk] at g1
          have g1 : kV k = kv := Option.some.inj g1
          subst g1
          exact ⟨k, List.getElem?_zip_eq_some.mpr ⟨gk, e2'⟩, rel_key g2⟩
      · have hm : (h'.objs.size == sysModules) = false := beq_eq_false_iff_ne.mpr (Nat.ne_of_gt (Nat.lt_of_lt_of_le I1.big hle))
        have hml : (mergeK [] (ks.zip ws)).length ≤ sizeLine := by
          refine Nat.le_trans (length_mergeK _ _) ?_
          rw [List.length_nil, Nat.zero_add, List.length_zip, hlen, Nat.min_self]
          exact hz2
        have kv : KV (ks.zip ws) (ks.zip its2) := paired_of (by rw [List.length_zip, List.length_zip, l2]) fun i x y hx hy => by
          rw [List.getElem?_zip_eq_some] at hx hy
          rw [hx.1] at hy
          obtain ⟨z, f1, f2⟩ := paired_get' rv2 hy.2
          rw [hx.2] at f1
          cases f1
          exact ⟨Option.some.inj hy.1, f2⟩
        have kp : ∀ b o, s1.heap.get? b = some o → g.get? b = some o := fun b o e => hk2 b o (fun hw => by
          have hb := Heap.lt_size e
          simp only [List.mem_cons, List.not_mem_nil, or_false] at hw
          rcases hw with z | z | z | z
          · rw [z] at hb; exact absurd hb (Nat.not_lt.mpr (Nat.le_add_right _ _))
          · rw [z] at hb; exact absurd hb (Nat.not_lt.mpr (Nat.le_add_right _ _))
          · rw [z] at hb; exact absurd hb (Nat.lt_irrefl _)
          · rw [z] at hb; exact absurd hb (Nat.not_lt.mpr (Nat.le_add_right _ _))) (hk b o e)
        exact ⟨.ref h'.objs.size, _, I1.laid (t' := tk) kp hle (show ObjOk X.prog X.w _ _ _ (.dK (mergeK [] (ks.zip ws))) from ⟨hml, hm, merged [] (ks.zip its2), KV.merge kv .nil, hd⟩), rfl, q _ (I1.hok.fresh hle)⟩
theorem fIx_app {α : Type} [DecidableEq α] {k : α} {r : List α} : ∀ {k1 : List α}, (k1 ++ k :: r).Nodup → fIx (k1 ++ k :: r) k = some k1.length
  | [], _ => by show fIx (k :: r) k = some 0; unfold fIx; rw [if_pos rfl]
  | n :: k1, h => by
    have h' : (n :: (k1 ++ k :: r)).Nodup := h
    have hn : n ≠ k := fun e => (List.nodup_cons.mp h').1 (by rw [e]; simp)
    show fIx (n :: (k1 ++ k :: r)) k = _
    unfold fIx
    rw [if_neg hn, fIx_app (List.nodup_cons.mp h').2]
    rfl
/-- which keys are set -/
inductive Sets (ks : List Key) : List Key → List OT → List OT → List OT → Prop where
  | nil {ts : List OT} : Sets ks [] [] ts ts
  | cons {τ : Type} [Py τ] {k : Key} {j : Nat} {x : τ} {ks2 : List Key} {us ts ts' : List OT} (h : fIx ks k = some j) (r : Sets ks ks2 us (ts.set j (.fz x)) ts') : Sets ks (k :: ks2) (.fz x :: us) ts ts'
theorem put_fIx {ks : List Key} {vs : List V} {k : Key} {j : Nat} {v : V} (hnd : ks.Nodup) (hl : ks.length = vs.length) (hf : fIx ks k = some j) : putK (ks.zip vs) k v = ks.zip (vs.set j v) := by
  unfold putK
  rw [any_fIx hl, hf]
  exact (if_pos rfl).trans (map_fIx hnd hl hf)
theorem sets_ok {K : Fg} {F H : Hp} {ks : List Key} (hnd : ks.Nodup) {a : Addr} : ∀ {ks2 : List Key} {us ts ts' : List OT}, Sets ks ks2 us ts ts' → ∀ {vs ws : List V} {fps gps : List (List Addr)}, ks.length = vs.length → L3 (OA K F H) vs fps ts → L3 (OA K F H) ws gps us → (a :: fps.flatten).Nodup →
    ∃ vs' fps', mergeK (ks.zip vs) (ks2.zip ws) = ks.zip vs' ∧ ks.length = vs'.length ∧ L3 (OA K F H) vs' fps' ts' ∧ (a :: fps'.flatten).Nodup ∧ ∀ b ∈ fps'.flatten, b ∈ fps.flatten := by
  intro ks2 us ts ts' S
  induction S with
  | nil => intro vs ws fps gps hl l1 l2 nd; exact ⟨vs, fps, rfl, hl, l1, nd, fun _ h => h⟩
  | @cons τ _ k j x ks2 us ts ts' hf _ ih =>
    intro vs ws fps gps hl l1 l2 nd
    have z1 := l2.1
    have z2 := l2.2.1
    match ws, gps, z1, z2, l2 with
    | w :: ws, g :: gps, _, _, l2 =>
    have o := l2.head
    cases o.fz_nil
    have hj : j < ks.length := (List.getElem?_eq_some_iff.mp (fIx_get hf)).1
    have hjl : j < fps.length := by rw [l1.2.1, ← l1.1, ← hl]; exact hj
    obtain ⟨m1, m2⟩ := nd_set (j := j) (l := []) nd (List.getElem?_eq_getElem hjl) List.nodup_nil (fun b hb => by cases hb)
    obtain ⟨vs', fps', e1, e2, e3, e4, e5⟩ := ih (vs := vs.set j w) (ws := ws) (fps := fps.set j []) (gps := gps) (by simpa using hl) (l1.set j o) l2.tail m1
    refine ⟨vs', fps', ?_, e2, e3, e4, fun b hb => ?_⟩
    · show mergeK (putK (ks.zip vs) k w) (ks2.zip ws) = _
      rw [put_fIx hnd hl hf]; exact e1
    · rcases m2 b (e5 b hb) with h | h
      · exact h
      · cases h
section
variable {X : Cx} {w : Wx} {c : Cw} {Γ Γ' Γ1 : List Slot} {B α τ υ : Type} [Py τ] [Py υ] {R : Rc} {GB : B → List Slot} {a b e ep : Expr} {pos : Pos} {i : Nat} {oa : Option Addr} {us ts ts' : List OT} {y : α}
/-- dict(zip(names, e)), e changes things -/
theorem xm_dictZip {p p2 pos2 : Pos} {ns : List Str} {xs : List τ} (hL : X.mg "dict" = none) (hZ : X.mg "zip" = none) (ha : XE X c Γ a ns) (hb : XM X c Γ Γ1 b (.fz xs)) (hn : ns.Nodup) (hl : ns.length = xs.length) (hc : X.calm = true := by rfl) (hgl : Gl X "dict" := by rfl) (hgz : Gl X "zip" := by rfl)
    (hs : starEach [a, b] X.env = (false, eval a X.env) :: starEach [b] X.env := by rfl) (hs1 : starEach [b] X.env = [(false, eval b X.env)] := by rfl) (hpl : (backTo pos2 (starEach [b] X.env)).any (·.1) = false := by rfl)
    (hs3 : starEach [(.Call (.Name "zip" p2) [a, b] [] pos2 : Expr)] X.env = (false, eval (.Call (.Name "zip" p2) [a, b] [] pos2) X.env) :: starEach [] X.env := by rfl) :
    XM X c Γ Γ1 (.Call (.Name "dict" p) [.Call (.Name "zip" p2) [a, b] [] pos2] [] pos) (.ow none (.nd (.dK (ns.map .inr)) (xs.map fun x => .fz x))) := by
  obtain ⟨t, h1, h2⟩ := ha
  obtain ⟨u, h3, h4⟩ := hb
  refine ⟨_, pe_dictZip hc hgl hL hgz hZ (pa_cons h1 (pa_cons h3 pa_nil hs1) hs) hs hpl hs3, fun F H σ fp E Q q => h2 F H σ fp E _ fun v F' H' E' e1 n1 r => h4 F' H' σ fp E' _ fun w F2 H2 fp2 l E2 e3 ⟨_, uu, hu, r2⟩ _ => ?_⟩
  cases hu
  obtain ⟨ad, vs, rfl, r3, r4⟩ := Py.mono e3 r
  obtain ⟨bd, ws, rfl, s3, s4⟩ := r2
  have ev : vs = (ns.map Sum.inr : List Key).map kV := by rw [str_of r4, List.map_map]; rfl
  have hl2 : (ns.map Sum.inr : List Key).length = ws.length := by rw [List.length_map, hl, s4.length]
  refine ⟨ad, bd, ns.map .inr, ws, rfl, by rw [← ev]; exact E2.wd.fh.l (sq_of r3), E2.wd.fh.l (sq_of s3), hl2, fun p hp => ?_⟩
  have em : mergeK [] ((ns.map Sum.inr : List Key).zip ws) = (ns.map Sum.inr : List Key).zip ws := mergeK_new (by
    rw [List.nil_append, zip_fst hl2]
    exact List.Pairwise.map _ (fun x y hxy e => hxy (by cases e; rfl)) hn)
  rw [em]
  have hf := E2.ff hp
  have nd := OA.mk (K := X.K) (F := F2) (H := upd H2 p (.dK ((ns.map Sum.inr : List Key).zip ws))) (a := p) (fps := xs.map fun _ => []) (ts := xs.map fun x => OT.fz x) (vs := ws) (k := .dK (ns.map .inr)) hf upd_same ⟨hl2, rfl⟩ (l3_fz s4) (by rw [flat_nil]; simp)
  rw [flat_nil] at nd
  refine q _ F2 _ fp2 [p] (E2.mutD hf (E2.fresh hp) (E2.wd.fresh hp)) (e1.trans e3) ⟨_, rfl, nd, fun a ha => by cases ha⟩ fun b hb => ?_
  cases List.mem_singleton.mp hb
  exact ⟨E2.wd.fresh hp, E2.fresh hp⟩
/-- x.update(e), e changes things (x, too), its keys are all there -/
theorem xs_dupdM {q1 q2 xp : Pos} {n : Str} {ks ks2 : List Key} {us0 : List OT} (g : α → OT) (hx : XPl X c Γ (.Name n xp) i []) (hs0 : ∃ k ts, Γ[i]? = some (.ow oa (.nd k ts))) (he : XM X c Γ Γ1 e (.ow none (.nd (.dK ks2) us0))) (hs : Γ1[i]? = some (.ow oa (.nd (.dK ks) ts))) (hr : Rt (.nd (.dK ks2) us0) (.nd (.dK ks2) us)) (hnd : ks.Nodup) (hS : Sets ks ks2 us ts ts') (hl : ks.length + ks2.length ≤ 100000) (hy : .nd (.dK ks) ts' = g y)
    (hd0 : ∃ ks0 ts0, Γ[i]? = some (.ow oa (.nd (.dK ks0) ts0)))
    (hst : starEach [e] X.env = [(false, eval e X.env)] := by rfl)
    (hsw : swapsWith (.Call (.Attribute (.Name n xp) "update" q1) [e] [] q2) none pos.line X.env = pure false := by rfl) (hab : attributeBase (.Name n xp) "update" X.env (eval (.Name n xp) X.env) = eval (.Name n xp) X.env := by rfl) (hln : (q1.endLine == q2.line) = true := by rfl)
    (hfew : ((backTo q2 (starEach [e] X.env)).all (fun x => !x.1) && (backToKw q2 (keywordEach [] X.env)).all (fun x => x.1.isSome) && decide (([e] : List Expr).length + ([] : List Keyword).length + (if ([] : List Keyword).isEmpty then 0 else 1) < 30)) = true := by rfl) :
    XS X w c Γ (.Expr (.Call (.Attribute (.Name n xp) "update" q1) [e] [] q2) pos) (fun y : α => Γ1.set i (.ow oa (g y))) GB (Out.nx y : Out α B R.ρ) := by
  obtain ⟨te, h1, h2⟩ := he
  obtain ⟨tp, h3, h4⟩ := hx
  obtain ⟨ks0, ts0, hd0⟩ := hd0
  refine ⟨_, ps_expr (pe_bm PySem.F.plainAttrs_dict PySem.F.slot_dict_update PySem.F.type_dict_update mt_dupd h3 (pa_cons h1 pa_nil hst) hab hfew hln hst rfl) hsw, fun F H σ ⟨fp, E⟩ D q => h4 F H σ fp E _ fun vp v0 F1 H1 E1 e1 n1 g1 g2 => ?_⟩
  have g2 : v0 = vp := by simpa [follow] using g2
  subst g2
  have typ : tyV X.K "dict" v0 H1 := by
    obtain ⟨v0', k1, k2, k3⟩ := E1.geto hd0
    rw [g1] at k1; cases k1
    obtain ⟨a, o, vs, fps, rfl, _, _, k4, ko, _⟩ := k2.l3
    obtain ⟨_, rfl⟩ := ko
    exact .inr (.inr (.inl ⟨rfl, .inl ⟨_, k4⟩⟩))
  refine ⟨typ, h2 F1 H1 σ fp E1 _ fun v F2 H2 fp2 l E2 e2 ⟨uu, hu, r1, _⟩ hl1 => ?_⟩
  cases hu
  obtain ⟨v0', a, o, vs, fps, k1, k2, k3, k4, k5, k6, k7, k8, k9⟩ := E2.node (p := []) hs rfl
  have k2 : v0' = .ref a := by simpa [follow] using k2
  rw [g1] at k1; cases k1
  subst k2
  obtain ⟨hlen, rfl⟩ := k5
  obtain ⟨b, o2, ws, gps, rfl, rfl, hF, hH, ko, hc, nd2⟩ := (hr r1).l3
  obtain ⟨hlen2, rfl⟩ := ko
  have hab' : a ≠ b := fun z => (hl1 b (List.mem_cons_self ..)).2 i (k8 b (by rw [z]; exact List.mem_cons_self ..))
  obtain ⟨vs', fps', s1, s2, s3, s4, s5⟩ := sets_ok hnd hS hlen k6 hc k7
  obtain ⟨fp', E4, _, _⟩ := k9 (.dK (mergeK (ks.zip vs) (ks2.zip ws))) (.dK ks) vs' fps' ts' ⟨s2, by rw [s1]⟩ s3 s4 (fun x hx => .inl (s5 x hx))
  have E5 : EnvD X.K c F2 (upd H2 a (.dK (mergeK (ks.zip vs) (ks2.zip ws)))) σ (Γ1.set i (.ow oa (g y))) fp' := by
    rw [← hy]
    have ep : (OT.nd (.dK ks) ts).put [] (.nd (.dK ks) ts') = .nd (.dK ks) ts' := by first | (rw [OT.put]; done) | (rw [OT.put]; rfl)
    rw [ep] at E4
    exact E4
  refine ⟨a, b, _, _, rfl, rfl, hab', k4, hH, ?_, q σ F2 _ ⟨fp', E5⟩ (e1.trans e2)⟩
  rw [List.length_zip, List.length_zip]
  exact sz _ (by omega)
/-- P.update(e), e a new dict with just P's keys -/
theorem mergeK_all {ks : List Key} (hnd : ks.Nodup) : ∀ {vs ws : List V}, ks.length = vs.length → ks.length = ws.length → mergeK (ks.zip vs) (ks.zip ws) = ks.zip ws := by
  have key : ∀ (k1 k2 : List Key) (v1 v2 w2 : List V), (k1 ++ k2).Nodup → k1.length = v1.length → k2.length = v2.length → k2.length = w2.length → mergeK ((k1 ++ k2).zip (v1 ++ v2)) (k2.zip w2) = (k1 ++ k2).zip (v1 ++ w2) := by
    intro k1 k2
    induction k2 generalizing k1 with
    | nil =>
      intro v1 v2 w2 _ _ h2 h3
      cases v2 with
      | nil => cases w2 with
        | nil => rfl
        | cons => cases h3
      | cons => cases h2
    | cons k r ih =>
      intro v1 v2 w2 nd h1 h2 h3
      cases v2 with
      | nil => cases h2
      | cons v v2 =>
        cases w2 with
        | nil => cases h3
        | cons u w2 =>
          show mergeK (putK ((k1 ++ k :: r).zip (v1 ++ v :: v2)) k u) (r.zip w2) = _
          have hf : fIx (k1 ++ k :: r) k = some k1.length := fIx_app nd
          rw [put_fIx nd (by simp at h2 ⊢; omega) hf]
          have es : (v1 ++ v :: v2).set k1.length u = (v1 ++ [u]) ++ v2 := by rw [h1]; simp
          have ek : k1 ++ k :: r = (k1 ++ [k]) ++ r := by simp
          rw [es, ek, ih (k1 ++ [k]) (v1 ++ [u]) v2 w2 (by rw [← ek]; exact nd) (by simp; exact h1) (by simpa using h2) (by simpa using h3)]
          simp
  intro vs ws h1 h2
  exact key [] ks [] vs ws hnd rfl h1 h2
theorem xs_dupdA {q1 q2 : Pos} {ks : List Key} {p : List Nat} {t : OT} (g : α → OT) (hp : XPl X c Γ ep i p) (he : XN X c Γ e (.nd (.dK ks) us)) (hs : Γ[i]? = some (.ow oa t)) (hg : t.get? p = some (.nd (.dK ks) ts)) (hnd : ks.Nodup) (hlk : ks.length ≤ 1000) (hlt : ks.length = ts.length) (hlu : ks.length = us.length) (hy : t.put p (.nd (.dK ks) us) = g y)
    (hst : starEach [e] X.env = [(false, eval e X.env)] := by rfl)
    (hsw : swapsWith (.Call (.Attribute ep "update" q1) [e] [] q2) none pos.line X.env = pure false := by rfl) (hab : attributeBase ep "update" X.env (eval ep X.env) = eval ep X.env := by rfl) (hln : (q1.endLine == q2.line) = true := by rfl)
    (hfew : ((backTo q2 (starEach [e] X.env)).all (fun x => !x.1) && (backToKw q2 (keywordEach [] X.env)).all (fun x => x.1.isSome) && decide (([e] : List Expr).length + ([] : List Keyword).length + (if ([] : List Keyword).isEmpty then 0 else 1) < 30)) = true := by rfl) :
    XS X w c Γ (.Expr (.Call (.Attribute ep "update" q1) [e] [] q2) pos) (fun y : α => Γ.set i (.ow oa (g y))) GB (Out.nx y : Out α B R.ρ) := by
  obtain ⟨te, h1, h2⟩ := he
  obtain ⟨tp, h3, h4⟩ := hp
  refine ⟨_, ps_expr (pe_bm PySem.F.plainAttrs_dict PySem.F.slot_dict_update PySem.F.type_dict_update mt_dupd h3 (pa_cons h1 pa_nil hst) hab hfew hln hst rfl) hsw, fun F H σ ⟨fp, E⟩ D q => h4 F H σ fp E _ fun vp v0 F1 H1 E1 e1 n1 g1 g2 => ?_⟩
  have typ : tyV X.K "dict" vp H1 := by
    obtain ⟨v0', a, o, vs, fps, k1, k2, k3, k4, k5, _⟩ := E1.node hs hg
    rw [g1] at k1; cases k1
    rw [g2] at k2; cases k2
    obtain ⟨_, rfl⟩ := k5
    exact .inr (.inr (.inl ⟨rfl, .inl ⟨_, k4⟩⟩))
  refine ⟨typ, h2 F1 H1 σ fp E1 _ fun v F2 H2 l E2 e2 n2 r1 hl1 => ?_⟩
  obtain ⟨v0', a, o, vs, fps, k1, k2, k3, k4, k5, k6, k7, k8, k9⟩ := E2.node hs hg
  have g2' := follow_ex n2.h g2
  rw [g1] at k1; cases k1
  rw [g2'] at k2; cases k2
  obtain ⟨hlen, rfl⟩ := k5
  obtain ⟨b, o2, ws, gps, rfl, rfl, hF, hH, ko, hc, nd2⟩ := r1.l3
  obtain ⟨hlen2, rfl⟩ := ko
  have fr : ∀ x ∈ b :: gps.flatten, c.al x ∧ ∀ j, x ∉ fp j := fun x hx => ⟨E1.wd.fresh (hl1 x hx), E1.fresh (hl1 x hx)⟩
  have ha : H1 a ≠ none := by
    obtain ⟨v0'', a', o', vs', fps', l1, l2, _, l4, _⟩ := E1.node hs hg
    rw [g1] at l1; cases l1
    rw [g2] at l2; cases l2
    rw [l4]; simp
  have hab' : a ≠ b := fun z => ha (by rw [z]; exact hl1 b (List.mem_cons_self ..))
  have ai : a ∈ fp i := k8 a (List.mem_cons_self ..)
  have nda : (a :: gps.flatten).Nodup := List.nodup_cons.mpr ⟨fun h => (fr a (List.mem_cons_of_mem _ h)).2 i ai, (List.nodup_cons.mp nd2).2⟩
  have em := mergeK_all hnd hlen hlen2
  obtain ⟨fp', E4, _, _⟩ := k9 (.dK (mergeK (ks.zip vs) (ks.zip ws))) (.dK ks) ws gps us ⟨hlen2, by rw [em]⟩ hc nda (fun x hx => .inr (fr x (List.mem_cons_of_mem _ hx)))
  rw [hy] at E4
  refine ⟨a, b, _, _, rfl, rfl, hab', k4, hH, ?_, q σ F2 _ ⟨fp', E4⟩ (e1.trans e2)⟩
  rw [List.length_zip, List.length_zip]
  exact sz _ (by omega)
end
end Fw
/-! P[a:c] = e; things of any kind as of a kind, in a row -/
namespace Fw
open PySem L2 Py PyProof.Rows
def slcI {τ : Type} (xs : List τ) (a c : Int) (ys : List τ) : List τ := xs.take a.toNat ++ ys ++ xs.drop c.toNat
theorem li_slc {α : Type} {g : α → OT} {xs ys : List α} {a c : Int} {t : OT} {p : List Nat} (_h : t.get? p = some (OT.li g xs)) : t.put p (.nd .lst ((xs.map g).take a.toNat ++ ys.map g ++ (xs.map g).drop c.toNat)) = t.put p (OT.li g (slcI xs a c ys)) := by
  unfold OT.li slcI
  rw [List.map_append, List.map_append, List.map_take, List.map_drop]
def gSlc (to : TE) (tl th : TO) : TG := fun v σ H Q => to σ H fun o H1 => tl σ H1 fun lo H2 => th σ H2 fun hi H3 => ∃ (l b : Addr) (xs ys : List V) (a c : Int), o = .ref l ∧ v = .ref b ∧ lo = some a ∧ hi = some c ∧ H3 l = some (.lst xs) ∧ H3 b = some (.lst ys) ∧ l ≠ b ∧ 0 ≤ a ∧ a ≤ c ∧ c ≤ xs.length ∧ xs.length + ys.length ≤ sizeLine ∧ Q σ (upd H3 l (.lst (xs.take a.toNat ++ ys ++ xs.drop c.toNat)))
section
variable {X : Cx} {pos p2 : Pos}
theorem pg_slc {o lo hi : Expr} {to : TE} {tl th : TO} (ho : PE X o to) (hl : PO X (some lo) tl) (hu : PO X (some hi) th)
    (ha : ∀ v, assign (.Subscript o (.Slice (some lo) (some hi) none p2) pos) X.env v = (do
      let ov ← holding [v] (eval o X.env)
      let iv ← holding [v, ov] (eval (.Slice (some lo) (some hi) none p2) X.env)
      standAt pos
      holding [v, ov, iv] (setItem ov iv v)
      release [iv, v, ov] []) := by intro _; rfl) : PG X (.Subscript o (.Slice (some lo) (some hi) none p2) pos) (gSlc to tl th) := by
  refine ⟨fun pins s σ H v u Q I r h => ?_⟩
  rw [ha]
  refine wpAny_bind (wpAny_holding (thn (ho.run pins s σ H _ I h) fun ov s1 ⟨x, H1, I1, r1, q1⟩ => ?_))
  refine wpAny_bind (wpAny_holding ?_)
  refine wpAny_Slice (thn (hl.run pins s1 σ H1 _ I1 q1) fun vl s2 ⟨l, H2, I2, pl, q2⟩ => thn (hu.run pins s2 σ H2 _ I2 q2) fun vu s3 ⟨uu, H3, I3, pu, q3⟩ => ?_)
  rw [evalPart_none]
  refine wpAny_pure ?_
  have I4 : L2.Inv X pins σ H3 { s3 with heap := s3.heap.push { cls := .type "slice", data := .fields #[vl, vu, .none] } } := I3.kept (t' := s3.toks) fun b ob q => Heap.get?_push_of_some _ q
  obtain ⟨ll, b, xs, ys, a, c, rfl, rfl, rfl, rfl, hL, hB, hne, h0, hac, hc, hz, q⟩ := q3
  cases r1
  cases r
  cases pl with
  | int _ t1 =>
  cases pu with
  | int _ t2 =>
  refine wpAny_bind (wpAny_standAt (wpAny_bind (wpAny_holding (set_slice (sl := s3.heap.objs.size) I4 hL hB hne (Heap.IsSliceOf.new ..) ⟨t1, rfl⟩ ⟨t2, rfl⟩ h0 hac hc hz fun s5 I5 => ?_))))
  exact wpAny_release ⟨σ, _, I5, q⟩
end
section
variable {X : Cx} {w : Wx} {c : Cw} {Γ Γ' Γ1 : List Slot} {B α τ υ : Type} [Py τ] [Py υ] {R : Rc} {GB : B → List Slot} {a b e ep el eh : Expr} {pos : Pos} {i : Nat} {p : List Nat} {oa : Option Addr} {t : OT} {ts : List OT} {y : α}
theorem l3_ofz {K : Fg} {F H : Hp} {vs : List V} {ys : List τ} (r : Reps K F vs ys) : L3 (OA K F H) vs (ys.map fun _ => []) (ys.map fun z => OT.fz z) := l3_fz r
theorem xs_slc {ys : List τ} {k1 k2 : Int} {q1 p2 : Pos} (g : α → OT) (he : XE X c Γ e ys) (hp : XPl X c Γ ep i p) (hl : XE X c Γ el k1) (hh : XE X c Γ eh k2) (hs : Γ[i]? = some (.ow oa t)) (hg : t.get? p = some (.nd .lst ts)) (hb : 0 ≤ k1 ∧ k1 ≤ k2 ∧ k2 ≤ ts.length) (hz : ts.length + ys.length ≤ 100000)
    (hy : t.put p (.nd .lst (ts.take k1.toNat ++ (ys.map fun z => OT.fz z) ++ ts.drop k2.toNat)) = g y)
    (ha : ∀ v, assign (.Subscript ep (.Slice (some el) (some eh) none p2) q1) X.env v = (do
      let ov ← holding [v] (eval ep X.env)
      let iv ← holding [v, ov] (eval (.Slice (some el) (some eh) none p2) X.env)
      standAt q1
      holding [v, ov, iv] (setItem ov iv v)
      release [iv, v, ov] []) := by exact fun _ => rfl)
    (hsw : swapsWithSole [.Subscript ep (.Slice (some el) (some eh) none p2) q1] e pos.line X.env = pure false := by rfl) (hw : swappedStores [.Subscript ep (.Slice (some el) (some eh) none p2) q1] e X.env = pure none := by rfl)
    (h1' : (assignEach [.Subscript ep (.Slice (some el) (some eh) none p2) q1] X.env).map (·.2) = [assign (.Subscript ep (.Slice (some el) (some eh) none p2) q1) X.env] := by rfl) :
    XS X w c Γ (.Assign [.Subscript ep (.Slice (some el) (some eh) none p2) q1] e pos) (fun y : α => Γ.set i (.ow oa (g y))) GB (Out.nx y : Out α B R.ρ) := by
  obtain ⟨te, h1, h2⟩ := he
  obtain ⟨tp, h3, h4⟩ := hp
  obtain ⟨tl, h5, h6⟩ := hl
  obtain ⟨th, h7, h8⟩ := hh
  refine ⟨_, ps_asg h1 (pg_slc h3 (po_some h5) (po_some h7) ha) hsw hw h1', fun F H σ ⟨fp, E⟩ D q => h2 F H σ fp E _ fun v F1 H1 E1 e1 n1 r1 => h4 F1 H1 σ fp E1 _ fun vp v0 F2 H2 E2 e2 n2 g1 g2 => h6 F2 H2 σ fp E2 _ fun v1 F3 H3 E3 e3 n3 r3 => ⟨k1, r3, h8 F3 H3 σ fp E3 _ fun v2 F4 H4 E4 e4 n4 r4 => ⟨k2, r4, ?_⟩⟩⟩
  obtain ⟨v0', ad, o, vs, fps, m1, m2, m3, m4, m5, m6, m7, m8, m9⟩ := E4.node hs hg
  have g2' := follow_ex (n3.trans n4).h g2
  rw [g1] at m1; cases m1
  rw [g2'] at m2; cases m2
  cases (show o = _ from m5)
  obtain ⟨bd, ws, rfl, s1, s2⟩ := Py.mono ((e2.trans e3).trans e4) r1
  have hne : ad ≠ bd := fun z => by rw [z, s1] at m3; cases m3
  have hl2 := m6.1
  have hls := s2.length
  have sub : ∀ b ∈ (fps.take k1.toNat ++ (ys.map fun _ => []) ++ fps.drop k2.toNat).flatten, b ∈ fps.flatten := fun b hb => by
    rw [List.flatten_append, List.flatten_append, flat_nil, List.append_nil] at hb
    rcases List.mem_append.mp hb with h | h
    · exact (flat_sub (List.take_sublist _ _)).subset h
    · exact (flat_sub (List.drop_sublist _ _)).subset h
  have nd : (ad :: (fps.take k1.toNat ++ (ys.map fun _ => []) ++ fps.drop k2.toNat).flatten).Nodup := by
    rw [List.flatten_append, List.flatten_append, flat_nil, List.append_nil, ← List.flatten_append]
    refine (nd_sub m7 ?_).1
    have : fps.drop k2.toNat = (fps.drop k1.toNat).drop (k2.toNat - k1.toNat) := by rw [List.drop_drop]; congr 1; omega
    rw [this]
    have h := (List.Sublist.refl (fps.take k1.toNat)).append (List.drop_sublist (k2.toNat - k1.toNat) (fps.drop k1.toNat))
    rwa [List.take_append_drop] at h
  obtain ⟨fp', E5, _, _⟩ := m9 (.lst (vs.take k1.toNat ++ ws ++ vs.drop k2.toNat)) .lst (vs.take k1.toNat ++ ws ++ vs.drop k2.toNat) (fps.take k1.toNat ++ (ys.map fun _ => []) ++ fps.drop k2.toNat) (ts.take k1.toNat ++ (ys.map fun z => OT.fz z) ++ ts.drop k2.toNat) rfl (((m6.take _).app (l3_ofz s2)).app (m6.drop _)) nd (fun b hb => .inl (sub b hb))
  rw [hy] at E5
  refine ⟨ad, bd, vs, ws, k1, k2, rfl, rfl, rfl, rfl, m4, E4.wd.fh _ _ s1, hne, hb.1, hb.2.1, by rw [hl2]; exact hb.2.2, sz _ (by rw [hl2, hls]; exact hz), q σ F4 _ ⟨fp', E5⟩ (((e1.trans e2).trans e3).trans e4)⟩
end
/-! ### things of any kind, in a row -/
def Dy.isB : Dy → Bool | .bl _ => true | _ => false
def Dy.asB : Dy → Bool | .bl b => b | _ => false
instance : Inhabited Dy := ⟨.non⟩
theorem dy_rtI {d : Dy} (h : d.isI = true) : Rt (.fz d) (.fz d.asI) := rt_fz fun {K F v} r => by
  cases d with
  | int i => change Dy.rep K F (.int i) v at r; unfold Dy.rep at r; exact r
  | _ => cases h
theorem dy_rtB {d : Dy} (h : d.isB = true) : Rt (.fz d) (.fz d.asB) := rt_fz fun {K F v} r => by
  cases d with
  | bl i => change Dy.rep K F (.bl i) v at r; unfold Dy.rep at r; exact r
  | _ => cases h
/-- the parts of a row, from one on, each as of its kind -/
inductive DU (ds : List Dy) : Nat → List OT → Prop where
  | nil {n : Nat} (h : ds.length = n) : DU ds n []
  | I {n : Nat} {us : List OT} (h : (ix ds (n : Int)).isI = true) (r : DU ds (n + 1) us) : DU ds n (.fz (ix ds (n : Int)).asI :: us)
  | B {n : Nat} {us : List OT} (h : (ix ds (n : Int)).isB = true) (r : DU ds (n + 1) us) : DU ds n (.fz (ix ds (n : Int)).asB :: us)
theorem DU.len {ds : List Dy} {n : Nat} {us : List OT} (h : DU ds n us) : ds.length = n + us.length := by
  induction h with
  | nil h => simpa using h
  | I _ _ ih => simp only [List.length_cons]; omega
  | B _ _ ih => simp only [List.length_cons]; omega
theorem DU.at_ {ds : List Dy} {n : Nat} {us : List OT} (h : DU ds n us) : ∀ (i : Nat) t u, (ds.map fun z => OT.fz z)[n + i]? = some t → us[i]? = some u → Rt t u := by
  induction h with
  | nil h => intro i t u _ h2; simp at h2
  | @I n us h r ih =>
    intro i t u h1 h2
    have hl := r.len
    cases i with
    | zero =>
      simp at h2
      subst h2
      have hn : n < ds.length := by omega
      rw [List.getElem?_map, Nat.add_zero, List.getElem?_eq_getElem hn] at h1
      cases h1
      have e : ix ds (n : Int) = ds[n] := by rw [ix_eq_get (by omega) (by omega)]; rfl
      rw [e] at h ⊢
      exact fun {_ _ _ _ _} z => dy_rtI h z
    | succ i => exact fun {_ _ _ _ _} z => ih i t u (by rw [← h1]; congr 1; omega) (by simpa using h2) z
  | @B n us h r ih =>
    intro i t u h1 h2
    have hl := r.len
    cases i with
    | zero =>
      simp at h2
      subst h2
      have hn : n < ds.length := by omega
      rw [List.getElem?_map, Nat.add_zero, List.getElem?_eq_getElem hn] at h1
      cases h1
      have e : ix ds (n : Int) = ds[n] := by rw [ix_eq_get (by omega) (by omega)]; rfl
      rw [e] at h ⊢
      exact fun {_ _ _ _ _} z => dy_rtB h z
    | succ i => exact fun {_ _ _ _ _} z => ih i t u (by rw [← h1]; congr 1; omega) (by simpa using h2) z
theorem du_rt {ds : List Dy} {us : List OT} {k : Kind} (h : DU ds 0 us) : Rt (.nd k (ds.map fun z => OT.fz z)) (.nd k us) :=
  rt_nd (by have := h.len; rw [List.length_map]; omega) fun i t u h1 h2 {_ _ _ _ _} z => h.at_ i t u (by rw [Nat.zero_add]; exact h1) h2 z
end Fw
/-! a worked-out key of a dict of many kinds -/
namespace Fw
open PySem L2 Py PyProof.Rows
theorem li_last {α : Type} [Inhabited α] {g : α → OT} {xs : List α} (h : 0 < xs.length) : (xs.map g)[(xs.map g).length - 1]? = some (g (ix xs (-1))) := by
  rw [List.length_map, List.getElem?_map, last_ix h]; rfl
theorem slc_b {α : Type} {g : α → OT} {xs : List α} {a c : Int} (h : 0 ≤ a ∧ a ≤ c ∧ c ≤ ((xs.length : Nat) : Int)) : 0 ≤ a ∧ a ≤ c ∧ c ≤ (((xs.map g).length : Nat) : Int) := by
  rw [List.length_map]; exact h
theorem slc_z {α β : Type} {g : α → OT} {xs : List α} {ys : List β} (h : xs.length + ys.length ≤ 100000) : (xs.map g).length + ys.length ≤ 100000 := by
  rw [List.length_map]; exact h
theorem FzT.dy {τ : Type} [Py τ] [ToDy τ] {x : τ} : FzT (.fz x) (ToDy.dy x) := fun h => ToDy.ok h.ofz
section
variable {X : Cx} {c : Cw} {Γ : List Slot} {τ υ ζ : Type} [Py τ] [Py υ] [Py ζ] {e ek : Expr} {x : τ} {ts : List OT} {pos : Pos}
theorem xe_fkeyXD {ky : Key} {ks : List Key} {z : υ} {y : ζ} (hu : X.A.units + 1 < cLine) (he : XE X c Γ e x) (ht : IsT τ x (.nd (.dK ks) ts)) (hk : XE X c Γ ek z) (hz : ∀ F v, rep X.K F v z → v = kV ky) (h : ∃ j u, fIx ks ky = some j ∧ ts[j]? = some u ∧ FzT u y) (hns : NoSl ek := by exact fun _ _ => rfl) : XE X c Γ (.Subscript e ek pos) y := by
  obtain ⟨j, u, hf, hj, hy⟩ := h
  exact xe_fkey hu he ht hk hz hf hj hy hns
end
end Fw
/-! a key worked out of a dict that is owned -/
namespace Fw
open PySem L2 Py PyProof.Rows
/-- a part that is frozen, as a thing of any kind -/
def Lz (o : Option OT) (y : Dy) : Prop := ∃ (τ : Type) (_ : Py τ) (_ : ToDy τ) (x : τ), o = some (.fz x) ∧ y = ToDy.dy x
theorem Lz.mk {τ : Type} [Py τ] [ToDy τ] {x : τ} : Lz (some (.fz x)) (ToDy.dy x) := ⟨τ, _, _, x, rfl, rfl⟩
section
variable {X : Cx} {c : Cw} {Γ : List Slot} {υ : Type} [Py υ] {e ek : Expr} {ts : List OT} {pos : Pos} {i : Nat} {p : List Nat} {oa : Option Addr} {t : OT}
theorem xe_pkeyXD {ky : Key} {ks : List Key} {z : υ} {y : Dy} (hu : X.A.units + 1 < cLine) (he : XPl X c Γ e i p) (hs : Γ[i]? = some (.ow oa t)) (hg : t.get? p = some (.nd (.dK ks) ts)) (hk : XE X c Γ ek z) (hz : ∀ F v, rep X.K F v z → v = kV ky) (h : ∃ j, fIx ks ky = some j ∧ Lz ts[j]? y) (hns : NoSl ek := by exact fun _ _ => rfl) : XE X c Γ (.Subscript e ek pos) y := by
  obtain ⟨j, hf, τ, i1, i2, x, hj, rfl⟩ := h
  refine xe_dy (xe_pl (x := x) (xpl_key hu he hk hz hs hg hf hns) hs ?_)
  rw [get_app hg]
  unfold OT.get?
  rw [hj]; rfl
end
end Fw
/-! is a list of rows of numbers and truths empty -/
namespace Fw
open PySem L2 Py PyProof.Rows
def Dy.ib : Dy → Bool
  | .int _ => true
  | .bl _ => true
  | _ => false
def Dy.pd : Dy → PyData
  | .int i => .int i
  | .bl b => .bool b
  | _ => .none
theorem Dy.ib_dp {K : Fg} {F : Hp} {v : V} {y : Dy} (h : y.ib = true) (r : Py.rep K F v y) : Dp K F v y.pd := by
  have r' : Dy.rep K F y v := r
  cases y with
  | int i => unfold Dy.rep at r'; rw [r']; exact .int i
  | bl i => unfold Dy.rep at r'; rw [r']; exact .bl i
  | _ => cases h
theorem Dy.ib_dpAll {K : Fg} {F : Hp} : ∀ {vs : List V} {xs : List Dy}, (∀ y ∈ xs, y.ib = true) → Reps K F vs xs → DpAll K F vs (xs.map Dy.pd)
  | _, _, _, .nil => .nil
  | _, _, hh, .cons h t => .cons (Dy.ib_dp (hh _ (List.mem_cons_self ..)) h) (Dy.ib_dpAll (fun z hz => hh z (List.mem_cons_of_mem _ hz)) t)
theorem Dy.ib_dpRows {K : Fg} {F : Hp} : ∀ {vs : List V} {xs : List (List Dy)}, (∀ x ∈ xs, ∀ y ∈ x, Dy.ib y = true) → Reps K F vs xs → DpAll K F vs (xs.map fun x => .list (x.map Dy.pd))
  | _, _, _, .nil => .nil
  | _, _, hh, .cons ⟨a, ws, h1, h2, h3⟩ t => .cons (h1 ▸ .lst (sq_of h2) (Dy.ib_dpAll (hh _ (List.mem_cons_self ..)) h3)) (Dy.ib_dpRows (fun z hz => hh z (List.mem_cons_of_mem _ hz)) t)
theorem pd_lay : ∀ xs : List Dy, PyData.canLayAll0 (xs.map Dy.pd) = true
  | [] => rfl
  | x :: xs => by
    show ((Dy.pd x).canLay0 && PyData.canLayAll0 (xs.map Dy.pd)) = true
    rw [pd_lay xs, Bool.and_true]; cases x <;> rfl
theorem pd_layR : ∀ xs : List (List Dy), PyData.canLayAll0 (xs.map fun x => PyData.list (x.map Dy.pd)) = true
  | [] => rfl
  | x :: xs => by
    show (PyData.canLayAll0 (x.map Dy.pd) && PyData.canLayAll0 (xs.map fun x => PyData.list (x.map Dy.pd))) = true
    rw [pd_lay x, pd_layR xs]; rfl
theorem pd_dep : ∀ xs : List Dy, PyData.depthAll (xs.map Dy.pd) = 0
  | [] => rfl
  | x :: xs => by
    show max (Dy.pd x).depth (PyData.depthAll (xs.map Dy.pd)) = 0
    rw [pd_dep xs]; cases x <;> rfl
theorem pd_depR : ∀ xs : List (List Dy), PyData.depthAll (xs.map fun x => PyData.list (x.map Dy.pd)) ≤ 1
  | [] => Nat.zero_le _
  | x :: xs => by
    show max (PyData.depthAll (x.map Dy.pd) + 1) (PyData.depthAll (xs.map fun x => PyData.list (x.map Dy.pd))) ≤ 1
    rw [pd_dep x]
    exact Nat.max_le.mpr ⟨Nat.le_refl _, pd_depR xs⟩
section
variable {X : Cx} {c : Cw} {Γ : List Slot} {a b : Expr} {pos : Pos}
theorem ib_shaped {xs : List (List Dy)} : SeqAt.shaped (PyData.list (xs.map fun x => PyData.list (x.map Dy.pd))) = true := by
  unfold SeqAt.shaped
  rw [show (PyData.list (xs.map fun x => PyData.list (x.map Dy.pd))).canLay0 = true from pd_layR xs, decide_eq_true (show (PyData.list (xs.map fun x => PyData.list (x.map Dy.pd))).depth ≤ 64 from Nat.le_trans (Nat.succ_le_succ (pd_depR xs)) (by decide))]; rfl
theorem ib_eqv {xs : List (List Dy)} : PyData.eqv (PyData.list (xs.map fun x => PyData.list (x.map Dy.pd))) (PyData.list []) = xs.isEmpty := by
  cases xs <;> rfl
theorem xq_neNilB {xs : List (List Dy)} (hu : X.A.units + 64 < cLine) (ha : XB X c Γ a xs) (hx : ∀ x ∈ xs, ∀ y ∈ x, Dy.ib y = true) : XC X c Γ .NotEq a (.List [] pos) (!xs.isEmpty) :=
  xc_ofB (op_neD hu) (fun H u v h1 h2 Q q => by
    obtain ⟨a1, ws, e1, e2, e3⟩ := h1
    refine ⟨.list (xs.map fun x => .list (x.map Dy.pd)), .list [], e1 ▸ .lst (sq_of e2) (Dy.ib_dpRows hx e3), PyD.dp (τ := List Int) (x := []) h2, ib_shaped, rfl, ?_⟩
    rw [ib_eqv]; exact q _ rfl) ha (xb_of (x := ([] : List Int)) (XN.fr (XN.eq (xn_lst (ts := []) xns_nil (le100 rfl)) (t' := ol ([] : List Int)) rfl) FzT.ol)) (nomark _)
theorem xq_eqNilB {xs : List (List Dy)} (hu : X.A.units + 64 < cLine) (ha : XB X c Γ a xs) (hx : ∀ x ∈ xs, ∀ y ∈ x, Dy.ib y = true) : XC X c Γ .Eq a (.List [] pos) (xs.isEmpty) :=
  xc_ofB (op_eqD hu) (fun H u v h1 h2 Q q => by
    obtain ⟨a1, ws, e1, e2, e3⟩ := h1
    refine ⟨.list (xs.map fun x => .list (x.map Dy.pd)), .list [], e1 ▸ .lst (sq_of e2) (Dy.ib_dpRows hx e3), PyD.dp (τ := List Int) (x := []) h2, ib_shaped, rfl, ?_⟩
    rw [ib_eqv]; exact q _ rfl) ha (xb_of (x := ([] : List Int)) (XN.fr (XN.eq (xn_lst (ts := []) xns_nil (le100 rfl)) (t' := ol ([] : List Int)) rfl) FzT.ol)) (nomark _)
end
instance {α β γ δ ε : Type} [Py α] [Py β] [Py γ] [Py δ] [Py ε] [PyD α] [PyD β] [PyD γ] [PyD δ] [PyD ε] [PyDn α] [PyDn β] [PyDn γ] [PyDn δ] [PyDn ε] : PyDn (T5 α β γ δ ε) := ⟨fun x => ⟨PyDn.all _, PyDn.all _, PyDn.all _, PyDn.all _, PyDn.all _⟩⟩
end Fw
/-! a test whose last part has an effect, if it is come to -/
namespace Fw
open PySem L2 Py PyProof.Rows
section
variable {X : Cx} {c : Cw} {Γ Γ' : List Slot} {a b : Expr} {more : List Expr} {pos : Pos} {k l : Bool}
theorem xwm_andI (ha : XT X c Γ a k) (hb : k = true → XWM X c Γ Γ' (.BoolOp .And (b :: more) pos) l) (h0 : k = false → Γ' = Γ) : XWM X c Γ Γ' (.BoolOp .And (a :: b :: more) pos) (k && l) := by
  obtain ⟨t, h1, h2⟩ := xtm_of ha
  cases k with
  | true =>
    obtain ⟨u, h3, h4⟩ := hb rfl
    refine ⟨tAnd t u, pw_and h1 h3, fun F H σ fp E Q q => h2 F H σ fp E _ fun F' H' fp' E' e1 => ?_⟩
    rw [if_pos rfl]
    exact h4 F' H' σ fp' E' Q fun F2 H2 fp2 E2 e2 => q F2 H2 fp2 E2 (e1.trans e2)
  | false =>
    refine ⟨tAnd t _, pw_and h1 ⟨fun _ _ _ _ _ _ _ (h : False) => h.elim⟩, fun F H σ fp E Q q => h2 F H σ fp E _ fun F' H' fp' E' e1 => ?_⟩
    rw [if_neg Bool.false_ne_true]
    rw [h0 rfl] at q
    exact q F' H' fp' E' e1
theorem str_len0 {n : Str} (h : (n.length : Int) = 0) : n = ("" : Str) := by
  obtain ⟨a⟩ := n
  have h2 : a.size = 0 := by
    have : (Str.mk a).length = a.size := rfl
    omega
  have : a = #[] := Array.eq_empty_of_size_eq_zero h2
  subst this; rfl
theorem xe_orS {n k : Str} (ha : XE X c Γ a n) (hb : XE X c Γ b k) (hz : n.length ≤ sizeLine) : XE X c Γ (.BoolOp .Or [a, b] pos) (if n = ("" : Str) then k else n) := by
  obtain ⟨t, h1, h2⟩ := ha
  obtain ⟨u, h3, h4⟩ := xe_one (pos := pos) hb
  refine ⟨_, pe_orT h1 h3, fun F H σ fp E Q q => h2 F H σ fp E _ fun v F' H' E' e1 e2 r => ?_⟩
  cases (show v = V.str n from r)
  by_cases h : n = ("" : Str)
  · refine ⟨false, ⟨hz, ?_⟩, ?_⟩
    · rw [h]; rfl
    · rw [if_neg Bool.false_ne_true]
      rw [if_pos h] at q
      exact h4 F' H' σ fp E' Q fun v2 F2 H2 E2 e3 e4 r2 => q v2 F2 H2 E2 (e1.trans e3) (e2.trans e4) r2
  · refine ⟨true, ⟨hz, ?_⟩, ?_⟩
    · exact (bne_iff_ne.mpr fun e => h (str_len0 e)).symm
    · rw [if_pos rfl]
      rw [if_neg h] at q
      exact q _ F' H' E' e1 e2 rfl
end
end Fw
/-! an owned list of owned things is parted: its items go to a new list -/
namespace Fw
open PySem L2 Py PyProof.Rows
/-- any value -/
structure Any where
deriving Inhabited, DecidableEq
instance : Py Any := ⟨fun _ _ _ _ => True, fun _ h => h⟩
instance : PyTl Any := ⟨fun _ h => h⟩
def anys (n : Nat) : List Any := List.replicate n ⟨⟩
theorem l3_any {K : Fg} {F H : Hp} : ∀ vs : List V, L3 (OA K F H) vs (vs.map fun _ => []) ((anys vs.length).map fun z => OT.fz z)
  | [] => .nil
  | v :: r => .cons (.fz (x := (⟨⟩ : Any)) trivial) (l3_any r)
theorem cutV_hi {vs : List V} {a : Int} (h : 0 ≤ a) : cutV vs none (some a) = vs.take a.toNat := by
  unfold cutV HT.sIx
  dsimp only
  rw [if_neg (by omega), List.drop_zero, Nat.sub_zero]
  by_cases c : a.toNat ≤ vs.length
  · rw [Nat.min_eq_left c]
  · rw [Nat.min_eq_right (by omega), List.take_of_length_le (by omega), List.take_of_length_le (by omega)]
theorem cutV_lo {vs : List V} {a : Int} (h : 0 ≤ a) : cutV vs (some a) none = vs.drop a.toNat := by
  unfold cutV HT.sIx
  dsimp only
  rw [if_neg (by omega)]
  by_cases c : a.toNat ≤ vs.length
  · rw [Nat.min_eq_left c, List.take_of_length_le (by rw [List.length_drop]; omega)]
  · rw [Nat.min_eq_right (by omega), List.drop_of_length_le (Nat.le_refl _), List.drop_of_length_le (by omega), List.take_nil]
theorem take_drop_sub.{u} {β : Type u} (l : List β) {a b : Nat} (h : a ≤ b) : (l.take a ++ l.drop b).Sublist l := by
  have e : l.take a ++ l.drop a = l := List.take_append_drop a l
  have s : (l.drop b).Sublist (l.drop a) := by
    rw [show b = a + (b - a) by omega, ← List.drop_drop]
    exact List.drop_sublist _ _
  have := (List.Sublist.refl (l.take a)).append s
  rwa [e] at this
section
variable {X : Cx} {w : Wx} {c : Cw} {Γ Γ' Γ1 : List Slot} {α : Type} {a b e ep ep2 lo hi : Expr} {pos : Pos} {i : Nat} {oa : Option Addr} {g : α → OT} {rows es : List α}
/-- the owned list as it lies, and what it is when its items have gone -/
theorem mv_split {K : Fg} {F H : Hp} {σ : L2.St} {fp : Nat → List Addr} (E : EnvD K c F H σ Γ fp) (hs : Γ[i]? = some (.ow oa (OT.li g rows))) {p : Addr} (h1 : σ[i]? = some (some (.ref p))) :
    ∃ vs fps, F p = none ∧ H p = some (.lst vs) ∧ L3 (OA K F H) vs fps (rows.map g) ∧ fps.flatten.Nodup ∧ (∀ b ∈ fps.flatten, b ∈ fp i ∧ b ≠ p) ∧ EnvD K c F H σ (Γ.set i (.ow oa (ol (anys rows.length)))) (fun j => if j = i then [p] else fp j) := by
  obtain ⟨v, g1, g2, g3⟩ := E.geto hs
  rw [h1] at g1
  cases g1
  obtain ⟨p', o, vs, fps, e0, hfp, hF, hH, ko, hc, nd⟩ := g2.l3
  cases e0
  cases (show o = _ from ko)
  have hl : vs.length = rows.length := by rw [hc.1, List.length_map]
  have nd2 := List.nodup_cons.mp nd
  have hi : i < σ.length := by
    rw [E.len]; exact (List.getElem?_eq_some_iff.mp hs).1
  have r : OA K F H (.ref p) [p] (ol (anys rows.length)) := by
    have := OA.mk (K := K) (F := F) (H := H) (fps := vs.map fun _ => []) hF hH (k := .lst) rfl (l3_any vs) (by rw [flat_nil]; simp)
    rw [flat_nil, hl] at this
    exact this
  refine ⟨vs, fps, hF, hH, hc, nd2.2, fun b hb => ⟨by rw [hfp]; exact List.mem_cons_of_mem _ hb, fun e => nd2.1 (e ▸ hb)⟩, ?_⟩
  have k := E.put (s := .ow oa (ol (anys rows.length))) (v := some (.ref p)) (i := i) (l := [p]) ⟨_, rfl, r, g3⟩ (fun b hb _ => by
    rw [List.mem_singleton] at hb
    subst hb
    rw [hfp]; exact List.mem_cons_self ..) (fun h => absurd (E.len ▸ hi) (by omega))
  have es : σ.set i (some (.ref p)) = σ := by
    apply List.ext_getElem?
    intro j
    by_cases hj : j = i
    · subst hj
      rw [List.getElem?_set_self hi, h1]
    · rw [List.getElem?_set_ne (Ne.symm hj)]
  rwa [es] at k
/-- behind all: the new list is laid, the items are its own -/
theorem mv_end {K : Fg} {F H : Hp} {σ : L2.St} {fp : Nat → List Addr} (E : EnvD K c F H σ Γ fp) (hs : Γ[i]? = some (.ow oa (OT.li g rows))) {p : Addr} (h1 : σ[i]? = some (some (.ref p))) {l : Addr} (hl : H l = none) {vs : List V} (hv : H p = some (.lst vs))
    {f : ∀ {β : Type}, List β → List β} (hf : ∀ {P : V → List Addr → OT → Prop} {us : List V} {qs : List (List Addr)} {zs : List α}, L3 P us qs (zs.map g) → ∃ qs', L3 P (f us) qs' ((f zs).map g) ∧ qs'.flatten.Nodup = (qs'.flatten.Nodup) ∧ qs'.Sublist qs)
    : EnvD K c F (upd H l (.lst (f vs))) σ (Γ.set i (.ow oa (ol (anys rows.length)))) (fun j => if j = i then [p] else fp j) ∧ ∃ m, OA K F (upd H l (.lst (f vs))) (.ref l) m (OT.li g (f rows)) ∧ ∀ b ∈ m, c.al b ∧ ∀ j, b ∉ (fun j => if j = i then [p] else fp j) j := by
  obtain ⟨vs', fps, hF, hH, hc, nd, hm, E2⟩ := mv_split E hs h1
  rw [hv] at hH
  cases hH
  obtain ⟨qs, q1, _, q3⟩ := hf hc
  obtain ⟨k1, k2, k3⟩ := lay_li E2 hl q1 (nd.sublist (flat_sub q3))
  refine ⟨k1, _, k3, fun b hb => ?_⟩
  rcases List.mem_cons.mp hb with rfl | hb
  · refine ⟨E.wd.fresh hl, fun j hj => ?_⟩
    dsimp only at hj
    split at hj
    · rw [List.mem_singleton] at hj
      subst hj
      rw [hv] at hl; cases hl
    · exact E.fresh hl j hj
  · obtain ⟨m1, m2⟩ := hm b ((flat_sub q3).subset hb)
    refine ⟨E.al i b m1, fun j hj => ?_⟩
    dsimp only at hj
    split at hj
    · rw [List.mem_singleton] at hj
      exact m2 hj
    · rename_i hn
      exact hn (E.dis j i b hj m1)
/-- .. with new ones within -/
theorem mv_endE {K : Fg} {F H : Hp} {σ : L2.St} {fp : Nat → List Addr} (E : EnvD K c F H σ Γ fp) (hs : Γ[i]? = some (.ow oa (OT.li g rows))) {p : Addr} (h1 : σ[i]? = some (some (.ref p))) {l : Addr} (hl : H l = none) {vs : List V} (hv : H p = some (.lst vs))
    {ws : List V} {gps : List (List Addr)} (hE : L3 (OA K F H) ws gps (es.map g)) (hEn : gps.flatten.Nodup) (hEf : ∀ b ∈ gps.flatten, (c.al b ∧ ∀ j, b ∉ fp j)) {n m : Nat} (hnm : n ≤ m) (last : Bool) {xs : List V} {zs : List α}
    (hx : xs = if last then (vs.take n ++ vs.drop m) ++ ws else (vs.take n ++ ws) ++ vs.drop m) (hz : zs = if last then (rows.take n ++ rows.drop m) ++ es else (rows.take n ++ es) ++ rows.drop m) :
    EnvD K c F (upd H l (.lst xs)) σ (Γ.set i (.ow oa (ol (anys rows.length)))) (fun j => if j = i then [p] else fp j) ∧ ∃ m, OA K F (upd H l (.lst xs)) (.ref l) m (OT.li g zs) ∧ ∀ b ∈ m, c.al b ∧ ∀ j, b ∉ (fun j => if j = i then [p] else fp j) j := by
  obtain ⟨vs', fps, hF, hH, hc, nd, hm, E2⟩ := mv_split E hs h1
  rw [hv] at hH
  cases hH
  have t1 := hc.take n
  have t2 := hc.drop m
  have sb := take_drop_sub fps hnm
  have dj : ∀ b, b ∈ fps.flatten → b ∉ gps.flatten := fun b hb hg => (hEf b hg).2 i (hm b hb).1
  have sub1 : ∀ b, b ∈ (fps.take n).flatten → b ∈ fps.flatten := fun b hb => (flat_sub (List.take_sublist n fps)).subset hb
  have sub2 : ∀ b, b ∈ (fps.drop m).flatten → b ∈ fps.flatten := fun b hb => (flat_sub (List.drop_sublist m fps)).subset hb
  have nds := nd.sublist (flat_sub sb)
  rw [List.flatten_append] at nds
  have nds' := List.nodup_append.mp nds
  have key : ∃ qs, L3 (OA K F H) xs qs (zs.map g) ∧ qs.flatten.Nodup ∧ ∀ b ∈ qs.flatten, b ∈ fps.flatten ∨ b ∈ gps.flatten := by
    cases last with
    | true =>
      refine ⟨(fps.take n ++ fps.drop m) ++ gps, ?_, ?_, fun b hb => ?_⟩
      · rw [hx, hz]
        have := (t1.app t2).app hE
        rwa [← List.map_take, ← List.map_drop, ← List.map_append, ← List.map_append] at this
      · rw [List.flatten_append, List.flatten_append]
        refine List.nodup_append.mpr ⟨nds, hEn, fun b hb c hc e => ?_⟩
        subst e
        rcases List.mem_append.mp hb with h | h
        · exact dj b (sub1 b h) hc
        · exact dj b (sub2 b h) hc
      · rw [List.flatten_append, List.flatten_append] at hb
        rcases List.mem_append.mp hb with h | h
        · rcases List.mem_append.mp h with h | h
          · exact .inl (sub1 b h)
          · exact .inl (sub2 b h)
        · exact .inr h
    | false =>
      refine ⟨(fps.take n ++ gps) ++ fps.drop m, ?_, ?_, fun b hb => ?_⟩
      · rw [hx, hz]
        have := (t1.app hE).app t2
        rwa [← List.map_take, ← List.map_drop, ← List.map_append, ← List.map_append] at this
      · rw [List.flatten_append, List.flatten_append]
        refine List.nodup_append.mpr ⟨List.nodup_append.mpr ⟨nds'.1, hEn, fun b hb c hc e => ?_⟩, nds'.2.1, fun b hb c hc e => ?_⟩
        · subst e
          exact dj b (sub1 b hb) hc
        · subst e
          rcases List.mem_append.mp hb with h | h
          · exact nds'.2.2 b h b hc rfl
          · exact dj b (sub2 b hc) h
      · rw [List.flatten_append, List.flatten_append] at hb
        rcases List.mem_append.mp hb with h | h
        · rcases List.mem_append.mp h with h | h
          · exact .inl (sub1 b h)
          · exact .inr h
        · exact .inl (sub2 b h)
  obtain ⟨qs, q1, q2, q3⟩ := key
  obtain ⟨k1, k2, k3⟩ := lay_li E2 hl q1 q2
  refine ⟨k1, _, k3, fun b hb => ?_⟩
  rcases List.mem_cons.mp hb with rfl | hb
  · refine ⟨E.wd.fresh hl, fun j hj => ?_⟩
    dsimp only at hj
    split at hj
    · rw [List.mem_singleton] at hj
      subst hj
      rw [hv] at hl; cases hl
    · exact E.fresh hl j hj
  · rcases q3 b hb with h | h
    · obtain ⟨m1, m2⟩ := hm b h
      refine ⟨E.al i b m1, fun j hj => ?_⟩
      dsimp only at hj
      split at hj
      · rw [List.mem_singleton] at hj
        exact m2 hj
      · rename_i hn
        exact hn (E.dis j i b hj m1)
    · obtain ⟨m1, m2⟩ := hEf b h
      refine ⟨m1, fun j hj => ?_⟩
      dsimp only at hj
      split at hj
      · rw [List.mem_singleton] at hj
        subst hj
        obtain ⟨v, g1, g2, g3⟩ := E.geto hs
        rw [h1] at g1
        cases g1
        obtain ⟨p', o, vs', fps', e0, hfp, _⟩ := g2.l3
        cases e0
        exact m2 i (by rw [hfp]; exact List.mem_cons_self ..)
      · exact m2 j hj
/-- the owned list's own address -/
theorem ow_ref {K : Fg} {F H : Hp} {σ : L2.St} {fp : Nat → List Addr} (E : EnvD K c F H σ Γ fp) (hs : Γ[i]? = some (.ow oa (OT.li g rows))) {v0 : V} (h1 : σ[i]? = some (some v0)) : ∃ p vs, v0 = .ref p ∧ H p = some (.lst vs) ∧ vs.length = rows.length := by
  obtain ⟨v, g1, g2, g3⟩ := E.geto hs
  rw [h1] at g1
  cases g1
  obtain ⟨p', o, vs, fps, e0, hfp, hF, hH, ko, hc, nd⟩ := g2.l3
  cases (show o = _ from ko)
  exact ⟨p', vs, e0, hH, by rw [hc.1, List.length_map]⟩
/-- P[:n], its items handed over -/
theorem xm_mvS {n : Int} {p2 : Pos} (hp : XPl X c Γ ep i []) (hs : Γ[i]? = some (.ow oa (OT.li g rows))) (hh : XP X c Γ (some hi) (some n)) (h0 : 0 ≤ n) :
    XM X c Γ (Γ.set i (.ow oa (ol (anys rows.length)))) (.Subscript ep (.Slice none (some hi) none p2) pos) (.ow none (OT.li g (rows.take n.toNat))) := by
  obtain ⟨t, a1, a2⟩ := hp
  obtain ⟨u, b1, b2⟩ := hh
  refine ⟨_, pe_slice sl_list a1 po_none b1, fun F H σ fp E Q q => a2 F H σ fp E _ fun v v0 F1 H1 E1 e1 n1 g1 g2 => b2 F1 H1 σ fp E1 _ fun F2 H2 E2 e2 n2 => ?_⟩
  unfold follow at g2
  cases g2
  obtain ⟨p, vs, rfl, hv, hvl⟩ := ow_ref E2 hs g1
  refine ⟨p, vs, rfl, sq_of hv, fun l hl => ?_⟩
  rw [cutV_hi h0]
  obtain ⟨k1, m, k2, k3⟩ := mv_end E2 hs g1 hl hv (f := fun {β} (x : List β) => x.take n.toNat) (fun {P us qs zs} r => ⟨qs.take n.toNat, by have := r.take n.toNat; rwa [← List.map_take] at this, rfl, List.take_sublist _ _⟩)
  exact q _ _ _ _ m k1 (e1.trans e2) ⟨_, rfl, k2, fun a ha => by cases ha⟩ k3
/-- P[:n] + P[m:] + E -/
theorem xm_mvC {n m : Int} {p2 p3 p4 p5 p6 : Pos} (hp : XPl X c Γ ep i []) (hp2 : XPl X c Γ ep2 i []) (hs : Γ[i]? = some (.ow oa (OT.li g rows))) (h1 : XP X c Γ (some hi) (some n)) (h2 : XP X c Γ (some lo) (some m)) (hE : XN X c Γ e (OT.li g es)) (h0 : 0 ≤ n ∧ n ≤ m) (hz : rows.length + rows.length + es.length ≤ 100000) :
    XM X c Γ (Γ.set i (.ow oa (ol (anys rows.length)))) (.BinOp (.BinOp (.Subscript ep (.Slice none (some hi) none p2) p3) .Add (.Subscript ep2 (.Slice (some lo) none none p4) p5) p6) .Add e pos) (.ow none (OT.li g ((rows.take n.toNat ++ rows.drop m.toNat) ++ es))) := by
  obtain ⟨t, a1, a2⟩ := hp
  obtain ⟨t', a1', a2'⟩ := hp2
  obtain ⟨u, b1, b2⟩ := h1
  obtain ⟨u', b1', b2'⟩ := h2
  obtain ⟨te, d1, d2⟩ := hE
  refine ⟨_, pe_op op_cat (pe_op op_cat (pe_slice sl_list a1 po_none b1) (pe_slice sl_list a1' b1' po_none)) d1, fun F H σ fp E Q q => a2 F H σ fp E _ fun v v0 F1 H1 E1 e1 n1 g1 g2 => b2 F1 H1 σ fp E1 _ fun F2 H2 E2 e2 n2 => ?_⟩
  unfold follow at g2
  cases g2
  obtain ⟨p, vs, rfl, hv, hvl⟩ := ow_ref E2 hs g1
  refine ⟨p, vs, rfl, sq_of hv, fun l hl => ?_⟩
  rw [cutV_hi h0.1]
  have E3 : EnvD X.K c F2 (upd H2 l (.lst (vs.take n.toNat))) σ Γ fp := E2.grow (Ex.refl _) (E2.wd.fh.upd (E2.ff hl)) (Ex.new hl) fun b h => .inl h
  have hl3 : (upd H2 l (.lst (vs.take n.toNat))) l = some (.lst (vs.take n.toNat)) := upd_same
  generalize hH3 : upd H2 l (.lst (vs.take n.toNat)) = H3 at E3 hl3
  have x23 : Ex H2 H3 := by rw [← hH3]; exact Ex.new hl
  refine a2' F2 H3 σ fp E3 _ fun v' v0' F4 H4 E4 e4 n4 g1' g2' => b2' F4 H4 σ fp E4 _ fun F5 H5 E5 e5 n5 => ?_
  unfold follow at g2'
  cases g2'
  rw [g1] at g1'
  cases g1'
  have hv5 : H5 p = some (.lst vs) := (n4.h.trans n5.h) _ _ (x23 _ _ hv)
  refine ⟨p, vs, rfl, sq_of hv5, fun l2 hl2 => ?_⟩
  rw [cutV_lo (by omega)]
  have hl5 : H5 l = some (.lst (vs.take n.toNat)) := (n4.h.trans n5.h) _ _ hl3
  have E6 : EnvD X.K c F5 (upd H5 l2 (.lst (vs.drop m.toNat))) σ Γ fp := E5.grow (Ex.refl _) (E5.wd.fh.upd (E5.ff hl2)) (Ex.new hl2) fun b h => .inl h
  have x56 : Ex H5 (upd H5 l2 (.lst (vs.drop m.toNat))) := Ex.new hl2
  have l1l : (vs.take n.toNat).length ≤ rows.length := by rw [List.length_take]; omega
  have l2l : (vs.drop m.toNat).length ≤ rows.length := by rw [List.length_drop]; omega
  refine ⟨l, l2, _, _, rfl, rfl, x56 _ _ hl5, upd_same, sz _ (by omega), fun l3 hl3' => ?_⟩
  generalize hH6 : upd H5 l2 (.lst (vs.drop m.toNat)) = H6 at E6 x56 hl3'
  have E7 : EnvD X.K c F5 (upd H6 l3 (.lst (vs.take n.toNat ++ vs.drop m.toNat))) σ Γ fp := E6.grow (Ex.refl _) (E6.wd.fh.upd (E6.ff hl3')) (Ex.new hl3') fun b h => .inl h
  have x67 : Ex H6 (upd H6 l3 (.lst (vs.take n.toNat ++ vs.drop m.toNat))) := Ex.new hl3'
  have hl7 : (upd H6 l3 (.lst (vs.take n.toNat ++ vs.drop m.toNat))) l3 = some (.lst (vs.take n.toNat ++ vs.drop m.toNat)) := upd_same
  generalize hH7 : upd H6 l3 (.lst (vs.take n.toNat ++ vs.drop m.toNat)) = H7 at E7 x67 hl7
  refine d2 F5 H7 σ fp E7 _ fun vE F8 H8 lE E8 e8 n8 r8 hf8 => ?_
  obtain ⟨pE, oE, ws, gps, rfl, rfl, hFE, hHE, koE, hcE, ndE⟩ := r8.l3
  cases (show oE = _ from koE)
  have hv8 : H8 p = some (.lst vs) := n8.h _ _ (x67 _ _ (x56 _ _ hv5))
  have wl : ws.length = es.length := by rw [hcE.1, List.length_map]
  refine ⟨l3, pE, _, _, rfl, rfl, n8.h _ _ hl7, hHE, sz _ (by rw [List.length_append]; omega), fun l4 hl4 => ?_⟩
  obtain ⟨k1, m', k2, k3⟩ := mv_endE (n := n.toNat) (m := m.toNat) E8 hs g1 hl4 hv8 hcE (List.nodup_cons.mp ndE).2 (fun b hb => ⟨E7.wd.fresh (hf8 b (List.mem_cons_of_mem _ hb)), E7.fresh (hf8 b (List.mem_cons_of_mem _ hb))⟩) (by omega) true rfl rfl
  exact q _ _ _ _ m' k1 ((((e1.trans e2).trans e4).trans e5).trans e8) ⟨_, rfl, k2, fun a ha => by cases ha⟩ k3
/-- P[:n] + E + P[m:] -/
theorem xm_mvP {n m : Int} {p2 p3 p4 p5 p6 : Pos} (hp : XPl X c Γ ep i []) (hp2 : XPl X c Γ ep2 i []) (hs : Γ[i]? = some (.ow oa (OT.li g rows))) (h1 : XP X c Γ (some hi) (some n)) (h2 : XP X c Γ (some lo) (some m)) (hE : XN X c Γ e (OT.li g es)) (h0 : 0 ≤ n ∧ n ≤ m) (hz : rows.length + rows.length + es.length ≤ 100000) :
    XM X c Γ (Γ.set i (.ow oa (ol (anys rows.length)))) (.BinOp (.BinOp (.Subscript ep (.Slice none (some hi) none p2) p3) .Add e p6) .Add (.Subscript ep2 (.Slice (some lo) none none p4) p5) pos) (.ow none (OT.li g ((rows.take n.toNat ++ es) ++ rows.drop m.toNat))) := by
  obtain ⟨t, a1, a2⟩ := hp
  obtain ⟨t', a1', a2'⟩ := hp2
  obtain ⟨u, b1, b2⟩ := h1
  obtain ⟨u', b1', b2'⟩ := h2
  obtain ⟨te, d1, d2⟩ := hE
  refine ⟨_, pe_op op_cat (pe_op op_cat (pe_slice sl_list a1 po_none b1) d1) (pe_slice sl_list a1' b1' po_none), fun F H σ fp E Q q => a2 F H σ fp E _ fun v v0 F1 H1 E1 e1 n1 g1 g2 => b2 F1 H1 σ fp E1 _ fun F2 H2 E2 e2 n2 => ?_⟩
  unfold follow at g2
  cases g2
  obtain ⟨p, vs, rfl, hv, hvl⟩ := ow_ref E2 hs g1
  refine ⟨p, vs, rfl, sq_of hv, fun l hl => ?_⟩
  rw [cutV_hi h0.1]
  have E3 : EnvD X.K c F2 (upd H2 l (.lst (vs.take n.toNat))) σ Γ fp := E2.grow (Ex.refl _) (E2.wd.fh.upd (E2.ff hl)) (Ex.new hl) fun b h => .inl h
  have hl3 : (upd H2 l (.lst (vs.take n.toNat))) l = some (.lst (vs.take n.toNat)) := upd_same
  generalize hH3 : upd H2 l (.lst (vs.take n.toNat)) = H3 at E3 hl3
  have x23 : Ex H2 H3 := by rw [← hH3]; exact Ex.new hl
  refine d2 F2 H3 σ fp E3 _ fun vE F4 H4 lE E4 e4 n4 r4 hf4 => ?_
  obtain ⟨pE, oE, ws, gps, rfl, rfl, hFE, hHE, koE, hcE, ndE⟩ := r4.l3
  cases (show oE = _ from koE)
  have wl : ws.length = es.length := by rw [hcE.1, List.length_map]
  have l1l : (vs.take n.toNat).length ≤ rows.length := by rw [List.length_take]; omega
  refine ⟨l, pE, _, _, rfl, rfl, n4.h _ _ hl3, hHE, sz _ (by omega), fun l3 hl3' => ?_⟩
  have E5 : EnvD X.K c F4 (upd H4 l3 (.lst (vs.take n.toNat ++ ws))) σ Γ fp := E4.grow (Ex.refl _) (E4.wd.fh.upd (E4.ff hl3')) (Ex.new hl3') fun b h => .inl h
  have x45 : Ex H4 (upd H4 l3 (.lst (vs.take n.toNat ++ ws))) := Ex.new hl3'
  have n45 : Nw F4 H4 F4 (upd H4 l3 (.lst (vs.take n.toNat ++ ws))) := ⟨x45, fun b h => .inl h⟩
  have hl5 : (upd H4 l3 (.lst (vs.take n.toNat ++ ws))) l3 = some (.lst (vs.take n.toNat ++ ws)) := upd_same
  generalize hH5 : upd H4 l3 (.lst (vs.take n.toNat ++ ws)) = H5 at E5 x45 hl5 n45
  refine a2' F4 H5 σ fp E5 _ fun v' v0' F6 H6 E6 e6 n6 g1' g2' => b2' F6 H6 σ fp E6 _ fun F7 H7 E7 e7 n7 => ?_
  unfold follow at g2'
  cases g2'
  rw [g1] at g1'
  cases g1'
  have hv7 : H7 p = some (.lst vs) := (n6.h.trans n7.h) _ _ (x45 _ _ (n4.h _ _ (x23 _ _ hv)))
  refine ⟨p, vs, rfl, sq_of hv7, fun l2 hl2 => ?_⟩
  rw [cutV_lo (by omega)]
  have hl7 : H7 l3 = some (.lst (vs.take n.toNat ++ ws)) := (n6.h.trans n7.h) _ _ hl5
  have E8 : EnvD X.K c F7 (upd H7 l2 (.lst (vs.drop m.toNat))) σ Γ fp := E7.grow (Ex.refl _) (E7.wd.fh.upd (E7.ff hl2)) (Ex.new hl2) fun b h => .inl h
  have x78 : Ex H7 (upd H7 l2 (.lst (vs.drop m.toNat))) := Ex.new hl2
  have n78 : Nw F7 H7 F7 (upd H7 l2 (.lst (vs.drop m.toNat))) := ⟨x78, fun b h => .inl h⟩
  have l2l : (vs.drop m.toNat).length ≤ rows.length := by rw [List.length_drop]; omega
  refine ⟨l3, l2, _, _, rfl, rfl, x78 _ _ hl7, upd_same, sz _ (by rw [List.length_append]; omega), fun l4 hl4 => ?_⟩
  generalize hH8 : upd H7 l2 (.lst (vs.drop m.toNat)) = H8 at E8 x78 hl4 n78
  have hv8 : H8 p = some (.lst vs) := x78 _ _ hv7
  have hcE8 : L3 (OA X.K F7 H8) ws gps (es.map g) := l3_nw (l3_nw (l3_nw hcE (Ex.refl _) n45) (e6.trans e7) (n6.trans n7)) (Ex.refl _) n78
  obtain ⟨k1, m', k2, k3⟩ := mv_endE (n := n.toNat) (m := m.toNat) E8 hs g1 hl4 hv8 hcE8 (List.nodup_cons.mp ndE).2 (fun b hb => ⟨E3.wd.fresh (hf4 b (List.mem_cons_of_mem _ hb)), E3.fresh (hf4 b (List.mem_cons_of_mem _ hb))⟩) (by omega) false rfl rfl
  exact q _ _ _ _ m' k1 ((((e1.trans e2).trans e4).trans e6).trans e7) ⟨_, rfl, k2, fun a ha => by cases ha⟩ k3
end
end Fw
/-! dicts whose keys are tuples of whole numbers and texts -/
namespace L2
open PySem PySem.Spec PyProof.Rows PyProof
section
variable {X : Cx} {pins : List (Addr × Obj)} {σ : St} {H : Hp} {s : Shared} {a b : Addr} {v : V} {u r : Value} {o : Option V} {A : Around} {E : Value → Shared → Prop}
/-- a tuple of ints and texts, however it stands, is a key -/
theorem key_ofT {ks : List Key} (I : Inv X pins σ H s) (e : SqT X.K H b (ks.map kV)) : (tupleKind (mixKind X.prog X.w)).is s.heap ks b := by
  rcases e with e | ⟨ob, its, n, h1, h2, h3, h4, h5⟩
  · obtain ⟨_, its, r, o, h1, h2, n, h3⟩ := (show ObjOk X.prog X.w H s.heap b (.tup (ks.map kV)) from e.ok I.hok)
    exact ⟨o, its.toArray, n, h1, h2, h3, by simpa using items_are r⟩
  · exact ⟨ob, its, n, I.kIn _ _ h1, h2, h3, items_are h5⟩
/-- what the dict at a holds at the tuple at b -/
def DGetT (K : PySem.W.Frag) (H : Hp) (a b : Addr) (r : Option V) : Prop := ∃ kvs k, Rd H a (.dT kvs) ∧ SqT K H b (k.map kV) ∧ r = valV kvs k
theorem d_getItemT {Q : Value → Shared → Prop} (hu : A.units + 1 < cLine) (I : Inv X pins σ H s) (g : DGetT X.K H a b (some v)) (h : ∀ w' s', Inv X pins σ H s' → RelV v w' → Q w' s') :
    wpAny (model X.prog X.w) A (getItem (.ref a) (.ref b)) Q E s := by
  obtain ⟨kvs, k, e, eb, l⟩ := g
  obtain ⟨z, hd, xs, rel, dd⟩ := dt_rd I.hok e
  obtain ⟨w', hw, rw'⟩ := RelO.some_of (v := v) (o := (atKey xs k).map (·.2)) (by rw [l]; exact rel.val k)
  obtain ⟨p, hp, hp2⟩ := Option.map_eq_some_iff.mp hw
  refine wpAny_getItem_heap (tupleKind_room_in1 hu) (key_ofT I eb) dd hp ?_
  rw [hp2]
  exact h w' _ (I.tok _) rw'
theorem d_inT {Q : Value → Shared → Prop} (hu : A.units + 1 < cLine) (I : Inv X pins σ H s) (g : DGetT X.K H a b o) (h : ∀ s', Inv X pins σ H s' → Q (.bool o.isSome) s') :
    wpAny (model X.prog X.w) A (compareOp .In (.ref b) (.ref a)) Q E s := by
  obtain ⟨kvs, k, e, eb, l⟩ := g
  obtain ⟨z, hd, xs, rel, dd⟩ := dt_rd I.hok e
  refine wpAny_in_heap (tupleKind_room_in1 hu) (key_ofT I eb) hd dd ?_
  have q := (rel.val k).isSome_eq
  rw [Option.isSome_map] at q
  rw [← q, ← l]
  exact h _ (I.tok _)
theorem dict_typeIsT (I : Inv X pins σ H s) (g : DGetT X.K H a b o) : s.TypeIs (.ref a) "dict" := by
  obtain ⟨kvs, k, e, _, _⟩ := g
  obtain ⟨_, _, xs, _, dd⟩ := dt_rd I.hok e
  exact dd.typeIs
end
def tDGetT (K : PySem.W.Frag) (td ty : TE) : TE := fun σ H Q => td σ H fun x H1 => ty σ H1 fun y H2 => ∃ a b v, x = .ref a ∧ y = .ref b ∧ DGetT K H2 a b (some v) ∧ Q v H2
def tDInT (K : PySem.W.Frag) (ty td : TE) : TE := fun σ H Q => ty σ H fun y H1 => td σ H1 fun x H2 => ∃ a b o, x = .ref a ∧ y = .ref b ∧ DGetT K H2 a b o ∧ Q (.bl o.isSome) H2
section
variable {X : Cx} {o i e value : Expr} {pos pos' tpos : Pos} {td ty tv : TE}
theorem pe_dgetT (hu : X.A.units + 1 < cLine) (ho : PE X o td) (hi : PE X i ty) (hs : NoSl i) : PE X (.Subscript o i pos) (tDGetT X.K td ty) := by
  refine ⟨fun pins s σ H Q I h => ?_⟩
  refine subD_of PySem.F.slot_dict_getitem.lookup hs (thn (ho.run pins s σ H _ I h) fun u s1 ⟨x, H1, I1, rx, q1⟩ => thn (hi.run pins s1 σ H1 _ I1 q1) fun iv s2 ⟨y, H2, I2, ry, a, b, v, ex, ey, g, q2⟩ => ?_)
  subst ex
  subst ey
  obtain rfl : u = Value.ref a := rx
  obtain rfl : iv = Value.ref b := ry
  exact ⟨dict_typeIsT I2 g, d_getItemT hu I2 g fun w' s3 I3 rw' => ⟨v, H2, I3, rw', q2⟩⟩
/-- y in d, as an operation -/
theorem op_dinT (hu : X.A.units + 1 < cLine) : OpR X (compareOp .In) (fun y x H Q => ∃ a b o, x = .ref a ∧ y = .ref b ∧ DGetT X.K H a b o ∧ Q (.bl o.isSome) H) := by
  intro pins s σ H y x iv u Q I ry rx h
  obtain ⟨a, b, o, ex, ey, g, q⟩ := h
  subst ex
  subst ey
  obtain rfl : u = Value.ref a := rx
  obtain rfl : iv = Value.ref b := ry
  exact d_inT hu I g fun s3 I3 => ⟨.bl o.isSome, H, I3, rfl, q⟩
end
end L2
namespace Fw
open PySem L2 Py PyProof.Rows
/-- whole numbers and texts, as keys -/
class PyK (τ : Type) extends PySc τ where
  key : τ → Key
  kv : ∀ x, PySc.v x = kV (key x)
  inj : ∀ x y, key x = key y → x = y
instance : PyK Int := { key := Sum.inl, kv := fun _ => rfl, inj := fun _ _ h => Sum.inl.inj h }
instance : PyK Str := { key := Sum.inr, kv := fun _ => rfl, inj := fun _ _ h => Sum.inr.inj h }
/-- tuples of these -/
class TKey (υ : Type) [Py υ] where
  keys : υ → List Key
  inj : ∀ x y, keys x = keys y → x = y
  sq : ∀ {K : Fg} {F : Hp} {v : V} {x : υ}, rep K F v x → ∃ p, v = .ref p ∧ SqT K F p ((keys x).map kV)
class TKeyA (υ α : Type) [Py υ] [PyA α] [TKey υ] [PyT υ α] where
  of : ∀ {K : Fg} {F : Hp} {vs : List V} {x : α}, PyA.reps K F vs x → vs = (TKey.keys (PyT.ofA x : υ)).map kV
section
variable {α β γ : Type} [PyK α] [PyK β] [PyK γ]
instance : TKey (α × β) where
  keys x := [PyK.key x.1, PyK.key x.2]
  inj := fun x y h => by
    injection h with h1 h2
    injection h2 with h2 _
    exact Prod.ext (PyK.inj _ _ h1) (PyK.inj _ _ h2)
  sq := fun {K F v x} ⟨p, a, b, h1, h2, h3, h4⟩ => by
    have e1 := PySc.sc.mp h3
    have e2 := PySc.sc.mp h4
    subst e1; subst e2
    refine ⟨p, h1, ?_⟩
    rw [PyK.kv, PyK.kv] at h2
    exact h2
instance : TKey (T3 α β γ) where
  keys x := [PyK.key x.a, PyK.key x.b, PyK.key x.c]
  inj := fun x y h => by
    injection h with h1 h2
    injection h2 with h2 h3
    injection h3 with h3 _
    obtain ⟨a, b, c⟩ := x
    obtain ⟨a', b', c'⟩ := y
    rw [show a = a' from PyK.inj _ _ h1, show b = b' from PyK.inj _ _ h2, show c = c' from PyK.inj _ _ h3]
  sq := fun {K F v x} ⟨p, a, b, c, h1, h2, h3, h4, h5⟩ => by
    have e1 := PySc.sc.mp h3
    have e2 := PySc.sc.mp h4
    have e3 := PySc.sc.mp h5
    subst e1; subst e2; subst e3
    refine ⟨p, h1, ?_⟩
    rw [PyK.kv, PyK.kv, PyK.kv] at h2
    exact h2
instance : TKeyA (α × β) (α × β × Unit) where
  of := by
    rintro K F vs x ⟨u1, _, rfl, r1, u2, _, rfl, r2, rfl⟩
    have e1 := PySc.sc.mp r1
    have e2 := PySc.sc.mp r2
    subst e1; subst e2
    show [PySc.v x.1, PySc.v x.2.1] = [kV (PyK.key x.1), kV (PyK.key x.2.1)]
    rw [PyK.kv, PyK.kv]
instance : TKeyA (T3 α β γ) (α × β × γ × Unit) where
  of := by
    rintro K F vs x ⟨u1, _, rfl, r1, u2, _, rfl, r2, u3, _, rfl, r3, rfl⟩
    have e1 := PySc.sc.mp r1
    have e2 := PySc.sc.mp r2
    have e3 := PySc.sc.mp r3
    subst e1; subst e2; subst e3
    show [PySc.v x.1, PySc.v x.2.1, PySc.v x.2.2.1] = [kV (PyK.key x.1), kV (PyK.key x.2.1), kV (PyK.key x.2.2.1)]
    rw [PyK.kv, PyK.kv, PyK.kv]
end
/-- a dict from tuples to frozen data, its pairs in order -/
structure Td (υ τ : Type) where
  l : List (υ × τ)
instance {υ τ : Type} : Inhabited (Td υ τ) := ⟨⟨[]⟩⟩
@[reducible] def Td.ot {υ τ : Type} [Py υ] [TKey υ] [Py τ] (d : Td υ τ) : OT := .nd (.dT (d.l.map fun z => TKey.keys z.1)) (d.l.map fun z => .fz z.2)
instance {υ τ : Type} [Py υ] [TKey υ] [Py τ] : Py (Td υ τ) := pyOf Td.ot
def tdOpt {υ τ : Type} [Py υ] [TKey υ] (k : υ) : List (υ × τ) → Option τ
  | [] => none
  | x :: r => if TKey.keys x.1 = TKey.keys k then some x.2 else tdOpt k r
def tdGet {υ τ : Type} [Py υ] [TKey υ] [Inhabited τ] (d : Td υ τ) (k : υ) : τ := (tdOpt k d.l).getD default
def tdPut {υ τ : Type} [Py υ] [TKey υ] (d : Td υ τ) (k : υ) (y : τ) : Td υ τ := ⟨if (tdOpt k d.l).isSome then d.l.map (fun z => if TKey.keys z.1 = TKey.keys k then (z.1, y) else z) else d.l ++ [(k, y)]⟩
section
variable {X : Cx} {w : Wx} {c : Cw} {Γ Γ' : List Slot} {S S' B τ υ ζ α : Type} [Py τ] [Py υ] [TKey υ] [Py ζ] {R : Rc} {G : S → List Slot} {GB : B → List Slot} {o : Out S B R.ρ} {pos : Pos} {rest : List Stmt} {e d a b ep ei : Expr} {k : Bool} {t u : OT} {ts us : List OT} {i : Nat} {p : List Nat} {oa : Option Addr}
theorem FA.dT {ks : List (List Key)} {K : Fg} {F : Hp} {v : V} (h : FA K F v (.nd (.dT ks) ts)) : ∃ a vs, v = .ref a ∧ F a = some (.dT (ks.zip vs)) ∧ ks.length = vs.length ∧ vs.length = ts.length ∧ ∀ (i : Nat) v t, vs[i]? = some v → ts[i]? = some t → FA K F v t := by
  cases h with
  | nd hF ko l1 hc => obtain ⟨h1, rfl⟩ := ko; exact ⟨_, _, rfl, hF, h1, l1, hc⟩
theorem fa_reps {K : Fg} {F : Hp} : ∀ {l : List τ} {vs : List V}, vs.length = (l.map fun z => OT.fz z).length → (∀ (i : Nat) v t, vs[i]? = some v → (l.map fun z => OT.fz z)[i]? = some t → FA K F v t) → Reps K F vs l
  | [], vs, h, _ => by
    cases vs with
    | nil => exact .nil
    | cons => simp at h
  | z :: l, vs, h, q => by
    cases vs with
    | nil => simp at h
    | cons v vs => exact .cons (q 0 v (.fz z) rfl rfl).ofz (fa_reps (by simpa using h) fun i v t h1 h2 => q (i + 1) v t (by simpa using h1) (by simpa using h2))
theorem td_val {K : Fg} {F : Hp} (n : υ) : ∀ {vs : List V} {l : List (υ × τ)}, Reps K F vs (l.map (·.2)) → match tdOpt n l with | some y => ∃ z, valV ((l.map fun z => TKey.keys z.1).zip vs) (TKey.keys n) = some z ∧ rep K F z y | none => valV ((l.map fun z => TKey.keys z.1).zip vs) (TKey.keys n) = none
  | [], [], _ => rfl
  | v :: vs, x :: l, .cons r t => by
    have ih := td_val n t
    unfold tdOpt
    have hz : (List.map (fun z : υ × τ => TKey.keys z.1) (x :: l)).zip (v :: vs) = (TKey.keys x.1, v) :: ((l.map fun z => TKey.keys z.1).zip vs) := rfl
    rw [hz]
    by_cases h : TKey.keys x.1 = TKey.keys n
    · rw [if_pos h]
      exact ⟨v, valV_pos h, r⟩
    · rw [if_neg h, valV_neg h]
      exact ih
/-- d[k], d frozen -/
theorem xe_tdget [Inhabited τ] {s : Td υ τ} {n : υ} (hu : X.A.units + 1 < cLine) (he : XE X c Γ e s) (hk : XE X c Γ ei n) (hm : (tdOpt n s.l).isSome = true) (hns : NoSl ei := by exact fun _ _ => rfl) : XE X c Γ (.Subscript e ei pos) (tdGet s n) := by
  obtain ⟨te, h1, h2⟩ := he
  obtain ⟨tk, h3, h4⟩ := hk
  refine ⟨_, pe_dgetT hu h1 h3 hns, fun F H σ fp E Q q => h2 F H σ fp E _ fun v F1 H1 E1 e1 n1 r => h4 F1 H1 σ fp E1 _ fun y F2 H2 E2 e2 n2 r2 => ?_⟩
  obtain ⟨a, vs, rfl, k1, k3, k4, k5⟩ := (show FA _ _ _ s.ot from Py.mono e2 r).dT
  obtain ⟨b, rfl, kb⟩ := TKey.sq r2
  have rs : Reps X.K F2 vs (s.l.map (·.2)) := fa_reps (by rw [k4]; simp) (fun i v t g1 g2 => k5 i v t g1 (by simpa using g2))
  have := td_val n rs
  cases hq : tdOpt n s.l with
  | none => rw [hq] at hm; cases hm
  | some z =>
    rw [hq] at this
    obtain ⟨z', g1, g2⟩ := this
    refine ⟨a, b, z', rfl, rfl, ⟨_, _, .inl (E2.wd.fh _ _ k1), E2.wd.fh.t kb, g1.symm⟩, q _ F2 H2 E2 (e1.trans e2) (n1.trans n2) ?_⟩
    unfold tdGet
    rw [hq]; exact g2
/-- k in d, d frozen -/
theorem xc_inTd {s : Td υ τ} {n : υ} (hu : X.A.units + 1 < cLine) (hk : XE X c Γ a n) (he : XE X c Γ b s) (hm : behindInMarks .In b = false := by with_unfolding_all rfl) : XC X c Γ .In a b (tdOpt n s.l).isSome := by
  refine xc_of (op_dinT hu) (fun F H u v e h1 h2 Q q => ?_) hk he hm
  obtain ⟨a, vs, rfl, k1, k3, k4, k5⟩ := (show FA _ _ _ s.ot from h2).dT
  obtain ⟨b, rfl, kb⟩ := TKey.sq h1
  have rs : Reps X.K F vs (s.l.map (·.2)) := fa_reps (by rw [k4]; simp) (fun i v t g1 g2 => k5 i v t g1 (by simpa using g2))
  have := td_val n rs
  cases hq : tdOpt n s.l with
  | none =>
    rw [hq] at this
    exact ⟨a, b, none, rfl, rfl, ⟨_, _, .inl (e _ _ k1), e.t kb, this.symm⟩, q _ F H (Ex.refl _) e (Ex.refl _) (fun _ h => .inl h) (by show V.bl _ = V.bl _; rw [hq]; rfl)⟩
  | some z =>
    rw [hq] at this
    obtain ⟨z', g1, g2⟩ := this
    exact ⟨a, b, some z', rfl, rfl, ⟨_, _, .inl (e _ _ k1), e.t kb, g1.symm⟩, q _ F H (Ex.refl _) e (Ex.refl _) (fun _ h => .inl h) (by show V.bl _ = V.bl _; rw [hq]; rfl)⟩
theorem l3_td {K : Fg} {F H : Hp} {vs : List V} {fps : List (List Addr)} : ∀ {l : List (υ × τ)}, L3 (OA K F H) vs fps (l.map fun z => OT.fz z.2) → Reps K F vs (l.map (·.2)) := by
  induction vs generalizing fps with
  | nil =>
    intro l r
    have h1 := r.1
    cases l with
    | nil => exact .nil
    | cons => simp at h1
  | cons v vs ih =>
    intro l r
    have h1 := r.1; have h2 := r.2.1
    cases l with
    | nil => simp at h1
    | cons x l =>
      cases fps with
      | nil => simp at h2
      | cons f fps =>
        rw [List.map_cons] at r
        refine .cons ?_ (ih r.tail)
        have := r.head
        cases this with
        | fz q => exact q
/-- P[k], a place -/
theorem xe_tdgetP [Inhabited τ] {s : Td υ τ} {n : υ} (hu : X.A.units + 1 < cLine) (hp : XPl X c Γ ep i p) (hs : Γ[i]? = some (.ow oa t)) (hg : t.get? p = some s.ot) (hk : XE X c Γ ei n) (hm : (tdOpt n s.l).isSome = true) (hns : NoSl ei := by exact fun _ _ => rfl) : XE X c Γ (.Subscript ep ei pos) (tdGet s n) := by
  obtain ⟨te, h1, h2⟩ := hp
  obtain ⟨tk, h3, h4⟩ := hk
  refine ⟨_, pe_dgetT hu h1 h3 hns, fun F H σ fp E Q q => h2 F H σ fp E _ fun v v0 F1 H1 E1 e1 n1 g1 g2 => h4 F1 H1 σ fp E1 _ fun y F2 H2 E2 e2 n2 r2 => ?_⟩
  obtain ⟨v0', a, o, vs, fps, k1, k2, k3, k4, k5, k6, k7, k8, k9⟩ := E2.node hs hg
  have g2' := follow_ex n2.h g2
  rw [g1] at k1; cases k1
  rw [g2'] at k2; cases k2
  obtain ⟨hlen, rfl⟩ := k5
  obtain ⟨b, rfl, kb⟩ := TKey.sq r2
  have rs := l3_td k6
  have := td_val n rs
  cases hq : tdOpt n s.l with
  | none => rw [hq] at hm; cases hm
  | some z =>
    rw [hq] at this
    obtain ⟨z', g3, g4⟩ := this
    refine ⟨a, b, z', rfl, rfl, ⟨_, _, .inl k4, E2.wd.fh.t kb, g3.symm⟩, q _ F2 H2 E2 (e1.trans e2) (n1.trans n2) ?_⟩
    unfold tdGet
    rw [hq]; exact g4
/-- a key that is made where it stands -/
def XKy (X : Cx) (c : Cw) (Γ : List Slot) (e : Expr) (n : υ) : Prop := ∃ te, PE X e te ∧
  ∀ F H σ fp, EnvD X.K c F H σ Γ fp → ∀ Q : VK, (∀ b F' H', EnvD X.K c F' H' σ Γ fp → Ex F F' → Nw F H F' H' → F' b = some (.tup ((TKey.keys n).map kV)) → Q (.ref b) H') → te σ H Q
theorem xky_tup {β : Type} [PyA β] [PyT υ β] [TKeyA υ β] {es : List Expr} {k} {r : β} (h : XA X c Γ es r) : XKy X c Γ (.Tuple es k pos) (PyT.ofA r : υ) := by
  obtain ⟨t, h1, h2⟩ := h
  refine ⟨_, pe_tup h1, fun F H σ fp E Q q => h2 F H σ fp E _ fun vs F1 H1 E1 e1 g1 r1 => ⟨sz _ (by rw [PyT.len (υ := υ) r1]; exact Nat.le_trans (PyT.small (υ := υ)) (show 100 ≤ 100000 by decide)), fun p hp => ?_⟩⟩
  have ef : Ex F1 (upd F1 p (.tup vs)) := Ex.new (E1.ff hp)
  refine q p _ _ (E1.lay hp) (e1.trans ef) (g1.trans (Nw.lay hp)) ?_
  rw [upd_same, TKeyA.of (υ := υ) r1]
theorem repl_zip (n : List Key) (z : V) : ∀ {ks : List (List Key)} {vs : List V}, ((ks.zip vs).map fun kv => if kv.1 = n then (kv.1, z) else kv) = ks.zip ((ks.zip vs).map fun kv => if kv.1 = n then z else kv.2)
  | [], _ => by simp
  | _ :: _, [] => by simp
  | k :: ks, v :: vs => by
    rw [List.zip_cons_cons, List.map_cons, List.map_cons, List.zip_cons_cons, repl_zip n z]
    congr 1
    by_cases e : k = n
    · simp [e]
    · simp [e]
theorem putK_zip {ks : List (List Key)} {vs : List V} (n : List Key) (z : V) (h : ks.length = vs.length) : putK (ks.zip vs) n z = if (valV (ks.zip vs) n).isSome then ks.zip ((ks.zip vs).map fun kv => if kv.1 = n then z else kv.2) else (ks ++ [n]).zip (vs ++ [z]) := by
  unfold putK
  rw [valV_any]
  split
  · exact repl_zip n z
  · rw [List.zip_append h]; rfl
theorem reps_put {K : Fg} {F : Hp} (n : υ) {z : V} {y : τ} (hz : rep K F z y) : ∀ {vs : List V} {l : List (υ × τ)}, Reps K F vs (l.map (·.2)) → Reps K F (((l.map fun z => TKey.keys z.1).zip vs).map fun kv => if kv.1 = TKey.keys n then z else kv.2) ((l.map (fun z => if TKey.keys z.1 = TKey.keys n then (z.1, y) else z)).map (·.2))
  | [], [], _ => .nil
  | v :: vs, x :: l, .cons r t => by
    have ih := reps_put n hz t
    have hz2 : (List.map (fun z : υ × τ => TKey.keys z.1) (x :: l)).zip (v :: vs) = (TKey.keys x.1, v) :: ((l.map fun z => TKey.keys z.1).zip vs) := rfl
    rw [hz2, List.map_cons, List.map_cons, List.map_cons]
    by_cases h : TKey.keys x.1 = TKey.keys n
    · dsimp only
      rw [if_pos h, if_pos h]
      exact .cons hz ih
    · dsimp only
      rw [if_neg h, if_neg h]
      exact .cons r ih
theorem keys_put (n : υ) (y : τ) (l : List (υ × τ)) : ((l.map (fun z => if TKey.keys z.1 = TKey.keys n then (z.1, y) else z)).map fun z => TKey.keys z.1) = l.map fun z => TKey.keys z.1 := by
  rw [List.map_map]
  refine List.map_congr_left fun z _ => ?_
  show TKey.keys (if _ then _ else _ : υ × τ).1 = _
  split <;> rfl
theorem map_fz2 (l : List (υ × τ)) : (l.map fun z => OT.fz z.2) = (l.map (·.2)).map fun z => OT.fz z := by rw [List.map_map]; rfl
theorem flat_rep {β : Type} (l : List β) : (l.map fun _ => ([] : List Addr)).flatten = [] := flat_nil l
/-- P[k] = e -/
theorem xs_tdset {s : Td υ τ} {n : υ} {y : τ} {q1 : Pos} (g : α → OT) {z : α} (hu : X.A.units + 1 < cLine) (he : XE X c Γ e y) (hp : XPl X c Γ ep i p) (hk : XKy X c Γ ei n) (hs : Γ[i]? = some (.ow oa t)) (hg : t.get? p = some s.ot) (hl : s.l.length < 100000) (hy : t.put p (tdPut s n y).ot = g z)
    (hsw : swapsWith e (some (.Subscript ep ei q1)) pos.line X.env = pure false := by rfl) :
    XS X w c Γ (.Assign [.Subscript ep ei q1] e pos) (fun z : α => Γ.set i (.ow oa (g z))) GB (Out.nx z : Out α B R.ρ) := by
  obtain ⟨tv, v1, v2⟩ := he
  obtain ⟨tp, h1, h2⟩ := hp
  obtain ⟨tk, h3, h4⟩ := hk
  refine ⟨_, ps_dput hu h1 h3 v1 hsw, fun F H σ ⟨fp, E⟩ D q => v2 F H σ fp E _ fun v F0 H0 E0 e0 n0 r0 => h2 F0 H0 σ fp E0 _ fun vp v0 F1 H1 E1 e1 n1 g1 g2 => h4 F1 H1 σ fp E1 _ fun b F2 H2 E2 e2 n2 r2 => ?_⟩
  obtain ⟨v0', a, o, vs, fps, k1, k2, k3, k4, k5, k6, k7, k8, k9⟩ := E2.node hs hg
  have g2' := follow_ex n2.h g2
  rw [g1] at k1; cases k1
  rw [g2'] at k2; cases k2
  obtain ⟨hlen, rfl⟩ := k5
  have rs := l3_td k6
  have rv : rep X.K F2 v y := Py.mono (e1.trans e2) r0
  have hl2 : vs.length = s.l.length := by rw [k6.1, List.length_map]
  have tv := td_val n rs
  have hz : (((s.l.map fun z => TKey.keys z.1).zip vs).length) < sizeLine := by
    have : (100000 : Nat) ≤ sizeLine := by decide
    rw [List.length_zip]; omega
  refine ⟨a, _, rfl, DPut.t k4 (E2.wd.fh _ _ r2) hz, ?_⟩
  rw [putK_zip _ _ hlen]
  have nd1 := (List.nodup_cons.mp k7).1
  cases hq : tdOpt n s.l with
  | none =>
    rw [hq] at tv
    rw [tv]
    have es : tdPut s n y = ⟨s.l ++ [(n, y)]⟩ := by unfold tdPut; rw [hq]; rfl
    rw [es] at hy
    obtain ⟨fp', E3, _, _⟩ := k9 (.dT (((s.l.map fun z => TKey.keys z.1) ++ [TKey.keys n]).zip (vs ++ [v]))) (.dT ((s.l.map fun z => TKey.keys z.1) ++ [TKey.keys n])) (vs ++ [v]) ((s.l ++ [(n, y)]).map fun _ => []) ((s.l ++ [(n, y)]).map fun z => OT.fz z.2) ⟨by rw [List.length_append, List.length_append, hlen]; rfl, rfl⟩ (by
      have := l3_fz (H := H2) (rs.app (Reps.one rv))
      have e6 : (s.l ++ [(n, y)]).map (·.2) = s.l.map (·.2) ++ [y] := by rw [List.map_append]; rfl
      have e3 : ((s.l ++ [(n, y)]).map fun _ => ([] : List Addr)) = ((s.l.map (·.2) ++ [y]).map fun _ => []) := by simp
      rw [map_fz2, e6, e3]
      exact this) (by rw [flat_rep]; simp) (by rw [flat_rep]; intro b hb; cases hb)
    have e4 : ((s.l ++ [(n, y)]).map fun z => TKey.keys z.1) = (s.l.map fun z => TKey.keys z.1) ++ [TKey.keys n] := by rw [List.map_append]; rfl
    rw [← e4] at E3 ⊢
    rw [hy] at E3
    exact q σ F2 _ ⟨fp', E3⟩ ((e0.trans e1).trans e2)
  | some y0 =>
    rw [hq] at tv
    obtain ⟨z', tv, _⟩ := tv
    rw [tv]
    have es : tdPut s n y = ⟨s.l.map (fun z : υ × τ => if TKey.keys z.1 = TKey.keys n then (z.1, y) else z)⟩ := by unfold tdPut; rw [hq]; rfl
    rw [es] at hy
    have rp := reps_put n rv rs
    obtain ⟨fp', E3, _, _⟩ := k9 (.dT ((s.l.map fun z : υ × τ => TKey.keys z.1).zip (((s.l.map fun z : υ × τ => TKey.keys z.1).zip vs).map fun kv : List Key × V => if kv.1 = TKey.keys n then v else kv.2))) (.dT (s.l.map fun z : υ × τ => TKey.keys z.1)) _ ((s.l.map (fun z : υ × τ => if TKey.keys z.1 = TKey.keys n then (z.1, y) else z)).map fun _ : υ × τ => []) ((s.l.map (fun z : υ × τ => if TKey.keys z.1 = TKey.keys n then (z.1, y) else z)).map fun z : υ × τ => OT.fz z.2) ⟨by rw [List.length_map, List.length_map, List.length_zip, List.length_map]; omega, rfl⟩ (by
      have := l3_fz (H := H2) rp
      rw [map_fz2]
      have e3 : ((s.l.map (fun z : υ × τ => if TKey.keys z.1 = TKey.keys n then (z.1, y) else z)).map fun _ => ([] : List Addr)) = (((s.l.map (fun z : υ × τ => if TKey.keys z.1 = TKey.keys n then (z.1, y) else z)).map (·.2)).map fun _ : τ => []) := by simp
      rw [e3]
      exact this) (by rw [flat_rep]; simp) (by rw [flat_rep]; intro b hb; cases hb)
    rw [← keys_put n y s.l] at E3 
    have e5 := keys_put n y s.l
    rw [hy] at E3
    rw [if_pos (show (some z').isSome = true from rfl)]
    rw [e5] at E3
    exact q σ F2 _ ⟨fp', E3⟩ ((e0.trans e1).trans e2)
/-- {} -/
theorem xn_td0 : XN X c Γ (.Dict [] [] pos) (Td.ot (⟨[]⟩ : Td υ τ)) := by
  refine ⟨_, pe_dnewT, fun F H σ fp E Q q p hp => ?_⟩
  have hf := E.ff hp
  have E0 : EnvD X.K c F (upd H p (.dT [])) σ Γ fp := E.grow (Ex.refl _) (E.wd.fh.upd hf) (Ex.new hp) fun b h => .inl h
  refine q _ _ _ [p] E0 (Ex.refl _) ⟨Ex.new hp, fun b h => .inl h⟩ ?_ fun b hb => ?_
  · exact OA.mk (fps := []) hf upd_same ⟨rfl, rfl⟩ .nil (by simp)
  · rw [List.mem_singleton] at hb; subst hb; exact hp
end
end Fw
/-! dict(pairs) and update of dicts whose keys are tuples -/
namespace L2
open PySem PySem.Spec PyProof.Rows PyProof
theorem storedAll_new {K : Type} [DecidableEq K] : ∀ {ps acc : List (K × Addr × Value)}, ((acc ++ ps).map (·.1)).Nodup → storedAllH acc ps = acc ++ ps
  | [], acc, _ => by rw [List.append_nil]; rfl
  | p :: r, acc, h => by
    have hn : atKey acc p.1 = none := by
      unfold atKey
      rw [Option.map_eq_none_iff, List.find?_eq_none]
      intro z hz e
      rw [decide_eq_true_eq] at e
      rw [List.map_append, List.map_cons, List.nodup_append] at h
      exact h.2.2 z.1 (List.mem_map_of_mem hz) p.1 (by simp) e
    have h2 : storedH acc p.1 p.2.1 p.2.2 = acc ++ [p] := by unfold storedH; rw [hn]; rfl
    show storedAllH (storedH acc p.1 p.2.1 p.2.2) r = _
    rw [h2, storedAll_new (by rw [List.append_assoc]; exact h), List.append_assoc]; rfl
section
variable {X : Cx}
/-- the pairs (key, value) of a list, the keys tuples that are tracked -/
def KtP (K : PySem.W.Frag) (H : Hp) : List Addr → List (List Key × Addr × V) → Prop := Paired fun p kt => SqT K H p [.ref kt.2.1, kt.2.2] ∧ H kt.2.1 = some (.tup (kt.1.map kV))
theorem pairsT_of {pins : List (Addr × Obj)} {σ : St} {H : Hp} {s : Shared} (I : Inv X pins σ H s) : ∀ {ps : List Addr} {kts : List (List Key × Addr × V)}, KtP X.K H ps kts →
    ∃ prs : List (List Key × Addr × Value), Paired (fun (p : List Key × Addr × V) (q : List Key × Addr × Value) => p.1 = q.1 ∧ p.2.1 = q.2.1 ∧ RelV p.2.2 q.2.2) kts prs ∧ prs.length = ps.length ∧ ∀ (j : Nat) (q : List Key × Addr × Value), prs[j]? = some q → ∃ b : Addr, ps[j]? = some b ∧ IsTup s.heap b #[.ref q.2.1, q.2.2]
  | _, _, .nil => ⟨[], .nil, rfl, fun j q e => by simp at e⟩
  | _, _, .cons (a := p) (b := kt) h t => by
    obtain ⟨prs, r, hl, hp⟩ := pairsT_of I t
    obtain ⟨its, rv, ht, _⟩ := I.tuple h.1
    obtain ⟨u, y, ei, ru, ry⟩ := vals2 rv
    subst ei
    cases ru
    refine ⟨(kt.1, kt.2.1, y) :: prs, .cons ⟨rfl, rfl, ry⟩ r, by rw [List.length_cons, List.length_cons, hl], fun j q e => ?_⟩
    cases j with
    | zero =>
      have e' : (kt.1, kt.2.1, y) = q := Option.some.inj e
      subst e'
      exact ⟨p, rfl, ht⟩
    | succ j =>
      obtain ⟨b, e1, e3⟩ := hp j q (by simpa using e)
      exact ⟨b, by simpa using e1, e3⟩
theorem pairT_keys {kts : List (List Key × Addr × V)} {prs : List (List Key × Addr × Value)} (r : Paired (fun (p : List Key × Addr × V) (q : List Key × Addr × Value) => p.1 = q.1 ∧ p.2.1 = q.2.1 ∧ RelV p.2.2 q.2.2) kts prs) : kts.map (·.1) = prs.map (·.1) := by
  induction r with
  | nil => rfl
  | cons h t ih => rw [List.map_cons, List.map_cons, ih, h.1]
theorem isKey_keep {P : Program} {w : World} {h h' : Heap} {ks : List Key} {a : Addr} (x : (tupleKind (mixKind P w)).is h ks a) (k : ∀ o, h.get? a = some o → h'.get? a = some o) : (tupleKind (mixKind P w)).is h' ks a := by
  obtain ⟨o, its, n, h1, h2, h3, h4⟩ := (show IsTupleKey (mixKind P w) h ks a from x)
  exact ⟨o, its, n, k o h1, h2, h3, h4⟩
/-- dict(xs) of a list of pairs, the keys tuples, each once -/
theorem call_dictPT (hcalm : X.calm = true) (hu : X.A.units + 64 < cLine) : CallR X (.type "dict") (fun xs H Q => ∃ (a : Addr) (ps : List Addr) (kts : List (List Key × Addr × V)), xs = [.ref a] ∧ SqL X.K H a (ps.map V.ref) ∧ KtP X.K H ps kts ∧ (kts.map (·.1)).Nodup ∧
    ∀ p, H p = none → Q (.ref p) (upd H p (.dT (kts.map fun k => (k.1, k.2.2))))) := by
  intro pins s σ H xs us Q I r q
  obtain ⟨a, ps, kts, ex, hq, hp, hnd, q⟩ := q
  subst ex
  obtain ⟨u, eu, rx⟩ := vals1 r
  subst eu
  cases rx
  obtain ⟨its, rv, pl, hz⟩ := I.list hq
  have ei := refs_at rv
  subst ei
  rw [List.length_map] at hz
  obtain ⟨prs, rel, hl, hpr⟩ := pairsT_of I hp
  obtain ⟨o, n, ho, hc, hd, hdat⟩ := pl
  have hk := pairT_keys rel
  have keyAt : ∀ x ∈ prs, (tupleKind (mixKind X.prog X.w)).is s.heap x.1 x.2.1 := by
    clear hl hpr hnd hk
    intro x hx
    have all : ∀ {ps : List Addr} {kts : List (List Key × Addr × V)} {prs : List (List Key × Addr × Value)}, KtP X.K H ps kts → Paired (fun (p : List Key × Addr × V) (q : List Key × Addr × Value) => p.1 = q.1 ∧ p.2.1 = q.2.1 ∧ RelV p.2.2 q.2.2) kts prs → ∀ x ∈ prs, H x.2.1 = some (.tup (x.1.map kV)) := by
      intro ps kts prs h1 h2
      induction h1 generalizing prs with
      | nil => cases h2; intro x hx; cases hx
      | cons h t ih =>
        cases h2 with
        | cons g u =>
          intro x hx
          rcases List.mem_cons.mp hx with rfl | hx
          · rw [← g.1, ← g.2.1]; exact h.2
          · exact ih u x hx
    exact key_of I.hok (all hp rel x hx)
  have P := PairArg.list (prog := X.prog) (w := X.w) a (ps.map Value.ref).toArray (fun j => (ps[j]?).getD 0) (prs.map fun x => ((.ref x.2.1 : Value), x.2.2))
  rw [List.length_map] at P
  have ok : PlainSeq "list" s.heap a (ps.map Value.ref).toArray ∧ PairItems s.heap (ps.map Value.ref).toArray (fun j => (ps[j]?).getD 0) (prs.map fun x => ((.ref x.2.1 : Value), x.2.2)) := by
    refine ⟨⟨o, n, ho, hc, hd, hdat⟩, ?_, fun j k v e => ?_⟩
    · rw [List.length_map, hl]; simp
    · rw [List.getElem?_map] at e
      cases e2 : prs[j]? with
      | none => rw [e2] at e; cases e
      | some q =>
        rw [e2] at e
        have e := Option.some.inj e
        injection e with e3 e4
        subst e3; subst e4
        obtain ⟨b, g1, g2⟩ := hpr j q e2
        refine ⟨by simp [g1], .inl ?_⟩
        show s.heap.IsTuple ((ps[j]?).getD 0) _
        rw [g1]
        exact g2
  have pf : PairsHaveH (tupleKind (mixKind X.prog X.w)) prs.length (PairRel (prs.map fun x => ((.ref x.2.1 : Value), x.2.2))) prs := by
    refine ⟨rfl, fun i key v e => ?_⟩
    have e : (prs.map fun x => ((.ref x.2.1 : Value), x.2.2))[i]? = some (key, v) := e
    rw [List.getElem?_map] at e
    cases e2 : prs[i]? with
    | none => rw [e2] at e; cases e
    | some q =>
      rw [e2] at e
      have e := Option.some.inj e
      injection e with e3 e4
      exact ⟨q.1, q.2.1, by rw [← e4], e3.symm⟩
  refine call_dict_pairsH (knd := tupleKind (mixKind X.prog X.w)) (ps := prs) P (I.ok.hd hcalm) (by
      show (X.A.in1.in1).units < cLine
      have : X.A.in1.in1.units = X.A.units + 2 := rfl
      omega) ok pf (fun h' hk' x hx => isKey_keep (keyAt x hx) fun o ho' => hk' _ o (Nat.ne_of_lt (Heap.lt_size ho')) (by simp) ho') (by rw [hl]; exact hz) fun h' tk hd' k => ?_
  · have hm : (s.heap.objs.size == sysModules) = false := beq_eq_false_iff_ne.mpr (Nat.ne_of_gt I.big)
    rw [storedAll_new (by rw [List.nil_append, ← hk]; exact hnd), List.nil_append] at hd'
    have hfresh : H s.heap.objs.size = none := I.hok.fresh (Nat.le_refl _)
    have hlen : (kts.map fun k => (k.1, k.2.2)).length ≤ sizeLine := by
      rw [List.length_map, Paired.length rel, hl]; exact hz
    obtain ⟨oo, es, ep, d1, d2, d3, d4, d5, d6⟩ := hd'
    have kt : KT (upd H s.heap.objs.size (.dT (kts.map fun k => (k.1, k.2.2)))) (kts.map fun k => (k.1, k.2.2)) prs := by
      have all : ∀ {ps : List Addr} {kts : List (List Key × Addr × V)} {prs : List (List Key × Addr × Value)} (u : HO), KtP X.K H ps kts → Paired (fun (p : List Key × Addr × V) (q : List Key × Addr × Value) => p.1 = q.1 ∧ p.2.1 = q.2.1 ∧ RelV p.2.2 q.2.2) kts prs → KT (upd H s.heap.objs.size u) (kts.map fun k => (k.1, k.2.2)) prs := by
        intro ps kts prs u h1 h2
        induction h1 generalizing prs with
        | nil => cases h2; exact .nil
        | cons h t ih =>
          cases h2 with
          | cons g v =>
            refine .cons ⟨g.1, ?_, g.2.2⟩ (ih v)
            rw [← g.2.1, upd_ne (fun z => by rw [z, hfresh] at h; cases h.2)]
            exact h.2
      exact all _ hp rel
    exact ⟨.ref s.heap.objs.size, _, I.laid (t' := tk) (fun b u e => k b u (by simp) e) (Nat.le_refl _) (show ObjOk X.prog X.w _ _ _ (.dT _) from ⟨hlen, hm, prs, kt, oo, es, ep, d1, d2, d3, d4, d6⟩), rfl, q _ hfresh⟩
/-- d.update(d2), all keys new -/
def rDUpdT (hs : List Key → Int) : V → List V → Hp → VK → Prop := fun x vs H Q => ∃ a b kvs more, x = V.ref a ∧ vs = [V.ref b] ∧ a ≠ b ∧ H a = some (.dT kvs) ∧ H b = some (.dT more) ∧ kvs.length + more.length ≤ sizeLine ∧ ((kvs ++ more).map (·.1)).Nodup ∧ (kvs ≠ [] ∨ (more.map fun x => hs x.1).Nodup) ∧ Q .non (upd H a (.dT (kvs ++ more)))
theorem mt_dupdT (hu : X.A.units + 64 < cLine) : MtR X "dict.update" (rDUpdT (tupleKind (mixKind X.prog X.w)).hash) := by
  intro pins s σ H x vs v us Q I rx rv h
  obtain ⟨a, b, kvs, more, rfl, rfl, hab, ha, hb, hl, hnd, hh, q⟩ := h
  cases rx
  obtain ⟨u, rfl, ru⟩ := rv.one
  cases ru
  obtain ⟨z1, hd1, ws1, r1, d1⟩ := dt_of I.hok ha
  obtain ⟨z2, hd2, ws2, r2, d2⟩ := dt_of I.hok hb
  have kk : ∀ {H : Hp} {l : List (List Key × V)} {m : List (List Key × Addr × Value)}, KT H l m → l.map (·.1) = m.map (·.1) := by
    intro H l m r
    induction r with
    | nil => rfl
    | cons h t ih => rw [List.map_cons, List.map_cons, ih, h.1]
  have nd : ((ws1 ++ ws2).map (·.1)).Nodup := by
    rw [List.map_append, ← kk r1, ← kk r2, ← List.map_append]; exact hnd
  refine call_update_dictH (knd := tupleKind (mixKind X.prog X.w)) (by
      show X.A.in1.units < cLine
      have : X.A.in1.units = X.A.units + 1 := rfl
      omega) hab hd2 d1 d2 ?_ (by rw [← Paired.length r1, ← Paired.length r2]; exact hl) fun h' dd' dd2 hs => ⟨.non, _, ?_, rfl, q⟩
  · rcases hh with h | h
    · refine .inl fun e => h ?_
      have := Paired.length r1
      rw [e] at this
      exact List.length_eq_zero_iff.mp this
    · refine .inr ⟨fun x hx => ?_, ?_⟩
      · have all : ∀ {l : List (List Key × V)} {m : List (List Key × Addr × Value)}, KT H l m → ∀ x ∈ m, H x.2.1 = some (.tup (x.1.map kV)) := by
          intro l m r
          induction r with
          | nil => intro x hx; cases hx
          | cons h t ih =>
            intro x hx
            rcases List.mem_cons.mp hx with rfl | hx
            · rw [← h.1]; exact h.2.1
            · exact ih x hx
        exact IsTupleKey.typeIs (key_of I.hok (all r2 x hx))
      · have e1 : (ws2.map fun x => (tupleKind (mixKind X.prog X.w)).hash x.1) = (ws2.map (·.1)).map (tupleKind (mixKind X.prog X.w)).hash := by rw [List.map_map]; rfl
        have e2 : (more.map fun x => (tupleKind (mixKind X.prog X.w)).hash x.1) = (more.map (·.1)).map (tupleKind (mixKind X.prog X.w)).hash := by rw [List.map_map]; rfl
        rw [e1, ← kk r2, ← e2]; exact h
  · rw [storedAll_new nd] at dd'
    obtain ⟨oo, es, ep, g1, g2, g3, g4, g5, g6⟩ := dd'
    have kt : KT (upd H a (.dT (kvs ++ more))) (kvs ++ more) (ws1 ++ ws2) := by
      have ap : ∀ {l : List (List Key × V)} {m : List (List Key × Addr × Value)} {l2 : List (List Key × V)} {m2 : List (List Key × Addr × Value)}, KT H l m → KT H l2 m2 → KT H (l ++ l2) (m ++ m2) := by
        intro l m l2 m2 r r'
        induction r with
        | nil => exact r'
        | cons h t ih => exact .cons h ih
      refine (ap r1 r2).keeps fun c ys ec => ?_
      rw [upd_ne (ne_of ec ha (fun z => nomatch z))]
      exact ec
    exact d_write (t' := s.toks) I (by rw [ha]; exact True.intro) hs ⟨oo, g1⟩ ⟨by rw [List.length_append]; exact hl, hd1, _, kt, oo, es, ep, g1, g2, g3, g4, g6⟩
end
end L2
namespace Fw
open PySem L2 Py PyProof.Rows PyProof
/-- a tuple that is a key and stands as it was made -/
structure Kk (υ : Type) where
  x : υ
instance {υ : Type} [Inhabited υ] : Inhabited (Kk υ) := ⟨⟨default⟩⟩
instance {υ : Type} [Py υ] [TKey υ] : Py (Kk υ) := ⟨fun K F v k => rep K F v k.x ∧ ∃ p, v = .ref p ∧ F p = some (.tup ((TKey.keys k.x).map kV)), fun e ⟨r, p, h1, h2⟩ => ⟨Py.mono e r, p, h1, e _ _ h2⟩⟩
/-- the hashes of keys of whole numbers -/
def hashI (k : Key) : Int := match k with | .inl i => PySem.hashInt i | .inr _ => 0
def hashT {υ : Type} [Py υ] [TKey υ] (x : υ) : Int := reduceHash (Builtin.Tuple.tupleHashOf ((TKey.keys x).map hashI))
class TKeyI (υ : Type) [Py υ] [TKey υ] : Prop where
  it : ∀ x : υ, ∀ k ∈ TKey.keys x, ∃ i, k = .inl i
instance : TKeyI (Int × Int) := ⟨fun x k hk => by
  rcases List.mem_cons.mp hk with rfl | hk
  · exact ⟨_, rfl⟩
  · rcases List.mem_cons.mp hk with rfl | hk
    · exact ⟨_, rfl⟩
    · cases hk⟩
section
variable {X : Cx} {w : Wx} {c : Cw} {Γ Γ' : List Slot} {S S' B τ υ ζ α : Type} [Py τ] [Py υ] [TKey υ] [Py ζ] {R : Rc} {G : S → List Slot} {GB : B → List Slot} {o : Out S B R.ρ} {pos : Pos} {rest : List Stmt} {e d a b ep ei : Expr} {k : Bool} {t u : OT} {ts us : List OT} {i : Nat} {p : List Nat} {oa : Option Addr}
theorem xe_kk {x : Kk υ} (h : XE X c Γ e x) : XE X c Γ e x.x := h.coe fun F v r => r.1
/-- (.., ..), a key -/
theorem xe_tupK {β : Type} [PyA β] [PyT υ β] [TKeyA υ β] {es : List Expr} {k} {r : β} (h : XA X c Γ es r) : XE X c Γ (.Tuple es k pos) (⟨PyT.ofA r⟩ : Kk υ) := by
  obtain ⟨t, h1, h2⟩ := h
  refine ⟨_, pe_tup h1, fun F H σ fp E Q q => h2 F H σ fp E _ fun vs F1 H1 E1 e1 g1 r1 => ⟨sz _ (by rw [PyT.len (υ := υ) r1]; exact Nat.le_trans (PyT.small (υ := υ)) (show 100 ≤ 100000 by decide)), fun p hp => ?_⟩⟩
  have ef : Ex F1 (upd F1 p (.tup vs)) := Ex.new (E1.ff hp)
  refine q _ _ _ (E1.lay hp) (e1.trans ef) (g1.trans (Nw.lay hp)) ⟨PyT.of (st_of upd_same) (PyA.mono ef r1), p, rfl, ?_⟩
  rw [upd_same, TKeyA.of (υ := υ) r1]
theorem ktP_of {K : Fg} {F : Hp} : ∀ {vs : List V} {xs : List (Kk υ × τ)}, Reps K F vs xs → ∃ (ps : List Addr) (ws : List V) (kts : List (List Key × Addr × V)), vs = ps.map V.ref ∧ KtP K F ps kts ∧ (kts.map fun k => (k.1, k.2.2)) = (xs.map fun z => TKey.keys z.1.x).zip ws ∧ kts.map (·.1) = (xs.map fun z => TKey.keys z.1.x) ∧ Reps K F ws (xs.map (·.2))
  | _, _, .nil => ⟨[], [], [], rfl, .nil, rfl, rfl, .nil⟩
  | _, _, .cons (b := x) h t => by
    obtain ⟨ps, ws, kts, h1, h2, h3, h4, h5⟩ := ktP_of t
    obtain ⟨q, a, b, rfl, g1, ⟨g2, p', rfl, g3⟩, g4⟩ := h
    refine ⟨q :: ps, b :: ws, (TKey.keys x.1.x, p', b) :: kts, by rw [h1]; rfl, .cons ⟨g1, g3⟩ h2, by rw [List.map_cons, List.map_cons, List.zip_cons_cons, h3], by rw [List.map_cons, List.map_cons, h4], .cons g4 h5⟩
/-- dict(xs), xs pairs of a key and a thing, each key once -/
theorem xn_dictPT {xs : List (Kk υ × τ)} {q : Pos} (hu : X.A.units + 64 < cLine) (hm : X.mg "dict" = none) (ha : XE X c Γ a xs) (hk : (xs.map fun z => TKey.keys z.1.x).Nodup) (hc : X.calm = true := by rfl) (hg : Gl X "dict" := by rfl) (hs : starEach [a] X.env = [(false, eval a X.env)] := by rfl) :
    XN X c Γ (.Call (.Name "dict" q) [a] [] pos) (Td.ot (⟨xs.map fun z => (z.1.x, z.2)⟩ : Td υ τ)) := by
  obtain ⟨ta, h1, h2⟩ := ha
  refine ⟨_, pe_callTy (call_dictPT hc hu) hg hm (by decide +kernel) (pa_cons h1 pa_nil hs) (by decide) (by decide) hs rfl, fun F H σ fp E Q q => h2 F H σ fp E _ fun v F1 H1 E1 e1 n1 r1 => ?_⟩
  obtain ⟨ad, vs, rfl, r3, r4⟩ := r1
  obtain ⟨ps, ws, kts, rfl, k1, k2, k3, k4⟩ := ktP_of r4
  have k1' : KtP X.K H1 ps kts := by
    have all : ∀ {ps : List Addr} {kts : List (List Key × Addr × V)}, KtP X.K F1 ps kts → KtP X.K H1 ps kts := by
      intro ps kts r
      induction r with
      | nil => exact .nil
      | cons h t ih => exact .cons ⟨E1.wd.fh.t h.1, E1.wd.fh _ _ h.2⟩ ih
    exact all k1
  refine ⟨ad, ps, kts, rfl, sq_of (E1.wd.fh _ _ r3), k1', by rw [k3]; exact hk, fun p hp => ?_⟩
  rw [k2]
  have hf := E1.ff hp
  have E2 : EnvD X.K c F1 (upd H1 p (.dT ((xs.map fun z => TKey.keys z.1.x).zip ws))) σ Γ fp := E1.grow (Ex.refl _) (E1.wd.fh.upd hf) (Ex.new hp) fun b h => .inl h
  refine q _ _ _ (p :: ((xs.map (·.2)).map fun _ => ([] : List Addr)).flatten) E2 e1 (n1.trans ⟨Ex.new hp, fun b h => .inl h⟩) ?_ fun b hb => ?_
  · have e1 : ((xs.map fun z => (z.1.x, z.2)).map fun z : υ × τ => TKey.keys z.1) = xs.map fun z => TKey.keys z.1.x := by rw [List.map_map]; rfl
    have e2 : ((xs.map fun z => (z.1.x, z.2)).map fun z : υ × τ => OT.fz z.2) = (xs.map (·.2)).map fun z => OT.fz z := by rw [List.map_map, List.map_map]; rfl
    show OA _ _ _ _ _ (.nd (.dT _) _)
    rw [e1, e2]
    exact OA.mk hf upd_same ⟨by rw [List.length_map, k4.length, List.length_map], rfl⟩ (l3_fz k4) (by rw [flat_nil]; simp)
  · rw [flat_nil] at hb
    rw [List.mem_singleton] at hb
    subst hb
    cases z : H b with
    | none => rfl
    | some o => rw [n1.h _ _ z] at hp; cases hp
theorem hash_int [TKeyI υ] (x : υ) : (tupleKind (mixKind X.prog X.w)).hash (TKey.keys x) = hashT x := by
  show reduceHash (Builtin.Tuple.tupleHashOf ((TKey.keys x).map (keyH X.w))) = _
  unfold hashT
  congr 2
  refine List.map_congr_left fun k hk => ?_
  obtain ⟨i, rfl⟩ := TKeyI.it x k hk
  rfl
/-- P.update(e), all keys new -/
theorem xs_tdupd [TKeyI υ] {q1 q2 : Pos} {s s2 : Td υ τ} (g : α → OT) {y : α} (hu : X.A.units + 64 < cLine) (hp : XPl X c Γ ep i p) (he : XN X c Γ e s2.ot) (hs : Γ[i]? = some (.ow oa t)) (hg : t.get? p = some s.ot) (hk : ((s.l ++ s2.l).map fun z => TKey.keys z.1).Nodup ∧ (s.l ++ s2.l).length ≤ 100000) (hh : s.l ≠ [] ∨ (s2.l.map fun z => hashT z.1).Nodup) (hy : t.put p (Td.ot ⟨s.l ++ s2.l⟩) = g y)
    (hst : starEach [e] X.env = [(false, eval e X.env)] := by rfl)
    (hsw : swapsWith (.Call (.Attribute ep "update" q1) [e] [] q2) none pos.line X.env = pure false := by rfl) (hab : attributeBase ep "update" X.env (eval ep X.env) = eval ep X.env := by rfl) (hln : (q1.endLine == q2.line) = true := by rfl)
    (hfew : ((backTo q2 (starEach [e] X.env)).all (fun x => !x.1) && (backToKw q2 (keywordEach [] X.env)).all (fun x => x.1.isSome) && decide (([e] : List Expr).length + ([] : List Keyword).length + (if ([] : List Keyword).isEmpty then 0 else 1) < 30)) = true := by rfl) :
    XS X w c Γ (.Expr (.Call (.Attribute ep "update" q1) [e] [] q2) pos) (fun y : α => Γ.set i (.ow oa (g y))) GB (Out.nx y : Out α B R.ρ) := by
  obtain ⟨te, h1, h2⟩ := he
  obtain ⟨tp, h3, h4⟩ := hp
  refine ⟨_, ps_expr (pe_bm PySem.F.plainAttrs_dict PySem.F.slot_dict_update PySem.F.type_dict_update (mt_dupdT hu) h3 (pa_cons h1 pa_nil hst) hab hfew hln hst rfl) hsw, fun F H σ ⟨fp, E⟩ D q => h4 F H σ fp E _ fun vp v0 F1 H1 E1 e1 n1 g1 g2 => ?_⟩
  have typ : tyV X.K "dict" vp H1 := by
    obtain ⟨v0', a, o, vs, fps, k1, k2, k3, k4, k5, _⟩ := E1.node hs hg
    rw [g1] at k1; cases k1
    rw [g2] at k2; cases k2
    obtain ⟨_, rfl⟩ := k5
    exact .inr (.inr (.inl ⟨rfl, .inr ⟨_, k4⟩⟩))
  refine ⟨typ, h2 F1 H1 σ fp E1 _ fun v F2 H2 l E2 e2 n2 r1 hl1 => ?_⟩
  obtain ⟨v0', a, o, vs, fps, k1, k2, k3, k4, k5, k6, k7, k8, k9⟩ := E2.node hs hg
  have g2' := follow_ex n2.h g2
  rw [g1] at k1; cases k1
  rw [g2'] at k2; cases k2
  obtain ⟨hlen, rfl⟩ := k5
  obtain ⟨b, o2, ws, gps, rfl, rfl, hF, hH, ko, hc, nd2⟩ := r1.l3
  obtain ⟨hlen2, rfl⟩ := ko
  have fr : ∀ x ∈ b :: gps.flatten, c.al x ∧ ∀ j, x ∉ fp j := fun x hx => ⟨E1.wd.fresh (hl1 x hx), E1.fresh (hl1 x hx)⟩
  have ha : H1 a ≠ none := by
    obtain ⟨v0'', a', o', vs', fps', l1, l2, _, l4, _⟩ := E1.node hs hg
    rw [g1] at l1; cases l1
    rw [g2] at l2; cases l2
    rw [l4]; simp
  have hab' : a ≠ b := fun z => ha (by rw [z]; exact hl1 b (List.mem_cons_self ..))
  obtain ⟨m1, m2⟩ := nd_app (gps := gps) k7 (List.nodup_cons.mp nd2).2 (fun x hx h => (fr x (List.mem_cons_of_mem _ hx)).2 i (k8 x h))
  have hvs : vs.length = s.l.length := by rw [k6.1, List.length_map]
  have hws : ws.length = s2.l.length := by rw [hc.1, List.length_map]
  have z1 : ((s.l.map fun z => TKey.keys z.1).zip vs).map (·.1) = s.l.map fun z => TKey.keys z.1 := by rw [List.map_fst_zip]; omega
  have z2 : ((s2.l.map fun z => TKey.keys z.1).zip ws).map (·.1) = s2.l.map fun z => TKey.keys z.1 := by rw [List.map_fst_zip]; omega
  have em : (s.l.map fun z => TKey.keys z.1).zip vs ++ (s2.l.map fun z => TKey.keys z.1).zip ws = ((s.l ++ s2.l).map fun z => TKey.keys z.1).zip (vs ++ ws) := by
    rw [List.map_append, List.zip_append hlen]
  have e6 : ((s.l ++ s2.l).map fun z => OT.fz z.2) = (s.l.map fun z => OT.fz z.2) ++ (s2.l.map fun z => OT.fz z.2) := List.map_append
  obtain ⟨fp', E3, _, _⟩ := k9 (.dT (((s.l ++ s2.l).map fun z => TKey.keys z.1).zip (vs ++ ws))) (.dT ((s.l ++ s2.l).map fun z => TKey.keys z.1)) (vs ++ ws) (fps ++ gps) ((s.l ++ s2.l).map fun z => OT.fz z.2) ⟨by rw [List.length_map, List.length_append, List.length_append]; omega, rfl⟩ (by rw [e6]; exact k6.app hc) m1 (fun x hx => (m2 x hx).imp id fun h => fr x (List.mem_cons_of_mem _ h))
  rw [hy] at E3
  refine ⟨a, b, _, _, rfl, rfl, hab', k4, hH, ?_, ?_, ?_, ?_⟩
  · have h100 : (100000 : Nat) ≤ sizeLine := by decide
    have := hk.2
    rw [List.length_append] at this
    rw [List.length_zip, List.length_zip]; omega
  · rw [List.map_append, z1, z2, ← List.map_append]; exact hk.1
  · rcases hh with h | h
    · refine .inl fun e => h ?_
      have := congrArg List.length e
      rw [List.length_zip, List.length_nil, List.length_map] at this
      exact List.length_eq_zero_iff.mp (by omega)
    · refine .inr ?_
      have e7 : (((s2.l.map fun z => TKey.keys z.1).zip ws).map fun x => (tupleKind (mixKind X.prog X.w)).hash x.1) = s2.l.map fun z => hashT z.1 := by
        have : (((s2.l.map fun z => TKey.keys z.1).zip ws).map fun x => (tupleKind (mixKind X.prog X.w)).hash x.1) = (((s2.l.map fun z => TKey.keys z.1).zip ws).map (·.1)).map (tupleKind (mixKind X.prog X.w)).hash := by rw [List.map_map]; rfl
        rw [this, z2, List.map_map]
        exact List.map_congr_left fun z _ => hash_int z.1
      rw [e7]; exact h
  · rw [em]
    exact q σ F2 _ ⟨fp', E3⟩ (e1.trans e2)
end
end Fw
/-! index of a list of texts; slices of tuples of five -/
namespace Fw
open PySem L2 Py PyProof.Rows
theorem flatSs (xs : List Str) : (xs.map V.str).all flatV = true := by
  induction xs with
  | nil => rfl
  | cons x r ih => rw [List.map_cons, List.all_cons, ih]; rfl
section
variable {X : Cx} {c : Cw} {Γ : List Slot} {a o e : Expr} {pos ap : Pos}
theorem xe_lidxS {xs : List Str} {b : Str} (ho : XE X c Γ o xs) (he : XE X c Γ e b) (hm : b ∈ xs) (hst : starEach [e] X.env = [(false, eval e X.env)] := by rfl) (hab : attributeBase o "index" X.env (eval o X.env) = eval o X.env := by rfl) (hln : (ap.endLine == pos.line) = true := by rfl)
    (hfew : ((backTo pos (starEach [e] X.env)).all (fun x => !x.1) && (backToKw pos (keywordEach [] X.env)).all (fun x => x.1.isSome) && decide (([e] : List Expr).length + ([] : List Keyword).length + (if ([] : List Keyword).isEmpty then 0 else 1) < 30)) = true := by rfl) :
    XE X c Γ (.Call (.Attribute o "index" ap) [e] [] pos) (idxS xs b) := by
  obtain ⟨t1, a1, a2⟩ := ho
  obtain ⟨t2, b1, b2⟩ := he
  refine ⟨_, pe_bm PySem.F.plainAttrs_list PySem.F.slot_list_index PySem.F.type_list_index mt_index a1 (pa_cons b1 pa_nil hst) hab hfew hln hst rfl, fun F H σ fp E Q q => a2 F H σ fp E _ fun v F1 H1 E1 e1 g1 r1 => ?_⟩
  obtain ⟨a, vs, rfl, r2, r3⟩ := r1
  refine ⟨.inl ⟨rfl, _, sq_of (E1.wd.fh _ _ r2)⟩, b2 F1 H1 σ fp E1 _ fun u F2 H2 E2 e2 g2 ru => ?_⟩
  cases (show u = V.str b from ru)
  have hvs := repsS r3
  subst hvs
  have hj : xs.findIdx (fun z => z == b) < xs.length := List.findIdx_lt_length_of_exists ⟨b, hm, by simp⟩
  have hz := List.findIdx_getElem (p := fun z => z == b) (w := hj)
  refine ⟨a, _, _, xs.findIdx (fun z => z == b), V.str b, rfl, rfl, sq_of (E2.wd.fh _ _ (e2 _ _ r2)), rfl, flatSs xs, ?_, by show (b == b) = true; simp, fun m z' hm' hz' => ?_, q _ F2 H2 E2 (e1.trans e2) (g1.trans g2) rfl⟩
  · rw [List.getElem?_map, List.getElem?_eq_getElem hj]
    have : xs[xs.findIdx fun z => z == b] = b := by simpa using hz
    rw [this]; rfl
  · have hml : m < xs.length := by omega
    rw [List.getElem?_map, List.getElem?_eq_getElem hml] at hz'
    cases hz'
    have := List.not_of_lt_findIdx hm'
    show (xs[m] == b) = false
    simpa using this
theorem xe_t5bcde {α β γ δ ε : Type} [Py α] [Py β] [Py γ] [Py δ] [Py ε] {x : T5 α β γ δ ε} {lo : Option Expr} {p2 : Pos} (ha : XE X c Γ a x) (h1 : XP X c Γ lo (some 1)) : XE X c Γ (.Subscript a (.Slice lo none none p2) pos) (T4.mk x.b x.c x.d x.e) := by
  obtain ⟨t, a1, a2⟩ := ha
  obtain ⟨u, b1, b2⟩ := h1
  obtain ⟨w, c1, c2⟩ := (xp_none : XP X c Γ none none)
  refine ⟨_, pe_slice sl_tup a1 b1 c1, fun F H σ fp E Q q => a2 F H σ fp E _ fun v F1 H1 E1 e1 g1 r1 => b2 F1 H1 σ fp E1 _ fun F2 H2 E2 e2 g2 => c2 F2 H2 σ fp E2 _ fun F3 H3 E3 e3 g3 => ?_⟩
  obtain ⟨p, v1, v2, v3, v4, v5, rfl, r2, r3, r4, r5, r6, r7⟩ := Py.mono (e2.trans e3) r1
  refine ⟨p, [v1, v2, v3, v4, v5], rfl, E3.wd.fh.t r2, fun h => absurd (show HT.sIx 5 0 (some 1) = 0 from h.1) (by decide), fun l hl => ?_⟩
  have ef : Ex F3 (upd F3 l (.tup (cutV [v1, v2, v3, v4, v5] (some 1) none))) := Ex.new (E3.ff hl)
  exact q _ _ _ (E3.lay hl) (((e1.trans e2).trans e3).trans ef) (((g1.trans g2).trans g3).trans (Nw.lay hl)) ⟨l, v2, v3, v4, v5, rfl, st_of upd_same, Py.mono ef r4, Py.mono ef r5, Py.mono ef r6, Py.mono ef r7⟩
/-- a tuple of a sort is none of no parts -/
theorem xe_coe1 {τ υ : Type} [Py τ] [Py υ] {x : τ} {y : υ} (h : XE X c Γ a x) (k : ∀ {K : Fg} {F : Hp} {v : V}, rep K F v x → rep K F v y) : XE X c Γ a y := h.coe fun F v r => k r
end
end Fw
namespace Fw
open PySem L2 Py PyProof.Rows
theorem Td.otl {υ τ : Type} [Py υ] [TKey υ] [Py τ] [PyTl τ] (d : Td υ τ) : OTl d.ot := OTl.nd fun t ht => by
  obtain ⟨z, _, rfl⟩ := List.mem_map.mp ht
  exact OTl.fz
end Fw
namespace Fw
open PySem L2 Py PyProof.Rows
instance {α β γ δ : Type} [Py α] [Py β] [Py γ] [Py δ] : PyNv (T4 α β γ δ) := ⟨fun ⟨a, _, _, _, _, h1, _⟩ z => by rw [h1] at z; cases z⟩
instance {α β γ δ ε : Type} [Py α] [Py β] [Py γ] [Py δ] [Py ε] : PyNv (T5 α β γ δ ε) := ⟨fun ⟨a, _, _, _, _, _, h1, _⟩ z => by rw [h1] at z; cases z⟩
section
variable {X : Cx} {c : Cw} {Γ : List Slot} {α β γ δ ε : Type} [Py α] [Py β] [Py γ] [Py δ] [Py ε] {a : Expr} {pos : Pos} {p5 : T5 α β γ δ ε}
theorem xe_t5a (ha : XE X c Γ a p5) {j q} (hs : PlainIx (.Constant (.int 0) j q) := by exact fun _ _ => rfl) : XE X c Γ (.Subscript a (.Constant (.int 0) j q) pos) p5.a :=
  xe_bin (t := fun a _ => a) (y := (0 : Int)) (fun h1 h2 => pe_ix ix_tup h1 h2 hs) (fun F H u v e h1 h2 Q q => by
    obtain ⟨p, v1, v2, v3, v4, v5, rfl, r1, r2, r3, r4, r5, r6⟩ := h1
    exact ⟨p, [v1, v2, v3, v4, v5], 0, v1, rfl, h2, e.t r1, rfl, q _ F H (Ex.refl _) e (Ex.refl _) (fun _ h => .inl h) r2⟩) ha xe_int
theorem xe_t5b (ha : XE X c Γ a p5) {j q} (hs : PlainIx (.Constant (.int 1) j q) := by exact fun _ _ => rfl) : XE X c Γ (.Subscript a (.Constant (.int 1) j q) pos) p5.b :=
  xe_bin (t := fun a _ => a) (y := (1 : Int)) (fun h1 h2 => pe_ix ix_tup h1 h2 hs) (fun F H u v e h1 h2 Q q => by
    obtain ⟨p, v1, v2, v3, v4, v5, rfl, r1, r2, r3, r4, r5, r6⟩ := h1
    exact ⟨p, [v1, v2, v3, v4, v5], 1, v2, rfl, h2, e.t r1, rfl, q _ F H (Ex.refl _) e (Ex.refl _) (fun _ h => .inl h) r3⟩) ha xe_int
theorem xe_t5c (ha : XE X c Γ a p5) {j q} (hs : PlainIx (.Constant (.int 2) j q) := by exact fun _ _ => rfl) : XE X c Γ (.Subscript a (.Constant (.int 2) j q) pos) p5.c :=
  xe_bin (t := fun a _ => a) (y := (2 : Int)) (fun h1 h2 => pe_ix ix_tup h1 h2 hs) (fun F H u v e h1 h2 Q q => by
    obtain ⟨p, v1, v2, v3, v4, v5, rfl, r1, r2, r3, r4, r5, r6⟩ := h1
    exact ⟨p, [v1, v2, v3, v4, v5], 2, v3, rfl, h2, e.t r1, rfl, q _ F H (Ex.refl _) e (Ex.refl _) (fun _ h => .inl h) r4⟩) ha xe_int
theorem xe_t5d (ha : XE X c Γ a p5) {j q} (hs : PlainIx (.Constant (.int 3) j q) := by exact fun _ _ => rfl) : XE X c Γ (.Subscript a (.Constant (.int 3) j q) pos) p5.d :=
  xe_bin (t := fun a _ => a) (y := (3 : Int)) (fun h1 h2 => pe_ix ix_tup h1 h2 hs) (fun F H u v e h1 h2 Q q => by
    obtain ⟨p, v1, v2, v3, v4, v5, rfl, r1, r2, r3, r4, r5, r6⟩ := h1
    exact ⟨p, [v1, v2, v3, v4, v5], 3, v4, rfl, h2, e.t r1, rfl, q _ F H (Ex.refl _) e (Ex.refl _) (fun _ h => .inl h) r5⟩) ha xe_int
theorem xe_t5e (ha : XE X c Γ a p5) {j q} (hs : PlainIx (.Constant (.int 4) j q) := by exact fun _ _ => rfl) : XE X c Γ (.Subscript a (.Constant (.int 4) j q) pos) p5.e :=
  xe_bin (t := fun a _ => a) (y := (4 : Int)) (fun h1 h2 => pe_ix ix_tup h1 h2 hs) (fun F H u v e h1 h2 Q q => by
    obtain ⟨p, v1, v2, v3, v4, v5, rfl, r1, r2, r3, r4, r5, r6⟩ := h1
    exact ⟨p, [v1, v2, v3, v4, v5], 4, v5, rfl, h2, e.t r1, rfl, q _ F H (Ex.refl _) e (Ex.refl _) (fun _ h => .inl h) r6⟩) ha xe_int
theorem reps_kk {υ : Type} [Py υ] [TKey υ] {K : Fg} {F : Hp} : ∀ {vs : List V} {xs : List (Kk υ)}, Reps K F vs xs → Reps K F vs (xs.map fun z => z.x)
  | _, _, .nil => .nil
  | _, _, .cons h t => .cons h.1 (reps_kk t)
theorem xe_mapkk {υ : Type} [Py υ] [TKey υ] {xs : List (Kk υ)} (h : XE X c Γ a xs) : XE X c Γ a (xs.map fun z => z.x) := h.coe fun F v ⟨p, vs, h1, h2, h3⟩ => ⟨p, vs, h1, h2, reps_kk h3⟩
end
end Fw
namespace Fw
namespace Me
open PySem L2 Fw
noncomputable section
def top (i : Nat) : Stmt := PySem.Challenge.pw_signscreen_k27_ways_done.main.body.getD i (.Pass ⟨0, 0, 0, 0⟩)
inductive Dd where
  | cp (w : Str) (row : Int) (many : Int)
  | wr (w : Str) (row : Int) (col : Int) (text : Str) (ink : Int)
deriving DecidableEq, Inhabited
instance : Py Dd := ⟨fun K F v x => match x with
  | .cp w row many => Py.rep K F v ((T3.mk w row many) : T3 Str Int Int)
  | .wr w row col text ink => Py.rep K F v ((T5.mk w row col text ink) : T5 Str Int Int Str Int), fun {K F F' v x} e h => by
    cases x with
    | cp w row many => exact Py.mono (x := ((T3.mk w row many) : T3 Str Int Int)) e h
    | wr w row col text ink => exact Py.mono (x := ((T5.mk w row col text ink) : T5 Str Int Int Str Int)) e h⟩
instance : PyTl Dd := ⟨fun {K F F' v x} h r => by
    cases x with
    | cp w row many => exact PyTl.tl (x := ((T3.mk w row many) : T3 Str Int Int)) h r
    | wr w row col text ink => exact PyTl.tl (x := ((T5.mk w row col text ink) : T5 Str Int Int Str Int)) h r⟩
instance : PyTy Dd := ⟨fun _ => "tuple", fun {K F v x} h => by
    cases x with
    | cp w row many => exact PyTy.ok (x := ((T3.mk w row many) : T3 Str Int Int)) h
    | wr w row col text ink => exact PyTy.ok (x := ((T5.mk w row col text ink) : T5 Str Int Int Str Int)) h⟩
instance : PyNv Dd := ⟨fun {K F v x} h => by
    cases x with
    | cp w row many => exact PyNv.nv (x := ((T3.mk w row many) : T3 Str Int Int)) h
    | wr w row col text ink => exact PyNv.nv (x := ((T5.mk w row col text ink) : T5 Str Int Int Str Int)) h⟩
theorem Dd.mk_cp {X : Cx} {c : Cw} {Γ : List Slot} {e : Expr} {w : Str} {row : Int} {many : Int} (h : XE X c Γ e ((T3.mk w row many) : T3 Str Int Int)) : XE X c Γ e (Dd.cp w row many) := h
theorem Dd.mk_wr {X : Cx} {c : Cw} {Γ : List Slot} {e : Expr} {w : Str} {row : Int} {col : Int} {text : Str} {ink : Int} (h : XE X c Γ e ((T5.mk w row col text ink) : T5 Str Int Int Str Int)) : XE X c Γ e (Dd.wr w row col text ink) := h
instance : PyD Dd where
  dec := inferInstance
  toD := fun x => match x with
    | .cp w row many => PyD.toD ((T3.mk w row many) : T3 Str Int Int)
    | .wr w row col text ink => PyD.toD ((T5.mk w row col text ink) : T5 Str Int Int Str Int)
  dok := fun x => match x with
    | .cp w row many => PyD.dok ((T3.mk w row many) : T3 Str Int Int)
    | .wr w row col text ink => PyD.dok ((T5.mk w row col text ink) : T5 Str Int Int Str Int)
  dep := 8
  nn := true
  dp := fun {K F v x} h => by
    cases x with
    | cp w row many => exact PyD.dp (x := ((T3.mk w row many) : T3 Str Int Int)) h
    | wr w row col text ink => exact PyD.dp (x := ((T5.mk w row col text ink) : T5 Str Int Int Str Int)) h
  eqv := fun x y => by
    cases x with
    | cp w row many =>
      cases y with
      | cp w' row' many' =>
        refine (PyD.eqv ((T3.mk w row many) : T3 Str Int Int) (T3.mk w' row' many')).trans ?_
        rw [Bool.eq_iff_iff, @decide_eq_true_iff _ (_), @decide_eq_true_iff _ (_)]
        simp
      | wr w' row' col' text' ink' =>
        refine Eq.trans (b := false) (by show (_ && (_ && (_ && (false)))) = false; simp) (@decide_eq_false _ (_) (by simp)).symm
    | wr w row col text ink =>
      cases y with
      | cp w' row' many' =>
        refine Eq.trans (b := false) (by show (_ && (_ && (_ && (false)))) = false; simp) (@decide_eq_false _ (_) (by simp)).symm
      | wr w' row' col' text' ink' =>
        refine (PyD.eqv ((T5.mk w row col text ink) : T5 Str Int Int Str Int) (T5.mk w' row' col' text' ink')).trans ?_
        rw [Bool.eq_iff_iff, @decide_eq_true_iff _ (_), @decide_eq_true_iff _ (_)]
        simp
  lay := fun x h => by
    cases x with
    | cp w row many => exact PyD.lay ((T3.mk w row many) : T3 Str Int Int) h
    | wr w row col text ink => exact PyD.lay ((T5.mk w row col text ink) : T5 Str Int Int Str Int) h
  dle := fun x => by
    cases x with
    | cp w row many => exact Nat.le_trans (PyD.dle ((T3.mk w row many) : T3 Str Int Int)) (by decide)
    | wr w row col text ink => exact Nat.le_trans (PyD.dle ((T5.mk w row col text ink) : T5 Str Int Int Str Int)) (by decide)
  nno := fun _ x => by
    cases x with
    | cp w row many => exact PyD.nno rfl ((T3.mk w row many) : T3 Str Int Int)
    | wr w row col text ink => exact PyD.nno rfl ((T5.mk w row col text ink) : T5 Str Int Int Str Int)
def Dd.tag (x : Dd) : Str := match x with
  | .cp w row many => w
  | .wr w row col text ink => w
theorem Dd.xe_0 {X : Cx} {c : Cw} {Γ : List Slot} {e : Expr} {x : Dd} {pos q : Pos} {j : Nat} (h : XE X c Γ e x) : XE X c Γ (.Subscript e (.Constant (.int 0) j q) pos) x.tag := by
  cases x with
  | cp w row many => exact (xe_t3a (show XE X c Γ e ((T3.mk w row many) : T3 Str Int Int) from h))
  | wr w row col text ink => exact (xe_t5a (show XE X c Γ e ((T5.mk w row col text ink) : T5 Str Int Int Str Int) from h))
def Dd.at1 (x : Dd) : Int := match x with
  | .cp w row many => row
  | .wr w row col text ink => row
def Dd.has1 (x : Dd) : Bool := match x with
  | .cp _ _ _ => true
  | .wr _ _ _ _ _ => true
theorem Dd.xe_1 {X : Cx} {c : Cw} {Γ : List Slot} {e : Expr} {x : Dd} {pos q : Pos} {j : Nat} (h : XE X c Γ e x) (hk : x.has1 = true) : XE X c Γ (.Subscript e (.Constant (.int 1) j q) pos) x.at1 := by
  cases x with
  | cp w row many => exact (xe_t3b (show XE X c Γ e ((T3.mk w row many) : T3 Str Int Int) from h))
  | wr w row col text ink => exact (xe_t5b (show XE X c Γ e ((T5.mk w row col text ink) : T5 Str Int Int Str Int) from h))
def Dd.at2 (x : Dd) : Int := match x with
  | .cp w row many => many
  | .wr w row col text ink => col
def Dd.has2 (x : Dd) : Bool := match x with
  | .cp _ _ _ => true
  | .wr _ _ _ _ _ => true
theorem Dd.xe_2 {X : Cx} {c : Cw} {Γ : List Slot} {e : Expr} {x : Dd} {pos q : Pos} {j : Nat} (h : XE X c Γ e x) (hk : x.has2 = true) : XE X c Γ (.Subscript e (.Constant (.int 2) j q) pos) x.at2 := by
  cases x with
  | cp w row many => exact (xe_t3c (show XE X c Γ e ((T3.mk w row many) : T3 Str Int Int) from h))
  | wr w row col text ink => exact (xe_t5c (show XE X c Γ e ((T5.mk w row col text ink) : T5 Str Int Int Str Int) from h))
def Dd.at3 (x : Dd) : Str := match x with
  | .cp w row many => default
  | .wr w row col text ink => text
def Dd.has3 (x : Dd) : Bool := match x with
  | .cp _ _ _ => false
  | .wr _ _ _ _ _ => true
theorem Dd.xe_3 {X : Cx} {c : Cw} {Γ : List Slot} {e : Expr} {x : Dd} {pos q : Pos} {j : Nat} (h : XE X c Γ e x) (hk : x.has3 = true) : XE X c Γ (.Subscript e (.Constant (.int 3) j q) pos) x.at3 := by
  cases x with
  | cp w row many => cases hk
  | wr w row col text ink => exact (xe_t5d (show XE X c Γ e ((T5.mk w row col text ink) : T5 Str Int Int Str Int) from h))
def Dd.at4 (x : Dd) : Int := match x with
  | .cp w row many => default
  | .wr w row col text ink => ink
def Dd.has4 (x : Dd) : Bool := match x with
  | .cp _ _ _ => false
  | .wr _ _ _ _ _ => true
theorem Dd.xe_4 {X : Cx} {c : Cw} {Γ : List Slot} {e : Expr} {x : Dd} {pos q : Pos} {j : Nat} (h : XE X c Γ e x) (hk : x.has4 = true) : XE X c Γ (.Subscript e (.Constant (.int 4) j q) pos) x.at4 := by
  cases x with
  | cp w row many => cases hk
  | wr w row col text ink => exact (xe_t5e (show XE X c Γ e ((T5.mk w row col text ink) : T5 Str Int Int Str Int) from h))
theorem Dd.xe_1s {X : Cx} {c : Cw} {Γ : List Slot} {e : Expr} {x : Dd} {pos p2 : Pos} {lo : Option Expr} (h : XE X c Γ e x) (h1 : XP X c Γ lo (some 1)) (hk : x.has4 = true) : XE X c Γ (.Subscript e (.Slice lo none none p2) pos) (T4.mk x.at1 x.at2 x.at3 x.at4) := by
  cases x with
  | cp w row many => cases hk
  | wr w row col text ink => exact xe_t5bcde (show XE X c Γ e ((T5.mk w row col text ink) : T5 Str Int Int Str Int) from h) h1
/-! ## blank_row -/
def m_blank_row (wide : Int) (ink : Int) : (List (Str × Int)) :=
  (List.replicate (wide : Int).toNat ([((" " : Str), ink)] : List (Str × Int))).flatten
def v_blank_row (wide : Int) (ink : Int) : Prop :=
  ((wide ≤ 100000 ∧ ([((" " : Str), ink)] : List (Str × Int)).length * (wide : Int).toNat ≤ 100000) ∧ (-100000 ≤ wide))
/-! ## copied -/
def m_copied (picture : List (List (Str × Int))) : (List (List (Str × Int))) :=
  (picture.map (fun row : List (Str × Int) => row))
def v_copied (picture : List (List (Str × Int))) : Prop :=
  (picture.length ≤ 100000)
/-! ## cut_done -/
def m_cut_done (picture : List (List (Str × Int))) (row : Int) (many : Int) : (List (List (Str × Int))) × (List Any) :=
  bnd ((((ix picture 0).length : Nat) : Int)) fun (wide : Int) =>
  bnd (((picture.take (row : Int).toNat ++ picture.drop ((row + many) : Int).toNat) ++ ((izs 0 (many : Int).toNat).map (fun turn : Int => (m_blank_row wide 0)))), anys picture.length) fun res => (res.1, res.2)
def v_cut_done (picture : List (List (Str × Int))) (row : Int) (many : Int) : Prop :=
  ((InB picture 0) ∧ (bnd ((((ix picture 0).length : Nat) : Int)) fun (wide : Int) =>
  ((-(2 ^ 62) ≤ (many : Int) ∧ (many : Int) < 2 ^ 62) ∧ ((izs 0 (many : Int).toNat).length ≤ 100000) ∧ (∀ turn ∈ ((izs 0 (many : Int).toNat) : List Int), (v_blank_row wide 0)) ∧ (0 ≤ row ∧ row ≤ (row + many)) ∧ (picture.length + picture.length + ((izs 0 (many : Int).toNat).map (fun turn : Int => (m_blank_row wide 0))).length ≤ 100000))))
/-! ## put_done -/
def m_put_done (picture : List (List (Str × Int))) (row : Int) (many : Int) : (List (List (Str × Int))) × (List Any) :=
  bnd ((((ix picture 0).length : Nat) : Int)) fun (wide : Int) =>
  bnd ((((picture.take (row : Int).toNat ++ ((izs 0 (many : Int).toNat).map (fun turn : Int => (m_blank_row wide 0)))) ++ picture.drop (row : Int).toNat), anys picture.length)) fun (freshR : (List (List (Str × Int))) × List Any) =>
  bnd ((freshR.1.take (((freshR.2.length : Nat) : Int) : Int).toNat), anys freshR.1.length) fun res => (res.1, freshR.2)
def v_put_done (picture : List (List (Str × Int))) (row : Int) (many : Int) : Prop :=
  ((InB picture 0) ∧ (bnd ((((ix picture 0).length : Nat) : Int)) fun (wide : Int) =>
  (((-(2 ^ 62) ≤ (many : Int) ∧ (many : Int) < 2 ^ 62) ∧ ((izs 0 (many : Int).toNat).length ≤ 100000) ∧ (∀ turn ∈ ((izs 0 (many : Int).toNat) : List Int), (v_blank_row wide 0)) ∧ (0 ≤ row ∧ row ≤ row) ∧ (picture.length + picture.length + ((izs 0 (many : Int).toNat).map (fun turn : Int => (m_blank_row wide 0))).length ≤ 100000)) ∧ (bnd ((((picture.take (row : Int).toNat ++ ((izs 0 (many : Int).toNat).map (fun turn : Int => (m_blank_row wide 0)))) ++ picture.drop (row : Int).toNat), anys picture.length)) fun (freshR : (List (List (Str × Int))) × List Any) =>
  (0 ≤ ((freshR.2.length : Nat) : Int))))))
/-! ## way_done -/
def m_way_done_f2 (row_t : T4 Int Int Str Int) (s2 : (List (List (Str × Int)))) (y2 : Int × Str) : (List (List (Str × Int))) :=
  bnd ((stI s2 row_t.a (stI (ix s2 row_t.a) (row_t.b + y2.1) (y2.2, row_t.d)))) fun (found' : List (List (Str × Int))) =>
  found'
def v_way_done_f2 (row_t : T4 Int Int Str Int) (s2 : (List (List (Str × Int)))) (y2 : Int × Str) : Prop :=
  ((InB s2 row_t.a) ∧ (InB (ix s2 row_t.a) (row_t.b + y2.1)))
def m_way_done_f1 (s1 : (List (List (Str × Int)))) (deed : Dd) : (List (List (Str × Int))) :=
  bnd (if (decide (deed.tag = ("cut" : Str))) then (
  bnd ((m_cut_done s1 deed.at1 deed.at2)) fun (foundR : (List (List (Str × Int))) × (List Any)) =>
  foundR.1)
  else (
  bnd (if (decide (deed.tag = ("put" : Str))) then (
  bnd ((m_put_done s1 deed.at1 deed.at2)) fun (foundR' : (List (List (Str × Int))) × (List Any)) =>
  foundR'.1)
  else (
  bnd ((T4.mk deed.at1 deed.at2 deed.at3 deed.at4)) fun (row_t : T4 Int Int Str Int) =>
  bnd (((enumL (signsL row_t.c)).foldl (m_way_done_f2 row_t) s1)) fun (r2 : (List (List (Str × Int)))) =>
  r2)) fun (j' : (List (List (Str × Int)))) =>
  j')) fun (j : (List (List (Str × Int)))) =>
  j
def v_way_done_f1 (s1 : (List (List (Str × Int)))) (deed : Dd) : Prop :=
  (((decide (deed.tag = ("cut" : Str))) = true → ((deed.has1 = true) ∧ (deed.has2 = true) ∧ (v_cut_done s1 deed.at1 deed.at2))) ∧ ((decide (deed.tag = ("cut" : Str))) = false → (((decide (deed.tag = ("put" : Str))) = true → ((deed.has1 = true) ∧ (deed.has2 = true) ∧ (v_put_done s1 deed.at1 deed.at2))) ∧ ((decide (deed.tag = ("put" : Str))) = false → ((deed.has4 = true) ∧ (bnd ((T4.mk deed.at1 deed.at2 deed.at3 deed.at4)) fun (row_t : T4 Int Int Str Int) =>
  (vFold (m_way_done_f2 row_t) (v_way_done_f2 row_t) s1 (enumL (signsL row_t.c)))))))))
def m_way_done (picture : List (List (Str × Int))) (way : List Dd) : (List (List (Str × Int))) :=
  bnd ((m_copied picture)) fun (found : List (List (Str × Int))) =>
  bnd ((way.foldl (m_way_done_f1) found)) fun (r1 : (List (List (Str × Int)))) =>
  r1
def v_way_done (picture : List (List (Str × Int))) (way : List Dd) : Prop :=
  ((v_copied picture) ∧ (bnd ((m_copied picture)) fun (found : List (List (Str × Int))) =>
  (vFold (m_way_done_f1) (v_way_done_f1) found way)))
/-! ## _law_cell_at -/
def m_l_cell_at (script : Scr Int) (k : Int) : Int :=
  if (decide (k < ((script.l.length : Nat) : Int))) then (
  (ix script.l k))
  else
  0
def v_l_cell_at (script : Scr Int) (k : Int) : Prop :=
  ((decide (k < ((script.l.length : Nat) : Int))) = true → (InB script.l k))
/-! ## _law_mixed -/
def m_l_mixed (script : Scr Int) (k : Int) : Int :=
  bnd ((((((m_l_cell_at script k) * 48271) + (7919 * k)) + 12345) % 2147483647)) fun (number : Int) =>
  ((number * (number + (69621 * k))) % 2147483629)
def v_l_mixed (script : Scr Int) (k : Int) : Prop :=
  ((v_l_cell_at script k) ∧ (bnd ((((((m_l_cell_at script k) * 48271) + (7919 * k)) + 12345) % 2147483647)) fun (number : Int) =>
  (IntMulOk number (number + (69621 * k)))))
/-! ## _law_ink -/
def m_l_ink (number : Int) : Int :=
  if (decide ((number % 5) = 1)) then (
  ((number / 5) % 512))
  else
  (ix ([0, 0, 64, 3, 40, 259] : List Int) ((number / 5) % 6))
/-! ## _law_sign -/
def m_l_sign (number : Int) : Str :=
  bnd ((" !\"#$&'()*+,-./0123456789:;<=>?@ABCDEFGHIJKLMNOPQRSTUVWXYZ[\\]^_`" : Str)) fun (someV : Str) =>
  bnd ((someV ++ ("abcdefghijklmnopqrstuvwxyz{|}~" : Str))) fun (someV' : Str) =>
  (ix ([(" " : Str), (ixS ("ab~ " : Str) ((number / 4) % 4)), (ixS someV' ((number / 4) % 94)), ("a" : Str)] : List Str) (number % 4))
def v_l_sign (number : Int) : Prop :=
  (bnd ((" !\"#$&'()*+,-./0123456789:;<=>?@ABCDEFGHIJKLMNOPQRSTUVWXYZ[\\]^_`" : Str)) fun (someV : Str) =>
  ((someV.length + ("abcdefghijklmnopqrstuvwxyz{|}~" : Str).length ≤ sizeLine) ∧ (bnd ((someV ++ ("abcdefghijklmnopqrstuvwxyz{|}~" : Str))) fun (someV' : Str) =>
  ((InB someV'.cps.toList ((number / 4) % 94)) ∧ (someV'.length ≤ 100000)))))
/-! ## _law_row -/
def m_l_row_f1 (s1 : Int × Int × (List (Str × Int))) (place : Int) : Int × Int × (List (Str × Int)) :=
  bnd ((((s1.1 * 16807) % 998244353) + place)) fun (number' : Int) =>
  bnd (if (decide ((number' % 4) = 1)) then (
  bnd ((m_l_ink (number' / 4))) fun (ink_here' : Int) =>
  ink_here')
  else (
  s1.2.1)) fun (j : Int) =>
  bnd ((s1.2.2 ++ [((m_l_sign (number' / 32)), j)])) fun (row_here' : List (Str × Int)) =>
  (number', j, row_here')
def v_l_row_f1 (s1 : Int × Int × (List (Str × Int))) (place : Int) : Prop :=
  (bnd ((((s1.1 * 16807) % 998244353) + place)) fun (number' : Int) =>
  (bnd (if (decide ((number' % 4) = 1)) then (
  bnd ((m_l_ink (number' / 4))) fun (ink_here' : Int) =>
  ink_here')
  else (
  s1.2.1)) fun (j : Int) =>
  ((v_l_sign (number' / 32)) ∧ (s1.2.2.length < 100000))))
def m_l_row (number : Int) (wide : Int) : (List (Str × Int)) :=
  bnd (([] : List (Str × Int))) fun (row_here : List (Str × Int)) =>
  bnd ((m_l_ink number)) fun (ink_here : Int) =>
  bnd (((izs 0 (wide : Int).toNat).foldl (m_l_row_f1) (number, ink_here, row_here))) fun (r1 : Int × Int × (List (Str × Int))) =>
  r1.2.2
def v_l_row (number : Int) (wide : Int) : Prop :=
  (bnd (([] : List (Str × Int))) fun (row_here : List (Str × Int)) =>
  (bnd ((m_l_ink number)) fun (ink_here : Int) =>
  ((-(2 ^ 62) ≤ (wide : Int) ∧ (wide : Int) < 2 ^ 62) ∧ (vFold (m_l_row_f1) (v_l_row_f1) (number, ink_here, row_here) (izs 0 (wide : Int).toNat)))))
/-! ## _law_picture -/
def m_l_picture_f1 (script : Scr Int) (first : Int) (wide : Int) (s1 : (List (List (Str × Int)))) (k : Int) : (List (List (Str × Int))) :=
  bnd ((m_l_mixed script (first + (k % 6)))) fun (number : Int) =>
  bnd (((number / (1 + (k / 6))) + (17 * k))) fun (number' : Int) =>
  bnd ((m_l_row (number' / 8) wide)) fun (row_here : List (Str × Int)) =>
  bnd (if (decide ((number' % 8) = 1)) then (
  bnd ((List.replicate (wide : Int).toNat ([((" " : Str), 0)] : List (Str × Int))).flatten) fun (row_here' : List (Str × Int)) =>
  row_here')
  else (
  row_here)) fun (j : (List (Str × Int))) =>
  bnd (if ((decide ((number' % 8) = 2)) && (!eqb s1 ([] : List (List (Str × Int))))) then (
  bnd ((ix s1 ((number' / 8) % ((s1.length : Nat) : Int)))) fun (row_here'' : List (Str × Int)) =>
  row_here'')
  else (
  j)) fun (j' : (List (Str × Int))) =>
  bnd ((s1 ++ [j'])) fun (rows' : List (List (Str × Int))) =>
  rows'
def v_l_picture_f1 (script : Scr Int) (first : Int) (wide : Int) (s1 : (List (List (Str × Int)))) (k : Int) : Prop :=
  ((v_l_mixed script (first + (k % 6))) ∧ (bnd ((m_l_mixed script (first + (k % 6)))) fun (number : Int) =>
  ((CDiv number (1 + (k / 6))) ∧ (bnd (((number / (1 + (k / 6))) + (17 * k))) fun (number' : Int) =>
  ((v_l_row (number' / 8) wide) ∧ (bnd ((m_l_row (number' / 8) wide)) fun (row_here : List (Str × Int)) =>
  ((((decide ((number' % 8) = 1)) = true → ((wide ≤ 100000 ∧ ([((" " : Str), 0)] : List (Str × Int)).length * (wide : Int).toNat ≤ 100000) ∧ (-100000 ≤ wide)))) ∧ (bnd (if (decide ((number' % 8) = 1)) then (
  bnd ((List.replicate (wide : Int).toNat ([((" " : Str), 0)] : List (Str × Int))).flatten) fun (row_here' : List (Str × Int)) =>
  row_here')
  else (
  row_here)) fun (j : (List (Str × Int))) =>
  (((((decide ((number' % 8) = 2)) = true → ((PyD.dok s1) ∧ (PyD.dok ([] : List (List (Str × Int)))))) ∧ (((decide ((number' % 8) = 2)) && (!eqb s1 ([] : List (List (Str × Int))))) = true → ((0 < ((s1.length : Nat) : Int)) ∧ (InB s1 ((number' / 8) % ((s1.length : Nat) : Int))))))) ∧ (bnd (if ((decide ((number' % 8) = 2)) && (!eqb s1 ([] : List (List (Str × Int))))) then (
  bnd ((ix s1 ((number' / 8) % ((s1.length : Nat) : Int)))) fun (row_here'' : List (Str × Int)) =>
  row_here'')
  else (
  j)) fun (j' : (List (Str × Int))) =>
  (s1.length < 100000)))))))))))
def m_l_picture (script : Scr Int) (first : Int) (wide : Int) (high : Int) : (List (List (Str × Int))) :=
  bnd (([] : List (List (Str × Int)))) fun (rows : List (List (Str × Int))) =>
  bnd (((izs 0 (high : Int).toNat).foldl (m_l_picture_f1 script first wide) rows)) fun (r1 : (List (List (Str × Int)))) =>
  r1
def v_l_picture (script : Scr Int) (first : Int) (wide : Int) (high : Int) : Prop :=
  (bnd (([] : List (List (Str × Int)))) fun (rows : List (List (Str × Int))) =>
  ((-(2 ^ 62) ≤ (high : Int) ∧ (high : Int) < 2 ^ 62) ∧ (vFold (m_l_picture_f1 script first wide) (v_l_picture_f1 script first wide) rows (izs 0 (high : Int).toNat))))
/-! ## _law_copied -/
def m_l_copied (picture_here : List (List (Str × Int))) : (List (List (Str × Int))) :=
  (picture_here.map (fun row_here : List (Str × Int) => row_here))
def v_l_copied (picture_here : List (List (Str × Int))) : Prop :=
  (picture_here.length ≤ 100000)
/-! ## _law_cut -/
def m_l_cut (picture_here : List (List (Str × Int))) (row_here : Int) (many : Int) : (List (List (Str × Int))) :=
  bnd ((((ix picture_here 0).length : Nat) : Int)) fun (wide : Int) =>
  bnd (((cutL picture_here none (some row_here)) ++ (cutL picture_here (some (row_here + many)) none))) fun (rows : List (List (Str × Int))) =>
  (rows ++ ((izs 0 (many : Int).toNat).map (fun turn' : Int => (List.replicate (wide : Int).toNat ([((" " : Str), 0)] : List (Str × Int))).flatten)))
def v_l_cut (picture_here : List (List (Str × Int))) (row_here : Int) (many : Int) : Prop :=
  ((InB picture_here 0) ∧ (bnd ((((ix picture_here 0).length : Nat) : Int)) fun (wide : Int) =>
  (((cutL picture_here none (some row_here)).length + (cutL picture_here (some (row_here + many)) none).length ≤ 100000) ∧ (bnd (((cutL picture_here none (some row_here)) ++ (cutL picture_here (some (row_here + many)) none))) fun (rows : List (List (Str × Int))) =>
  ((-(2 ^ 62) ≤ (many : Int) ∧ (many : Int) < 2 ^ 62) ∧ ((izs 0 (many : Int).toNat).length ≤ 100000) ∧ (∀ turn' ∈ ((izs 0 (many : Int).toNat) : List Int), ((wide ≤ 100000 ∧ ([((" " : Str), 0)] : List (Str × Int)).length * (wide : Int).toNat ≤ 100000) ∧ (-100000 ≤ wide))) ∧ (rows.length + ((izs 0 (many : Int).toNat).map (fun turn' : Int => (List.replicate (wide : Int).toNat ([((" " : Str), 0)] : List (Str × Int))).flatten)).length ≤ 100000))))))
/-! ## _law_put -/
def m_l_put (picture_here : List (List (Str × Int))) (row_here : Int) (many : Int) : (List (List (Str × Int))) :=
  bnd ((((ix picture_here 0).length : Nat) : Int)) fun (wide : Int) =>
  bnd (((izs 0 (many : Int).toNat).map (fun turn : Int => (List.replicate (wide : Int).toNat ([((" " : Str), 0)] : List (Str × Int))).flatten))) fun (fresh : List (List (Str × Int))) =>
  (cutL (((cutL picture_here none (some row_here)) ++ fresh) ++ (cutL picture_here (some row_here) none)) none (some ((picture_here.length : Nat) : Int)))
def v_l_put (picture_here : List (List (Str × Int))) (row_here : Int) (many : Int) : Prop :=
  ((InB picture_here 0) ∧ (bnd ((((ix picture_here 0).length : Nat) : Int)) fun (wide : Int) =>
  (((-(2 ^ 62) ≤ (many : Int) ∧ (many : Int) < 2 ^ 62) ∧ ((izs 0 (many : Int).toNat).length ≤ 100000) ∧ (∀ turn ∈ ((izs 0 (many : Int).toNat) : List Int), ((wide ≤ 100000 ∧ ([((" " : Str), 0)] : List (Str × Int)).length * (wide : Int).toNat ≤ 100000) ∧ (-100000 ≤ wide)))) ∧ (bnd (((izs 0 (many : Int).toNat).map (fun turn : Int => (List.replicate (wide : Int).toNat ([((" " : Str), 0)] : List (Str × Int))).flatten))) fun (fresh : List (List (Str × Int))) =>
  (((cutL picture_here none (some row_here)).length + fresh.length ≤ 100000) ∧ (((cutL picture_here none (some row_here)) ++ fresh).length + (cutL picture_here (some row_here) none).length ≤ 100000))))))
/-! ## _law_deed -/
def m_l_deed_f1 (deed_here : Dd) (s1 : (List (List (Str × Int)))) (y1 : Int × Str) : (List (List (Str × Int))) :=
  bnd ((stI s1 deed_here.at1 (stI (ix s1 deed_here.at1) (deed_here.at2 + y1.1) (y1.2, deed_here.at4)))) fun (rows' : List (List (Str × Int))) =>
  rows'
def v_l_deed_f1 (deed_here : Dd) (s1 : (List (List (Str × Int)))) (y1 : Int × Str) : Prop :=
  ((deed_here.has4 = true) ∧ (deed_here.has1 = true) ∧ (InB s1 deed_here.at1) ∧ (deed_here.has2 = true) ∧ (InB (ix s1 deed_here.at1) (deed_here.at2 + y1.1)))
def m_l_deed (picture_here : List (List (Str × Int))) (deed_here : Dd) : (List (List (Str × Int))) :=
  bnd ((m_l_copied picture_here)) fun (rows : List (List (Str × Int))) =>
  if (decide (deed_here.tag = ("cut" : Str))) then (
  (m_l_cut rows deed_here.at1 deed_here.at2))
  else
  if (decide (deed_here.tag = ("put" : Str))) then (
  (m_l_put rows deed_here.at1 deed_here.at2))
  else
  bnd (((enumL (signsL deed_here.at3)).foldl (m_l_deed_f1 deed_here) rows)) fun (r1 : (List (List (Str × Int)))) =>
  r1
def v_l_deed (picture_here : List (List (Str × Int))) (deed_here : Dd) : Prop :=
  ((v_l_copied picture_here) ∧ (bnd ((m_l_copied picture_here)) fun (rows : List (List (Str × Int))) =>
  (((decide (deed_here.tag = ("cut" : Str))) = true → ((deed_here.has1 = true) ∧ (deed_here.has2 = true) ∧ (v_l_cut rows deed_here.at1 deed_here.at2))) ∧ ((decide (deed_here.tag = ("cut" : Str))) = false → (((decide (deed_here.tag = ("put" : Str))) = true → ((deed_here.has1 = true) ∧ (deed_here.has2 = true) ∧ (v_l_put rows deed_here.at1 deed_here.at2))) ∧ ((decide (deed_here.tag = ("put" : Str))) = false → ((deed_here.has3 = true) ∧ (vFold (m_l_deed_f1 deed_here) (v_l_deed_f1 deed_here) rows (enumL (signsL deed_here.at3))))))))))
/-! ## _law_drawn -/
def m_l_drawn_f2 (script : Scr Int) (high : Int) (sort : Int) (s2 : Int × (List Dd)) (k : Int) : Int × (List Dd) :=
  bnd ((m_l_mixed script ((10 + (3 * sort)) + k))) fun (number : Int) =>
  bnd ((s2.1 + (number % 3))) fun (row_here' : Int) =>
  bnd (if (decide (row_here' < high)) then (
  bnd ((s2.2 ++ [(Dd.cp (ix ([("cut" : Str), ("put" : Str)] : List Str) sort) row_here' (1 + ((number / 3) % (high - row_here'))))])) fun (way' : List Dd) =>
  bnd ((row_here' + sort)) fun (row_here'' : Int) =>
  (way', row_here''))
  else (
  (s2.2, row_here'))) fun (j : (List Dd) × Int) =>
  (j.2, j.1)
def v_l_drawn_f2 (script : Scr Int) (high : Int) (sort : Int) (s2 : Int × (List Dd)) (k : Int) : Prop :=
  ((v_l_mixed script ((10 + (3 * sort)) + k)) ∧ (bnd ((m_l_mixed script ((10 + (3 * sort)) + k))) fun (number : Int) =>
  (bnd ((s2.1 + (number % 3))) fun (row_here' : Int) =>
  ((decide (row_here' < high)) = true → ((InB ([("cut" : Str), ("put" : Str)] : List Str) sort) ∧ (0 < (high - row_here')) ∧ (s2.2.length < 100000))))))
def m_l_drawn_f1 (script : Scr Int) (high : Int) (s1 : (List Dd)) (sort : Int) : (List Dd) :=
  bnd (0) fun (row_here : Int) =>
  bnd (((izs 0 (((m_l_mixed script (8 + sort)) % 4) : Int).toNat).foldl (m_l_drawn_f2 script high sort) (row_here, s1))) fun (r2 : Int × (List Dd)) =>
  r2.2
def v_l_drawn_f1 (script : Scr Int) (high : Int) (s1 : (List Dd)) (sort : Int) : Prop :=
  (bnd (0) fun (row_here : Int) =>
  ((v_l_mixed script (8 + sort)) ∧ (-(2 ^ 62) ≤ (((m_l_mixed script (8 + sort)) % 4) : Int) ∧ (((m_l_mixed script (8 + sort)) % 4) : Int) < 2 ^ 62) ∧ (vFold (m_l_drawn_f2 script high sort) (v_l_drawn_f2 script high sort) (row_here, s1) (izs 0 (((m_l_mixed script (8 + sort)) % 4) : Int).toNat))))
def m_l_drawn_f3 (script : Scr Int) (wide : Int) (high : Int) (s3 : (List Dd) × (Td (Int × Int) Bool)) (k' : Int) : (List Dd) × (Td (Int × Int) Bool) :=
  bnd ((m_l_mixed script (17 + k'))) fun (number' : Int) =>
  bnd (((number' / 12) % wide)) fun (place : Int) =>
  bnd ((1 + ((number' / 288) % (wide - place)))) fun (size : Int) =>
  bnd (((izs 0 (size : Int).toNat).map (fun j' : Int => (⟨((number' % high), (place + j'))⟩ : Kk (Int × Int))))) fun (cells : List (Kk (Int × Int))) =>
  bnd (if (eqb (((cells.filter (fun cell : Kk (Int × Int) => (tdOpt cell.x s3.2.l).isSome)).map (fun cell : Kk (Int × Int) => cell)).map fun z => Kk.x z) ([] : List (Int × Int))) then (
  bnd ((Txt.join ("" : Str) ((izs 0 (size : Int).toNat).map (fun j''' : Int => (m_l_sign (number' / ((k' + j''') + 2))))))) fun (text : Str) =>
  bnd ((s3.1 ++ [(Dd.wr ("write" : Str) (number' % high) place text (m_l_ink (number' / 7)))])) fun (way'' : List Dd) =>
  bnd ((⟨s3.2.l ++ (⟨(cells.map (fun cell' : Kk (Int × Int) => (cell', true))).map fun z : (Kk (Int × Int)) × Bool => (z.1.x, z.2)⟩ : Td (Int × Int) Bool).l⟩ : Td (Int × Int) Bool)) fun (met' : Td (Int × Int) Bool) =>
  (way'', met'))
  else (
  (s3.1, s3.2))) fun (j'' : (List Dd) × (Td (Int × Int) Bool)) =>
  (j''.1, j''.2)
def v_l_drawn_f3 (script : Scr Int) (wide : Int) (high : Int) (s3 : (List Dd) × (Td (Int × Int) Bool)) (k' : Int) : Prop :=
  ((v_l_mixed script (17 + k')) ∧ (bnd ((m_l_mixed script (17 + k'))) fun (number' : Int) =>
  ((0 < wide) ∧ (bnd (((number' / 12) % wide)) fun (place : Int) =>
  ((0 < (wide - place)) ∧ (bnd ((1 + ((number' / 288) % (wide - place)))) fun (size : Int) =>
  (((-(2 ^ 62) ≤ (size : Int) ∧ (size : Int) < 2 ^ 62) ∧ ((izs 0 (size : Int).toNat).length ≤ 100000) ∧ (∀ j' ∈ ((izs 0 (size : Int).toNat) : List Int), (0 < high))) ∧ (bnd (((izs 0 (size : Int).toNat).map (fun j' : Int => (⟨((number' % high), (place + j'))⟩ : Kk (Int × Int))))) fun (cells : List (Kk (Int × Int))) =>
  ((cells.length ≤ 100000) ∧ ((eqb (((cells.filter (fun cell : Kk (Int × Int) => (tdOpt cell.x s3.2.l).isSome)).map (fun cell : Kk (Int × Int) => cell)).map fun z => Kk.x z) ([] : List (Int × Int))) = true → (((-(2 ^ 62) ≤ (size : Int) ∧ (size : Int) < 2 ^ 62) ∧ ((izs 0 (size : Int).toNat).length ≤ 100000) ∧ (∀ j''' ∈ ((izs 0 (size : Int).toNat) : List Int), ((CDiv number' ((k' + j''') + 2)) ∧ (v_l_sign (number' / ((k' + j''') + 2))))) ∧ ((((izs 0 (size : Int).toNat).map (fun j''' : Int => (m_l_sign (number' / ((k' + j''') + 2))))).map (·.length)).sum + ((izs 0 (size : Int).toNat).map (fun j''' : Int => (m_l_sign (number' / ((k' + j''') + 2))))).length * ("" : Str).length ≤ 16777216)) ∧ (bnd ((Txt.join ("" : Str) ((izs 0 (size : Int).toNat).map (fun j''' : Int => (m_l_sign (number' / ((k' + j''') + 2))))))) fun (text : Str) =>
  (((0 < high) ∧ (s3.1.length < 100000)) ∧ (bnd ((s3.1 ++ [(Dd.wr ("write" : Str) (number' % high) place text (m_l_ink (number' / 7)))])) fun (way'' : List Dd) =>
  ((cells.length ≤ 100000) ∧ (((cells.map (fun cell' : Kk (Int × Int) => (cell', true))).map fun z : (Kk (Int × Int)) × Bool => TKey.keys z.1.x).Nodup) ∧ (((s3.2.l ++ (⟨(cells.map (fun cell' : Kk (Int × Int) => (cell', true))).map fun z : (Kk (Int × Int)) × Bool => (z.1.x, z.2)⟩ : Td (Int × Int) Bool).l).map fun z => TKey.keys z.1).Nodup ∧ (s3.2.l ++ (⟨(cells.map (fun cell' : Kk (Int × Int) => (cell', true))).map fun z : (Kk (Int × Int)) × Bool => (z.1.x, z.2)⟩ : Td (Int × Int) Bool).l).length ≤ 100000) ∧ (s3.2.l ≠ [] ∨ ((⟨(cells.map (fun cell' : Kk (Int × Int) => (cell', true))).map fun z : (Kk (Int × Int)) × Bool => (z.1.x, z.2)⟩ : Td (Int × Int) Bool).l.map fun z => hashT z.1).Nodup))))))))))))))))
def m_l_drawn (script : Scr Int) (wide : Int) (high : Int) : (List Dd) :=
  bnd (([] : List Dd)) fun (way : List Dd) =>
  bnd (((izs 0 (2 : Int).toNat).foldl (m_l_drawn_f1 script high) way)) fun (r1 : (List Dd)) =>
  bnd ((⟨[]⟩ : Td (Int × Int) Bool)) fun (met : Td (Int × Int) Bool) =>
  bnd (((izs 0 (((m_l_mixed script 16) % 7) : Int).toNat).foldl (m_l_drawn_f3 script wide high) (r1, met))) fun (r3 : (List Dd) × (Td (Int × Int) Bool)) =>
  r3.1
def v_l_drawn (script : Scr Int) (wide : Int) (high : Int) : Prop :=
  (bnd (([] : List Dd)) fun (way : List Dd) =>
  (((vFold (m_l_drawn_f1 script high) (v_l_drawn_f1 script high) way (izs 0 (2 : Int).toNat))) ∧ (bnd (((izs 0 (2 : Int).toNat).foldl (m_l_drawn_f1 script high) way)) fun (r1 : (List Dd)) =>
  (bnd ((⟨[]⟩ : Td (Int × Int) Bool)) fun (met : Td (Int × Int) Bool) =>
  ((v_l_mixed script 16) ∧ (-(2 ^ 62) ≤ (((m_l_mixed script 16) % 7) : Int) ∧ (((m_l_mixed script 16) % 7) : Int) < 2 ^ 62) ∧ (vFold (m_l_drawn_f3 script wide high) (v_l_drawn_f3 script wide high) (r1, met) (izs 0 (((m_l_mixed script 16) % 7) : Int).toNat)))))))
/-! ## law -/
def m_law_f1 (s1 : (List (List (Str × Int)))) (deed_here : Dd) : (List (List (Str × Int))) :=
  bnd ((m_l_deed s1 deed_here)) fun (due' : List (List (Str × Int))) =>
  due'
def v_law_f1 (s1 : (List (List (Str × Int)))) (deed_here : Dd) : Prop :=
  (v_l_deed s1 deed_here)
def m_law_f3 (s3 : (List (List (Str × Int)))) (k3 : Int) : Out ((List (List (Str × Int)))) ((List (List (Str × Int)))) (Bool) :=
  if (!true) then (.rt false)
  else
  bnd (([] : List (Str × Int))) fun (row_here : List (Str × Int)) =>
  bnd ((stI s3 k3 row_here)) fun (found' : List (List (Str × Int))) =>
  .nx found'
def m_law_f2 (picture_here : List (List (Str × Int))) (way : List Dd) (r1 : (List (List (Str × Int)))) (handed : (List (List (Str × Int))) × (List Dd)) (s2 : Unit) (turn : Int) : Out (Unit) (Unit) (Bool) :=
  bnd ((m_way_done handed.1 handed.2)) fun (found : List (List (Str × Int))) =>
  if ((!true) || ((!eqb found r1) || (!eqb handed (picture_here, way)))) then (.rt false)
  else
  Out.bind (runFor (m_law_f3) found (izs 0 found.length) : Out ((List (List (Str × Int)))) (Unit) (Bool)) fun (r3 : (List (List (Str × Int)))) =>
  bnd (([] : List (List (Str × Int)))) fun (found'' : List (List (Str × Int))) =>
  .nx ()
def v_law_f2 (picture_here : List (List (Str × Int))) (way : List Dd) (r1 : (List (List (Str × Int)))) (handed : (List (List (Str × Int))) × (List Dd)) (s2 : Unit) (turn : Int) : Prop :=
  ((v_way_done handed.1 handed.2) ∧ (bnd ((m_way_done handed.1 handed.2)) fun (found : List (List (Str × Int))) =>
  (((!true) = false → ((PyD.dok found) ∧ (PyD.dok r1) ∧ ((!eqb found r1) = false → ((PyD.dok handed) ∧ (PyD.dok (picture_here, way)))))) ∧ (((!true) || ((!eqb found r1) || (!eqb handed (picture_here, way)))) = false → (vRunO (m_law_f3) (fun _ _ => True) (fun s3 : (List (List (Str × Int))) => s3) found.length found)))))
def m_law (script : Scr Int) : Bool :=
  bnd ((1 + ((m_l_mixed script 0) % 8))) fun (wide : Int) =>
  bnd ((1 + (((m_l_mixed script 0) / 8) % 6))) fun (high : Int) =>
  bnd (if (decide ((((m_l_mixed script 0) / 48) % 9) = 1)) then (
  bnd ((1 + (((m_l_mixed script 0) / 432) % 24))) fun (wide' : Int) =>
  bnd (12) fun (high' : Int) =>
  (wide', high'))
  else (
  (wide, high))) fun (j : Int × Int) =>
  bnd ((m_l_picture script 1 j.1 j.2)) fun (picture_here : List (List (Str × Int))) =>
  bnd ((m_l_drawn script j.1 j.2)) fun (way : List Dd) =>
  bnd ((m_l_copied picture_here)) fun (due : List (List (Str × Int))) =>
  bnd ((way.foldl (m_law_f1) due)) fun (r1 : (List (List (Str × Int)))) =>
  bnd (((m_l_copied picture_here), way)) fun (handed : (List (List (Str × Int))) × (List Dd)) =>
  Out.thn (runFor (m_law_f2 picture_here way r1 handed) () (izs 0 (2 : Int).toNat) : Out (Unit) (Empty) (Bool)) fun (r2 : Unit) =>
  ((eqb (m_way_done handed.1 ([] : List Dd)) picture_here) && (eqb handed (picture_here, way)))
def v_law (script : Scr Int) : Prop :=
  ((v_l_mixed script 0) ∧ (bnd ((1 + ((m_l_mixed script 0) % 8))) fun (wide : Int) =>
  ((v_l_mixed script 0) ∧ (bnd ((1 + (((m_l_mixed script 0) / 8) % 6))) fun (high : Int) =>
  ((((v_l_mixed script 0) ∧ ((decide ((((m_l_mixed script 0) / 48) % 9) = 1)) = true → (v_l_mixed script 0)))) ∧ (bnd (if (decide ((((m_l_mixed script 0) / 48) % 9) = 1)) then (
  bnd ((1 + (((m_l_mixed script 0) / 432) % 24))) fun (wide' : Int) =>
  bnd (12) fun (high' : Int) =>
  (wide', high'))
  else (
  (wide, high))) fun (j : Int × Int) =>
  ((v_l_picture script 1 j.1 j.2) ∧ (bnd ((m_l_picture script 1 j.1 j.2)) fun (picture_here : List (List (Str × Int))) =>
  ((v_l_drawn script j.1 j.2) ∧ (bnd ((m_l_drawn script j.1 j.2)) fun (way : List Dd) =>
  ((v_l_copied picture_here) ∧ (bnd ((m_l_copied picture_here)) fun (due : List (List (Str × Int))) =>
  (((vFold (m_law_f1) (v_law_f1) due way)) ∧ (bnd ((way.foldl (m_law_f1) due)) fun (r1 : (List (List (Str × Int)))) =>
  ((v_l_copied picture_here) ∧ (bnd (((m_l_copied picture_here), way)) fun (handed : (List (List (Str × Int))) × (List Dd)) =>
  (((vRun (m_law_f2 picture_here way r1 handed) (v_law_f2 picture_here way r1 handed) () (izs 0 (2 : Int).toNat))) ∧ (∀ (r2 : Unit), (runFor (m_law_f2 picture_here way r1 handed) () (izs 0 (2 : Int).toNat) : Out (Unit) (Empty) (Bool)) = .nx r2 →
  ((v_way_done handed.1 ([] : List Dd)) ∧ (PyD.dok (m_way_done handed.1 ([] : List Dd))) ∧ (PyD.dok picture_here) ∧ ((eqb (m_way_done handed.1 ([] : List Dd)) picture_here) = true → ((PyD.dok handed) ∧ (PyD.dok (picture_here, way)))))))))))))))))))))))
theorem cell_ok (s : Scr Int) (h : Pre s) (k : Int) (h0 : 0 ≤ k) : v_l_cell_at s k ∧ Bit 1048576 (m_l_cell_at s k) := by
  refine ⟨fun e => ?_, ?_⟩
  · rw [decide_eq_true_eq] at e; unfold InB; omega
  · unfold m_l_cell_at
    split
    · next e =>
      rw [decide_eq_true_eq] at e
      exact Bit.scr h (ix_mem (by unfold InB; omega))
    · exact Bit.sm ⟨by decide, by decide⟩ (by decide)
theorem mixed_ok (s : Scr Int) (h : Pre s) (k : Int) (h0 : 0 ≤ k) (h1 : k ≤ 10000) : v_l_mixed s k ∧ 0 ≤ m_l_mixed s k ∧ m_l_mixed s k < 2147483648 := by
  unfold v_l_mixed m_l_mixed bnd
  dsimp only
  refine ⟨⟨(cell_ok s h k h0).1, ?_⟩, by omega, by omega⟩
  exact Bit.ok (n := 64) (m := 64) (Bit.sm ⟨by omega, by omega⟩ (by decide)) (Bit.sm ⟨by omega, by omega⟩ (by decide)) (by decide)
/-! ### rows -/
/-- a row of n cells, each of one sign -/
def RowN (n : Nat) (r : List (Str × Int)) : Prop := r.length = n ∧ ∀ c ∈ r, PyData.strOk c.1 = true ∧ c.1.length = 1
theorem sign_ok (n : Int) : v_l_sign n ∧ PyData.strOk (m_l_sign n) = true ∧ (m_l_sign n).length = 1 := by
  have hs : ∀ i : Fin 94, InB ((" !\"#$&'()*+,-./0123456789:;<=>?@ABCDEFGHIJKLMNOPQRSTUVWXYZ[\\]^_`" : Str) ++ ("abcdefghijklmnopqrstuvwxyz{|}~" : Str)).cps.toList (i.val : Int) ∧ PyData.strOk (ixS ((" !\"#$&'()*+,-./0123456789:;<=>?@ABCDEFGHIJKLMNOPQRSTUVWXYZ[\\]^_`" : Str) ++ ("abcdefghijklmnopqrstuvwxyz{|}~" : Str)) (i.val : Int)) = true ∧ (ixS ((" !\"#$&'()*+,-./0123456789:;<=>?@ABCDEFGHIJKLMNOPQRSTUVWXYZ[\\]^_`" : Str) ++ ("abcdefghijklmnopqrstuvwxyz{|}~" : Str)) (i.val : Int)).length = 1 := by decide +kernel
  have ha : ∀ i : Fin 4, PyData.strOk (ixS ("ab~ " : Str) (i.val : Int)) = true ∧ (ixS ("ab~ " : Str) (i.val : Int)).length = 1 := by decide +kernel
  have h1 := hs ⟨(n / 4 % 94).toNat, by omega⟩
  have h2 := ha ⟨(n / 4 % 4).toNat, by omega⟩
  have e1 : (((n / 4 % 94).toNat : Nat) : Int) = n / 4 % 94 := by omega
  have e2 : (((n / 4 % 4).toNat : Nat) : Int) = n / 4 % 4 := by omega
  dsimp only at h1 h2
  rw [e1] at h1
  rw [e2] at h2
  refine ⟨⟨by decide +kernel, h1.1, by decide +kernel⟩, ?_⟩
  unfold m_l_sign bnd
  refine ix_all (p := fun z : Str => PyData.strOk z = true ∧ z.length = 1) (fun x hx => ?_) (inB_mod 4 rfl (by decide))
  simp only [List.mem_cons, List.not_mem_nil, or_false] at hx
  rcases hx with rfl | rfl | rfl | rfl
  · decide +kernel
  · exact h2
  · exact h1.2
  · decide +kernel
theorem row_ok (number wide : Int) (h0 : 0 ≤ wide) (h1 : wide ≤ 1000) : v_l_row number wide ∧ RowN wide.toNat (m_l_row number wide) := by
  have k := fold_inv (g := m_l_row_f1) (vb := v_l_row_f1) (xs := izs 0 (wide : Int).toNat) (s := (number, m_l_ink number, ([] : List (Str × Int)))) (fun i s => RowN i s.2.2) ⟨rfl, fun c hc => nomatch hc⟩ fun i s y hy h => ?_
  · refine ⟨⟨⟨by omega, by omega⟩, k.1⟩, ?_⟩
    have := k.2
    rw [izs_len] at this
    exact this
  · have hi := (izs_get hy).1
    obtain ⟨q1, q2⟩ := h
    refine ⟨⟨(sign_ok _).1, by omega⟩, ?_⟩
    unfold m_l_row_f1 bnd
    refine ⟨by simp [q1], fun c hc => ?_⟩
    dsimp only at hc
    rcases List.mem_append.mp hc with hc | hc
    · exact q2 c hc
    · rw [List.mem_singleton] at hc
      subst hc
      exact (sign_ok _).2
/-! ### pictures of one size -/
def Pg (n m : Nat) (p : List (List (Str × Int))) : Prop := p.length = m ∧ ∀ r ∈ p, RowN n r
theorem row_dok {n : Nat} {r : List (Str × Int)} (h : RowN n r) : PyD.dok r := fun c hc => ⟨(h.2 c hc).1, trivial⟩
theorem blank_is (n : Nat) : RowN n (List.replicate n ([((" " : Str), 0)] : List (Str × Int))).flatten := by
  refine ⟨by simp, fun c hc => ?_⟩
  obtain ⟨l, hl, hc⟩ := List.mem_flatten.mp hc
  rw [(List.mem_replicate.mp hl).2, List.mem_singleton] at hc
  subst hc
  exact ⟨by decide +kernel, by decide +kernel⟩
theorem Pg.at {n m : Nat} {p : List (List (Str × Int))} (h : Pg n m p) {i : Int} (h0 : 0 ≤ i) (h1 : i < m) : InB p i ∧ RowN n (ix p i) := by
  have hb : InB p i := by have := h.1; unfold InB; omega
  exact ⟨hb, h.2 _ (ix_mem hb)⟩
theorem Pg.dok {n m : Nat} {p : List (List (Str × Int))} (h : Pg n m p) : PyD.dok p := fun r hr => row_dok (h.2 r hr)
theorem cut_a {τ : Type} {xs : List τ} {a : Int} (h0 : 0 ≤ a) (h1 : a ≤ xs.length) : cutL xs none (some a) = xs.take a.toNat := by
  unfold cutL HT.sIx
  dsimp only
  rw [if_neg (by omega), Nat.min_eq_left (by omega), List.drop_zero, Nat.sub_zero]
theorem cut_b {τ : Type} {xs : List τ} {a : Int} (h0 : 0 ≤ a) (h1 : a ≤ xs.length) : cutL xs (some a) none = xs.drop a.toNat := by
  unfold cutL HT.sIx
  dsimp only
  rw [if_neg (by omega), Nat.min_eq_left (by omega)]
  rw [List.take_of_length_le (by rw [List.length_drop]; omega)]
theorem signsL_len {s : Str} : (signsL s).length = s.length := by
  rw [← tl_len]; unfold signsL; rw [List.length_map]
theorem signsL_ok {s y : Str} (h : PyData.strOk s = true) (hy : y ∈ signsL s) : PyData.strOk y = true ∧ y.length = 1 := by
  unfold signsL at hy
  obtain ⟨c, hc, rfl⟩ := List.mem_map.mp hy
  refine ⟨strOk_iff.mpr fun d hd => ?_, rfl⟩
  rw [show tl (⟨#[c]⟩ : Str) = [c] from rfl, List.mem_singleton] at hd
  subst hd
  exact strOk_iff.mp h _ hc
--%%
theorem picture_ok (s : Scr Int) (h : Pre s) (first wide high : Int) (f0 : 0 ≤ first) (f1 : first ≤ 1000) (w0 : 0 ≤ wide) (w1 : wide ≤ 1000) (h0 : 0 ≤ high) (h1 : high ≤ 1000) : v_l_picture s first wide high ∧ Pg wide.toNat high.toNat (m_l_picture s first wide high) := by
  have k := fold_inv (g := m_l_picture_f1 s first wide) (vb := v_l_picture_f1 s first wide) (xs := izs 0 (high : Int).toNat) (s := ([] : List (List (Str × Int)))) (fun i s1 => Pg wide.toNat i s1) ⟨rfl, fun c hc => nomatch hc⟩ fun i s1 y hy q => ?_
  · refine ⟨⟨⟨by omega, by omega⟩, k.1⟩, ?_⟩
    have := k.2
    rw [izs_len] at this
    exact this
  · obtain ⟨hi, hy⟩ := izs_get hy
    have hm := mixed_ok s h (first + y % 6) (by omega) (by omega)
    unfold v_l_picture_f1 m_l_picture_f1 bnd
    dsimp only
    generalize m_l_mixed s (first + y % 6) / (1 + y / 6) + 17 * y = z
    have hr := row_ok (z / 8) wide w0 w1
    have hJ : RowN wide.toNat (if decide (z % 8 = 1) = true then (List.replicate (wide : Int).toNat ([((" " : Str), 0)] : List (Str × Int))).flatten else m_l_row (z / 8) wide) := by
      split
      · exact blank_is _
      · exact hr.2
    generalize (if decide (z % 8 = 1) = true then (List.replicate (wide : Int).toNat ([((" " : Str), 0)] : List (Str × Int))).flatten else m_l_row (z / 8) wide) = J at hJ
    have hne : ((decide ((z % 8) = 2)) && (!eqb s1 ([] : List (List (Str × Int))))) = true → 0 < s1.length := fun e => by
      rw [Bool.and_eq_true] at e
      cases s1 with
      | nil => rw [eqb_refl] at e; cases e.2
      | cons _ _ => simp
    have q1 := q.1
    have hix : ((decide ((z % 8) = 2)) && (!eqb s1 ([] : List (List (Str × Int))))) = true → InB s1 ((z / 8) % ((s1.length : Nat) : Int)) := fun e => inB_mod s1.length rfl (by have := hne e; omega)
    refine ⟨⟨hm.1, by unfold CDiv; omega, hr.1, fun _ => ⟨⟨by omega, by simp; omega⟩, by omega⟩, ⟨fun _ => ⟨q.dok, fun y hy => nomatch hy⟩, fun e => ⟨by have := hne e; omega, hix e⟩⟩, by omega⟩, ?_⟩
    refine ⟨by simp [q1], fun c hc => ?_⟩
    rcases List.mem_append.mp hc with hc | hc
    · exact q.2 c hc
    · rw [List.mem_singleton] at hc
      subst hc
      split
      · next e => exact q.2 _ (ix_mem (hix e))
      · exact hJ
theorem copied_is (p : List (List (Str × Int))) : m_l_copied p = p := List.map_id _
--%%
section
variable {n m : Nat} {p : List (List (Str × Int))}
theorem frb (n : Nat) (many : Int) : ∀ r ∈ (izs 0 many.toNat).map (fun _ : Int => (List.replicate n ([((" " : Str), 0)] : List (Str × Int))).flatten), RowN n r := fun r hr => by
  obtain ⟨_, _, rfl⟩ := List.mem_map.mp hr
  exact blank_is n
theorem lines_v (n : Nat) (hn : n ≤ 1000) (many : Int) (m1 : many ≤ 1000) (m0 : 1 ≤ many) : (-(2 ^ 62) ≤ (many : Int) ∧ (many : Int) < 2 ^ 62) ∧ ((izs 0 (many : Int).toNat).length ≤ 100000) ∧ (∀ turn ∈ ((izs 0 (many : Int).toNat) : List Int), ((((n : Nat) : Int) ≤ 100000 ∧ ([((" " : Str), 0)] : List (Str × Int)).length * (((n : Nat) : Int) : Int).toNat ≤ 100000) ∧ (-100000 ≤ ((n : Nat) : Int)))) :=
  ⟨⟨by omega, by omega⟩, by rw [izs_len]; omega, fun _ _ => ⟨⟨by omega, by simp; omega⟩, by omega⟩⟩
theorem cut_is (hp : Pg n m p) (hn : n ≤ 1000) (hm : m ≤ 1000) {row many : Int} (r0 : 0 ≤ row) (r1 : 1 ≤ many) (r2 : row + many ≤ m) : v_cut_done p row many ∧ v_l_cut p row many ∧ (m_cut_done p row many).1 = m_l_cut p row many ∧ Pg n m (m_l_cut p row many) := by
  have h0 := hp.at (i := 0) (by decide) (by omega)
  have lv := lines_v n hn many (by omega) r1
  have fb := frb n many
  have pl := hp.1
  have e1 : cutL p none (some row) = p.take row.toNat := cut_a r0 (by omega)
  have e2 : cutL p (some (row + many)) none = p.drop (row + many).toNat := cut_b (by omega) (by omega)
  unfold v_cut_done v_l_cut m_cut_done m_l_cut bnd
  dsimp only
  rw [h0.2.1, e1, e2]
  have fl : ((izs 0 (many : Int).toNat).map (fun turn' : Int => (List.replicate ((n : Nat) : Int).toNat ([((" " : Str), 0)] : List (Str × Int))).flatten)).length = many.toNat := by rw [List.length_map, izs_len]
  have fl2 : ((izs 0 (many : Int).toNat).map (fun turn : Int => (m_blank_row ((n : Nat) : Int) 0))).length = many.toNat := by rw [List.length_map, izs_len]
  refine ⟨⟨h0.1, lv.1, lv.2.1, lv.2.2, ⟨r0, by omega⟩, by rw [fl2]; omega⟩, ⟨h0.1, by simp; omega, lv.1, lv.2.1, lv.2.2, by rw [fl]; simp; omega⟩, rfl, ?_, fun r hr => ?_⟩
  · rw [List.length_append, List.length_append, fl]; simp; omega
  · rcases List.mem_append.mp hr with hr | hr
    · rcases List.mem_append.mp hr with hr | hr
      · exact hp.2 r (List.mem_of_mem_take hr)
      · exact hp.2 r (List.mem_of_mem_drop hr)
    · exact fb r hr
theorem put_is (hp : Pg n m p) (hn : n ≤ 1000) (hm : m ≤ 1000) {row many : Int} (r0 : 0 ≤ row) (r1 : 1 ≤ many) (r2 : row + many ≤ m) : v_put_done p row many ∧ v_l_put p row many ∧ (m_put_done p row many).1 = m_l_put p row many ∧ Pg n m (m_l_put p row many) := by
  have h0 := hp.at (i := 0) (by decide) (by omega)
  have lv := lines_v n hn many (by omega) r1
  have fb := frb n many
  have pl := hp.1
  have e1 : cutL p none (some row) = p.take row.toNat := cut_a r0 (by omega)
  have e2 : cutL p (some row) none = p.drop row.toNat := cut_b (by omega) (by omega)
  unfold v_put_done v_l_put m_put_done m_l_put bnd
  dsimp only
  rw [h0.2.1, e1, e2]
  have fl : ((izs 0 (many : Int).toNat).map (fun turn : Int => (List.replicate ((n : Nat) : Int).toNat ([((" " : Str), 0)] : List (Str × Int))).flatten)).length = many.toNat := by rw [List.length_map, izs_len]
  have fl2 : ((izs 0 (many : Int).toNat).map (fun turn : Int => (m_blank_row ((n : Nat) : Int) 0))).length = many.toNat := by rw [List.length_map, izs_len]
  have e3 : cutL ((p.take row.toNat ++ ((izs 0 (many : Int).toNat).map (fun turn : Int => (List.replicate ((n : Nat) : Int).toNat ([((" " : Str), 0)] : List (Str × Int))).flatten))) ++ p.drop row.toNat) none (some ((p.length : Nat) : Int)) = ((p.take row.toNat ++ ((izs 0 (many : Int).toNat).map (fun turn : Int => (List.replicate ((n : Nat) : Int).toNat ([((" " : Str), 0)] : List (Str × Int))).flatten))) ++ p.drop row.toNat).take p.length :=
    cut_a (by omega) (by rw [List.length_append, List.length_append, fl]; simp; omega)
  rw [e3]
  refine ⟨⟨h0.1, ⟨lv.1, lv.2.1, lv.2.2, ⟨r0, by omega⟩, by rw [fl2]; omega⟩, by omega⟩, ⟨h0.1, lv, by rw [fl]; simp; omega, by rw [List.length_append, fl]; simp; omega⟩, ?_, ?_, fun r hr => ?_⟩
  · show List.take (((anys p.length).length : Nat) : Int).toNat _ = _
    rw [show (((anys p.length).length : Nat) : Int).toNat = p.length by unfold anys; simp]; rfl
  · rw [List.length_take, List.length_append, List.length_append, fl]; simp; omega
  · have hr := List.mem_of_mem_take hr
    rcases List.mem_append.mp hr with hr | hr
    · rcases List.mem_append.mp hr with hr | hr
      · exact hp.2 r (List.mem_of_mem_take hr)
      · exact fb r hr
    · exact hp.2 r (List.mem_of_mem_drop hr)
theorem write_is (hp : Pg n m p) {w : Str} {row col ink : Int} {text : Str} (r0 : 0 ≤ row) (r1 : row < m) (c0 : 0 ≤ col) (c1 : col + text.length ≤ n) (ht : PyData.strOk text = true) :
    vFold (m_way_done_f2 ⟨row, col, text, ink⟩) (v_way_done_f2 ⟨row, col, text, ink⟩) p (enumL (signsL text)) ∧ vFold (m_l_deed_f1 (.wr w row col text ink)) (v_l_deed_f1 (.wr w row col text ink)) p (enumL (signsL text)) ∧
    (enumL (signsL text)).foldl (m_way_done_f2 ⟨row, col, text, ink⟩) p = (enumL (signsL text)).foldl (m_l_deed_f1 (.wr w row col text ink)) p ∧ Pg n m ((enumL (signsL text)).foldl (m_l_deed_f1 (.wr w row col text ink)) p) := by
  have step : ∀ s : List (List (Str × Int)), ∀ y ∈ enumL (signsL text), Pg n m s → (InB s row ∧ InB (ix s row) (col + y.1)) ∧ Pg n m (m_l_deed_f1 (.wr w row col text ink) s y) := fun s y hy hs => by
    obtain ⟨i, hi⟩ := List.mem_iff_getElem?.mp hy
    obtain ⟨y1, y2⟩ := enumL_get hi
    have hlt : i < text.length := by
      rw [← signsL_len]; exact (List.getElem?_eq_some_iff.mp y2).1
    have sg := signsL_ok ht (List.mem_of_getElem? y2)
    obtain ⟨b1, b2⟩ := hs.at r0 r1
    refine ⟨⟨b1, by unfold InB; rw [b2.1, y1]; omega⟩, ?_⟩
    refine ⟨by show (stI _ _ _).length = m; rw [st_len]; exact hs.1, fun r hr => ?_⟩
    rcases st_mem (show r ∈ stI s row (stI (ix s row) (col + y.1) (y.2, ink)) from hr) with hr | hr
    · exact hs.2 r hr
    · subst hr
      refine ⟨by rw [st_len]; exact b2.1, fun c hc => ?_⟩
      rcases st_mem hc with hc | hc
      · exact b2.2 c hc
      · subst hc; exact sg
  have k1 := fold_all (g := m_way_done_f2 ⟨row, col, text, ink⟩) (vb := v_way_done_f2 ⟨row, col, text, ink⟩) (xs := enumL (signsL text)) (s := p) (Pg n m) hp fun s y hy hs => step s y hy hs
  have k2 := fold_all (g := m_l_deed_f1 (.wr w row col text ink)) (vb := v_l_deed_f1 (.wr w row col text ink)) (xs := enumL (signsL text)) (s := p) (Pg n m) hp fun s y hy hs => ⟨⟨rfl, rfl, (step s y hy hs).1.1, rfl, (step s y hy hs).1.2⟩, (step s y hy hs).2⟩
  exact ⟨k1.1, k2.1, rfl, k2.2⟩
def Good (n m : Nat) : Dd → Prop
  | .cp w row many => (w = ("cut" : Str) ∨ w = ("put" : Str)) ∧ 0 ≤ row ∧ 1 ≤ many ∧ row + many ≤ m
  | .wr w row col text ink => w = ("write" : Str) ∧ 0 ≤ row ∧ row < m ∧ 0 ≤ col ∧ col + text.length ≤ n ∧ PyData.strOk text = true
theorem good_dok {d : Dd} (h : Good n m d) : PyD.dok d := by
  cases d with
  | cp w row many => exact ⟨by
      show PyData.strOk w = true
      rcases h.1 with rfl | rfl <;> decide +kernel, trivial, trivial⟩
  | wr w row col text ink => exact ⟨by
      show PyData.strOk w = true
      rw [h.1]; decide +kernel, trivial, trivial, h.2.2.2.2.2, trivial⟩
theorem deed_is (hp : Pg n m p) (hn : n ≤ 1000) (hm : m ≤ 1000) {d : Dd} (hd : Good n m d) : v_way_done_f1 p d ∧ v_l_deed p d ∧ m_way_done_f1 p d = m_l_deed p d ∧ Pg n m (m_l_deed p d) := by
  have pl := hp.1
  unfold v_way_done_f1 v_l_deed m_way_done_f1 m_l_deed bnd v_l_copied
  dsimp only
  rw [copied_is]
  cases d with
  | cp w row many =>
    obtain ⟨h1, h2, h3, h4⟩ := hd
    rcases h1 with rfl | rfl
    · obtain ⟨q1, q2, q3, q4⟩ := cut_is hp hn hm h2 h3 h4
      have e : decide ((Dd.cp ("cut" : Str) row many).tag = ("cut" : Str)) = true := decide_eq_true rfl
      refine ⟨⟨fun _ => ⟨rfl, rfl, q1⟩, fun z => absurd (e.symm.trans z) (by decide)⟩, ⟨by omega, fun _ => ⟨rfl, rfl, q2⟩, fun z => absurd (e.symm.trans z) (by decide)⟩, ?_, ?_⟩
      · rw [if_pos e, if_pos e]; exact q3
      · rw [if_pos e]; exact q4
    · obtain ⟨q1, q2, q3, q4⟩ := put_is hp hn hm h2 h3 h4
      have e : decide ((Dd.cp ("put" : Str) row many).tag = ("put" : Str)) = true := decide_eq_true rfl
      have e0 : ¬ decide ((Dd.cp ("put" : Str) row many).tag = ("cut" : Str)) = true := by rw [decide_eq_true_eq]; show ¬ ("put" : Str) = ("cut" : Str); decide
      refine ⟨⟨fun z => absurd z e0, fun _ => ⟨fun _ => ⟨rfl, rfl, q1⟩, fun z => absurd (e.symm.trans z) (by decide)⟩⟩, ⟨by omega, fun z => absurd z e0, fun _ => ⟨fun _ => ⟨rfl, rfl, q2⟩, fun z => absurd (e.symm.trans z) (by decide)⟩⟩, ?_, ?_⟩
      · rw [if_neg e0, if_neg e0, if_pos e, if_pos e]; exact q3
      · rw [if_neg e0, if_pos e]; exact q4
  | wr w row col text ink =>
    obtain ⟨rfl, h1, h2, h3, h4, h5⟩ := hd
    obtain ⟨q1, q2, q3, q4⟩ := write_is (w := ("write" : Str)) (ink := ink) hp h1 h2 h3 h4 h5
    have e0 : ¬ decide ((Dd.wr ("write" : Str) row col text ink).tag = ("cut" : Str)) = true := by rw [decide_eq_true_eq]; show ¬ ("write" : Str) = ("cut" : Str); decide
    have e1 : ¬ decide ((Dd.wr ("write" : Str) row col text ink).tag = ("put" : Str)) = true := by rw [decide_eq_true_eq]; show ¬ ("write" : Str) = ("put" : Str); decide
    refine ⟨⟨fun z => absurd z e0, fun _ => ⟨fun z => absurd z e1, fun _ => ⟨rfl, q1⟩⟩⟩, ⟨by omega, fun z => absurd z e0, fun _ => ⟨fun z => absurd z e1, fun _ => ⟨rfl, q2⟩⟩⟩, ?_, ?_⟩
    · rw [if_neg e0, if_neg e0, if_neg e1, if_neg e1]; exact q3
    · rw [if_neg e0, if_neg e1]; exact q4
theorem way_is (hn : n ≤ 1000) (hm : m ≤ 1000) : ∀ {ds : List Dd} {p : List (List (Str × Int))}, Pg n m p → (∀ d ∈ ds, Good n m d) → vFold m_way_done_f1 v_way_done_f1 p ds ∧ vFold m_l_deed v_l_deed p ds ∧ ds.foldl m_way_done_f1 p = ds.foldl m_l_deed p ∧ Pg n m (ds.foldl m_l_deed p)
  | [], p, hp, _ => ⟨trivial, trivial, rfl, hp⟩
  | d :: ds, p, hp, h => by
    obtain ⟨a1, a2, a3, a4⟩ := deed_is hp hn hm (h d (List.mem_cons_self ..))
    obtain ⟨b1, b2, b3, b4⟩ := way_is hn hm (ds := ds) a4 fun z hz => h z (List.mem_cons_of_mem _ hz)
    refine ⟨⟨a1, by rw [a3]; exact b1⟩, ⟨a2, b2⟩, ?_, b4⟩
    rw [List.foldl_cons, List.foldl_cons, a3]; exact b3
theorem done_is (hn : n ≤ 1000) (hm : m ≤ 1000) {ds : List Dd} {p : List (List (Str × Int))} (hp : Pg n m p) (h : ∀ d ∈ ds, Good n m d) : v_way_done p ds ∧ m_way_done p ds = ds.foldl m_l_deed p := by
  obtain ⟨a1, a2, a3, a4⟩ := way_is hn hm hp h
  have e : m_copied p = p := List.map_id _
  have pl := hp.1
  unfold v_way_done m_way_done bnd v_copied
  dsimp only
  rw [e]
  exact ⟨⟨by omega, a1⟩, a3⟩
end
--%%
/-! ### the way that is drawn -/
theorem hash_rows : ∀ r : Fin 12, ((List.range 24).map fun c : Nat => hashT (((r.val : Int), (c : Int)) : Int × Int)).Nodup := by decide +kernel
theorem hash_ne {r a b : Int} (h : 0 ≤ r ∧ r < 12) (h0 : 0 ≤ a) (h1 : a < b) (h2 : b < 24) : hashT ((r, a) : Int × Int) ≠ hashT ((r, b) : Int × Int) := by
  have k := List.pairwise_iff_getElem.mp (hash_rows ⟨r.toNat, by omega⟩) a.toNat b.toNat (by simp; omega) (by simp; omega) (by omega)
  simp only [List.getElem_map, List.getElem_range] at k
  rwa [show ((r.toNat : Nat) : Int) = r by omega, show ((a.toNat : Nat) : Int) = a by omega, show ((b.toNat : Nat) : Int) = b by omega] at k
--%%
theorem td_none {υ τ : Type} [Py υ] [TKey υ] {k : υ} : ∀ {l : List (υ × τ)}, tdOpt k l = none → ∀ z ∈ l, TKey.keys z.1 ≠ TKey.keys k
  | [], _, z, hz => nomatch hz
  | x :: r, h, z, hz => by
    unfold tdOpt at h
    split at h
    · cases h
    · next e =>
      rcases List.mem_cons.mp hz with rfl | hz
      · exact e
      · exact td_none h z hz
theorem izs_nodup {τ : Type} {f : Int → τ} {n : Nat} (h : ∀ a b : Int, 0 ≤ a → a < b → b < n → f a ≠ f b) : ((izs 0 n).map f).Nodup := by
  refine List.pairwise_iff_getElem.mpr fun i j hi hj hij => ?_
  rw [List.length_map, izs_len] at hi hj
  have e : ∀ i (hi : i < ((izs 0 n).map f).length), ((izs 0 n).map f)[i] = f (i : Int) := fun i hi => by
    have hi2 : i < n := by rw [List.length_map, izs_len] at hi; exact hi
    have := izs_at (lo := 0) hi2
    rw [List.getElem_map]
    obtain ⟨_, q⟩ := List.getElem?_eq_some_iff.mp this
    rw [q, Int.zero_add]
  rw [e, e]
  exact h i j (by omega) (by omega) (by omega)
theorem drawn2_ok (s : Scr Int) (h : Pre s) (m n : Nat) (sort : Int) (hs : sort = 0 ∨ sort = 1) (w : List Dd) (L : Nat) (hL : L ≤ 1000) (hw : w.length ≤ L ∧ ∀ d ∈ w, Good n m d) : v_l_drawn_f1 s m w sort ∧ (m_l_drawn_f1 s m w sort).length ≤ L + 3 ∧ ∀ d ∈ m_l_drawn_f1 s m w sort, Good n m d := by
  have h0 := mixed_ok s h (8 + sort) (by omega) (by omega)
  have k := fold_inv (g := m_l_drawn_f2 s m sort) (vb := v_l_drawn_f2 s m sort) (xs := izs 0 (((m_l_mixed s (8 + sort)) % 4) : Int).toNat) (s := ((0 : Int), w)) (fun i z => 0 ≤ z.1 ∧ z.2.length ≤ L + i ∧ ∀ d ∈ z.2, Good n m d) ⟨Int.le_refl 0, by simpa using hw⟩ fun i z y hy q => ?_
  · refine ⟨⟨h0.1, ⟨by omega, by omega⟩, k.1⟩, ?_⟩
    have := k.2
    rw [izs_len] at this
    exact ⟨Nat.le_trans this.2.1 (by omega), this.2.2⟩
  · obtain ⟨hi, hy⟩ := izs_get hy
    have hm := mixed_ok s h ((10 + (3 * sort)) + y) (by omega) (by omega)
    unfold v_l_drawn_f2 m_l_drawn_f2 bnd
    dsimp only
    generalize m_l_mixed s ((10 + (3 * sort)) + y) = num at hm
    obtain ⟨q1, q2, q3⟩ := q
    refine ⟨⟨hm.1, fun e => ?_⟩, ?_⟩
    · rw [decide_eq_true_eq] at e
      refine ⟨by unfold InB; show -((2 : Nat) : Int) ≤ sort ∧ sort < ((2 : Nat) : Int); omega, by omega, by omega⟩
    · split
      · next e =>
        rw [decide_eq_true_eq] at e
        have md := Int.emod_nonneg (num / 3) (show ((m : Int) - (z.1 + num % 3)) ≠ 0 by omega)
        have mu := Int.emod_lt_of_pos (num / 3) (show (0 : Int) < ((m : Int) - (z.1 + num % 3)) by omega)
        refine ⟨by show 0 ≤ _; omega, by simp; omega, fun d hd => ?_⟩
        rcases List.mem_append.mp hd with hd | hd
        · exact q3 d hd
        · rw [List.mem_singleton] at hd
          subst hd
          refine ⟨?_, by omega, by omega, by omega⟩
          rcases hs with rfl | rfl
          · exact .inl rfl
          · exact .inr rfl
      · refine ⟨by show 0 ≤ _; omega, by show z.2.length ≤ _; omega, q3⟩
def Met (L : Nat) (d : Td (Int × Int) Bool) : Prop := (d.l.map fun z => TKey.keys z.1).Nodup ∧ d.l.length ≤ L
theorem text_is {ys : List Str} (h : ∀ y ∈ ys, PyData.strOk y = true ∧ y.length = 1) : PyData.strOk (Txt.join ("" : Str) ys) = true ∧ (Txt.join ("" : Str) ys).length = ys.length :=
  ⟨join_strOk (by decide +kernel) fun y hy => (h y hy).1, by rw [← signsL_len, signs_join fun y hy => (h y hy).2]⟩
theorem hashes_gen {H : Int × Int → Int} {row place size : Int} (h : ∀ a b : Int, 0 ≤ a → a < b → b < size → H (row, place + a) ≠ H (row, place + b)) : (((((izs 0 (size : Int).toNat).map (fun j' : Int => (⟨(row, (place + j'))⟩ : Kk (Int × Int)))).map (fun cell' : Kk (Int × Int) => (cell', true))).map fun z : (Kk (Int × Int)) × Bool => ((z.1.x, z.2) : (Int × Int) × Bool)).map (fun z => H z.1)).Nodup := by
  rw [List.map_map, List.map_map, List.map_map]
  exact izs_nodup fun a b ha hab hb => h a b ha hab (by omega)
theorem hashes_ok {row place size : Int} (hr : 0 ≤ row ∧ row < 12) (p0 : 0 ≤ place) (p1 : place + size ≤ 24) : (((((izs 0 (size : Int).toNat).map (fun j' : Int => (⟨(row, (place + j'))⟩ : Kk (Int × Int)))).map (fun cell' : Kk (Int × Int) => (cell', true))).map fun z : (Kk (Int × Int)) × Bool => ((z.1.x, z.2) : (Int × Int) × Bool)).map (fun z => hashT z.1)).Nodup :=
  hashes_gen (H := hashT) fun a b ha hab hb => hash_ne (r := row) (a := place + a) (b := place + b) hr (by omega) (by omega) (by omega)
theorem drawn3_ok (s : Scr Int) (h : Pre s) (m n : Nat) (hm : 1 ≤ m ∧ m ≤ 12) (hn : 1 ≤ n ∧ n ≤ 24) (w : List Dd) (d : Td (Int × Int) Bool) (k : Int) (k0 : 0 ≤ k) (k1 : k ≤ 20) (L M : Nat) (hL : L ≤ 1000) (hM : M ≤ 1000) (hw : w.length ≤ L ∧ ∀ e ∈ w, Good n m e) (hd : Met M d) :
    v_l_drawn_f3 s n m (w, d) k ∧ ((m_l_drawn_f3 s n m (w, d) k).1.length ≤ L + 1 ∧ ∀ e ∈ (m_l_drawn_f3 s n m (w, d) k).1, Good n m e) ∧ Met (M + 24) (m_l_drawn_f3 s n m (w, d) k).2 := by
  have hx := mixed_ok s h (17 + k) (by omega) (by omega)
  unfold v_l_drawn_f3 m_l_drawn_f3 bnd
  dsimp only
  generalize m_l_mixed s (17 + k) = num at hx
  have p0 := Int.emod_nonneg (num / 12) (show (n : Int) ≠ 0 by omega)
  have p1 := Int.emod_lt_of_pos (num / 12) (show (0 : Int) < (n : Int) by omega)
  have r0 := Int.emod_nonneg num (show (m : Int) ≠ 0 by omega)
  have r1 := Int.emod_lt_of_pos num (show (0 : Int) < (m : Int) by omega)
  generalize (num / 12) % (n : Int) = place at *
  generalize num % (m : Int) = row at *
  have z0 := Int.emod_nonneg (num / 288) (show (n : Int) - place ≠ 0 by omega)
  have z1 := Int.emod_lt_of_pos (num / 288) (show (0 : Int) < (n : Int) - place by omega)
  generalize hsz : 1 + (num / 288) % ((n : Int) - place) = size
  have s0 : 1 ≤ size := by omega
  have s1 : place + size ≤ n := by omega
  have cl : ((izs 0 (size : Int).toNat).map (fun j' : Int => (⟨(row, (place + j'))⟩ : Kk (Int × Int)))).length = size.toNat := by rw [List.length_map, izs_len]
  have sg : ∀ j : Int, PyData.strOk (m_l_sign (num / ((k + j) + 2))) = true ∧ (m_l_sign (num / ((k + j) + 2))).length = 1 := fun j => (sign_ok _).2
  have tx := text_is (ys := (izs 0 (size : Int).toNat).map (fun j''' : Int => (m_l_sign (num / ((k + j''') + 2))))) fun y hy => by
    obtain ⟨j, _, rfl⟩ := List.mem_map.mp hy
    exact sg j
  have tl' : ((izs 0 (size : Int).toNat).map (fun j''' : Int => (m_l_sign (num / ((k + j''') + 2))))).length = size.toNat := by rw [List.length_map, izs_len]
  have jl : (((izs 0 (size : Int).toNat).map (fun j''' : Int => (m_l_sign (num / ((k + j''') + 2))))).map (·.length)).sum + ((izs 0 (size : Int).toNat).map (fun j''' : Int => (m_l_sign (num / ((k + j''') + 2))))).length * ("" : Str).length ≤ 16777216 :=
    join_le 1 1000 0 (fun y hy => by
      obtain ⟨j, _, rfl⟩ := List.mem_map.mp hy
      exact Nat.le_of_eq (sg j).2) (by rw [tl']; omega) (Nat.le_refl _) (by decide)
  have k1' : ((((izs 0 (size : Int).toNat).map (fun j' : Int => (⟨(row, (place + j'))⟩ : Kk (Int × Int)))).map (fun cell' : Kk (Int × Int) => (cell', true))).map fun z : (Kk (Int × Int)) × Bool => TKey.keys z.1.x).Nodup := by
    rw [List.map_map, List.map_map]
    refine izs_nodup fun a b _ hab _ e => ?_
    have := TKey.inj _ _ (show TKey.keys ((row, place + a) : Int × Int) = TKey.keys ((row, place + b) : Int × Int) from e)
    have := (Prod.mk.inj this).2
    omega
  have k2' := hashes_ok (size := size) (place := place) ⟨r0, by omega⟩ p0 (show place + size ≤ 24 by omega)
  have k3' : ∀ e : (eqb (((((izs 0 (size : Int).toNat).map (fun j' : Int => (⟨(row, (place + j'))⟩ : Kk (Int × Int)))).filter (fun cell : Kk (Int × Int) => (tdOpt cell.x d.l).isSome)).map (fun cell : Kk (Int × Int) => cell)).map fun z => Kk.x z) ([] : List (Int × Int))) = true,
      ((d.l ++ ((((izs 0 (size : Int).toNat).map (fun j' : Int => (⟨(row, (place + j'))⟩ : Kk (Int × Int)))).map (fun cell' : Kk (Int × Int) => (cell', true))).map fun z : (Kk (Int × Int)) × Bool => ((z.1.x, z.2) : (Int × Int) × Bool))).map fun z => TKey.keys z.1).Nodup := fun e => by
    have e := eqb_iff.mp e
    rw [List.map_eq_nil_iff, List.map_eq_nil_iff, List.filter_eq_nil_iff] at e
    rw [List.map_append, List.nodup_append]
    refine ⟨hd.1, ?_, fun a ha b hb q => ?_⟩
    · rw [List.map_map]; exact k1'
    · subst q
      obtain ⟨z, hz, rfl⟩ := List.mem_map.mp ha
      obtain ⟨y, hy, q⟩ := List.mem_map.mp hb
      obtain ⟨u, hu, rfl⟩ := List.mem_map.mp hy
      obtain ⟨v, hv, rfl⟩ := List.mem_map.mp hu
      have n1 : tdOpt v.x d.l = none := by
        have := e v hv
        cases g : tdOpt v.x d.l with
        | none => rfl
        | some _ => rw [g] at this; exact absurd rfl this
      exact td_none n1 z hz q.symm
  have ml : (((((izs 0 (size : Int).toNat).map (fun j' : Int => (⟨(row, (place + j'))⟩ : Kk (Int × Int)))).map (fun cell' : Kk (Int × Int) => (cell', true))).map fun z : (Kk (Int × Int)) × Bool => ((z.1.x, z.2) : (Int × Int) × Bool))).length = size.toNat := by
    rw [List.length_map, List.length_map, cl]
  have d2 := hd.2
  refine ⟨⟨hx.1, by omega, by omega, ⟨⟨by omega, by omega⟩, by rw [izs_len]; omega, fun _ _ => by omega⟩, by rw [cl]; omega, fun e => ⟨⟨⟨by omega, by omega⟩, by rw [izs_len]; omega, fun j hj => ⟨?_, (sign_ok _).1⟩, jl⟩, ⟨by omega, by omega⟩, by rw [cl]; omega, k1', ⟨k3' e, ?_⟩, .inr k2'⟩⟩, ?_⟩
  · have := izs_mem.mp hj
    unfold CDiv; omega
  · rw [List.length_append, ml]; omega
  · split
    · next e =>
      refine ⟨⟨by simp; omega, fun z hz => ?_⟩, k3' e, by rw [List.length_append, ml]; omega⟩
      rcases List.mem_append.mp hz with hz | hz
      · exact hw.2 z hz
      · rw [List.mem_singleton] at hz
        subst hz
        refine ⟨rfl, r0, r1, p0, ?_, tx.1⟩
        rw [tx.2, tl']; omega
    · exact ⟨⟨by show w.length ≤ _; omega, hw.2⟩, hd.1, by show d.l.length ≤ _; omega⟩
theorem drawn_ok (s : Scr Int) (h : Pre s) (m n : Nat) (hm : 1 ≤ m ∧ m ≤ 12) (hn : 1 ≤ n ∧ n ≤ 24) : v_l_drawn s n m ∧ ∀ d ∈ m_l_drawn s n m, Good n m d := by
  have h16 := mixed_ok s h 16 (by decide) (by decide)
  have a := fold_inv (g := m_l_drawn_f1 s m) (vb := v_l_drawn_f1 s m) (xs := izs 0 (2 : Int).toNat) (s := ([] : List Dd)) (fun i z => z.length ≤ 3 * i ∧ ∀ d ∈ z, Good n m d) ⟨Nat.le_refl _, fun d hd => nomatch hd⟩ fun i z y hy q => by
    obtain ⟨hi, hy⟩ := izs_get hy
    have hi : i < 2 := hi
    have r := drawn2_ok s h m n y (by omega) z (3 * i) (by omega) q
    exact ⟨r.1, by omega, r.2.2⟩
  rw [izs_len] at a
  unfold v_l_drawn m_l_drawn bnd
  dsimp only
  generalize (izs 0 (2 : Int).toNat).foldl (m_l_drawn_f1 s m) ([] : List Dd) = r1 at a
  have b := fold_inv (g := m_l_drawn_f3 s n m) (vb := v_l_drawn_f3 s n m) (xs := izs 0 (((m_l_mixed s 16) % 7) : Int).toNat) (s := (r1, (⟨[]⟩ : Td (Int × Int) Bool))) (fun i z => (z.1.length ≤ 6 + i ∧ ∀ d ∈ z.1, Good n m d) ∧ Met (24 * i) z.2) ⟨⟨a.2.1, a.2.2⟩, List.nodup_nil, Nat.le_refl _⟩ fun i z y hy q => by
    obtain ⟨hi, hy⟩ := izs_get hy
    have r := drawn3_ok s h m n hm hn z.1 z.2 y (by omega) (by omega) (6 + i) (24 * i) (by omega) (by omega) q.1 q.2
    exact ⟨r.1, r.2.1, r.2.2⟩
  exact ⟨⟨a.1, h16.1, ⟨by omega, by omega⟩, b.1⟩, b.2.1.2⟩
--%%
theorem hd_eq {α : Type} (p : α) : p = p := rfl
theorem law3_step (s : List (List (Str × Int))) (k : Int) : m_law_f3 s k = .nx (stI s k ([] : List (Str × Int))) := rfl
theorem clear_run (X : List (List (Str × Int))) : vRunO m_law_f3 (fun _ _ => True) (fun s3 : (List (List (Str × Int))) => s3) X.length X ∧ ∃ z, (runFor (m_law_f3) X (izs 0 X.length) : Out ((List (List (Str × Int)))) (Unit) (Bool)) = .nx z := by
  have go : ∀ s, ∀ y ∈ izs 0 X.length, m_law_f3 s y = .nx ((fun s k => stI s k ([] : List (Str × Int))) s y) ∨ m_law_f3 s y = .ct ((fun s k => stI s k ([] : List (Str × Int))) s y) := fun s y _ => .inl rfl
  have K := fold_all (g := fun s k => stI s k ([] : List (Str × Int))) (vb := fun s (y : Int) => s.length = X.length ∧ True) (xs := izs 0 X.length) (s := X) (fun s => s.length = X.length) rfl fun s y hy q => ⟨⟨q, trivial⟩, by rw [st_len]; exact q⟩
  refine ⟨⟨vrun_go go K.1, fun s' e => ?_⟩, _, run_go go⟩
  rw [run_go go] at e
  cases e
  exact K.2
theorem law_both (s : Scr Int) (h : Pre s) : v_law s ∧ m_law s = true := by
  have m0 := mixed_ok s h 0 (by decide) (by decide)
  have hJ : (1 ≤ (if (decide ((((m_l_mixed s 0) / 48) % 9) = 1)) then ((1 + (((m_l_mixed s 0) / 432) % 24)), (12 : Int)) else ((1 + ((m_l_mixed s 0) % 8)), (1 + (((m_l_mixed s 0) / 8) % 6)))).1 ∧ (if (decide ((((m_l_mixed s 0) / 48) % 9) = 1)) then ((1 + (((m_l_mixed s 0) / 432) % 24)), (12 : Int)) else ((1 + ((m_l_mixed s 0) % 8)), (1 + (((m_l_mixed s 0) / 8) % 6)))).1 ≤ 24) ∧ 1 ≤ (if (decide ((((m_l_mixed s 0) / 48) % 9) = 1)) then ((1 + (((m_l_mixed s 0) / 432) % 24)), (12 : Int)) else ((1 + ((m_l_mixed s 0) % 8)), (1 + (((m_l_mixed s 0) / 8) % 6)))).2 ∧ (if (decide ((((m_l_mixed s 0) / 48) % 9) = 1)) then ((1 + (((m_l_mixed s 0) / 432) % 24)), (12 : Int)) else ((1 + ((m_l_mixed s 0) % 8)), (1 + (((m_l_mixed s 0) / 8) % 6)))).2 ≤ 12 := by
    split
    · dsimp only; omega
    · dsimp only; omega
  unfold v_law m_law bnd
  dsimp only
  generalize (if (decide ((((m_l_mixed s 0) / 48) % 9) = 1)) then ((1 + (((m_l_mixed s 0) / 432) % 24)), (12 : Int)) else ((1 + ((m_l_mixed s 0) % 8)), (1 + (((m_l_mixed s 0) / 8) % 6)))) = J at hJ
  obtain ⟨w, hh⟩ := J
  dsimp only at hJ ⊢
  obtain ⟨n, rfl⟩ := Int.eq_ofNat_of_zero_le (show 0 ≤ w by omega)
  obtain ⟨m, rfl⟩ := Int.eq_ofNat_of_zero_le (show 0 ≤ hh by omega)
  have pk := picture_ok s h 1 n m (by omega) (by omega) (by omega) (by omega) (by omega) (by omega)
  rw [Int.toNat_natCast, Int.toNat_natCast] at pk
  have dk := drawn_ok s h m n (by omega) (by omega)
  obtain ⟨pk1, pk2⟩ := pk
  obtain ⟨dk1, dk2⟩ := dk
  generalize m_l_picture s 1 n m = P at pk2
  generalize m_l_drawn s n m = W at dk2
  rw [copied_is]
  obtain ⟨a1, a2, a3, a4⟩ := way_is (by omega) (by omega) pk2 dk2
  obtain ⟨d1, d2⟩ := done_is (by omega) (by omega) pk2 dk2
  obtain ⟨e1, e2⟩ := done_is (ds := []) (by omega) (by omega) pk2 fun d hd => nomatch hd
  have fe : W.foldl m_law_f1 P = W.foldl m_l_deed P := rfl
  have hdk : PyD.dok (P, W) := ⟨pk2.dok, fun d hd => good_dok (dk2 d hd)⟩
  have pl := pk2.1
  have b0 : ∀ {τ : Type} [Py τ] [PyD τ] (x : τ), (!eqb x x) = false := fun x => by rw [eqb_refl]; rfl
  have k := run_ok (B := Empty) (f := m_law_f2 P W (W.foldl m_law_f1 P) (P, W)) (vb := v_law_f2 P W (W.foldl m_law_f1 P) (P, W)) (xs := izs 0 (2 : Int).toNat) fun y hy => by
    obtain ⟨c1, z, c2⟩ := clear_run (W.foldl m_l_deed P)
    unfold v_law_f2 m_law_f2 bnd
    dsimp only
    rw [d2, fe, b0, b0]
    refine ⟨⟨d1, fun _ => ⟨a4.dok, a4.dok, fun _ => ⟨hdk, hdk⟩⟩, fun _ => c1⟩, ?_⟩
    rw [if_neg (by decide), c2]; rfl
  refine ⟨⟨m0.1, m0.1, ⟨m0.1, fun _ => m0.1⟩, pk1, dk1, (by show P.length ≤ _; omega), a2, (by show P.length ≤ _; omega), k.1, fun _ _ => ⟨e1, ?_, pk2.dok, fun _ => ⟨hdk, hdk⟩⟩⟩, ?_⟩
  · rw [e2]; exact pk2.dok
  · rw [k.2]
    show (eqb (m_way_done P []) P && eqb (P, W) (P, W)) = true
    rw [e2, eqb_refl, List.foldl_nil, eqb_refl]; rfl
theorem v_law_ok (s : Scr Int) (h : Pre s) : v_law s := (law_both s h).1
theorem law_true (s : Scr Int) (h : Pre s) : m_law s = true := (law_both s h).2
structure Txt (K : PySem.W.Frag) (mg : Str → Option Value) : Prop where
  d_blank_row : DfD K mg "blank_row" (top 2) [V.int 0]
  d_copied : Df K mg "copied" (top 3)
  d_cut_done : Df K mg "cut_done" (top 5)
  d_put_done : Df K mg "put_done" (top 6)
  d_way_done : Df K mg "way_done" (top 7)
  d_l_cell_at : Df K mg "_law_cell_at" (top 9)
  d_l_mixed : Df K mg "_law_mixed" (top 10)
  d_l_ink : Df K mg "_law_ink" (top 11)
  d_l_sign : Df K mg "_law_sign" (top 12)
  d_l_row : Df K mg "_law_row" (top 13)
  d_l_picture : Df K mg "_law_picture" (top 14)
  d_l_copied : Df K mg "_law_copied" (top 16)
  d_l_cut : Df K mg "_law_cut" (top 17)
  d_l_put : Df K mg "_law_put" (top 18)
  d_l_deed : Df K mg "_law_deed" (top 19)
  d_l_drawn : Df K mg "_law_drawn" (top 23)
  d_law : Df K mg "law" (top 24)
  c_BLANK : ∃ t, mg "BLANK" = some (.str (" " : Str) t)
  b_dict : mg "dict" = none
  b_enumerate : mg "enumerate" = none
  b_isinstance : mg "isinstance" = none
  b_len : mg "len" = none
  b_list : mg "list" = none
  b_range : mg "range" = none
section
variable {P : Program} {w : World} {K : PySem.W.Frag} {mg : Str → Option Value} {base : Heap}
abbrev s_blank_row : Stmt := top 2
theorem sc_blank_row : FnScope ["wide", "ink"] ["wide", "ink"] (defScope s_blank_row) := ⟨rfl, rfl, rfl, by decide +kernel, rfl, by decide +kernel, by decide +kernel⟩
set_option maxHeartbeats 4000000 in
theorem bd_blank_row (T : Txt K mg) : ∀ (f : Addr) (cdv : Value) (A : Around) (outer : List PySem.Env) (s : Shared) (H : Hp) (E : XK) (c : Cw) (as : Nat → Addr) (a : Int × Int × Unit), Room' 0 A "blank_row" s_blank_row s f cdv → (fun a : Int × Int × Unit => v_blank_row a.1 a.2.1) a →
      XF (R := RcG as (fun r : (List (Str × Int)) => ([none, none] : List (Option OT))) (fun r : (List (Str × Int)) => (.ow none (ol r) : Slot)) (fun _ => none)) (cxOf (L2.CX P w) P w K mg base ["wide", "ink"] "blank_row" (defScope s_blank_row) f cdv A outer s H E) ⟨fun cls d _ H => E cls d H, List.replicate 2 .no⟩ c (argSl as 0 ((fun a : Int × Int × Unit => ([.fz (a.1 : Int), .fz (a.2.1 : Int)] : List ArgD)) a) ++ List.replicate (2 - ((fun a : Int × Int × Unit => ([.fz (a.1 : Int), .fz (a.2.1 : Int)] : List ArgD)) a).length) .no) (defBody s_blank_row) (fun e : Empty => e.elim) ((fun _ (e : Empty) => e.elim) as) ((fun a : Int × Int × Unit => m_blank_row a.1 a.2.1) a) := by
  intro f cdv A outer s H E c as a hr hp
  obtain ⟨wide, ink, ⟨⟩⟩ := a
  have nd := sc_blank_row.nd
  have hp : v_blank_row wide ink := hp
  delta v_blank_row at hp
  refine XF.gam (Γ' := [.fz (wide : Int), .fz (ink : Int)]) rfl ?_
  exact XF.eq (xf_one (xs_retM (XN.m (xn_rep (xq_n (XN.eq (xn_lst (xns_cons (XE.n (xe_tup (υ := Str × Int) (xa_cons (xe_gs T.c_BLANK) (xa_cons (xe_var 1) xa_nil)))) xns_nil) (le100 rfl)) (t' := (ol ([((" " : Str), ink)] : List (Str × Int)))) rfl)) (xe_var 0) hp.1 hp.2)) (rg_of (by exact trivial)) rfl rfl)) (by rfl)
theorem ok_blank_row (T : Txt K mg) : Fk P w K mg base (L2.CX P w) "blank_row" ["wide", "ink"] [] 1 (SpG K mg (fun a : Int × Int × Unit => ([.fz (a.1 : Int), .fz (a.2.1 : Int)] : List ArgD)) (fun a : Int × Int × Unit => v_blank_row a.1 a.2.1) (fun r : (List (Str × Int)) => ([none, none] : List (Option OT))) (fun r : (List (Str × Int)) => (.ow none (ol r) : Slot)) (fun _ => none) (fun a : Int × Int × Unit => m_blank_row a.1 a.2.1)) :=
  (fkd_of (dvs := [V.int 0]) (nf := (fun e : Empty => e.elim)) (G := (fun _ (e : Empty) => e.elim)) T.d_blank_row sc_blank_row (fun _ => rfl) 1 2 (by simp) (by decide) (fun _ _ _ _ _ _ _ us its hl hi => match us, its, hl, hi with | [_, _], [_], _, _ => ⟨_, rfl, rfl⟩) (fun _ _ => rfl) (fun _ e => e.elim) (bd_blank_row T)).full
theorem ok_blank_row_d1 (T : Txt K mg) : FkD P w K mg base (L2.CX P w) "blank_row" ["wide", "ink"] [V.int 0] 1 (SpG K mg (fun a : Int × Int × Unit => ([.fz (a.1 : Int), .fz (a.2.1 : Int)] : List ArgD)) (fun a : Int × Int × Unit => v_blank_row a.1 a.2.1) (fun r : (List (Str × Int)) => ([none, none] : List (Option OT))) (fun r : (List (Str × Int)) => (.ow none (ol r) : Slot)) (fun _ => none) (fun a : Int × Int × Unit => m_blank_row a.1 a.2.1)) :=
  fkd_of (dvs := [V.int 0]) (nf := (fun e : Empty => e.elim)) (G := (fun _ (e : Empty) => e.elim)) T.d_blank_row sc_blank_row (fun _ => rfl) 0 1 (by simp) (by decide) (fun _ _ _ _ _ _ _ us its hl hi => match us, its, hl, hi with | [_], [_], _, _ => ⟨_, rfl, rfl⟩) (fun _ _ => rfl) (fun _ e => e.elim) (bd_blank_row T)
abbrev s_copied : Stmt := top 3
theorem sc_copied : FnScope ["picture", "row"] ["picture"] (defScope s_copied) := ⟨rfl, rfl, rfl, by decide +kernel, rfl, by decide +kernel, by decide +kernel⟩
set_option maxHeartbeats 4000000 in
theorem ok_copied (T : Txt K mg) : Fk P w K mg base (L2.CX P w) "copied" ["picture"] [] 1 (SpG K mg (fun a : (List (List (Str × Int))) × Unit => ([.fz (a.1 : List (List (Str × Int)))] : List ArgD)) (fun a : (List (List (Str × Int))) × Unit => v_copied a.1) (fun r : (List (List (Str × Int))) => ([none] : List (Option OT))) (fun r : (List (List (Str × Int))) => (.ow none ((OT.li ol) r) : Slot)) (fun _ => none) (fun a : (List (List (Str × Int))) × Unit => m_copied a.1)) := by
  refine fk_of (nf := (fun e : Empty => e.elim)) (G := (fun _ (e : Empty) => e.elim)) T.d_copied sc_copied (fun _ => rfl) (fun _ _ _ _ _ _ us hl => match us, hl with | [_], _ => rfl) (fun _ _ => rfl) (fun _ e => e.elim) ?_
  intro f cdv A outer s H E c as a hr hp
  obtain ⟨picture, ⟨⟩⟩ := a
  have nd := sc_copied.nd
  have hp : v_copied picture := hp
  delta v_copied at hp
  refine XF.gam (Γ' := [.fz (picture : List (List (Str × Int))), .no]) rfl ?_
  exact XF.eq (xf_one (xs_retM (XN.m (xn_lcT (h := fun row : List (Str × Int) => row) (e := ol) [("row", 1)] nd (xi_listL (xe_var 0)) hp (fun q => (xg_name 1 nd)) (fun (row : List (Str × Int)) hy_row q => (xn_list T.b_list (xq_fz (xe_var 1)))) (ok := by first | (show blkC ["picture", "row"] (defScope s_copied) _ _ = true; decide +kernel) | exact rfl))) (rg_of (by exact trivial)) rfl rfl)) (by rfl)
abbrev s_cut_done : Stmt := top 5
theorem sc_cut_done : FnScope ["picture", "row", "many", "wide", "turn"] ["picture", "row", "many"] (defScope s_cut_done) := ⟨rfl, rfl, rfl, by decide +kernel, rfl, by decide +kernel, by decide +kernel⟩
set_option maxHeartbeats 4000000 in
theorem ok_cut_done (T : Txt K mg) : Fk P w K mg base (L2.CX P w) "cut_done" ["picture", "row", "many"] [] 2 (SpG K mg (fun a : (List (List (Str × Int))) × Int × Int × Unit => ([ArgD.ow ((OT.li ol) a.1), .fz (a.2.1 : Int), .fz (a.2.2.1 : Int)] : List ArgD)) (fun a : (List (List (Str × Int))) × Int × Int × Unit => v_cut_done a.1 a.2.1 a.2.2.1) (fun r : (List (List (Str × Int))) × (List Any) => ([some (ol r.2), none, none] : List (Option OT))) (fun r : (List (List (Str × Int))) × (List Any) => (.ow none ((OT.li ol) r.1) : Slot)) (fun _ => none) (fun a : (List (List (Str × Int))) × Int × Int × Unit => m_cut_done a.1 a.2.1 a.2.2.1)) := by
  refine fk_of (nf := (fun e : Empty => e.elim)) (G := (fun _ (e : Empty) => e.elim)) T.d_cut_done sc_cut_done (fun _ => rfl) (fun _ _ _ _ _ _ us hl => match us, hl with | [_, _, _], _ => rfl) (fun _ _ => rfl) (fun _ e => e.elim) ?_
  intro f cdv A outer s H E c as a hr hp
  obtain ⟨picture, row, many, ⟨⟩⟩ := a
  have nd := sc_cut_done.nd
  have hp : v_cut_done picture row many := hp
  delta v_cut_done at hp
  refine XF.gam (Γ' := [.ow (some (as 0)) ((OT.li ol) picture), .fz (row : Int), .fz (many : Int), .no, .no]) rfl ?_
  exact XF.eq (xf_nxtv (xs_let 3 nd (xe_lenP T.b_len (xpl_ix (xpl_name 0) xe_int rfl rfl (ixn_ok hp.1)) rfl (get_ix (g := ol) rfl hp.1))) hp.2 (fun (wide : Int) h_wide hv_wide => (xf_one (xs_retM (R := RcG as (fun r : (List (List (Str × Int))) × (List Any) => [some (ol r.2), none, none]) (fun r : (List (List (Str × Int))) × (List Any) => .ow none ((OT.li ol) r.1)) (fun _ => none)) (r := (bnd (((picture.take (row : Int).toNat ++ picture.drop ((row + many) : Int).toNat) ++ ((izs 0 (many : Int).toNat).map (fun turn : Int => (m_blank_row wide 0)))), anys picture.length) fun res => (res.1, res.2) : (List (List (Str × Int))) × (List Any))) (xm_mvC (g := ol) (xpl_name 0) (xpl_name 0) rfl (xp_some (xe_var 1)) (xp_some (xe_add (xe_var 1) (xe_var 2))) (xn_lcT (h := fun turn : Int => (m_blank_row wide 0)) (e := ol) [("turn", 4)] nd (xi_range1 T.b_range (xe_var 2) hv_wide.1) hv_wide.2.1 (fun q => (xg_name 4 nd)) (fun (turn : Int) hy_turn q => (xn_callD (r := (wide, 0, ())) (ok_blank_row_d1 T) (by exact fun F H σ vs h => pd_app h ((.cons (a := CA.fz (0 : Int)) rfl .nil))) hr (by decide) (xr_fz (xe_var 3) xr_nil) (hv_wide.2.2.1 turn hy_turn))) (ok := by first | (show blkC ["picture", "row", "many", "wide", "turn"] (defScope s_cut_done) _ _ = true; decide +kernel) | exact rfl)) hv_wide.2.2.2.1 hv_wide.2.2.2.2) (rg_of (by exact ⟨rfl, trivial⟩)) rfl rfl)))) (by rfl)
abbrev s_put_done : Stmt := top 6
theorem sc_put_done : FnScope ["picture", "row", "many", "wide", "fresh", "turn"] ["picture", "row", "many"] (defScope s_put_done) := ⟨rfl, rfl, rfl, by decide +kernel, rfl, by decide +kernel, by decide +kernel⟩
set_option maxHeartbeats 4000000 in
theorem ok_put_done (T : Txt K mg) : Fk P w K mg base (L2.CX P w) "put_done" ["picture", "row", "many"] [] 2 (SpG K mg (fun a : (List (List (Str × Int))) × Int × Int × Unit => ([ArgD.ow ((OT.li ol) a.1), .fz (a.2.1 : Int), .fz (a.2.2.1 : Int)] : List ArgD)) (fun a : (List (List (Str × Int))) × Int × Int × Unit => v_put_done a.1 a.2.1 a.2.2.1) (fun r : (List (List (Str × Int))) × (List Any) => ([some (ol r.2), none, none] : List (Option OT))) (fun r : (List (List (Str × Int))) × (List Any) => (.ow none ((OT.li ol) r.1) : Slot)) (fun _ => none) (fun a : (List (List (Str × Int))) × Int × Int × Unit => m_put_done a.1 a.2.1 a.2.2.1)) := by
  refine fk_of (nf := (fun e : Empty => e.elim)) (G := (fun _ (e : Empty) => e.elim)) T.d_put_done sc_put_done (fun _ => rfl) (fun _ _ _ _ _ _ us hl => match us, hl with | [_, _, _], _ => rfl) (fun _ _ => rfl) (fun _ e => e.elim) ?_
  intro f cdv A outer s H E c as a hr hp
  obtain ⟨picture, row, many, ⟨⟩⟩ := a
  have nd := sc_put_done.nd
  have hp : v_put_done picture row many := hp
  delta v_put_done at hp
  refine XF.gam (Γ' := [.ow (some (as 0)) ((OT.li ol) picture), .fz (row : Int), .fz (many : Int), .no, .no, .no]) rfl ?_
  exact XF.eq (xf_nxtv (xs_let 3 nd (xe_lenP T.b_len (xpl_ix (xpl_name 0) xe_int rfl rfl (ixn_ok hp.1)) rfl (get_ix (g := ol) rfl hp.1))) hp.2 (fun (wide : Int) h_wide hv_wide => (xf_nxtv (xs_letM (σ' := Unit) (y := (((picture.take (row : Int).toNat ++ ((izs 0 (many : Int).toNat).map (fun turn : Int => (m_blank_row wide 0)))) ++ picture.drop (row : Int).toNat), anys picture.length)) (Γ1 := fun freshR => [.ow (some (as 0)) (ol freshR.2), .fz (row : Int), .fz (many : Int), .fz (wide : Int), .no, .no]) (sl := fun freshR => .ow none ((OT.li ol) freshR.1)) 4 nd (xm_mvP (g := ol) (xpl_name 0) (xpl_name 0) rfl (xp_some (xe_var 1)) (xp_some (xe_var 1)) (xn_lcT (h := fun turn : Int => (m_blank_row wide 0)) (e := ol) [("turn", 5)] nd (xi_range1 T.b_range (xe_var 2) hv_wide.1.1) hv_wide.1.2.1 (fun q => (xg_name 5 nd)) (fun (turn : Int) hy_turn q => (xn_callD (r := (wide, 0, ())) (ok_blank_row_d1 T) (by exact fun F H σ vs h => pd_app h ((.cons (a := CA.fz (0 : Int)) rfl .nil))) hr (by decide) (xr_fz (xe_var 3) xr_nil) (hv_wide.1.2.2.1 turn hy_turn))) (ok := by first | (show blkC ["picture", "row", "many", "wide", "fresh", "turn"] (defScope s_put_done) _ _ = true; decide +kernel) | exact rfl)) hv_wide.1.2.2.2.1 hv_wide.1.2.2.2.2) (fun _ => by exact Nat.le_of_ble_eq_true rfl)) hv_wide.2 (fun (freshR : (List (List (Str × Int))) × List Any) h_freshR hv_freshR => (xf_one (xs_retM (R := RcG as (fun r : (List (List (Str × Int))) × (List Any) => [some (ol r.2), none, none]) (fun r : (List (List (Str × Int))) × (List Any) => .ow none ((OT.li ol) r.1)) (fun _ => none)) (r := (bnd ((freshR.1.take (((freshR.2.length : Nat) : Int) : Int).toNat), anys freshR.1.length) fun res => (res.1, freshR.2) : (List (List (Str × Int))) × (List Any))) (xm_mvS (g := ol) (xpl_name 4) rfl (xp_some (xe_lenP T.b_len (xpl_name 0) rfl rfl)) hv_freshR) (rg_of (by exact ⟨rfl, trivial⟩)) rfl rfl)))))) (by rfl)
abbrev s_way_done : Stmt := top 7
theorem sc_way_done : FnScope ["picture", "way", "found", "deed", "row", "column", "text", "ink", "place", "sign"] ["picture", "way"] (defScope s_way_done) := ⟨rfl, rfl, rfl, by decide +kernel, rfl, by decide +kernel, by decide +kernel⟩
set_option maxHeartbeats 4000000 in
theorem ok_way_done (T : Txt K mg) : Fk P w K mg base (L2.CX P w) "way_done" ["picture", "way"] [] 3 (SpG K mg (fun a : (List (List (Str × Int))) × (List Dd) × Unit => ([.fz (a.1 : List (List (Str × Int))), .fz (a.2.1 : List Dd)] : List ArgD)) (fun a : (List (List (Str × Int))) × (List Dd) × Unit => v_way_done a.1 a.2.1) (fun r : (List (List (Str × Int))) => ([none, none] : List (Option OT))) (fun r : (List (List (Str × Int))) => (.ow none ((OT.li ol) r) : Slot)) (fun _ => none) (fun a : (List (List (Str × Int))) × (List Dd) × Unit => m_way_done a.1 a.2.1)) := by
  refine fk_of (nf := (fun e : Empty => e.elim)) (G := (fun _ (e : Empty) => e.elim)) T.d_way_done sc_way_done (fun _ => rfl) (fun _ _ _ _ _ _ us hl => match us, hl with | [_, _], _ => rfl) (fun _ _ => rfl) (fun _ e => e.elim) ?_
  intro f cdv A outer s H E c as a hr hp
  obtain ⟨picture, way, ⟨⟩⟩ := a
  have nd := sc_way_done.nd
  have hp : v_way_done picture way := hp
  delta v_way_done at hp
  refine XF.gam (Γ' := [.fz (picture : List (List (Str × Int))), .fz (way : List Dd), .no, .no, .no, .no, .no, .no, .no, .no]) rfl ?_
  exact XF.eq (xf_nxtv (xs_letN (x := (m_copied picture)) (OT.li ol) 2 nd (xn_callZ (r := (picture, ())) (ok_copied T) hr (by decide) (xr_fz (xe_var 0) xr_nil) hp.1)) hp.2 (fun (found : List (List (Str × Int))) h_found hv_found => (xf_nxt (xs_foldV (g := m_way_done_f1) (vb := (v_way_done_f1)) (L := (fun s1 : (List (List (Str × Int))) => [.fz (picture : List (List (Str × Int))), .fz (way : List Dd), .ow none ((OT.li ol) s1), .no, .no, .no, .no, .no, .no, .no])) (s0 := found) (xi_listL (xe_var 1)) (xg_name 3 nd) (by exact (.same (.same (.same (.same (.same (.same (.same (.same (.same (.same .nil))))))))))) hv_found (fun (deed : Dd) (s1 : (List (List (Str × Int)))) hv => (XO.eq (xn_nxt (xs_ifs (G := (fun s : (List (List (Str × Int))) => [.fz (picture : List (List (Str × Int))), .fz (way : List Dd), .ow none ((OT.li ol) s), .fz (deed : Dd), .no, .no, .no, .no, .no, .no])) (xt_c (xc_eqS (Dd.xe_0 (xe_var 3)) xe_str)) (fun hc1 => (have hv_hc1 : ((deed.has1 = true) ∧ (deed.has2 = true) ∧ (v_cut_done s1 deed.at1 deed.at2)) := hv.1 hc1; (xn_nxt (xs_letM (σ' := Unit) (y := (m_cut_done s1 deed.at1 deed.at2)) (Γ1 := fun foundR => [.fz (picture : List (List (Str × Int))), .fz (way : List Dd), .ow none (ol foundR.2), .fz (deed : Dd), .no, .no, .no, .no, .no, .no]) (sl := fun foundR => .ow none ((OT.li ol) foundR.1)) 2 nd (xm_call (r := (s1, deed.at1, deed.at2, ())) (ok_cut_done T) hr (by decide) (xr_pl (xpl_name 2) (xr_fz (Dd.xe_1 (xe_var 3) hv_hc1.1) (xr_fz (Dd.xe_2 (xe_var 3) hv_hc1.2.1) xr_nil))) hv_hc1.2.2 rfl ⟨⟨rfl, rfl, rfl⟩, trivial⟩ (show List.Nodup ([2] : List Nat) by decide) rfl) (fun _ => by exact Nat.le_of_ble_eq_true rfl)) (fun (foundR : (List (List (Str × Int))) × (List Any)) h_foundR => (xo_end (s := foundR.1) (by exact (.same (.same (.same (.same (.same (.same (.same (.same (.same (.same .nil)))))))))))))))) (fun hc2 => (have hv_hc2 : (((decide (deed.tag = ("put" : Str))) = true → ((deed.has1 = true) ∧ (deed.has2 = true) ∧ (v_put_done s1 deed.at1 deed.at2))) ∧ ((decide (deed.tag = ("put" : Str))) = false → ((deed.has4 = true) ∧ (bnd ((T4.mk deed.at1 deed.at2 deed.at3 deed.at4)) fun (row_t : T4 Int Int Str Int) => (vFold (m_way_done_f2 row_t) (v_way_done_f2 row_t) s1 (enumL (signsL row_t.c))))))) := hv.2 hc2; (xn_nxt (xs_ifs (G := (fun s : (List (List (Str × Int))) => [.fz (picture : List (List (Str × Int))), .fz (way : List Dd), .ow none ((OT.li ol) s), .fz (deed : Dd), .no, .no, .no, .no, .no, .no])) (xt_c (xc_eqS (Dd.xe_0 (xe_var 3)) xe_str)) (fun hc3 => (have hv_hc3 : ((deed.has1 = true) ∧ (deed.has2 = true) ∧ (v_put_done s1 deed.at1 deed.at2)) := hv_hc2.1 hc3; (xn_nxt (xs_letM (σ' := Unit) (y := (m_put_done s1 deed.at1 deed.at2)) (Γ1 := fun foundR' => [.fz (picture : List (List (Str × Int))), .fz (way : List Dd), .ow none (ol foundR'.2), .fz (deed : Dd), .no, .no, .no, .no, .no, .no]) (sl := fun foundR' => .ow none ((OT.li ol) foundR'.1)) 2 nd (xm_call (r := (s1, deed.at1, deed.at2, ())) (ok_put_done T) hr (by decide) (xr_pl (xpl_name 2) (xr_fz (Dd.xe_1 (xe_var 3) hv_hc3.1) (xr_fz (Dd.xe_2 (xe_var 3) hv_hc3.2.1) xr_nil))) hv_hc3.2.2 rfl ⟨⟨rfl, rfl, rfl⟩, trivial⟩ (show List.Nodup ([2] : List Nat) by decide) rfl) (fun _ => by exact Nat.le_of_ble_eq_true rfl)) (fun (foundR' : (List (List (Str × Int))) × (List Any)) h_foundR' => (xo_end (s := foundR'.1) (by exact (.same (.same (.same (.same (.same (.same (.same (.same (.same (.same .nil)))))))))))))))) (fun hc4 => (have hv_hc4 : ((deed.has4 = true) ∧ (bnd ((T4.mk deed.at1 deed.at2 deed.at3 deed.at4)) fun (row_t : T4 Int Int Str Int) => (vFold (m_way_done_f2 row_t) (v_way_done_f2 row_t) s1 (enumL (signsL row_t.c))))) := hv_hc2.2 hc4; (xn_nxtv (xs_lets (Dd.xe_1s (xe_var 3) (xp_some xe_int) hv_hc4.1) (xg_tup (xgs_cons (xg_name 4 nd) (xgs_cons (xg_name 5 nd) (xgs_cons (xg_name 6 nd) (xgs_cons (xg_name 7 nd) xgs_nil)))))) hv_hc4.2 (fun (row_t : T4 Int Int Str Int) h_row_t hv_row_t => (xn_nxt (xs_foldV (g := m_way_done_f2 row_t) (vb := (v_way_done_f2 row_t)) (L := (fun s2 : (List (List (Str × Int))) => [.fz (picture : List (List (Str × Int))), .fz (way : List Dd), .ow none ((OT.li ol) s2), .fz (deed : Dd), .fz (row_t.a : Int), .fz (row_t.b : Int), .fz (row_t.c : Str), .fz (row_t.d : Int), .no, .no])) (s0 := s1) (xi_enumS T.b_enumerate (xe_var 6)) (xg_tup (xgs_cons (xg_name 8 nd) (xgs_cons (xg_name 9 nd) xgs_nil))) (by exact (.same (.same (.same (.same (.same (.same (.same (.same (.same (.same .nil))))))))))) hv_row_t (fun (y2 : Int × Str) (s2 : (List (List (Str × Int)))) hv => (XO.eq (xn_nxt (xs_iset (y := (stI s2 row_t.a (stI (ix s2 row_t.a) (row_t.b + y2.1) (y2.2, row_t.d)))) (fun z : List (List (Str × Int)) => ((OT.li ol) z)) (XE.n (xe_tup (υ := Str × Int) (xa_cons (xe_var 9) (xa_cons (xe_var 7) xa_nil)))) (xpl_ix (xpl_name 2) (xe_var 4) rfl rfl (ixn_ok hv.1)) (xe_add (xe_var 5) (xe_var 8)) rfl (get_ix (g := ol) rfl hv.1) (ixn_ok hv.2) ((li_set (get_ix (g := ol) rfl hv.1) hv.2).trans ((put_ix rfl hv.1).trans rfl))) (fun (found' : List (List (Str × Int))) h_found' => (xo_end (s := found') (by exact (.same (.same (.same (.same (.same (.same (.same (.same (.no (.no .nil)))))))))))))) (by rfl)))) (fun (r2 : (List (List (Str × Int)))) h_r2 => (xo_end (s := r2) (by exact (.same (.same (.same (.same (.no (.no (.no (.no (.same (.same .nil))))))))))))))))))) (fun (j' : (List (List (Str × Int)))) h_j' => (xo_end (s := j') (by exact (.same (.same (.same (.same (.same (.same (.same (.same (.same (.same .nil))))))))))))))))) (fun (j : (List (List (Str × Int)))) h_j => (xo_end (s := j) (by exact (.same (.same (.same (.no (.same (.same (.same (.same (.same (.same .nil)))))))))))))) (by rfl)))) (fun (r1 : (List (List (Str × Int)))) h_r1 => (xf_one (xs_retM (R := RcG as (fun r : (List (List (Str × Int))) => [none, none]) (fun r : (List (List (Str × Int))) => .ow none ((OT.li ol) r)) (fun _ => none)) (r := r1) (xm_give 2) (rg_of (by exact trivial)) rfl rfl)))))) (by rfl)
abbrev s_l_cell_at : Stmt := top 9
theorem sc_l_cell_at : FnScope ["_law_script", "_law_k"] ["_law_script", "_law_k"] (defScope s_l_cell_at) := ⟨rfl, rfl, rfl, by decide +kernel, rfl, by decide +kernel, by decide +kernel⟩
set_option maxHeartbeats 4000000 in
theorem ok_l_cell_at (T : Txt K mg) : Fk P w K mg base (L2.CX P w) "_law_cell_at" ["_law_script", "_law_k"] [] 1 (SpG K mg (fun a : (Scr Int) × Int × Unit => ([.fz (a.1 : Scr Int), .fz (a.2.1 : Int)] : List ArgD)) (fun a : (Scr Int) × Int × Unit => v_l_cell_at a.1 a.2.1) (fun r : Int => ([none, none] : List (Option OT))) (fun r : Int => (.fz (r : Int) : Slot)) (fun _ => none) (fun a : (Scr Int) × Int × Unit => m_l_cell_at a.1 a.2.1)) := by
  refine fk_of (nf := (fun e : Empty => e.elim)) (G := (fun _ (e : Empty) => e.elim)) T.d_l_cell_at sc_l_cell_at (fun _ => rfl) (fun _ _ _ _ _ _ us hl => match us, hl with | [_, _], _ => rfl) (fun _ _ => rfl) (fun _ e => e.elim) ?_
  intro f cdv A outer s H E c as a hr hp
  obtain ⟨script, k, ⟨⟩⟩ := a
  have nd := sc_l_cell_at.nd
  have hp : v_l_cell_at script k := hp
  delta v_l_cell_at at hp
  refine XF.gam (Γ' := [.fz (script : Scr Int), .fz (k : Int)]) rfl ?_
  exact XF.eq (xf_ifx (xt_c (xc_lt (xe_var 1) (xe_lenr T.b_len (xe_var 0)))) (fun hc1 => (have hv_hc1 : (InB script.l k) := hp hc1; (xf_one (xs_ret (xe_ixr (xe_var 0) (xe_var 1) hv_hc1) (rg_of (by exact trivial)) rfl rfl)))) (fun hc2 => ((xf_one (xs_ret xe_int (rg_of (by exact trivial)) rfl rfl))))) (by rfl)
abbrev s_l_mixed : Stmt := top 10
theorem sc_l_mixed : FnScope ["_law_script", "_law_k", "_law_number"] ["_law_script", "_law_k"] (defScope s_l_mixed) := ⟨rfl, rfl, rfl, by decide +kernel, rfl, by decide +kernel, by decide +kernel⟩
set_option maxHeartbeats 4000000 in
theorem ok_l_mixed (T : Txt K mg) : Fk P w K mg base (L2.CX P w) "_law_mixed" ["_law_script", "_law_k"] [] 2 (SpG K mg (fun a : (Scr Int) × Int × Unit => ([.fz (a.1 : Scr Int), .fz (a.2.1 : Int)] : List ArgD)) (fun a : (Scr Int) × Int × Unit => v_l_mixed a.1 a.2.1) (fun r : Int => ([none, none] : List (Option OT))) (fun r : Int => (.fz (r : Int) : Slot)) (fun _ => none) (fun a : (Scr Int) × Int × Unit => m_l_mixed a.1 a.2.1)) := by
  refine fk_of (nf := (fun e : Empty => e.elim)) (G := (fun _ (e : Empty) => e.elim)) T.d_l_mixed sc_l_mixed (fun _ => rfl) (fun _ _ _ _ _ _ us hl => match us, hl with | [_, _], _ => rfl) (fun _ _ => rfl) (fun _ e => e.elim) ?_
  intro f cdv A outer s H E c as a hr hp
  obtain ⟨script, k, ⟨⟩⟩ := a
  have nd := sc_l_mixed.nd
  have hp : v_l_mixed script k := hp
  delta v_l_mixed at hp
  refine XF.gam (Γ' := [.fz (script : Scr Int), .fz (k : Int), .no]) rfl ?_
  exact XF.eq (xf_nxtv (xs_let 2 nd (xe_mod (xe_add (xe_add (xe_mul (xe_callZ (r := (script, k, ())) (ok_l_cell_at T) hr (by decide) (xr_fz (xe_var 0) (xr_fz (xe_var 1) xr_nil)) hp.1) xe_int (.inr (by decide))) (xe_mul xe_int (xe_var 1) (.inl (by decide)))) xe_int) xe_int (by decide))) hp.2 (fun (number : Int) h_number hv_number => (xf_one (xs_ret (xe_mod (xe_mulG (xe_var 2) (xe_add (xe_var 2) (xe_mul xe_int (xe_var 1) (.inl (by decide)))) hv_number) xe_int (by decide)) (rg_of (by exact trivial)) rfl rfl)))) (by rfl)
abbrev s_l_ink : Stmt := top 11
theorem sc_l_ink : FnScope ["_law_number"] ["_law_number"] (defScope s_l_ink) := ⟨rfl, rfl, rfl, by decide +kernel, rfl, by decide +kernel, by decide +kernel⟩
set_option maxHeartbeats 4000000 in
theorem ok_l_ink (T : Txt K mg) : Fk P w K mg base (L2.CX P w) "_law_ink" ["_law_number"] [] 1 (SpG K mg (fun a : Int × Unit => ([.fz (a.1 : Int)] : List ArgD)) (fun a : Int × Unit => True) (fun r : Int => ([none] : List (Option OT))) (fun r : Int => (.fz (r : Int) : Slot)) (fun _ => none) (fun a : Int × Unit => m_l_ink a.1)) := by
  refine fk_of (nf := (fun e : Empty => e.elim)) (G := (fun _ (e : Empty) => e.elim)) T.d_l_ink sc_l_ink (fun _ => rfl) (fun _ _ _ _ _ _ us hl => match us, hl with | [_], _ => rfl) (fun _ _ => rfl) (fun _ e => e.elim) ?_
  intro f cdv A outer s H E c as a hr hp
  obtain ⟨number, ⟨⟩⟩ := a
  have nd := sc_l_ink.nd
  refine XF.gam (Γ' := [.fz (number : Int)]) rfl ?_
  exact XF.eq (xf_ifx (xt_c (xc_eqS (xe_mod (xe_var 0) xe_int (by decide)) xe_int)) (fun hc1 => ((xf_one (xs_ret (xe_mod (xe_div (xe_var 0) xe_int ⟨by decide, by decide⟩) xe_int (by decide)) (rg_of (by exact trivial)) rfl rfl)))) (fun hc2 => ((xf_one (xs_ret (xe_ixl (xe_lst (xl_cons xe_int (xl_cons xe_int (xl_cons xe_int (xl_cons xe_int (xl_cons xe_int (xl_cons xe_int xl_nil)))))) (le100 rfl)) (xe_mod (xe_div (xe_var 0) xe_int ⟨by decide, by decide⟩) xe_int (by decide)) (inB_mod 6 rfl (by decide))) (rg_of (by exact trivial)) rfl rfl))))) (by rfl)
abbrev s_l_sign : Stmt := top 12
theorem sc_l_sign : FnScope ["_law_number", "_law_some"] ["_law_number"] (defScope s_l_sign) := ⟨rfl, rfl, rfl, by decide +kernel, rfl, by decide +kernel, by decide +kernel⟩
set_option maxHeartbeats 4000000 in
theorem ok_l_sign (T : Txt K mg) : Fk P w K mg base (L2.CX P w) "_law_sign" ["_law_number"] [] 1 (SpG K mg (fun a : Int × Unit => ([.fz (a.1 : Int)] : List ArgD)) (fun a : Int × Unit => v_l_sign a.1) (fun r : Str => ([none] : List (Option OT))) (fun r : Str => (.fz (r : Str) : Slot)) (fun _ => none) (fun a : Int × Unit => m_l_sign a.1)) := by
  refine fk_of (nf := (fun e : Empty => e.elim)) (G := (fun _ (e : Empty) => e.elim)) T.d_l_sign sc_l_sign (fun _ => rfl) (fun _ _ _ _ _ _ us hl => match us, hl with | [_], _ => rfl) (fun _ _ => rfl) (fun _ e => e.elim) ?_
  intro f cdv A outer s H E c as a hr hp
  obtain ⟨number, ⟨⟩⟩ := a
  have nd := sc_l_sign.nd
  have hp : v_l_sign number := hp
  delta v_l_sign at hp
  refine XF.gam (Γ' := [.fz (number : Int), .no]) rfl ?_
  exact XF.eq (xf_nxtv (xs_let 1 nd xe_str) hp (fun (someV : Str) h_someV hv_someV => (xf_nxtv (xs_let 1 nd (xe_adds (xe_var 1) xe_str hv_someV.1)) hv_someV.2 (fun (someV' : Str) h_someV' hv_someV' => (xf_one (xs_ret (xe_ixl (xe_lst (xl_cons xe_str (xl_cons (xe_ixS xe_str (xe_mod (xe_div (xe_var 0) xe_int ⟨by decide, by decide⟩) xe_int (by decide)) (inB_mod 4 rfl (by decide)) (by decide)) (xl_cons (xe_ixS (xe_var 1) (xe_mod (xe_div (xe_var 0) xe_int ⟨by decide, by decide⟩) xe_int (by decide)) hv_someV'.1 hv_someV'.2) (xl_cons xe_str xl_nil)))) (le100 rfl)) (xe_mod (xe_var 0) xe_int (by decide)) (inB_mod 4 rfl (by decide))) (rg_of (by exact trivial)) rfl rfl)))))) (by rfl)
abbrev s_l_row : Stmt := top 13
theorem sc_l_row : FnScope ["_law_number", "_law_wide", "_law_row_here", "_law_ink_here", "_law_place"] ["_law_number", "_law_wide"] (defScope s_l_row) := ⟨rfl, rfl, rfl, by decide +kernel, rfl, by decide +kernel, by decide +kernel⟩
set_option maxHeartbeats 4000000 in
theorem ok_l_row (T : Txt K mg) : Fk P w K mg base (L2.CX P w) "_law_row" ["_law_number", "_law_wide"] [] 2 (SpG K mg (fun a : Int × Int × Unit => ([.fz (a.1 : Int), .fz (a.2.1 : Int)] : List ArgD)) (fun a : Int × Int × Unit => v_l_row a.1 a.2.1) (fun r : (List (Str × Int)) => ([none, none] : List (Option OT))) (fun r : (List (Str × Int)) => (.fz (r : List (Str × Int)) : Slot)) (fun _ => none) (fun a : Int × Int × Unit => m_l_row a.1 a.2.1)) := by
  refine fk_of (nf := (fun e : Empty => e.elim)) (G := (fun _ (e : Empty) => e.elim)) T.d_l_row sc_l_row (fun _ => rfl) (fun _ _ _ _ _ _ us hl => match us, hl with | [_, _], _ => rfl) (fun _ _ => rfl) (fun _ e => e.elim) ?_
  intro f cdv A outer s H E c as a hr hp
  obtain ⟨number, wide, ⟨⟩⟩ := a
  have nd := sc_l_row.nd
  have hp : v_l_row number wide := hp
  delta v_l_row at hp
  refine XF.gam (Γ' := [.fz (number : Int), .fz (wide : Int), .no, .no, .no]) rfl ?_
  exact XF.eq (xf_nxtv (xs_letN (x := ([] : List (Str × Int))) ol 2 nd (XN.eq (xn_lst (ts := []) xns_nil (le100 rfl)) (t' := (ol ([] : List (Str × Int)))) rfl)) hp (fun (row_here : List (Str × Int)) h_row_here hv_row_here => (xf_nxtv (xs_let 3 nd (xe_callZ (r := (number, ())) (ok_l_ink T) hr (by decide) (xr_fz (xe_var 0) xr_nil) trivial)) hv_row_here (fun (ink_here : Int) h_ink_here hv_ink_here => (xf_nxt (xs_foldV (g := m_l_row_f1) (vb := (v_l_row_f1)) (L := (fun s1 : Int × Int × (List (Str × Int)) => [.fz (s1.1 : Int), .fz (wide : Int), .ow none (ol s1.2.2), .fz (s1.2.1 : Int), .no])) (s0 := (number, ink_here, row_here)) (xi_range1 T.b_range (xe_var 1) hv_ink_here.1) (xg_name 4 nd) (by exact (.same (.same (.same (.same (.same .nil)))))) hv_ink_here.2 (fun (place : Int) (s1 : Int × Int × (List (Str × Int))) hv => (XO.eq (xn_nxtv (xs_let 0 nd (xe_add (xe_mod (xe_mul (xe_var 0) xe_int (.inr (by decide))) xe_int (by decide)) (xe_var 4))) hv (fun (number' : Int) h_number' hv_number' => (xn_nxtv (kV := fun j : Int => ((v_l_sign (number' / 32)) ∧ (s1.2.2.length < 100000))) (xs_ifs (G := (fun s : Int => [.fz (number' : Int), .fz (wide : Int), .ow none (ol s1.2.2), .fz (s : Int), .fz (place : Int)])) (xt_c (xc_eqS (xe_mod (xe_var 0) xe_int (by decide)) xe_int)) (fun hc1 => ((xn_nxt (xs_let 3 nd (xe_callZ (r := ((number' / 4), ())) (ok_l_ink T) hr (by decide) (xr_fz (xe_div (xe_var 0) xe_int ⟨by decide, by decide⟩) xr_nil) trivial)) (fun (ink_here' : Int) h_ink_here' => (xo_end (s := ink_here') (by exact (.same (.same (.same (.same (.same .nil))))))))))) (fun hc2 => ((xo_end (s := s1.2.1) (by exact (.same (.same (.same (.same (.same .nil)))))))))) hv_number' (fun (j : Int) h_j hv_j => (xn_nxt (xs_append (y := (s1.2.2 ++ [((m_l_sign (number' / 32)), j)])) (fun z : List (Str × Int) => (ol z)) (xpl_name 2) (XE.n (xe_tup (υ := Str × Int) (xa_cons (xe_callZ (r := ((number' / 32), ())) (ok_l_sign T) hr (by decide) (xr_fz (xe_div (xe_var 0) xe_int ⟨by decide, by decide⟩) xr_nil) hv_j.1) (xa_cons (xe_var 3) xa_nil)))) rfl rfl (lt_map hv_j.2) ((li_app rfl).trans rfl)) (fun (row_here' : List (Str × Int)) h_row_here' => (xo_end (s := (number', j, row_here')) (by exact (.same (.same (.same (.same (.no .nil))))))))))))) (by rfl)))) (fun (r1 : Int × Int × (List (Str × Int))) h_r1 => (xf_freeze 2 FzT.ol (xf_one (xs_ret (xe_var 2) (rg_of (by exact trivial)) rfl rfl))))))))) (by rfl)
abbrev s_l_picture : Stmt := top 14
theorem sc_l_picture : FnScope ["_law_script", "_law_first", "_law_wide", "_law_high", "_law_rows", "_law_k", "_law_number", "_law_row_here"] ["_law_script", "_law_first", "_law_wide", "_law_high"] (defScope s_l_picture) := ⟨rfl, rfl, rfl, by decide +kernel, rfl, by decide +kernel, by decide +kernel⟩
set_option maxHeartbeats 4000000 in
theorem ok_l_picture (T : Txt K mg) : Fk P w K mg base (L2.CX P w) "_law_picture" ["_law_script", "_law_first", "_law_wide", "_law_high"] [] 3 (SpG K mg (fun a : (Scr Int) × Int × Int × Int × Unit => ([.fz (a.1 : Scr Int), .fz (a.2.1 : Int), .fz (a.2.2.1 : Int), .fz (a.2.2.2.1 : Int)] : List ArgD)) (fun a : (Scr Int) × Int × Int × Int × Unit => v_l_picture a.1 a.2.1 a.2.2.1 a.2.2.2.1) (fun r : (List (List (Str × Int))) => ([none, none, none, none] : List (Option OT))) (fun r : (List (List (Str × Int))) => (.fz (r : List (List (Str × Int))) : Slot)) (fun _ => none) (fun a : (Scr Int) × Int × Int × Int × Unit => m_l_picture a.1 a.2.1 a.2.2.1 a.2.2.2.1)) := by
  refine fk_of (nf := (fun e : Empty => e.elim)) (G := (fun _ (e : Empty) => e.elim)) T.d_l_picture sc_l_picture (fun _ => rfl) (fun _ _ _ _ _ _ us hl => match us, hl with | [_, _, _, _], _ => rfl) (fun _ _ => rfl) (fun _ e => e.elim) ?_
  intro f cdv A outer s H E c as a hr hp
  obtain ⟨script, first, wide, high, ⟨⟩⟩ := a
  have nd := sc_l_picture.nd
  have hp : v_l_picture script first wide high := hp
  delta v_l_picture at hp
  refine XF.gam (Γ' := [.fz (script : Scr Int), .fz (first : Int), .fz (wide : Int), .fz (high : Int), .no, .no, .no, .no]) rfl ?_
  exact XF.eq (xf_nxtv (xs_letN (x := ([] : List (List (Str × Int)))) ol 4 nd (XN.eq (xn_lst (ts := []) xns_nil (le100 rfl)) (t' := (ol ([] : List (List (Str × Int))))) rfl)) hp (fun (rows : List (List (Str × Int))) h_rows hv_rows => (xf_nxt (xs_foldV (g := m_l_picture_f1 script first wide) (vb := (v_l_picture_f1 script first wide)) (L := (fun s1 : (List (List (Str × Int))) => [.fz (script : Scr Int), .fz (first : Int), .fz (wide : Int), .fz (high : Int), .ow none (ol s1), .no, .no, .no])) (s0 := rows) (xi_range1 T.b_range (xe_var 3) hv_rows.1) (xg_name 5 nd) (by exact (.same (.same (.same (.same (.same (.same (.same (.same .nil))))))))) hv_rows.2 (fun (k : Int) (s1 : (List (List (Str × Int)))) hv => (XO.eq (xn_nxtv (xs_let 6 nd (xe_callZ (r := (script, (first + (k % 6)), ())) (ok_l_mixed T) hr (by decide) (xr_fz (xe_var 0) (xr_fz (xe_add (xe_var 1) (xe_mod (xe_var 5) xe_int (by decide))) xr_nil)) hv.1)) hv.2 (fun (number : Int) h_number hv_number => (xn_nxtv (xs_let 6 nd (xe_add (xe_div (xe_var 6) (xe_add xe_int (xe_div (xe_var 5) xe_int ⟨by decide, by decide⟩)) hv_number.1) (xe_mul xe_int (xe_var 5) (.inl (by decide))))) hv_number.2 (fun (number' : Int) h_number' hv_number' => (xn_nxtv (xs_let 7 nd (xe_callZ (r := ((number' / 8), wide, ())) (ok_l_row T) hr (by decide) (xr_fz (xe_div (xe_var 6) xe_int ⟨by decide, by decide⟩) (xr_fz (xe_var 2) xr_nil)) hv_number'.1)) hv_number'.2 (fun (row_here : List (Str × Int)) h_row_here hv_row_here => (xn_nxtv (kV := fun j : (List (Str × Int)) => (((((decide ((number' % 8) = 2)) = true → ((PyD.dok s1) ∧ (PyD.dok ([] : List (List (Str × Int)))))) ∧ (((decide ((number' % 8) = 2)) && (!eqb s1 ([] : List (List (Str × Int))))) = true → ((0 < ((s1.length : Nat) : Int)) ∧ (InB s1 ((number' / 8) % ((s1.length : Nat) : Int))))))) ∧ (bnd (if ((decide ((number' % 8) = 2)) && (!eqb s1 ([] : List (List (Str × Int))))) then ( bnd ((ix s1 ((number' / 8) % ((s1.length : Nat) : Int)))) fun (row_here'' : List (Str × Int)) => row_here'') else ( j)) fun (j' : (List (Str × Int))) => (s1.length < 100000)))) (xs_ifs (G := (fun s : (List (Str × Int)) => [.fz (script : Scr Int), .fz (first : Int), .fz (wide : Int), .fz (high : Int), .ow none (ol s1), .fz (k : Int), .fz (number' : Int), .fz (s : List (Str × Int))])) (xt_c (xc_eqS (xe_mod (xe_var 6) xe_int (by decide)) xe_int)) (fun hc1 => (have hv_hc1 : ((wide ≤ 100000 ∧ ([((" " : Str), 0)] : List (Str × Int)).length * (wide : Int).toNat ≤ 100000) ∧ (-100000 ≤ wide)) := hv_row_here.1 hc1; (xn_nxt (xs_let 7 nd (XN.fr (xn_rep (xq_fz (xe_lst (xl_cons (xe_tup (υ := Str × Int) (xa_cons xe_str (xa_cons xe_int xa_nil))) xl_nil) (le100 rfl))) (xe_var 2) hv_hc1.1 hv_hc1.2) FzT.ol)) (fun (row_here' : List (Str × Int)) h_row_here' => (xo_end (s := row_here') (by exact (.same (.same (.same (.same (.same (.same (.same (.same .nil)))))))))))))) (fun hc2 => ((xo_end (s := row_here) (by exact (.same (.same (.same (.same (.same (.same (.same (.same .nil))))))))))))) hv_row_here.2 (fun (j : (List (Str × Int))) h_j hv_j => (xn_nxtv (kV := fun j' : (List (Str × Int)) => (s1.length < 100000)) (xs_ifs (G := (fun s : (List (Str × Int)) => [.fz (script : Scr Int), .fz (first : Int), .fz (wide : Int), .fz (high : Int), .ow none (ol s1), .fz (k : Int), .fz (number' : Int), .fz (s : List (Str × Int))])) (XW.t (xw_and (xt_c (xc_eqS (xe_mod (xe_var 6) xe_int (by decide)) xe_int)) (fun hc3 => (xw_and1 (xt_thaw 4 rfl FzT.ol (xt_c (xc_neD hr.units (xe_var 4) (XN.fr (XN.eq (xn_lst (ts := []) xns_nil (le100 rfl)) (t' := (ol ([] : List (List (Str × Int))))) rfl) FzT.ol) (hv_j.1.1 hc3).1 (hv_j.1.1 hc3).2))))))) (fun hc4 => (have hv_hc4 : ((0 < ((s1.length : Nat) : Int)) ∧ (InB s1 ((number' / 8) % ((s1.length : Nat) : Int)))) := hv_j.1.2 hc4; (xn_nxt (xs_let 7 nd (XN.fr (xn_thaw 4 rfl FzT.ol OTl.ol (xn_list T.b_list (xq_fz (xe_ixl (xe_var 4) (xe_mod (xe_div (xe_var 6) xe_int ⟨by decide, by decide⟩) (xe_lenl T.b_len (xe_var 4)) hv_hc4.1) hv_hc4.2)))) FzT.ol)) (fun (row_here'' : List (Str × Int)) h_row_here'' => (xo_end (s := row_here'') (by exact (.same (.same (.same (.same (.same (.same (.same (.same .nil)))))))))))))) (fun hc5 => ((xo_end (s := j) (by exact (.same (.same (.same (.same (.same (.same (.same (.same .nil))))))))))))) hv_j.2 (fun (j' : (List (Str × Int))) h_j' hv_j' => (xn_nxt (xs_append (y := (s1 ++ [j'])) (fun z : List (List (Str × Int)) => (ol z)) (xpl_name 4) (XE.n (xe_var 7)) rfl rfl (lt_map hv_j') ((li_app rfl).trans rfl)) (fun (rows' : List (List (Str × Int))) h_rows' => (xo_end (s := rows') (by exact (.same (.same (.same (.same (.same (.no (.no (.no .nil)))))))))))))))))))))) (by rfl)))) (fun (r1 : (List (List (Str × Int)))) h_r1 => (xf_freeze 4 FzT.ol (xf_one (xs_ret (xe_var 4) (rg_of (by exact trivial)) rfl rfl))))))) (by rfl)
abbrev s_l_copied : Stmt := top 16
theorem sc_l_copied : FnScope ["_law_picture_here", "_law_row_here"] ["_law_picture_here"] (defScope s_l_copied) := ⟨rfl, rfl, rfl, by decide +kernel, rfl, by decide +kernel, by decide +kernel⟩
set_option maxHeartbeats 4000000 in
theorem ok_l_copied (T : Txt K mg) : Fk P w K mg base (L2.CX P w) "_law_copied" ["_law_picture_here"] [] 1 (SpG K mg (fun a : (List (List (Str × Int))) × Unit => ([.fz (a.1 : List (List (Str × Int)))] : List ArgD)) (fun a : (List (List (Str × Int))) × Unit => v_l_copied a.1) (fun r : (List (List (Str × Int))) => ([none] : List (Option OT))) (fun r : (List (List (Str × Int))) => (.ow none ((OT.li ol) r) : Slot)) (fun _ => none) (fun a : (List (List (Str × Int))) × Unit => m_l_copied a.1)) := by
  refine fk_of (nf := (fun e : Empty => e.elim)) (G := (fun _ (e : Empty) => e.elim)) T.d_l_copied sc_l_copied (fun _ => rfl) (fun _ _ _ _ _ _ us hl => match us, hl with | [_], _ => rfl) (fun _ _ => rfl) (fun _ e => e.elim) ?_
  intro f cdv A outer s H E c as a hr hp
  obtain ⟨picture_here, ⟨⟩⟩ := a
  have nd := sc_l_copied.nd
  have hp : v_l_copied picture_here := hp
  delta v_l_copied at hp
  refine XF.gam (Γ' := [.fz (picture_here : List (List (Str × Int))), .no]) rfl ?_
  exact XF.eq (xf_one (xs_retM (XN.m (xn_lcT (h := fun row_here : List (Str × Int) => row_here) (e := ol) [("_law_row_here", 1)] nd (xi_listL (xe_var 0)) hp (fun q => (xg_name 1 nd)) (fun (row_here : List (Str × Int)) hy_row_here q => (xn_list T.b_list (xq_fz (xe_var 1)))) (ok := by first | (show blkC ["_law_picture_here", "_law_row_here"] (defScope s_l_copied) _ _ = true; decide +kernel) | exact rfl))) (rg_of (by exact trivial)) rfl rfl)) (by rfl)
abbrev s_l_cut : Stmt := top 17
theorem sc_l_cut : FnScope ["_law_picture_here", "_law_row_here", "_law_many", "_law_wide", "_law_rows", "_law_turn"] ["_law_picture_here", "_law_row_here", "_law_many"] (defScope s_l_cut) := ⟨rfl, rfl, rfl, by decide +kernel, rfl, by decide +kernel, by decide +kernel⟩
set_option maxHeartbeats 4000000 in
theorem ok_l_cut (T : Txt K mg) : Fk P w K mg base (L2.CX P w) "_law_cut" ["_law_picture_here", "_law_row_here", "_law_many"] [] 1 (SpG K mg (fun a : (List (List (Str × Int))) × Int × Int × Unit => ([.fz (a.1 : List (List (Str × Int))), .fz (a.2.1 : Int), .fz (a.2.2.1 : Int)] : List ArgD)) (fun a : (List (List (Str × Int))) × Int × Int × Unit => v_l_cut a.1 a.2.1 a.2.2.1) (fun r : (List (List (Str × Int))) => ([none, none, none] : List (Option OT))) (fun r : (List (List (Str × Int))) => (.fz (r : List (List (Str × Int))) : Slot)) (fun _ => none) (fun a : (List (List (Str × Int))) × Int × Int × Unit => m_l_cut a.1 a.2.1 a.2.2.1)) := by
  refine fk_of (nf := (fun e : Empty => e.elim)) (G := (fun _ (e : Empty) => e.elim)) T.d_l_cut sc_l_cut (fun _ => rfl) (fun _ _ _ _ _ _ us hl => match us, hl with | [_, _, _], _ => rfl) (fun _ _ => rfl) (fun _ e => e.elim) ?_
  intro f cdv A outer s H E c as a hr hp
  obtain ⟨picture_here, row_here, many, ⟨⟩⟩ := a
  have nd := sc_l_cut.nd
  have hp : v_l_cut picture_here row_here many := hp
  delta v_l_cut at hp
  refine XF.gam (Γ' := [.fz (picture_here : List (List (Str × Int))), .fz (row_here : Int), .fz (many : Int), .no, .no, .no]) rfl ?_
  exact XF.eq (xf_nxtv (xs_let 3 nd (xe_lenl T.b_len (xe_ixl (xe_var 0) xe_int hp.1))) hp.2 (fun (wide : Int) h_wide hv_wide => (xf_nxtv (xs_let 4 nd (XN.fr (xn_cat (xq_n (xn_slice (xq_fz (xe_var 0)) xp_none (xp_some (xe_var 1)))) (xq_n (xn_slice (xq_fz (xe_var 0)) (xp_some (xe_add (xe_var 1) (xe_var 2))) xp_none)) hv_wide.1) FzT.ol)) hv_wide.2 (fun (rows : List (List (Str × Int))) h_rows hv_rows => (xf_one (xs_ret (XN.fr (xn_cat (xq_fz (xe_var 4)) (xq_fz (XN.fr (xn_lcT (h := fun turn' : Int => (List.replicate (wide : Int).toNat ([((" " : Str), 0)] : List (Str × Int))).flatten) (e := (fun z : List (Str × Int) => OT.fz z)) [("_law_turn", 5)] nd (xi_range1 T.b_range (xe_var 2) hv_rows.1) hv_rows.2.1 (fun q => (xg_name 5 nd)) (fun (turn' : Int) hy_turn' q => (XE.n (XN.fr (xn_rep (xq_fz (xe_lst (xl_cons (xe_tup (υ := Str × Int) (xa_cons xe_str (xa_cons xe_int xa_nil))) xl_nil) (le100 rfl))) (xe_var 3) (hv_rows.2.2.1 turn' hy_turn').1 (hv_rows.2.2.1 turn' hy_turn').2) FzT.ol))) (ok := by first | (show blkC ["_law_picture_here", "_law_row_here", "_law_many", "_law_wide", "_law_rows", "_law_turn"] (defScope s_l_cut) _ _ = true; decide +kernel) | exact rfl)) FzT.ol)) hv_rows.2.2.2) FzT.ol) (rg_of (by exact trivial)) rfl rfl)))))) (by rfl)
abbrev s_l_put : Stmt := top 18
theorem sc_l_put : FnScope ["_law_picture_here", "_law_row_here", "_law_many", "_law_wide", "_law_fresh", "_law_turn"] ["_law_picture_here", "_law_row_here", "_law_many"] (defScope s_l_put) := ⟨rfl, rfl, rfl, by decide +kernel, rfl, by decide +kernel, by decide +kernel⟩
set_option maxHeartbeats 4000000 in
theorem ok_l_put (T : Txt K mg) : Fk P w K mg base (L2.CX P w) "_law_put" ["_law_picture_here", "_law_row_here", "_law_many"] [] 1 (SpG K mg (fun a : (List (List (Str × Int))) × Int × Int × Unit => ([.fz (a.1 : List (List (Str × Int))), .fz (a.2.1 : Int), .fz (a.2.2.1 : Int)] : List ArgD)) (fun a : (List (List (Str × Int))) × Int × Int × Unit => v_l_put a.1 a.2.1 a.2.2.1) (fun r : (List (List (Str × Int))) => ([none, none, none] : List (Option OT))) (fun r : (List (List (Str × Int))) => (.fz (r : List (List (Str × Int))) : Slot)) (fun _ => none) (fun a : (List (List (Str × Int))) × Int × Int × Unit => m_l_put a.1 a.2.1 a.2.2.1)) := by
  refine fk_of (nf := (fun e : Empty => e.elim)) (G := (fun _ (e : Empty) => e.elim)) T.d_l_put sc_l_put (fun _ => rfl) (fun _ _ _ _ _ _ us hl => match us, hl with | [_, _, _], _ => rfl) (fun _ _ => rfl) (fun _ e => e.elim) ?_
  intro f cdv A outer s H E c as a hr hp
  obtain ⟨picture_here, row_here, many, ⟨⟩⟩ := a
  have nd := sc_l_put.nd
  have hp : v_l_put picture_here row_here many := hp
  delta v_l_put at hp
  refine XF.gam (Γ' := [.fz (picture_here : List (List (Str × Int))), .fz (row_here : Int), .fz (many : Int), .no, .no, .no]) rfl ?_
  exact XF.eq (xf_nxtv (xs_let 3 nd (xe_lenl T.b_len (xe_ixl (xe_var 0) xe_int hp.1))) hp.2 (fun (wide : Int) h_wide hv_wide => (xf_nxtv (kV := fun fresh : List (List (Str × Int)) => (((cutL picture_here none (some row_here)).length + fresh.length ≤ 100000) ∧ (((cutL picture_here none (some row_here)) ++ fresh).length + (cutL picture_here (some row_here) none).length ≤ 100000))) (xs_lcT 4 (h := fun turn : Int => (List.replicate (wide : Int).toNat ([((" " : Str), 0)] : List (Str × Int))).flatten) (e := ol) [("_law_turn", 5)] nd (xi_range1 T.b_range (xe_var 2) hv_wide.1.1) hv_wide.1.2.1 (fun q => (xg_name 5 nd)) (fun (turn : Int) hy_turn q => (xn_rep (xq_fz (xe_lst (xl_cons (xe_tup (υ := Str × Int) (xa_cons xe_str (xa_cons xe_int xa_nil))) xl_nil) (le100 rfl))) (xe_var 3) (hv_wide.1.2.2 turn hy_turn).1 (hv_wide.1.2.2 turn hy_turn).2)) (ok := by first | (show blkC ["_law_picture_here", "_law_row_here", "_law_many", "_law_wide", "_law_fresh", "_law_turn"] (defScope s_l_put) _ _ = true; decide +kernel) | exact rfl) (th := Thaw.id) (Γt := [.fz (picture_here : List (List (Str × Int))), .fz (row_here : Int), .fz (many : Int), .fz (wide : Int), .no, .no])) hv_wide.2 (fun (fresh : List (List (Str × Int))) h_fresh hv_fresh => (xf_freeze 4 (FzT.lid fun _ => FzT.ol) (xf_one (xs_ret (XN.fr (xn_slice (xq_n (xn_cat (xq_n (xn_cat (xq_n (xn_slice (xq_fz (xe_var 0)) xp_none (xp_some (xe_var 1)))) (xq_fz (xe_var 4)) hv_fresh.1)) (xq_n (xn_slice (xq_fz (xe_var 0)) (xp_some (xe_var 1)) xp_none)) hv_fresh.2)) xp_none (xp_some (xe_lenl T.b_len (xe_var 0)))) FzT.ol) (rg_of (by exact trivial)) rfl rfl))))))) (by rfl)
abbrev s_l_deed : Stmt := top 19
theorem sc_l_deed : FnScope ["_law_picture_here", "_law_deed_here", "_law_rows", "_law_k", "_law_sign_here"] ["_law_picture_here", "_law_deed_here"] (defScope s_l_deed) := ⟨rfl, rfl, rfl, by decide +kernel, rfl, by decide +kernel, by decide +kernel⟩
set_option maxHeartbeats 4000000 in
theorem ok_l_deed (T : Txt K mg) : Fk P w K mg base (L2.CX P w) "_law_deed" ["_law_picture_here", "_law_deed_here"] [] 2 (SpG K mg (fun a : (List (List (Str × Int))) × Dd × Unit => ([.fz (a.1 : List (List (Str × Int))), .fz (a.2.1 : Dd)] : List ArgD)) (fun a : (List (List (Str × Int))) × Dd × Unit => v_l_deed a.1 a.2.1) (fun r : (List (List (Str × Int))) => ([none, none] : List (Option OT))) (fun r : (List (List (Str × Int))) => (.fz (r : List (List (Str × Int))) : Slot)) (fun _ => none) (fun a : (List (List (Str × Int))) × Dd × Unit => m_l_deed a.1 a.2.1)) := by
  refine fk_of (nf := (fun e : Empty => e.elim)) (G := (fun _ (e : Empty) => e.elim)) T.d_l_deed sc_l_deed (fun _ => rfl) (fun _ _ _ _ _ _ us hl => match us, hl with | [_, _], _ => rfl) (fun _ _ => rfl) (fun _ e => e.elim) ?_
  intro f cdv A outer s H E c as a hr hp
  obtain ⟨picture_here, deed_here, ⟨⟩⟩ := a
  have nd := sc_l_deed.nd
  have hp : v_l_deed picture_here deed_here := hp
  delta v_l_deed at hp
  refine XF.gam (Γ' := [.fz (picture_here : List (List (Str × Int))), .fz (deed_here : Dd), .no, .no, .no]) rfl ?_
  exact XF.eq (xf_nxtv (xs_letN (x := (m_l_copied picture_here)) (OT.li ol) 2 nd (xn_callZ (r := (picture_here, ())) (ok_l_copied T) hr (by decide) (xr_fz (xe_var 0) xr_nil) hp.1)) hp.2 (fun (rows : List (List (Str × Int))) h_rows hv_rows => (xf_ifx (xt_c (xc_eqS (Dd.xe_0 (xe_var 1)) xe_str)) (fun hc1 => (have hv_hc1 : ((deed_here.has1 = true) ∧ (deed_here.has2 = true) ∧ (v_l_cut rows deed_here.at1 deed_here.at2)) := hv_rows.1 hc1; (xf_freeze 2 (FzT.lid fun _ => FzT.ol) (xf_one (xs_ret (xe_callZ (r := (rows, deed_here.at1, deed_here.at2, ())) (ok_l_cut T) hr (by decide) (xr_fz (xe_var 2) (xr_fz (Dd.xe_1 (xe_var 1) hv_hc1.1) (xr_fz (Dd.xe_2 (xe_var 1) hv_hc1.2.1) xr_nil))) hv_hc1.2.2) (rg_of (by exact trivial)) rfl rfl))))) (fun hc2 => (have hv_hc2 : (((decide (deed_here.tag = ("put" : Str))) = true → ((deed_here.has1 = true) ∧ (deed_here.has2 = true) ∧ (v_l_put rows deed_here.at1 deed_here.at2))) ∧ ((decide (deed_here.tag = ("put" : Str))) = false → ((deed_here.has3 = true) ∧ (vFold (m_l_deed_f1 deed_here) (v_l_deed_f1 deed_here) rows (enumL (signsL deed_here.at3)))))) := hv_rows.2 hc2; (xf_ifx (xt_c (xc_eqS (Dd.xe_0 (xe_var 1)) xe_str)) (fun hc3 => (have hv_hc3 : ((deed_here.has1 = true) ∧ (deed_here.has2 = true) ∧ (v_l_put rows deed_here.at1 deed_here.at2)) := hv_hc2.1 hc3; (xf_freeze 2 (FzT.lid fun _ => FzT.ol) (xf_one (xs_ret (xe_callZ (r := (rows, deed_here.at1, deed_here.at2, ())) (ok_l_put T) hr (by decide) (xr_fz (xe_var 2) (xr_fz (Dd.xe_1 (xe_var 1) hv_hc3.1) (xr_fz (Dd.xe_2 (xe_var 1) hv_hc3.2.1) xr_nil))) hv_hc3.2.2) (rg_of (by exact trivial)) rfl rfl))))) (fun hc4 => (have hv_hc4 : ((deed_here.has3 = true) ∧ (vFold (m_l_deed_f1 deed_here) (v_l_deed_f1 deed_here) rows (enumL (signsL deed_here.at3)))) := hv_hc2.2 hc4; (xf_nxt (xs_foldV (g := m_l_deed_f1 deed_here) (vb := (v_l_deed_f1 deed_here)) (L := (fun s1 : (List (List (Str × Int))) => [.fz (picture_here : List (List (Str × Int))), .fz (deed_here : Dd), .ow none ((OT.li ol) s1), .no, .no])) (s0 := rows) (xi_enumS T.b_enumerate (Dd.xe_3 (xe_var 1) hv_hc4.1)) (xg_tup (xgs_cons (xg_name 3 nd) (xgs_cons (xg_name 4 nd) xgs_nil))) (by exact (.same (.same (.same (.same (.same .nil)))))) hv_hc4.2 (fun (y1 : Int × Str) (s1 : (List (List (Str × Int)))) hv => (XO.eq (xn_nxt (xs_iset (y := (stI s1 deed_here.at1 (stI (ix s1 deed_here.at1) (deed_here.at2 + y1.1) (y1.2, deed_here.at4)))) (fun z : List (List (Str × Int)) => ((OT.li ol) z)) (XE.n (xe_tup (υ := Str × Int) (xa_cons (xe_var 4) (xa_cons (Dd.xe_4 (xe_var 1) hv.1) xa_nil)))) (xpl_ix (xpl_name 2) (Dd.xe_1 (xe_var 1) hv.2.1) rfl rfl (ixn_ok hv.2.2.1)) (xe_add (Dd.xe_2 (xe_var 1) hv.2.2.2.1) (xe_var 3)) rfl (get_ix (g := ol) rfl hv.2.2.1) (ixn_ok hv.2.2.2.2) ((li_set (get_ix (g := ol) rfl hv.2.2.1) hv.2.2.2.2).trans ((put_ix rfl hv.2.2.1).trans rfl))) (fun (rows' : List (List (Str × Int))) h_rows' => (xo_end (s := rows') (by exact (.same (.same (.same (.no (.no .nil))))))))) (by rfl)))) (fun (r1 : (List (List (Str × Int)))) h_r1 => (xf_freeze 2 (FzT.lid fun _ => FzT.ol) (xf_one (xs_ret (xe_var 2) (rg_of (by exact trivial)) rfl rfl))))))))))))) (by rfl)
abbrev s_l_drawn : Stmt := top 23
theorem sc_l_drawn : FnScope ["_law_script", "_law_wide", "_law_high", "_law_way", "_law_sort", "_law_met", "_law_k", "_law_row_here", "_law_number", "_law_place", "_law_size", "_law_cells", "_law_text", "_law_j", "_law_cell"] ["_law_script", "_law_wide", "_law_high"] (defScope s_l_drawn) := ⟨rfl, rfl, rfl, by decide +kernel, rfl, by decide +kernel, by decide +kernel⟩
set_option maxHeartbeats 4000000 in
theorem ok_l_drawn (T : Txt K mg) : Fk P w K mg base (L2.CX P w) "_law_drawn" ["_law_script", "_law_wide", "_law_high"] [] 3 (SpG K mg (fun a : (Scr Int) × Int × Int × Unit => ([.fz (a.1 : Scr Int), .fz (a.2.1 : Int), .fz (a.2.2.1 : Int)] : List ArgD)) (fun a : (Scr Int) × Int × Int × Unit => v_l_drawn a.1 a.2.1 a.2.2.1) (fun r : (List Dd) => ([none, none, none] : List (Option OT))) (fun r : (List Dd) => (.fz (r : List Dd) : Slot)) (fun _ => none) (fun a : (Scr Int) × Int × Int × Unit => m_l_drawn a.1 a.2.1 a.2.2.1)) := by
  refine fk_of (nf := (fun e : Empty => e.elim)) (G := (fun _ (e : Empty) => e.elim)) T.d_l_drawn sc_l_drawn (fun _ => rfl) (fun _ _ _ _ _ _ us hl => match us, hl with | [_, _, _], _ => rfl) (fun _ _ => rfl) (fun _ e => e.elim) ?_
  intro f cdv A outer s H E c as a hr hp
  obtain ⟨script, wide, high, ⟨⟩⟩ := a
  have nd := sc_l_drawn.nd
  have hp : v_l_drawn script wide high := hp
  delta v_l_drawn at hp
  refine XF.gam (Γ' := [.fz (script : Scr Int), .fz (wide : Int), .fz (high : Int), .no, .no, .no, .no, .no, .no, .no, .no, .no, .no, .no, .no]) rfl ?_
  exact XF.eq (xf_nxtv (xs_letN (x := ([] : List Dd)) ol 3 nd (XN.eq (xn_lst (ts := []) xns_nil (le100 rfl)) (t' := (ol ([] : List Dd))) rfl)) hp (fun (way : List Dd) h_way hv_way => (xf_nxtv (kV := fun r1 : (List Dd) => (bnd ((⟨[]⟩ : Td (Int × Int) Bool)) fun (met : Td (Int × Int) Bool) => ((v_l_mixed script 16) ∧ (-(2 ^ 62) ≤ (((m_l_mixed script 16) % 7) : Int) ∧ (((m_l_mixed script 16) % 7) : Int) < 2 ^ 62) ∧ (vFold (m_l_drawn_f3 script wide high) (v_l_drawn_f3 script wide high) (r1, met) (izs 0 (((m_l_mixed script 16) % 7) : Int).toNat))))) (xs_foldV (g := m_l_drawn_f1 script high) (vb := (v_l_drawn_f1 script high)) (L := (fun s1 : (List Dd) => [.fz (script : Scr Int), .fz (wide : Int), .fz (high : Int), .ow none (ol s1), .no, .no, .no, .no, .no, .no, .no, .no, .no, .no, .no])) (s0 := way) (xi_range1 T.b_range xe_int (by decide)) (xg_name 4 nd) (by exact (.same (.same (.same (.same (.same (.same (.same (.same (.same (.same (.same (.same (.same (.same (.same .nil)))))))))))))))) hv_way.1 (fun (sort : Int) (s1 : (List Dd)) hv => (XO.eq (xn_nxtv (xs_let 7 nd xe_int) hv (fun (row_here : Int) h_row_here hv_row_here => (xn_nxt (xs_foldV (g := m_l_drawn_f2 script high sort) (vb := (v_l_drawn_f2 script high sort)) (L := (fun s2 : Int × (List Dd) => [.fz (script : Scr Int), .fz (wide : Int), .fz (high : Int), .ow none (ol s2.2), .fz (sort : Int), .no, .no, .fz (s2.1 : Int), .no, .no, .no, .no, .no, .no, .no])) (s0 := (row_here, s1)) (xi_range1 T.b_range (xe_mod (xe_callZ (r := (script, (8 + sort), ())) (ok_l_mixed T) hr (by decide) (xr_fz (xe_var 0) (xr_fz (xe_add xe_int (xe_var 4)) xr_nil)) hv_row_here.1) xe_int (by decide)) hv_row_here.2.1) (xg_name 6 nd) (by exact (.same (.same (.same (.same (.same (.same (.same (.same (.same (.same (.same (.same (.same (.same (.same .nil)))))))))))))))) hv_row_here.2.2 (fun (k : Int) (s2 : Int × (List Dd)) hv => (XO.eq (xn_nxtv (xs_let 8 nd (xe_callZ (r := (script, ((10 + (3 * sort)) + k), ())) (ok_l_mixed T) hr (by decide) (xr_fz (xe_var 0) (xr_fz (xe_add (xe_add xe_int (xe_mul xe_int (xe_var 4) (.inl (by decide)))) (xe_var 6)) xr_nil)) hv.1)) hv.2 (fun (number : Int) h_number hv_number => (xn_nxtv (xs_let 7 nd (xe_add (xe_var 7) (xe_mod (xe_var 8) xe_int (by decide)))) hv_number (fun (row_here' : Int) h_row_here' hv_row_here' => (xn_nxt (xs_ifs (G := (fun s : (List Dd) × Int => [.fz (script : Scr Int), .fz (wide : Int), .fz (high : Int), .ow none (ol s.1), .fz (sort : Int), .no, .fz (k : Int), .fz (s.2 : Int), .fz (number : Int), .no, .no, .no, .no, .no, .no])) (xt_c (xc_lt (xe_var 7) (xe_var 2))) (fun hc1 => (have hv_hc1 : ((InB ([("cut" : Str), ("put" : Str)] : List Str) sort) ∧ (0 < (high - row_here')) ∧ (s2.2.length < 100000)) := hv_row_here' hc1; (xn_nxt (xs_append (y := (s2.2 ++ [(Dd.cp (ix ([("cut" : Str), ("put" : Str)] : List Str) sort) row_here' (1 + ((number / 3) % (high - row_here'))))])) (fun z : List Dd => (ol z)) (xpl_name 3) (XE.n (Dd.mk_cp (xe_tup (υ := T3 Str Int Int) (xa_cons (xe_ixl (XN.fr (XN.eq (xn_lst (xns_cons (XE.n xe_str) (xns_cons (XE.n xe_str) xns_nil)) (le100 rfl)) (t' := (ol ([("cut" : Str), ("put" : Str)] : List Str))) rfl) FzT.ol) (xe_var 4) hv_hc1.1) (xa_cons (xe_var 7) (xa_cons (xe_add xe_int (xe_mod (xe_div (xe_var 8) xe_int ⟨by decide, by decide⟩) (xe_sub (xe_var 2) (xe_var 7)) hv_hc1.2.1)) xa_nil)))))) rfl rfl (lt_map hv_hc1.2.2) ((li_app rfl).trans rfl)) (fun (way' : List Dd) h_way' => (xn_nxt (xs_let 7 nd (xe_add (xe_var 7) (xe_var 4))) (fun (row_here'' : Int) h_row_here'' => (xo_end (s := (way', row_here'')) (by exact (.same (.same (.same (.same (.same (.same (.same (.same (.same (.same (.same (.same (.same (.same (.same .nil))))))))))))))))))))))) (fun hc2 => ((xo_end (s := (s2.2, row_here')) (by exact (.same (.same (.same (.same (.same (.same (.same (.same (.same (.same (.same (.same (.same (.same (.same .nil)))))))))))))))))))) (fun (j : (List Dd) × Int) h_j => (xo_end (s := (j.2, j.1)) (by exact (.same (.same (.same (.same (.same (.same (.no (.same (.no (.same (.same (.same (.same (.same (.same .nil))))))))))))))))))))))) (by rfl)))) (fun (r2 : Int × (List Dd)) h_r2 => (xo_end (s := r2.2) (by exact (.same (.same (.same (.same (.no (.same (.same (.no (.same (.same (.same (.same (.same (.same (.same .nil))))))))))))))))))))) (by rfl)))) hv_way.2 (fun (r1 : (List Dd)) h_r1 hv_r1 => (xf_nxtv (xs_letN (x := (⟨[]⟩ : Td (Int × Int) Bool)) Td.ot 5 nd xn_td0) hv_r1 (fun (met : Td (Int × Int) Bool) h_met hv_met => (xf_nxt (xs_foldV (g := m_l_drawn_f3 script wide high) (vb := (v_l_drawn_f3 script wide high)) (L := (fun s3 : (List Dd) × (Td (Int × Int) Bool) => [.fz (script : Scr Int), .fz (wide : Int), .fz (high : Int), .ow none (ol s3.1), .no, .ow none (Td.ot s3.2), .no, .no, .no, .no, .no, .no, .no, .no, .no])) (s0 := (r1, met)) (xi_range1 T.b_range (xe_mod (xe_callZ (r := (script, 16, ())) (ok_l_mixed T) hr (by decide) (xr_fz (xe_var 0) (xr_fz xe_int xr_nil)) hv_met.1) xe_int (by decide)) hv_met.2.1) (xg_name 6 nd) (by exact (.same (.same (.same (.same (.same (.same (.same (.same (.same (.same (.same (.same (.same (.same (.same .nil)))))))))))))))) hv_met.2.2 (fun (k' : Int) (s3 : (List Dd) × (Td (Int × Int) Bool)) hv => (XO.eq (xn_nxtv (xs_let 8 nd (xe_callZ (r := (script, (17 + k'), ())) (ok_l_mixed T) hr (by decide) (xr_fz (xe_var 0) (xr_fz (xe_add xe_int (xe_var 6)) xr_nil)) hv.1)) hv.2 (fun (number' : Int) h_number' hv_number' => (xn_nxtv (xs_let 9 nd (xe_mod (xe_div (xe_var 8) xe_int ⟨by decide, by decide⟩) (xe_var 1) hv_number'.1)) hv_number'.2 (fun (place : Int) h_place hv_place => (xn_nxtv (xs_let 10 nd (xe_add xe_int (xe_mod (xe_div (xe_var 8) xe_int ⟨by decide, by decide⟩) (xe_sub (xe_var 1) (xe_var 9)) hv_place.1))) hv_place.2 (fun (size : Int) h_size hv_size => (xn_nxtv (kV := fun cells : List (Kk (Int × Int)) => ((cells.length ≤ 100000) ∧ ((eqb (((cells.filter (fun cell : Kk (Int × Int) => (tdOpt cell.x s3.2.l).isSome)).map (fun cell : Kk (Int × Int) => cell)).map fun z => Kk.x z) ([] : List (Int × Int))) = true → (((-(2 ^ 62) ≤ (size : Int) ∧ (size : Int) < 2 ^ 62) ∧ ((izs 0 (size : Int).toNat).length ≤ 100000) ∧ (∀ j''' ∈ ((izs 0 (size : Int).toNat) : List Int), ((CDiv number' ((k' + j''') + 2)) ∧ (v_l_sign (number' / ((k' + j''') + 2))))) ∧ ((((izs 0 (size : Int).toNat).map (fun j''' : Int => (m_l_sign (number' / ((k' + j''') + 2))))).map (·.length)).sum + ((izs 0 (size : Int).toNat).map (fun j''' : Int => (m_l_sign (number' / ((k' + j''') + 2))))).length * ("" : Str).length ≤ 16777216)) ∧ (bnd ((Txt.join ("" : Str) ((izs 0 (size : Int).toNat).map (fun j''' : Int => (m_l_sign (number' / ((k' + j''') + 2))))))) fun (text : Str) => (((0 < high) ∧ (s3.1.length < 100000)) ∧ (bnd ((s3.1 ++ [(Dd.wr ("write" : Str) (number' % high) place text (m_l_ink (number' / 7)))])) fun (way'' : List Dd) => ((cells.length ≤ 100000) ∧ (((cells.map (fun cell' : Kk (Int × Int) => (cell', true))).map fun z : (Kk (Int × Int)) × Bool => TKey.keys z.1.x).Nodup) ∧ (((s3.2.l ++ (⟨(cells.map (fun cell' : Kk (Int × Int) => (cell', true))).map fun z : (Kk (Int × Int)) × Bool => (z.1.x, z.2)⟩ : Td (Int × Int) Bool).l).map fun z => TKey.keys z.1).Nodup ∧ (s3.2.l ++ (⟨(cells.map (fun cell' : Kk (Int × Int) => (cell', true))).map fun z : (Kk (Int × Int)) × Bool => (z.1.x, z.2)⟩ : Td (Int × Int) Bool).l).length ≤ 100000) ∧ (s3.2.l ≠ [] ∨ ((⟨(cells.map (fun cell' : Kk (Int × Int) => (cell', true))).map fun z : (Kk (Int × Int)) × Bool => (z.1.x, z.2)⟩ : Td (Int × Int) Bool).l.map fun z => hashT z.1).Nodup))))))))) (xs_lcT 11 (h := fun j' : Int => (⟨((number' % high), (place + j'))⟩ : Kk (Int × Int))) (e := (fun z : Kk (Int × Int) => OT.fz z)) [("_law_j", 13)] nd (xi_range1 T.b_range (xe_var 10) hv_size.1.1) hv_size.1.2.1 (fun q => (xg_name 13 nd)) (fun (j' : Int) hy_j' q => (XE.n (xe_tupK (υ := Int × Int) (xa_cons (xe_mod (xe_var 8) (xe_var 2) (hv_size.1.2.2 j' hy_j')) (xa_cons (xe_add (xe_var 9) (xe_var 13)) xa_nil))))) (ok := by first | (show blkC ["_law_script", "_law_wide", "_law_high", "_law_way", "_law_sort", "_law_met", "_law_k", "_law_row_here", "_law_number", "_law_place", "_law_size", "_law_cells", "_law_text", "_law_j", "_law_cell"] (defScope s_l_drawn) _ _ = true; decide +kernel) | exact rfl) (th := Thaw.id) (Γt := [.fz (script : Scr Int), .fz (wide : Int), .fz (high : Int), .ow none (ol s3.1), .no, .ow none (Td.ot s3.2), .fz (k' : Int), .no, .fz (number' : Int), .fz (place : Int), .fz (size : Int), .no, .no, .no, .no])) hv_size.2 (fun (cells : List (Kk (Int × Int))) h_cells hv_cells => (xo_freeze 11 FzT.ol (xn_nxt (xs_ifs (G := (fun s : (List Dd) × (Td (Int × Int) Bool) => [.fz (script : Scr Int), .fz (wide : Int), .fz (high : Int), .ow none (ol s.1), .no, .ow none (Td.ot s.2), .fz (k' : Int), .no, .fz (number' : Int), .fz (place : Int), .fz (size : Int), .fz (cells : List (Kk (Int × Int))), .no, .no, .no])) (xt_c (xc_eqD hr.units (xe_mapkk (XN.fr (xn_lcifT (p := fun cell : Kk (Int × Int) => (tdOpt cell.x s3.2.l).isSome) (h := fun cell : Kk (Int × Int) => cell) (e := (fun z : Kk (Int × Int) => OT.fz z)) [("_law_cell", 14)] nd (xi_listL (xe_var 11)) hv_cells.1 (fun q => (xg_name 14 nd)) (fun (cell : Kk (Int × Int)) hy_cell q => (xt_thaw 5 rfl fzt_ot (xt_c (xc_inTd (hu_of hr.units) (xe_kk (xe_var 14)) (xe_var 5))))) (fun (cell : Kk (Int × Int)) hy_cell hc4 q => (XE.n (xe_var 14))) (ok := by first | (show blkC ["_law_script", "_law_wide", "_law_high", "_law_way", "_law_sort", "_law_met", "_law_k", "_law_row_here", "_law_number", "_law_place", "_law_size", "_law_cells", "_law_text", "_law_j", "_law_cell"] (defScope s_l_drawn) _ _ = true; decide +kernel) | exact rfl)) FzT.ol)) (XN.fr (XN.eq (xn_lst (ts := []) xns_nil (le100 rfl)) (t' := (ol ([] : List (Int × Int)))) rfl) FzT.ol) (PyDn.all _) (PyDn.all _))) (fun hc5 => (have hv_hc5 : (((-(2 ^ 62) ≤ (size : Int) ∧ (size : Int) < 2 ^ 62) ∧ ((izs 0 (size : Int).toNat).length ≤ 100000) ∧ (∀ j''' ∈ ((izs 0 (size : Int).toNat) : List Int), ((CDiv number' ((k' + j''') + 2)) ∧ (v_l_sign (number' / ((k' + j''') + 2))))) ∧ ((((izs 0 (size : Int).toNat).map (fun j''' : Int => (m_l_sign (number' / ((k' + j''') + 2))))).map (·.length)).sum + ((izs 0 (size : Int).toNat).map (fun j''' : Int => (m_l_sign (number' / ((k' + j''') + 2))))).length * ("" : Str).length ≤ 16777216)) ∧ (bnd ((Txt.join ("" : Str) ((izs 0 (size : Int).toNat).map (fun j''' : Int => (m_l_sign (number' / ((k' + j''') + 2))))))) fun (text : Str) => (((0 < high) ∧ (s3.1.length < 100000)) ∧ (bnd ((s3.1 ++ [(Dd.wr ("write" : Str) (number' % high) place text (m_l_ink (number' / 7)))])) fun (way'' : List Dd) => ((cells.length ≤ 100000) ∧ (((cells.map (fun cell' : Kk (Int × Int) => (cell', true))).map fun z : (Kk (Int × Int)) × Bool => TKey.keys z.1.x).Nodup) ∧ (((s3.2.l ++ (⟨(cells.map (fun cell' : Kk (Int × Int) => (cell', true))).map fun z : (Kk (Int × Int)) × Bool => (z.1.x, z.2)⟩ : Td (Int × Int) Bool).l).map fun z => TKey.keys z.1).Nodup ∧ (s3.2.l ++ (⟨(cells.map (fun cell' : Kk (Int × Int) => (cell', true))).map fun z : (Kk (Int × Int)) × Bool => (z.1.x, z.2)⟩ : Td (Int × Int) Bool).l).length ≤ 100000) ∧ (s3.2.l ≠ [] ∨ ((⟨(cells.map (fun cell' : Kk (Int × Int) => (cell', true))).map fun z : (Kk (Int × Int)) × Bool => (z.1.x, z.2)⟩ : Td (Int × Int) Bool).l.map fun z => hashT z.1).Nodup)))))) := hv_cells.2 hc5; (xn_nxtv (xs_let 12 nd (xe_join xe_str (XN.fr (xn_lcT (h := fun j''' : Int => (m_l_sign (number' / ((k' + j''') + 2)))) (e := (fun z : Str => OT.fz z)) [("_law_j", 13)] nd (xi_range1 T.b_range (xe_var 10) hv_hc5.1.1) hv_hc5.1.2.1 (fun q => (xg_name 13 nd)) (fun (j''' : Int) hy_j''' q => (XE.n (xe_callZ (r := ((number' / ((k' + j''') + 2)), ())) (ok_l_sign T) hr (by decide) (xr_fz (xe_div (xe_var 8) (xe_add (xe_add (xe_var 6) (xe_var 13)) xe_int) (hv_hc5.1.2.2.1 j''' hy_j''').1) xr_nil) (hv_hc5.1.2.2.1 j''' hy_j''').2))) (ok := by first | (show blkC ["_law_script", "_law_wide", "_law_high", "_law_way", "_law_sort", "_law_met", "_law_k", "_law_row_here", "_law_number", "_law_place", "_law_size", "_law_cells", "_law_text", "_law_j", "_law_cell"] (defScope s_l_drawn) _ _ = true; decide +kernel) | exact rfl)) FzT.ol) hv_hc5.1.2.2.2)) hv_hc5.2 (fun (text : Str) h_text hv_text => (xn_nxtv (xs_append (y := (s3.1 ++ [(Dd.wr ("write" : Str) (number' % high) place text (m_l_ink (number' / 7)))])) (fun z : List Dd => (ol z)) (xpl_name 3) (XE.n (Dd.mk_wr (xe_tup (υ := T5 Str Int Int Str Int) (xa_cons xe_str (xa_cons (xe_mod (xe_var 8) (xe_var 2) hv_text.1.1) (xa_cons (xe_var 9) (xa_cons (xe_var 12) (xa_cons (xe_callZ (r := ((number' / 7), ())) (ok_l_ink T) hr (by decide) (xr_fz (xe_div (xe_var 8) xe_int ⟨by decide, by decide⟩) xr_nil) trivial) xa_nil)))))))) rfl rfl (lt_map hv_text.1.2) ((li_app rfl).trans rfl)) hv_text.2 (fun (way'' : List Dd) h_way'' hv_way'' => (xn_nxt (xs_tdupd (y := (⟨s3.2.l ++ (⟨(cells.map (fun cell' : Kk (Int × Int) => (cell', true))).map fun z : (Kk (Int × Int)) × Bool => (z.1.x, z.2)⟩ : Td (Int × Int) Bool).l⟩ : Td (Int × Int) Bool)) (fun z : Td (Int × Int) Bool => (Td.ot z)) hr.units (xpl_name 5) (xn_dictPT hr.units T.b_dict (XN.fr (xn_lcT (h := fun cell' : Kk (Int × Int) => (cell', true)) (e := (fun z : (Kk (Int × Int)) × Bool => OT.fz z)) [("_law_cell", 14)] nd (xi_listL (xe_var 11)) hv_way''.1 (fun q => (xg_name 14 nd)) (fun (cell' : Kk (Int × Int)) hy_cell' q => (XE.n (xe_tup (υ := (Kk (Int × Int)) × Bool) (xa_cons (xe_var 14) (xa_cons xe_bl xa_nil))))) (ok := by first | (show blkC ["_law_script", "_law_wide", "_law_high", "_law_way", "_law_sort", "_law_met", "_law_k", "_law_row_here", "_law_number", "_law_place", "_law_size", "_law_cells", "_law_text", "_law_j", "_law_cell"] (defScope s_l_drawn) _ _ = true; decide +kernel) | exact rfl)) FzT.ol) hv_way''.2.1) rfl rfl hv_way''.2.2.1 hv_way''.2.2.2 rfl) (fun (met' : Td (Int × Int) Bool) h_met' => (xo_end (s := (way'', met')) (by exact (.same (.same (.same (.same (.same (.same (.same (.same (.same (.same (.same (.same (.no (.same (.same .nil))))))))))))))))))))))))) (fun hc6 => ((xo_end (s := (s3.1, s3.2)) (by exact (.same (.same (.same (.same (.same (.same (.same (.same (.same (.same (.same (.same (.same (.same (.same .nil)))))))))))))))))))) (fun (j'' : (List Dd) × (Td (Int × Int) Bool)) h_j'' => (xo_end (s := (j''.1, j''.2)) (by exact (.same (.same (.same (.same (.same (.same (.no (.same (.no (.no (.no (.no (.same (.same (.same .nil)))))))))))))))))))))))))))) (by rfl)))) (fun (r3 : (List Dd) × (Td (Int × Int) Bool)) h_r3 => (xf_freeze 3 FzT.ol (xf_one (xs_ret (xe_var 3) (rg_of (by exact trivial)) rfl rfl))))))))))) (by rfl)
abbrev s_law : Stmt := top 24
theorem sc_law : FnScope ["_law_script", "_law_wide", "_law_high", "_law_picture_here", "_law_way", "_law_due", "_law_deed_here", "_law_handed", "_law_turn", "_law_found", "_law_row_here"] ["_law_script"] (defScope s_law) := ⟨rfl, rfl, rfl, by decide +kernel, rfl, by decide +kernel, by decide +kernel⟩
set_option maxHeartbeats 4000000 in
theorem ok_law (T : Txt K mg) {f : Addr} {fd : FuncData} (F : Fun K "law" "law" s_law f fd) : FnOk P w K mg base CX0 4 f fd ["_law_script"] (SpL K Pre) := by
  refine fn_law F sc_law ?_
  intro f cdv A outer s H E c a hr hp0
  have hp : v_law a := v_law_ok a hp0
  delta v_law at hp
  have nd := sc_law.nd
  refine XF.eq ?_ (law_true a hp0)
  refine XF.gam (Γ' := [.fz (a : Scr Int), .no, .no, .no, .no, .no, .no, .no, .no, .no, .no]) rfl ?_
  exact XF.eq (xf_nxtv (xs_let 1 nd (xe_add xe_int (xe_mod (xe_callZ (r := (a, 0, ())) (ok_l_mixed T) hr (by decide) (xr_fz (xe_var 0) (xr_fz xe_int xr_nil)) hp.1) xe_int (by decide)))) hp.2 (fun (wide : Int) h_wide hv_wide => (xf_nxtv (xs_let 2 nd (xe_add xe_int (xe_mod (xe_div (xe_callZ (r := (a, 0, ())) (ok_l_mixed T) hr (by decide) (xr_fz (xe_var 0) (xr_fz xe_int xr_nil)) hv_wide.1) xe_int ⟨by decide, by decide⟩) xe_int (by decide)))) hv_wide.2 (fun (high : Int) h_high hv_high => (xf_nxtv (kV := fun j : Int × Int => ((v_l_picture a 1 j.1 j.2) ∧ (bnd ((m_l_picture a 1 j.1 j.2)) fun (picture_here : List (List (Str × Int))) => ((v_l_drawn a j.1 j.2) ∧ (bnd ((m_l_drawn a j.1 j.2)) fun (way : List Dd) => ((v_l_copied picture_here) ∧ (bnd ((m_l_copied picture_here)) fun (due : List (List (Str × Int))) => (((vFold (m_law_f1) (v_law_f1) due way)) ∧ (bnd ((way.foldl (m_law_f1) due)) fun (r1 : (List (List (Str × Int)))) => ((v_l_copied picture_here) ∧ (bnd (((m_l_copied picture_here), way)) fun (handed : (List (List (Str × Int))) × (List Dd)) => (((vRun (m_law_f2 picture_here way r1 handed) (v_law_f2 picture_here way r1 handed) () (izs 0 (2 : Int).toNat))) ∧ (∀ (r2 : Unit), (runFor (m_law_f2 picture_here way r1 handed) () (izs 0 (2 : Int).toNat) : Out (Unit) (Empty) (Bool)) = .nx r2 → ((v_way_done handed.1 ([] : List Dd)) ∧ (PyD.dok (m_way_done handed.1 ([] : List Dd))) ∧ (PyD.dok picture_here) ∧ ((eqb (m_way_done handed.1 ([] : List Dd)) picture_here) = true → ((PyD.dok handed) ∧ (PyD.dok (picture_here, way)))))))))))))))))) (xs_ifs (G := (fun s : Int × Int => [.fz (a : Scr Int), .fz (s.1 : Int), .fz (s.2 : Int), .no, .no, .no, .no, .no, .no, .no, .no])) (xt_c (xc_eqS (xe_mod (xe_div (xe_callZ (r := (a, 0, ())) (ok_l_mixed T) hr (by decide) (xr_fz (xe_var 0) (xr_fz xe_int xr_nil)) hv_high.1.1) xe_int ⟨by decide, by decide⟩) xe_int (by decide)) xe_int)) (fun hc1 => (have hv_hc1 : (v_l_mixed a 0) := hv_high.1.2 hc1; (xn_nxt (xs_let 1 nd (xe_add xe_int (xe_mod (xe_div (xe_callZ (r := (a, 0, ())) (ok_l_mixed T) hr (by decide) (xr_fz (xe_var 0) (xr_fz xe_int xr_nil)) hv_hc1) xe_int ⟨by decide, by decide⟩) xe_int (by decide)))) (fun (wide' : Int) h_wide' => (xn_nxt (xs_let 2 nd xe_int) (fun (high' : Int) h_high' => (xo_end (s := (wide', high')) (by exact (.same (.same (.same (.same (.same (.same (.same (.same (.same (.same (.same .nil))))))))))))))))))) (fun hc2 => ((xo_end (s := (wide, high)) (by exact (.same (.same (.same (.same (.same (.same (.same (.same (.same (.same (.same .nil)))))))))))))))) hv_high.2 (fun (j : Int × Int) h_j hv_j => (xf_nxtv (xs_let 3 nd (xe_callZ (r := (a, 1, j.1, j.2, ())) (ok_l_picture T) hr (by decide) (xr_fz (xe_var 0) (xr_fz xe_int (xr_fz (xe_var 1) (xr_fz (xe_var 2) xr_nil)))) hv_j.1)) hv_j.2 (fun (picture_here : List (List (Str × Int))) h_picture_here hv_picture_here => (xf_nxtv (xs_let 4 nd (xe_callZ (r := (a, j.1, j.2, ())) (ok_l_drawn T) hr (by decide) (xr_fz (xe_var 0) (xr_fz (xe_var 1) (xr_fz (xe_var 2) xr_nil))) hv_picture_here.1)) hv_picture_here.2 (fun (way : List Dd) h_way hv_way => (xf_nxtv (xs_let 5 nd (XN.fr (xn_callZ (r := (picture_here, ())) (ok_l_copied T) hr (by decide) (xr_fz (xe_var 3) xr_nil) hv_way.1) (FzT.lid fun _ => FzT.ol))) hv_way.2 (fun (due : List (List (Str × Int))) h_due hv_due => (xf_nxtv (kV := fun r1 : (List (List (Str × Int))) => ((v_l_copied picture_here) ∧ (bnd (((m_l_copied picture_here), way)) fun (handed : (List (List (Str × Int))) × (List Dd)) => (((vRun (m_law_f2 picture_here way r1 handed) (v_law_f2 picture_here way r1 handed) () (izs 0 (2 : Int).toNat))) ∧ (∀ (r2 : Unit), (runFor (m_law_f2 picture_here way r1 handed) () (izs 0 (2 : Int).toNat) : Out (Unit) (Empty) (Bool)) = .nx r2 → ((v_way_done handed.1 ([] : List Dd)) ∧ (PyD.dok (m_way_done handed.1 ([] : List Dd))) ∧ (PyD.dok picture_here) ∧ ((eqb (m_way_done handed.1 ([] : List Dd)) picture_here) = true → ((PyD.dok handed) ∧ (PyD.dok (picture_here, way)))))))))) (xs_foldV (g := m_law_f1) (vb := (v_law_f1)) (L := (fun s1 : (List (List (Str × Int))) => [.fz (a : Scr Int), .fz (j.1 : Int), .fz (j.2 : Int), .fz (picture_here : List (List (Str × Int))), .fz (way : List Dd), .fz (s1 : List (List (Str × Int))), .no, .no, .no, .no, .no])) (s0 := due) (xi_listL (xe_var 4)) (xg_name 6 nd) (by exact (.same (.same (.same (.same (.same (.same (.same (.same (.same (.same (.same .nil)))))))))))) hv_due.1 (fun (deed_here : Dd) (s1 : (List (List (Str × Int)))) hv => (XO.eq (xn_nxt (xs_let 5 nd (xe_callZ (r := (s1, deed_here, ())) (ok_l_deed T) hr (by decide) (xr_fz (xe_var 5) (xr_fz (xe_var 6) xr_nil)) hv)) (fun (due' : List (List (Str × Int))) h_due' => (xo_end (s := due') (by exact (.same (.same (.same (.same (.same (.same (.no (.same (.same (.same (.same .nil))))))))))))))) (by rfl)))) hv_due.2 (fun (r1 : (List (List (Str × Int)))) h_r1 hv_r1 => (xf_nxtv (xs_let 7 nd (xe_tup (υ := (List (List (Str × Int))) × (List Dd)) (xa_cons (XN.fr (xn_callZ (r := (picture_here, ())) (ok_l_copied T) hr (by decide) (xr_fz (xe_var 3) xr_nil) hv_r1.1) (FzT.lid fun _ => FzT.ol)) (xa_cons (XN.fr (xn_list T.b_list (xq_fz (xe_var 4))) FzT.ol) xa_nil)))) hv_r1.2 (fun (handed : (List (List (Str × Int))) × (List Dd)) h_handed hv_handed => (xf_cons (xs_forV (R := RcL) (f := m_law_f2 picture_here way r1 handed) (vb := (v_law_f2 picture_here way r1 handed)) (L := (fun s2 : Unit => [.fz (a : Scr Int), .fz (j.1 : Int), .fz (j.2 : Int), .fz (picture_here : List (List (Str × Int))), .fz (way : List Dd), .fz (r1 : List (List (Str × Int))), .no, .fz (handed : (List (List (Str × Int))) × (List Dd)), .no, .no, .no])) (s0 := ()) (xi_range1 T.b_range xe_int (by decide)) (xg_name 8 nd) (by exact (.same (.same (.same (.same (.same (.same (.same (.same (.same (.same (.same .nil)))))))))))) hv_handed.1 (fun (turn : Int) (s2 : Unit) hv => (XO.eq (xo_nxtv (xs_letN (x := (m_way_done handed.1 handed.2)) (OT.li ol) 9 nd (xn_callZ (r := (handed.1, handed.2, ())) (ok_way_done T) hr (by decide) (xr_fz (xe_fst (xe_var 7)) (xr_fz (xe_snd (xe_var 7)) xr_nil)) hv.1)) hv.2 (fun (found : List (List (Str × Int))) h_found hv_found => (xo_ifx (XW.t (xw_or (xt_not (xt_val (xe_thaw 9 rfl (FzT.lid fun _ => FzT.ol) (xe_isi (x := (found : List (List (Str × Int)))) (t := "list") T.b_isinstance T.b_list (xe_var 9) (.inr (.inr (.inr (.inr (.inl rfl))))) (by decide))))) (fun hc4 => (xw_or (xt_thaw 9 rfl (FzT.lid fun _ => FzT.ol) (xt_c (xc_neD hr.units (xe_var 9) (xe_var 5) (hv_found.1 hc4).1 (hv_found.1 hc4).2.1))) (fun hc3 => (xw_or1 (xt_c (xc_neD hr.units (xe_var 7) (xe_tup (υ := (List (List (Str × Int))) × (List Dd)) (xa_cons (xe_var 3) (xa_cons (xe_var 4) xa_nil))) ((hv_found.1 hc4).2.2 hc3).1 ((hv_found.1 hc4).2.2 hc3).2)))))))) (fun hc5 => ((xo_one (xs_ret xe_bl trivial rfl rfl)))) (fun hc6 => (have hv_hc6 : (vRunO (m_law_f3) (fun _ _ => True) (fun s3 : (List (List (Str × Int))) => s3) found.length found) := hv_found.2 hc6; (xo_cons (xs_forO (R := RcL) (G := (fun s3 : (List (List (Str × Int))) => [.fz (a : Scr Int), .fz (j.1 : Int), .fz (j.2 : Int), .fz (picture_here : List (List (Str × Int))), .fz (way : List Dd), .fz (r1 : List (List (Str × Int))), .no, .fz (handed : (List (List (Str × Int))) × (List Dd)), .fz (turn : Int), .ow none ((OT.li ol) s3), .no])) (f := m_law_f3) (vb := (fun _ _ => True)) (g := ol) (L := (fun la (s3 : (List (List (Str × Int)))) => [.fz (a : Scr Int), .fz (j.1 : Int), .fz (j.2 : Int), .fz (picture_here : List (List (Str × Int))), .fz (way : List Dd), .fz (r1 : List (List (Str × Int))), .no, .fz (handed : (List (List (Str × Int))) × (List Dd)), .fz (turn : Int), .ow (some la) ((OT.li ol) s3), .no])) (cur := (fun s3 : (List (List (Str × Int))) => s3)) (s0 := found) 9 10 (xpl_name 9) rfl nd hv_hc6 (fun la lb k3 s3 ha hin hv => (XO.eq (XO.gam (Γ' := [.fz (a : Scr Int), .fz (j.1 : Int), .fz (j.2 : Int), .fz (picture_here : List (List (Str × Int))), .fz (way : List Dd), .fz (r1 : List (List (Str × Int))), .no, .fz (handed : (List (List (Str × Int))) × (List Dd)), .fz (turn : Int), .ow (some la) (OT.put ((OT.li ol) s3) (([] : List Nat) ++ [ixn s3 k3]) (.hole lb)), .ow (some lb) (ol (ix s3 k3))]) rfl (xo_ifx (xt_not (xt_val (xe_thaw 10 rfl FzT.ol (xe_isi (x := ((ix s3 k3) : List (Str × Int))) (t := "list") T.b_isinstance T.b_list (xe_var 10) (.inr (.inr (.inr (.inr (.inl rfl))))) (by decide))))) (fun hc7 => ((xo_unal0 9 10 rfl (get_ix (g := ol) rfl hin) rfl (by decide) (xo_one (xs_ret xe_bl trivial rfl rfl))))) (fun hc8 => ((xo_nxt (xs_clear (y := ([] : List (Str × Int))) (fun z : List (Str × Int) => (ol z)) (xpl_name 10) rfl rfl rfl) (fun (row_here : List (Str × Int)) h_row_here => (xo_unal 9 10 rfl (get_ix (g := ol) rfl hin) rfl (by decide) ((put_ix rfl hin).trans rfl) (xo_bnd (v := (stI s3 k3 row_here)) (G' := (fun found' : List (List (Str × Int)) => [.fz (a : Scr Int), .fz (j.1 : Int), .fz (j.2 : Int), .fz (picture_here : List (List (Str × Int))), .fz (way : List Dd), .fz (r1 : List (List (Str × Int))), .no, .fz (handed : (List (List (Str × Int))) × (List Dd)), .fz (turn : Int), .ow (some la) ((OT.li ol) found'), .no])) (fun (found' : List (List (Str × Int))) h_found' => ((xo_end (s := found') (by exact (.same (.same (.same (.same (.same (.same (.same (.same (.same (.same (.no .nil))))))))))))))))))))))) (by rfl))) (fun la ha => (by exact (.same (.same (.same (.same (.same (.same (.same (.same (.same (.same (.same .nil))))))))))))) (fun la _ ha => rfl) (fun la _ ha => rfl) (fun _ => rfl) (.inl rfl) (by decide) (fun _ _ _ => Nat.le_of_ble_eq_true rfl)) (fun (r3 : (List (List (Str × Int)))) h_r3 => (xo_nxt (xs_clear (y := ([] : List (List (Str × Int)))) (fun z : List (List (Str × Int)) => ((OT.li ol) z)) (xpl_name 9) rfl rfl rfl) (fun (found'' : List (List (Str × Int))) h_found'' => (xo_end (s := ()) (by exact (.same (.same (.same (.same (.same (.same (.same (.same (.no (.no (.same .nil)))))))))))))))))))))) (by rfl)))) (fun (r2 : Unit) h_r2 => (have hv_r2 : ((v_way_done handed.1 ([] : List Dd)) ∧ (PyD.dok (m_way_done handed.1 ([] : List Dd))) ∧ (PyD.dok picture_here) ∧ ((eqb (m_way_done handed.1 ([] : List Dd)) picture_here) = true → ((PyD.dok handed) ∧ (PyD.dok (picture_here, way))))) := hv_handed.2 r2 h_r2; (xf_one (xs_ret (xe_and (xe_c (xc_eqD hr.units (XN.fr (xn_callZ (r := (handed.1, ([] : List Dd), ())) (ok_way_done T) hr (by decide) (xr_fz (xe_fst (xe_var 7)) (xr_fz (XN.fr (XN.eq (xn_lst (ts := []) xns_nil (le100 rfl)) (t' := (ol ([] : List Dd))) rfl) FzT.ol) xr_nil)) hv_r2.1) (FzT.lid fun _ => FzT.ol)) (xe_var 3) hv_r2.2.1 hv_r2.2.2.1)) (fun hc9 => (xe_one (xe_c (xc_eqD hr.units (xe_var 7) (xe_tup (υ := (List (List (Str × Int))) × (List Dd)) (xa_cons (xe_var 3) (xa_cons (xe_var 4) xa_nil))) (hv_r2.2.2.2 hc9).1 (hv_r2.2.2.2 hc9).2))))) trivial rfl rfl))))))))))))))))))))) (by rfl)
end
theorem walk {l : PySem.W.OpenLaw} {q : Program} {loose : List Str} {XP : (Str → Option Value) → Heap → Prop} {YP : World → Heap → Prop} {d : DefRec} {K : Params → PySem.W.Frag} (hn : l.most = some 63) (hdf : d.params.defaults = []) (hd : d.name = "law")
    (hY : ∀ (w : World) (h : Heap), YP w h → (K w.params).In h)
    (F : ∀ (w : World) (mg : Str → Option Value) (h : Heap), (K w.params).In h → h.Ns mainGlobals mg → Txt (K w.params) mg) :
    PySem.W.WalkO q loose XP YP l.row.toRowW d [] (fun f vs => PySem.call f vs) :=
  walk_fw (Tx := Txt) (x := "_law_script") (lvl := 4) (st := s_law) hn hdf ⟨rfl, by decide, by decide⟩ hd hY F (fun _ _ _ _ _ _ v => rfl) (fun _ _ T => T.d_law) (fun T f fd _ Fu => ok_law T Fu)
end
end Me
end Fw
open PySem PySem.W PyProof.Rows in
set_option maxRecDepth 100000 in
set_option maxHeartbeats 0 in
theorem PySem.Challenge.cw_signscreen_k27_ways_done_holds : PySem.Challenge.rw_signscreen_k27_ways_done.Holds := by
  w_on; o_law; k_head; (case hw => w_witness2)
  k_fill
  refine Fw.Me.walk (l := PySem.Challenge.rw_signscreen_k27_ways_done) rfl rfl rfl (fun w h Y => PySem.W.kIn_of Y) ?F
  case F =>
    intro w mg h KX G
    refine' @Fw.Me.Txt.mk _ _ ?d_blank_row ?d_copied ?d_cut_done ?d_put_done ?d_way_done ?d_l_cell_at ?d_l_mixed ?d_l_ink ?d_l_sign ?d_l_row ?d_l_picture ?d_l_copied ?d_l_cut ?d_l_put ?d_l_deed ?d_l_drawn ?d_law ?c_BLANK ?b_dict ?b_enumerate ?b_isinstance ?b_len ?b_list ?b_range
    case d_blank_row => (refine' Fw.dfd_mk KX G ?a ?l ?c ?k ?t ?d ?v; (case a => k_is); (case l => k_is); (case c => k_is); (case k => k_is); (case t => k_is); (case d => simp); (case v => exact .cons ⟨_, rfl⟩ .nil))
    case d_copied => (refine' Fw.df_mk KX G ?a ?l ?c ?k; (case a => k_is); (case l => k_is); (case c => k_is); (case k => k_is))
    case d_cut_done => (refine' Fw.df_mk KX G ?a ?l ?c ?k; (case a => k_is); (case l => k_is); (case c => k_is); (case k => k_is))
    case d_put_done => (refine' Fw.df_mk KX G ?a ?l ?c ?k; (case a => k_is); (case l => k_is); (case c => k_is); (case k => k_is))
    case d_way_done => (refine' Fw.df_mk KX G ?a ?l ?c ?k; (case a => k_is); (case l => k_is); (case c => k_is); (case k => k_is))
    case d_l_cell_at => (refine' Fw.df_mk KX G ?a ?l ?c ?k; (case a => k_is); (case l => k_is); (case c => k_is); (case k => k_is))
    case d_l_mixed => (refine' Fw.df_mk KX G ?a ?l ?c ?k; (case a => k_is); (case l => k_is); (case c => k_is); (case k => k_is))
    case d_l_ink => (refine' Fw.df_mk KX G ?a ?l ?c ?k; (case a => k_is); (case l => k_is); (case c => k_is); (case k => k_is))
    case d_l_sign => (refine' Fw.df_mk KX G ?a ?l ?c ?k; (case a => k_is); (case l => k_is); (case c => k_is); (case k => k_is))
    case d_l_row => (refine' Fw.df_mk KX G ?a ?l ?c ?k; (case a => k_is); (case l => k_is); (case c => k_is); (case k => k_is))
    case d_l_picture => (refine' Fw.df_mk KX G ?a ?l ?c ?k; (case a => k_is); (case l => k_is); (case c => k_is); (case k => k_is))
    case d_l_copied => (refine' Fw.df_mk KX G ?a ?l ?c ?k; (case a => k_is); (case l => k_is); (case c => k_is); (case k => k_is))
    case d_l_cut => (refine' Fw.df_mk KX G ?a ?l ?c ?k; (case a => k_is); (case l => k_is); (case c => k_is); (case k => k_is))
    case d_l_put => (refine' Fw.df_mk KX G ?a ?l ?c ?k; (case a => k_is); (case l => k_is); (case c => k_is); (case k => k_is))
    case d_l_deed => (refine' Fw.df_mk KX G ?a ?l ?c ?k; (case a => k_is); (case l => k_is); (case c => k_is); (case k => k_is))
    case d_l_drawn => (refine' Fw.df_mk KX G ?a ?l ?c ?k; (case a => k_is); (case l => k_is); (case c => k_is); (case k => k_is))
    case d_law => (refine' Fw.df_mk KX G ?a ?l ?c ?k; (case a => k_is); (case l => k_is); (case c => k_is); (case k => k_is))
    case c_BLANK => (refine' Fw.cs_mk KX G ?a; (case a => k_is))
    case b_dict => (refine' PySem.W.mg_none_of KX G ?a; (case a => k_is))
    case b_enumerate => (refine' PySem.W.mg_none_of KX G ?a; (case a => k_is))
    case b_isinstance => (refine' PySem.W.mg_none_of KX G ?a; (case a => k_is))
    case b_len => (refine' PySem.W.mg_none_of KX G ?a; (case a => k_is))
    case b_list => (refine' PySem.W.mg_none_of KX G ?a; (case a => k_is))
    case b_range => (refine' PySem.W.mg_none_of KX G ?a; (case a => k_is))
