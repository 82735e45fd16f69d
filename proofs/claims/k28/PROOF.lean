import PyProof.Rows.All
import Wide.All
import OpenK.AllK
import Wide.FinOn
import HandS.ForMost
import HandS.IsInst
import HandS.Wide
import HandS.EndBits
import HandS.Walk
import HandS.ForExc
import HandS.WordsExc
import HandS.Finally
import HandS.More
import HandS.Exc
import HandS.ExcOwn
import HandS.TryOnly
import HandS.Defaults
import HandS.TupLe
import HandS.Codes
import HandS.Replace
import HandS.Flow
import KE.IntTextLaws
import KE.IntBitsLaws
import HandS.WideBits
import KE.GoesEnum
import HandS.SortInts
import HandS.Style
import HandS.SortKw
import HandS.DictComp
import KE.DataMinMax
import HandS.Conv
import HandS.ExcIs
import HandS.Steps
import HandS.CallSlots
import HandS.SetFor
import KE.KDictZip
import HandS.FStr
import HandS.Strs
import KE.GoesMore
import KE.GoesZip
import PyProof.ListNew
import HandS.GenBody
import KE.KDictPairs
import KE.KDictCopyH
import HandS.TupAny
import HandS.HotCalls
import HandS.NoneIn
import HandS.Small
import HandS.ReplaceLit
import HandS.ReplaceDef
import HandS.TupSets
import HandS.RevRange
import PySem.Challenge.RW_signscreen_k28_whole_least_tried
set_option Elab.async false
set_option linter.all false
set_option maxRecDepth 100000
set_option maxHeartbeats 4000000
namespace Fw
open PySem L2
abbrev Fg := PySem.W.Frag
def Ex (H H' : Hp) : Prop := ∀ a o, H a = some o → H' a = some o
theorem Ex.refl (H : Hp) : Ex H H := fun _ _ h => h
theorem Ex.trans {H H1 H2 : Hp} (a : Ex H H1) (b : Ex H1 H2) : Ex H H2 := fun x o h => b x o (a x o h)
theorem Ex.new {H : Hp} {p : Addr} {o : HO} (h : H p = none) : Ex H (upd H p o) := fun a u e => by
  rw [upd_ne (ne_of_none e h)]; exact e
theorem Ex.upd {F H : Hp} {p : Addr} {o : HO} (e : Ex F H) (h : F p = none) : Ex F (upd H p o) := fun a u ha => by
  rw [upd_ne (ne_of_none ha h)]; exact e a u ha
theorem Ex.rd {H H' : Hp} {a : Addr} {u : HO} (e : Ex H H') (h : Rd H a u) : Rd H' a u := by
  rcases h with h | ⟨o, h⟩
  · exact .inl (e _ _ h)
  · exact .inr ⟨o, e _ _ h⟩
theorem Ex.l {K : Fg} {H H' : Hp} {a : Addr} {xs : List V} (e : Ex H H') (h : SqL K H a xs) : SqL K H' a xs := by
  rcases h with h | h
  · exact .inl (e.rd h)
  · exact .inr h
theorem Ex.t {K : Fg} {H H' : Hp} {a : Addr} {xs : List V} (e : Ex H H') (h : SqT K H a xs) : SqT K H' a xs := by
  rcases h with h | h
  · exact .inl (e.rd h)
  · exact .inr h
/-- what is new in the frozen part was nowhere before -/
structure Nw (F H F' H' : Hp) : Prop where
  h : Ex H H'
  n : ∀ b, F' b ≠ none → F b ≠ none ∨ H b = none
theorem Nw.refl {F H : Hp} : Nw F H F H := ⟨Ex.refl _, fun _ h => .inl h⟩
theorem Nw.trans {F H F1 H1 F2 H2 : Hp} (a : Nw F H F1 H1) (b : Nw F1 H1 F2 H2) : Nw F H F2 H2 := ⟨a.h.trans b.h, fun x hx => by
  rcases b.n x hx with q | q
  · exact a.n x q
  · refine .inr ?_
    cases z : H x with
    | none => rfl
    | some o => rw [a.h _ _ z] at q; cases q⟩
theorem Nw.lay {F H : Hp} {p : Addr} {o : HO} (hp : H p = none) : Nw F H (upd F p o) (upd H p o) := ⟨Ex.new hp, fun b hb => by
  by_cases ha : b = p
  · subst ha; exact .inr hp
  · rw [upd_ne ha] at hb; exact .inl hb⟩
class Py (τ : Type) where
  rep : Fg → Hp → V → τ → Prop
  mono : ∀ {K : Fg} {F F' : Hp} {v : V} {x : τ}, Ex F F' → rep K F v x → rep K F' v x
open Py
def Reps {τ : Type} [Py τ] (K : Fg) (F : Hp) : List V → List τ → Prop := Paired (rep K F)
theorem Reps.mono {τ : Type} [Py τ] {K : Fg} {F F' : Hp} (e : Ex F F') : ∀ {vs : List V} {xs : List τ}, Reps K F vs xs → Reps K F' vs xs
  | _, _, .nil => .nil
  | _, _, .cons r t => .cons (Py.mono e r) (Reps.mono e t)
theorem Reps.length {τ : Type} [Py τ] {K : Fg} {F : Hp} {vs : List V} {xs : List τ} (r : Reps K F vs xs) : vs.length = xs.length := Paired.length r
theorem Reps.get {τ : Type} [Py τ] {K : Fg} {F : Hp} : ∀ {vs : List V} {xs : List τ} {i : Nat} {v : V}, Reps K F vs xs → vs[i]? = some v → ∃ x, xs[i]? = some x ∧ rep K F v x
  | _, _, _, _, .nil, e => by simp at e
  | _, _, 0, _, .cons r _, e => by simp at e; subst e; exact ⟨_, rfl, r⟩
  | _, _, i + 1, v, .cons _ t, e => by
    obtain ⟨x, h1, h2⟩ := Reps.get (i := i) (v := v) t (by simpa using e)
    exact ⟨x, by simpa using h1, h2⟩
theorem Reps.get' {τ : Type} [Py τ] {K : Fg} {F : Hp} : ∀ {vs : List V} {xs : List τ} {i : Nat} {x : τ}, Reps K F vs xs → xs[i]? = some x → ∃ v, vs[i]? = some v ∧ rep K F v x
  | _, _, _, _, .nil, e => by simp at e
  | _, _, 0, _, .cons r _, e => by simp at e; subst e; exact ⟨_, rfl, r⟩
  | _, _, i + 1, v, .cons _ t, e => by
    obtain ⟨x, h1, h2⟩ := Reps.get' (i := i) (x := v) t (by simpa using e)
    exact ⟨x, by simpa using h1, h2⟩
theorem Reps.app {τ : Type} [Py τ] {K : Fg} {F : Hp} : ∀ {vs ws : List V} {xs ys : List τ}, Reps K F vs xs → Reps K F ws ys → Reps K F (vs ++ ws) (xs ++ ys)
  | _, _, _, _, .nil, s => s
  | _, _, _, _, .cons r t, s => .cons r (Reps.app t s)
theorem Reps.one {τ : Type} [Py τ] {K : Fg} {F : Hp} {v : V} {x : τ} (r : rep K F v x) : Reps K F [v] [x] := .cons r .nil
theorem Reps.take {τ : Type} [Py τ] {K : Fg} {F : Hp} : ∀ {vs : List V} {xs : List τ} (n : Nat), Reps K F vs xs → Reps K F (vs.take n) (xs.take n)
  | _, _, 0, _ => .nil
  | _, _, _ + 1, .nil => .nil
  | _, _, n + 1, .cons r t => .cons r (Reps.take n t)
theorem Reps.drop {τ : Type} [Py τ] {K : Fg} {F : Hp} : ∀ {vs : List V} {xs : List τ} (n : Nat), Reps K F vs xs → Reps K F (vs.drop n) (xs.drop n)
  | _, _, 0, r => r
  | _, _, _ + 1, .nil => .nil
  | _, _, n + 1, .cons _ t => Reps.drop n t
theorem Reps.set {τ : Type} [Py τ] {K : Fg} {F : Hp} {v : V} {x : τ} (q : rep K F v x) : ∀ {vs : List V} {xs : List τ} (n : Nat), Reps K F vs xs → Reps K F (vs.set n v) (xs.set n x)
  | _, _, _, .nil => .nil
  | _, _, 0, .cons _ t => .cons q t
  | _, _, n + 1, .cons r t => .cons r (Reps.set q n t)
theorem Reps.map {τ : Type} [Py τ] {K : Fg} {F : Hp} {g : τ → V} (hg : ∀ x, rep K F (g x) x) : ∀ xs : List τ, Reps K F (xs.map g) xs
  | [] => .nil
  | x :: r => .cons (hg x) (Reps.map hg r)
instance : Py Int := ⟨fun _ _ v x => v = .int x, fun _ h => h⟩
instance : Py Bool := ⟨fun _ _ v x => v = .bl x, fun _ h => h⟩
instance : Py Str := ⟨fun _ _ v x => v = .str x, fun _ h => h⟩
instance : Py Unit := ⟨fun _ _ v _ => v = .non, fun _ h => h⟩
instance {τ : Type} [Py τ] : Py (Option τ) := ⟨fun K F v x => match x with
  | none => v = .non
  | some y => rep K F v y, fun {K F F' v x} e h => by
    cases x with
    | none => exact h
    | some y => exact Py.mono e h⟩
instance {τ : Type} [Py τ] : Py (List τ) := ⟨fun K F v x => ∃ a vs, v = .ref a ∧ F a = some (.lst vs) ∧ Reps K F vs x,
  fun e ⟨a, vs, h1, h2, h3⟩ => ⟨a, vs, h1, e _ _ h2, h3.mono e⟩⟩
/-- a list that is only read (the script, a list of the module) -/
structure Scr (τ : Type) where
  l : List τ
instance {τ : Type} [Py τ] : Py (Scr τ) := ⟨fun K F v x => ∃ a vs, v = .ref a ∧ SqL K F a vs ∧ Reps K F vs x.l,
  fun e ⟨a, vs, h1, h2, h3⟩ => ⟨a, vs, h1, e.l h2, h3.mono e⟩⟩
theorem sq_of {K : Fg} {H : Hp} {a : Addr} {xs : List V} (h : H a = some (.lst xs)) : SqL K H a xs := Or.inl (Or.inl h)
theorem st_of {K : Fg} {H : Hp} {a : Addr} {xs : List V} (h : H a = some (.tup xs)) : SqT K H a xs := Or.inl (Or.inl h)
/-- lists that are read, of either kind -/
class PyL (υ : Type) (τ : outParam Type) [Py υ] [Py τ] where
  li : υ → List τ
  sq : ∀ {K : Fg} {F : Hp} {v : V} {x : υ}, rep K F v x → ∃ a vs, v = .ref a ∧ SqL K F a vs ∧ Reps K F vs (li x)
instance {τ : Type} [Py τ] : PyL (List τ) τ := ⟨fun x => x, fun ⟨a, vs, h1, h2, h3⟩ => ⟨a, vs, h1, sq_of h2, h3⟩⟩
instance {τ : Type} [Py τ] : PyL (Scr τ) τ := ⟨Scr.l, fun ⟨a, vs, h1, h2, h3⟩ => ⟨a, vs, h1, h2, h3⟩⟩
/-- a tuple of one kind -/
structure Tup (τ : Type) where
  l : List τ
  deriving DecidableEq
instance {τ : Type} [Py τ] : Py (Tup τ) := ⟨fun K F v x => ∃ a vs, v = .ref a ∧ SqT K F a vs ∧ Reps K F vs x.l,
  fun e ⟨a, vs, h1, h2, h3⟩ => ⟨a, vs, h1, e.t h2, h3.mono e⟩⟩
structure T3 (α β γ : Type) where
  a : α
  b : β
  c : γ
  deriving DecidableEq
structure T4 (α β γ δ : Type) where
  a : α
  b : β
  c : γ
  d : δ
  deriving DecidableEq
structure T5 (α β γ δ ε : Type) where
  a : α
  b : β
  c : γ
  d : δ
  e : ε
  deriving DecidableEq
instance {α β γ : Type} [Inhabited α] [Inhabited β] [Inhabited γ] : Inhabited (T3 α β γ) := ⟨⟨default, default, default⟩⟩
instance {α β γ δ : Type} [Inhabited α] [Inhabited β] [Inhabited γ] [Inhabited δ] : Inhabited (T4 α β γ δ) := ⟨⟨default, default, default, default⟩⟩
instance {α β γ δ ε : Type} [Inhabited α] [Inhabited β] [Inhabited γ] [Inhabited δ] [Inhabited ε] : Inhabited (T5 α β γ δ ε) := ⟨⟨default, default, default, default, default⟩⟩
instance {α : Type} : Inhabited (Tup α) := ⟨⟨[]⟩⟩
section
variable {α β γ δ ε : Type} [Py α] [Py β] [Py γ] [Py δ] [Py ε]
instance : Py (α × β) := ⟨fun K F v x => ∃ p a b, v = .ref p ∧ SqT K F p [a, b] ∧ rep K F a x.1 ∧ rep K F b x.2,
  fun e ⟨p, a, b, h1, h2, h3, h4⟩ => ⟨p, a, b, h1, e.t h2, Py.mono e h3, Py.mono e h4⟩⟩
instance : Py (T3 α β γ) := ⟨fun K F v x => ∃ p a b c, v = .ref p ∧ SqT K F p [a, b, c] ∧ rep K F a x.a ∧ rep K F b x.b ∧ rep K F c x.c,
  fun e ⟨p, a, b, c, h1, h2, h3, h4, h5⟩ => ⟨p, a, b, c, h1, e.t h2, Py.mono e h3, Py.mono e h4, Py.mono e h5⟩⟩
instance : Py (T4 α β γ δ) := ⟨fun K F v x => ∃ p a b c d, v = .ref p ∧ SqT K F p [a, b, c, d] ∧ rep K F a x.a ∧ rep K F b x.b ∧ rep K F c x.c ∧ rep K F d x.d,
  fun e ⟨p, a, b, c, d, h1, h2, h3, h4, h5, h6⟩ => ⟨p, a, b, c, d, h1, e.t h2, Py.mono e h3, Py.mono e h4, Py.mono e h5, Py.mono e h6⟩⟩
instance : Py (T5 α β γ δ ε) := ⟨fun K F v x => ∃ p a b c d q, v = .ref p ∧ SqT K F p [a, b, c, d, q] ∧ rep K F a x.a ∧ rep K F b x.b ∧ rep K F c x.c ∧ rep K F d x.d ∧ rep K F q x.e,
  fun e ⟨p, a, b, c, d, q, h1, h2, h3, h4, h5, h6, h7⟩ => ⟨p, a, b, c, d, q, h1, e.t h2, Py.mono e h3, Py.mono e h4, Py.mono e h5, Py.mono e h6, Py.mono e h7⟩⟩
end
inductive Kind where
  | lst
  | ins (C : Addr) (ns : List Str)
  | dK (ks : List Key)
  | dT (ks : List (List Key))
/-- a tree: frozen data, a hole, an object with its parts -/
inductive OT : Type 1 where
  | fz {τ : Type} [inst : Py τ] (x : τ)
  | hole (a : Addr)
  | nd (k : Kind) (ts : List OT)
/-- the object o is of kind k, with the parts vs -/
def KO (K : Fg) : Kind → HO → List V → Prop
  | .lst, o, vs => o = .lst vs
  | .ins C ns, o, vs => (Cls K C ∧ ∀ n ∈ ns, NoAttr K C n) ∧ ns.length = vs.length ∧ ∃ dx, o = .ins C dx (ns.zip vs)
  | .dK ks, o, vs => ks.length = vs.length ∧ o = .dK (ks.zip vs)
  | .dT ks, o, vs => ks.length = vs.length ∧ o = .dT (ks.zip vs)
def kids : HO → List V
  | .lst vs => vs
  | .ins _ _ fs => fs.map (·.2)
  | .dK kvs => kvs.map (·.2)
  | .dT kvs => kvs.map (·.2)
  | _ => []
theorem KO.kids {K : Fg} {k : Kind} {o : HO} {vs : List V} (h : KO K k o vs) : kids o = vs := by
  cases k with
  | lst => subst h; rfl
  | ins C ns =>
    obtain ⟨_, hl, dx, rfl⟩ := h
    show (ns.zip vs).map Prod.snd = vs
    rw [List.map_snd_zip]; omega
  | dK ks =>
    obtain ⟨hl, rfl⟩ := h
    show (ks.zip vs).map Prod.snd = vs
    rw [List.map_snd_zip]; omega
  | dT ks =>
    obtain ⟨hl, rfl⟩ := h
    show (ks.zip vs).map Prod.snd = vs
    rw [List.map_snd_zip]; omega
/-- three rows in step -/
def L3 (P : V → List Addr → OT → Prop) (vs : List V) (fps : List (List Addr)) (ts : List OT) : Prop :=
  vs.length = ts.length ∧ fps.length = ts.length ∧ ∀ (i : Nat) v l t, vs[i]? = some v → fps[i]? = some l → ts[i]? = some t → P v l t
inductive OA (K : Fg) (F H : Hp) : V → List Addr → OT → Prop where
  | fz {τ : Type} [Py τ] {x : τ} {v : V} (r : rep K F v x) : OA K F H v [] (.fz x)
  | hole {a : Addr} : OA K F H (.ref a) [] (.hole a)
  | nd {a : Addr} {o : HO} {k : Kind} {vs : List V} {ts : List OT} (fps : List (List Addr)) (hF : F a = none) (hH : H a = some o) (ko : KO K k o vs)
      (l1 : vs.length = ts.length) (l2 : fps.length = ts.length) (hc : ∀ (i : Nat) v l t, vs[i]? = some v → fps[i]? = some l → ts[i]? = some t → OA K F H v l t) (nd : (a :: fps.flatten).Nodup) : OA K F H (.ref a) (a :: fps.flatten) (.nd k ts)
section L3
variable {P : V → List Addr → OT → Prop} {vs ws : List V} {fps gps : List (List Addr)} {ts us : List OT}
theorem L3.nil : L3 P [] [] [] := ⟨rfl, rfl, fun i v l t h => by simp at h⟩
theorem L3.cons {v : V} {l : List Addr} {t : OT} (h : P v l t) (r : L3 P vs fps ts) : L3 P (v :: vs) (l :: fps) (t :: ts) := ⟨by simp [r.1], by simp [r.2.1], fun i => by
  cases i with
  | zero => intro v' l' t' h1 h2 h3; simp at h1 h2 h3; subst h1; subst h2; subst h3; exact h
  | succ i => intro v' l' t' h1 h2 h3; exact r.2.2 i v' l' t' (by simpa using h1) (by simpa using h2) (by simpa using h3)⟩
theorem L3.head {v : V} {l : List Addr} {t : OT} (r : L3 P (v :: vs) (l :: fps) (t :: ts)) : P v l t := r.2.2 0 v l t rfl rfl rfl
theorem L3.tail {v : V} {l : List Addr} {t : OT} (r : L3 P (v :: vs) (l :: fps) (t :: ts)) : L3 P vs fps ts := ⟨by simpa using r.1, by simpa using r.2.1, fun i v' l' t' h1 h2 h3 => r.2.2 (i + 1) v' l' t' (by simpa using h1) (by simpa using h2) (by simpa using h3)⟩
theorem L3.imp {Q : V → List Addr → OT → Prop} (r : L3 P vs fps ts) (h : ∀ v l t, l ∈ fps → P v l t → Q v l t) : L3 Q vs fps ts := ⟨r.1, r.2.1, fun i v l t h1 h2 h3 => h v l t (List.mem_of_getElem? h2) (r.2.2 i v l t h1 h2 h3)⟩
theorem L3.app (r : L3 P vs fps ts) (q : L3 P ws gps us) : L3 P (vs ++ ws) (fps ++ gps) (ts ++ us) := by
  induction vs generalizing fps ts with
  | nil =>
    have h1 := r.1; have h2 := r.2.1
    cases ts with
    | nil => cases fps with
      | nil => exact q
      | cons => simp at h2
    | cons => simp at h1
  | cons v vs ih =>
    have h1 := r.1; have h2 := r.2.1
    cases ts with
    | nil => simp at h1
    | cons t ts => cases fps with
      | nil => simp at h2
      | cons l fps => exact .cons r.head (ih r.tail)
theorem L3.get (r : L3 P vs fps ts) {i : Nat} {t : OT} (h : ts[i]? = some t) : ∃ v l, vs[i]? = some v ∧ fps[i]? = some l ∧ P v l t := by
  have hi := (List.getElem?_eq_some_iff.mp h).1
  have h1 := r.1; have h2 := r.2.1
  exact ⟨vs[i], fps[i], by simp [h1, hi], by simp [h2, hi], r.2.2 i _ _ _ (by simp [h1, hi]) (by simp [h2, hi]) h⟩
theorem L3.take (r : L3 P vs fps ts) (n : Nat) : L3 P (vs.take n) (fps.take n) (ts.take n) := by
  refine ⟨by simp [r.1], by simp [r.2.1], fun i v l t h1 h2 h3 => ?_⟩
  rw [List.getElem?_take] at h1 h2 h3
  split at h1
  · rename_i hi
    rw [if_pos hi] at h2 h3
    exact r.2.2 i v l t h1 h2 h3
  · cases h1
theorem L3.drop (r : L3 P vs fps ts) (n : Nat) : L3 P (vs.drop n) (fps.drop n) (ts.drop n) := by
  refine ⟨by simp [r.1], by simp [r.2.1], fun i v l t h1 h2 h3 => ?_⟩
  rw [List.getElem?_drop] at h1 h2 h3
  exact r.2.2 _ v l t h1 h2 h3
theorem L3.set (r : L3 P vs fps ts) (i : Nat) {v : V} {l : List Addr} {t : OT} (h : P v l t) : L3 P (vs.set i v) (fps.set i l) (ts.set i t) := by
  refine ⟨by simp [r.1], by simp [r.2.1], fun j v' l' t' h1 h2 h3 => ?_⟩
  by_cases hj : j = i
  · subst hj
    have hj : j < ts.length := by
      have := (List.getElem?_eq_some_iff.mp h3).1
      simpa using this
    rw [List.getElem?_set_self (by rw [r.1]; exact hj)] at h1
    rw [List.getElem?_set_self (by rw [r.2.1]; exact hj)] at h2
    rw [List.getElem?_set_self hj] at h3
    cases h1; cases h2; cases h3
    exact h
  · rw [List.getElem?_set_ne (Ne.symm hj)] at h1 h2 h3
    exact r.2.2 j v' l' t' h1 h2 h3
theorem L3.erase (r : L3 P vs fps ts) (i : Nat) : L3 P (vs.eraseIdx i) (fps.eraseIdx i) (ts.eraseIdx i) := by
  rw [List.eraseIdx_eq_take_drop_succ, List.eraseIdx_eq_take_drop_succ, List.eraseIdx_eq_take_drop_succ]
  exact (r.take i).app (r.drop (i + 1))
end L3
theorem flat_set {fps : List (List Addr)} {i : Nat} {l l' : List Addr} (h : fps[i]? = some l) : (fps.flatten).Perm (l ++ (fps.eraseIdx i).flatten) ∧ ((fps.set i l').flatten).Perm (l' ++ (fps.eraseIdx i).flatten) := by
  induction fps generalizing i with
  | nil => simp at h
  | cons x r ih =>
    cases i with
    | zero =>
      simp at h; subst h
      exact ⟨by simp, by simp⟩
    | succ i =>
      obtain ⟨h1, h2⟩ := ih (by simpa using h)
      constructor
      · simp only [List.flatten_cons, List.eraseIdx_cons_succ]
        refine (List.Perm.append_left x h1).trans ?_
        rw [← List.append_assoc, ← List.append_assoc]
        exact List.Perm.append_right _ List.perm_append_comm
      · simp only [List.set_cons_succ, List.flatten_cons, List.eraseIdx_cons_succ]
        refine (List.Perm.append_left x h2).trans ?_
        rw [← List.append_assoc, ← List.append_assoc]
        exact List.Perm.append_right _ List.perm_append_comm
section
variable {K : Fg} {F F' H H' : Hp} {v : V} {l : List Addr} {t u : OT}
theorem OA.l3 {k : Kind} {ts : List OT} (h : OA K F H v l (.nd k ts)) : ∃ a o vs fps, v = .ref a ∧ l = a :: fps.flatten ∧ F a = none ∧ H a = some o ∧ KO K k o vs ∧ L3 (OA K F H) vs fps ts ∧ (a :: fps.flatten).Nodup := by
  cases h with
  | nd fps hF hH ko l1 l2 hc nd => exact ⟨_, _, _, fps, rfl, rfl, hF, hH, ko, ⟨l1, l2, hc⟩, nd⟩
theorem OA.mk {a : Addr} {o : HO} {k : Kind} {vs : List V} {ts : List OT} {fps : List (List Addr)} (hF : F a = none) (hH : H a = some o) (ko : KO K k o vs) (hc : L3 (OA K F H) vs fps ts) (nd : (a :: fps.flatten).Nodup) : OA K F H (.ref a) (a :: fps.flatten) (.nd k ts) := .nd fps hF hH ko hc.1 hc.2.1 hc.2.2 nd
theorem OA.grow (h : OA K F H v l t) (e : Ex F F') : (∀ b ∈ l, F' b = none ∧ H' b = H b) → OA K F' H' v l t := by
  induction h with
  | fz r => exact fun _ => .fz (Py.mono e r)
  | hole => exact fun _ => .hole
  | nd fps hF hH ko l1 l2 hc nd ih =>
    intro k
    obtain ⟨k1, k2⟩ := k _ (List.mem_cons_self ..)
    exact .nd fps k1 (k2.trans hH) ko l1 l2 (fun i v l t h1 h2 h3 => ih i v l t h1 h2 h3 fun b hb => k b (List.mem_cons_of_mem _ (List.mem_flatten.mpr ⟨l, List.mem_of_getElem? h2, hb⟩))) nd
theorem OA.dom (h : OA K F H v l t) : ∀ b ∈ l, F b = none ∧ ∃ o, H b = some o := by
  induction h with
  | fz r => intro b hb; cases hb
  | hole => intro b hb; cases hb
  | nd fps hF hH ko l1 l2 hc nd ih =>
    intro b hb
    rcases List.mem_cons.mp hb with rfl | hb
    · exact ⟨hF, _, hH⟩
    · obtain ⟨l, hl, hb⟩ := List.mem_flatten.mp hb
      obtain ⟨i, hi⟩ := List.getElem?_of_mem hl
      have h0 : i < fps.length := (List.getElem?_eq_some_iff.mp hi).1
      exact ih i _ l _ (by rw [List.getElem?_eq_getElem (by omega)]) hi (by rw [List.getElem?_eq_getElem (by omega)]) b hb
theorem OA.nodup (h : OA K F H v l t) : l.Nodup := by
  cases h with
  | fz r => exact List.nodup_nil
  | hole => exact List.nodup_nil
  | nd fps hF hH ko l1 l2 hc nd => exact nd
def OT.get? : OT → List Nat → Option OT
  | t, [] => some t
  | .nd _ ts, i :: p => match ts[i]? with
    | some t => t.get? p
    | none => none
  | _, _ :: _ => none
def OT.put : OT → List Nat → OT → OT
  | _, [], u => u
  | .nd k ts, i :: p, u => match ts[i]? with
    | some t => .nd k (ts.set i (t.put p u))
    | none => .nd k ts
  | t, _ :: _, _ => t
def follow (H : Hp) : V → List Nat → Option V
  | v, [] => some v
  | .ref a, i :: p => match H a with
    | some o => match (kids o)[i]? with
      | some w => follow H w p
      | none => none
    | none => none
  | _, _ :: _ => none
theorem follow_ex {H H' : Hp} (e : Ex H H') : ∀ {p : List Nat} {v w : V}, follow H v p = some w → follow H' v p = some w
  | [], v, w, h => by simpa [follow] using h
  | i :: p, v, w, h => by
    cases v with
    | ref a =>
      unfold follow at h ⊢
      cases q : H a with
      | none => rw [q] at h; cases h
      | some o =>
        rw [q] at h
        rw [e _ _ q]
        dsimp only at h ⊢
        cases q2 : (kids o)[i]? with
        | none => rw [q2] at h; cases h
        | some z => rw [q2] at h; exact follow_ex e h
    | _ => unfold follow at h; cases h
/-- a part of a tree taken, changed where it stands -/
theorem OA.focus : ∀ {p : List Nat} {v : V} {l : List Addr} {t : OT}, OA K F H v l t → t.get? p = some u → ∃ w l2 l1, follow H v p = some w ∧ OA K F H w l2 u ∧ l.Perm (l2 ++ l1) ∧
    ∀ F' H' l2' u', Ex F F' → (∀ b ∈ l1, F' b = none ∧ H' b = H b) → OA K F' H' w l2' u' → (∀ b ∈ l2', b ∉ l1) → ∃ l', OA K F' H' v l' (t.put p u') ∧ l'.Perm (l2' ++ l1)
  | [], v, l, t, h, g => by
    cases (show some t = some u from g)
    exact ⟨v, l, [], by unfold follow; rfl, h, by simp, fun F' H' l2' u' e k h' d => ⟨l2', h', by simp⟩⟩
  | i :: p, v, l, t, h, g => by
    cases t with
    | fz x => unfold OT.get? at g; cases g
    | hole a => unfold OT.get? at g; cases g
    | nd k ts =>
      unfold OT.get? at g
      cases q : ts[i]? with
      | none => rw [q] at g; cases g
      | some t =>
        rw [q] at g
        obtain ⟨a, o, vs, fps, rfl, rfl, hF, hH, ko, hc, nd⟩ := h.l3
        obtain ⟨x, lx, g1, g2, g3⟩ := hc.get q
        obtain ⟨w, l2, l1, f1, f2, f3, f4⟩ := OA.focus (p := p) g3 g
        refine ⟨w, l2, a :: (l1 ++ (fps.eraseIdx i).flatten), ?_, f2, ?_, fun F' H' l2' u' e kk h' d => ?_⟩
        · unfold follow
          rw [hH]
          dsimp only
          rw [ko.kids, g1]
          exact f1
        · have fs := flat_set (l' := lx) g2
          refine (List.Perm.cons a (fs.1.trans (List.Perm.append_right _ f3))).trans ?_
          rw [List.append_assoc]
          exact List.perm_middle.symm
        · obtain ⟨l', k1, k2⟩ := f4 F' H' l2' u' e (fun b hb => kk b (by simp [hb])) h' (fun b hb hb2 => d b hb (by simp [hb2]))
          have fs := flat_set (l' := l') g2
          have er := hc.erase i
          obtain ⟨ka1, ka2⟩ := kk a (by simp)
          have pm : (a :: (fps.set i l').flatten).Perm (l2' ++ (a :: (l1 ++ (fps.eraseIdx i).flatten))) := by
            refine (List.Perm.cons a (fs.2.trans (List.Perm.append_right _ k2))).trans ?_
            rw [List.append_assoc]
            exact List.perm_middle.symm
          have n0 : (a :: (l1 ++ (fps.eraseIdx i).flatten)).Nodup := by
            have h1 : (a :: fps.flatten).Perm (l2 ++ (a :: (l1 ++ (fps.eraseIdx i).flatten))) := by
              refine (List.Perm.cons a (fs.1.trans (List.Perm.append_right _ f3))).trans ?_
              rw [List.append_assoc]
              exact List.perm_middle.symm
            exact (List.nodup_append.mp (h1.nodup_iff.mp nd)).2.1
          refine ⟨a :: (fps.set i l').flatten, ?_, pm⟩
          unfold OT.put
          rw [q]
          dsimp only
          have cs : L3 (OA K F' H') (vs.set i x) (fps.set i l') (ts.set i (t.put p u')) := by
            refine ⟨by simp [hc.1], by simp [hc.2.1], fun j v' m t' h1 h2 h3 => ?_⟩
            by_cases hj : j = i
            · subst hj
              have hj : j < ts.length := (List.getElem?_eq_some_iff.mp q).1
              rw [List.getElem?_set_self (by rw [hc.1]; exact hj)] at h1
              rw [List.getElem?_set_self (by rw [hc.2.1]; exact hj)] at h2
              rw [List.getElem?_set_self hj] at h3
              cases h1; cases h2; cases h3
              exact k1
            · rw [List.getElem?_set_ne (Ne.symm hj)] at h1 h2 h3
              refine (hc.2.2 j v' m t' h1 h2 h3).grow e fun b hb => kk b ?_
              refine List.mem_cons_of_mem _ (List.mem_append_right _ (List.mem_flatten.mpr ⟨m, ?_, hb⟩))
              rw [List.mem_eraseIdx_iff_getElem?]
              exact ⟨j, hj, h2⟩
          have vx : vs.set i x = vs := by
            apply List.ext_getElem?
            intro j
            by_cases hj : j = i
            · subst hj
              rw [List.getElem?_set_self (List.getElem?_eq_some_iff.mp g1).1, g1]
            · rw [List.getElem?_set_ne (Ne.symm hj)]
          rw [vx] at cs
          refine OA.mk ka1 (ka2.trans hH) ko cs (pm.nodup_iff.mpr (List.nodup_append.mpr ⟨h'.nodup, n0, fun b hb c hc e => d b hb (e ▸ hc)⟩))
end
inductive Slot : Type 1 where
  | no
  | fz {τ : Type} [inst : Py τ] (x : τ)
  | ow (oa : Option Addr) (t : OT)
def Slot.ok (K : Fg) (F H : Hp) (v : Option V) (fp : List Addr) : Slot → Prop
  | .no => fp = []
  | @Slot.fz _ _ x => fp = [] ∧ ∃ u, v = some u ∧ rep K F u x
  | .ow oa t => ∃ u, v = some u ∧ OA K F H u fp t ∧ ∀ a, oa = some a → u = .ref a
/-- where a def began: what was frozen, all that stood, what it may change -/
structure Cw where
  F0 : Hp
  H0 : Hp
  W : Addr → Prop
def Cw.al (c : Cw) (b : Addr) : Prop := c.W b ∨ c.H0 b = none
structure Wd (c : Cw) (F H : Hp) : Prop where
  f0 : Ex c.F0 F
  fh : Ex F H
  keep : ∀ b o, ¬ c.W b → c.H0 b = some o → H b = some o
  new : ∀ b, F b ≠ none → c.F0 b ≠ none ∨ c.al b
theorem Wd.fresh {c : Cw} {F H : Hp} {a : Addr} (w : Wd c F H) (h : H a = none) : c.al a := by
  by_cases hw : c.W a
  · exact .inl hw
  · refine .inr ?_
    cases q : c.H0 a with
    | none => rfl
    | some o => rw [w.keep _ _ hw q] at h; cases h
structure EnvD (K : Fg) (c : Cw) (F H : Hp) (σ : L2.St) (Γ : List Slot) (fp : Nat → List Addr) : Prop where
  wd : Wd c F H
  len : σ.length = Γ.length
  ok : ∀ (i : Nat) (s : Slot), Γ[i]? = some s → ∃ v, σ[i]? = some v ∧ s.ok K F H v (fp i)
  dis : ∀ i j b, b ∈ fp i → b ∈ fp j → i = j
  al : ∀ i b, b ∈ fp i → c.al b
  out : ∀ i, Γ.length ≤ i → fp i = []
def Env (K : Fg) (c : Cw) (F H : Hp) (σ : L2.St) (Γ : List Slot) : Prop := ∃ fp, EnvD K c F H σ Γ fp
section
variable {K : Fg} {c : Cw} {F F' H H' : Hp} {σ : L2.St} {Γ Γ' : List Slot} {fp : Nat → List Addr}
theorem Slot.ok.grow {s : Slot} {v : Option V} {l : List Addr} (h : s.ok K F H v l) (e : Ex F F') (k : ∀ b ∈ l, F' b = none ∧ H' b = H b) : s.ok K F' H' v l := by
  cases s with
  | no => exact h
  | fz x => obtain ⟨rfl, u, h1, h2⟩ := h; exact ⟨rfl, u, h1, Py.mono e h2⟩
  | ow oa t => obtain ⟨u, h1, h2, h3⟩ := h; exact ⟨u, h1, h2.grow e k, h3⟩
theorem Slot.ok.dom {s : Slot} {v : Option V} {l : List Addr} (h : s.ok K F H v l) : ∀ b ∈ l, F b = none ∧ ∃ o, H b = some o := by
  cases s with
  | no => cases (show l = [] from h); intro b hb; cases hb
  | fz x => obtain ⟨rfl, _⟩ := h; intro b hb; cases hb
  | ow oa t => obtain ⟨u, h1, h2, _⟩ := h; exact h2.dom
theorem EnvD.dom (E : EnvD K c F H σ Γ fp) {i : Nat} {b : Addr} (hb : b ∈ fp i) : F b = none ∧ ∃ o, H b = some o := by
  by_cases hi : i < Γ.length
  · obtain ⟨v, _, h⟩ := E.ok i Γ[i] (by simp [hi])
    exact h.dom b hb
  · rw [E.out i (by omega)] at hb; cases hb
theorem EnvD.ff (E : EnvD K c F H σ Γ fp) {p : Addr} (hp : H p = none) : F p = none := by
  cases q : F p with
  | none => rfl
  | some u => rw [E.wd.fh _ _ q] at hp; cases hp
theorem EnvD.fresh (E : EnvD K c F H σ Γ fp) {p : Addr} (hp : H p = none) (j : Nat) : p ∉ fp j := fun hj => by
  obtain ⟨_, o, h⟩ := E.dom hj
  rw [hp] at h; cases h
/-- some slots change, I; the others stay -/
theorem EnvD.chg (E : EnvD K c F H σ Γ fp) (I : Nat → Prop) {fp' : Nat → List Addr} {σ' : L2.St} (e1 : Ex F F') (e2 : Ex F' H') (ch : ∀ b u, (∀ i, I i → b ∉ fp i) → H b = some u → H' b = some u)
    (fr : ∀ b, F' b ≠ none → F b ≠ none ∨ (∃ i, I i ∧ b ∈ fp i) ∨ H b = none) (hs : σ'.length = σ.length) (hl : Γ'.length = Γ.length) (same : ∀ i, ¬ I i → Γ'[i]? = Γ[i]? ∧ σ'[i]? = σ[i]? ∧ fp' i = fp i)
    (new : ∀ i s, I i → Γ'[i]? = some s → ∃ v, σ'[i]? = some v ∧ s.ok K F' H' v (fp' i)) (hf : ∀ i b, I i → b ∈ fp' i → (∃ j, I j ∧ b ∈ fp j) ∨ (c.al b ∧ ∀ j, b ∉ fp j)) (dis : ∀ i j b, I i → I j → b ∈ fp' i → b ∈ fp' j → i = j) (out : ∀ i, I i → Γ.length ≤ i → fp' i = []) :
    EnvD K c F' H' σ' Γ' fp' := by
  have key : ∀ i j b, I i → ¬ I j → b ∈ fp' i → b ∉ fp' j := fun i j b hi hj h1 h2 => by
    rw [(same j hj).2.2] at h2
    rcases hf i b hi h1 with ⟨k, hk, h3⟩ | h3
    · exact hj ((E.dis j k b h2 h3) ▸ hk)
    · exact h3.2 j h2
  refine ⟨⟨E.wd.f0.trans e1, e2, fun b o h1 h2 => ?_, fun b hb => ?_⟩, by rw [hs, hl, E.len], fun i s h => ?_, fun i j b h1 h2 => ?_, fun i b h => ?_, fun i h => ?_⟩
  · refine ch b o (fun i _ hb => ?_) (E.wd.keep b o h1 h2)
    rcases E.al i b hb with z | z
    · exact h1 z
    · rw [z] at h2; cases h2
  · rcases fr b hb with h | ⟨i, _, h⟩ | h
    · exact E.wd.new b h
    · exact .inr (E.al i b h)
    · exact .inr (E.wd.fresh h)
  · by_cases hi : I i
    · exact new i s hi h
    · obtain ⟨s1, s2, s3⟩ := same i hi
      rw [s1] at h
      obtain ⟨v, q1, q2⟩ := E.ok i s h
      refine ⟨v, s2.trans q1, ?_⟩
      rw [s3]
      refine q2.grow e1 fun b hb => ?_
      obtain ⟨d1, u, d2⟩ := q2.dom b hb
      have nb : ∀ j, I j → b ∉ fp j := fun j hj h => hi ((E.dis i j b hb h) ▸ hj)
      refine ⟨?_, (ch b u nb d2).trans d2.symm⟩
      cases q : F' b with
      | none => rfl
      | some w =>
        rcases fr b (by rw [q]; simp) with h | ⟨j, hj, h⟩ | h
        · exact absurd d1 h
        · exact absurd h (nb j hj)
        · rw [d2] at h; cases h
  · by_cases hi : I i
    · by_cases hj : I j
      · exact dis i j b hi hj h1 h2
      · exact absurd h2 (key i j b hi hj h1)
    · by_cases hj : I j
      · exact absurd h1 (key j i b hj hi h2)
      · rw [(same i hi).2.2] at h1
        rw [(same j hj).2.2] at h2
        exact E.dis i j b h1 h2
  · by_cases hi : I i
    · rcases hf i b hi h with ⟨j, _, z⟩ | z
      · exact E.al j b z
      · exact z.1
    · rw [(same i hi).2.2] at h
      exact E.al i b h
  · rw [hl] at h
    by_cases hi : I i
    · exact out i hi h
    · rw [(same i hi).2.2]; exact E.out i h
/-- the frozen part and the heap grow -/
theorem EnvD.grow (E : EnvD K c F H σ Γ fp) (e1 : Ex F F') (e2 : Ex F' H') (e3 : Ex H H') (fr : ∀ b, F' b ≠ none → F b ≠ none ∨ H b = none) : EnvD K c F' H' σ Γ fp :=
  E.chg (fun _ => False) e1 e2 (fun b u _ h => e3 _ _ h) (fun b hb => (fr b hb).imp id .inr) rfl rfl (fun _ _ => ⟨rfl, rfl, rfl⟩) (fun _ _ h => h.elim) (fun _ _ h => h.elim) (fun _ _ _ h => h.elim) (fun _ h => h.elim)
theorem Env.grow (E : Env K c F H σ Γ) (e1 : Ex F F') (e2 : Ex F' H') (e3 : Ex H H') (fr : ∀ b, F' b ≠ none → F b ≠ none ∨ H b = none) : Env K c F' H' σ Γ := let ⟨fp, E⟩ := E; ⟨fp, E.grow e1 e2 e3 fr⟩
theorem Env.wd (E : Env K c F H σ Γ) : Wd c F H := let ⟨_, E⟩ := E; E.wd
/-- a new object is laid, frozen -/
theorem EnvD.lay (E : EnvD K c F H σ Γ fp) {p : Addr} {o : HO} (hp : H p = none) : EnvD K c (upd F p o) (upd H p o) σ Γ fp := by
  refine E.grow (Ex.new (E.ff hp)) (fun a u h => ?_) (Ex.new hp) fun b hb => ?_
  · by_cases ha : a = p
    · subst ha; rw [upd_same] at h ⊢; exact h
    · rw [upd_ne ha] at h ⊢; exact E.wd.fh _ _ h
  · by_cases ha : b = p
    · subst ha; exact .inr hp
    · rw [upd_ne ha] at hb; exact .inl hb
/-- a frozen slot is read -/
theorem EnvD.get {τ : Type} [Py τ] {x : τ} {i : Nat} (E : EnvD K c F H σ Γ fp) (h : Γ[i]? = some (.fz x)) : ∃ v, σ[i]? = some (some v) ∧ rep K F v x := by
  obtain ⟨v, h1, _, u, h2, h3⟩ := E.ok i _ h
  subst h2
  exact ⟨u, h1, h3⟩
theorem EnvD.geto {oa : Option Addr} {t : OT} {i : Nat} (E : EnvD K c F H σ Γ fp) (h : Γ[i]? = some (.ow oa t)) : ∃ v, σ[i]? = some (some v) ∧ OA K F H v (fp i) t ∧ ∀ a, oa = some a → v = .ref a := by
  obtain ⟨v, h1, u, rfl, h3, h4⟩ := E.ok i _ h
  exact ⟨u, h1, h3, h4⟩
/-- a slot is set -/
theorem EnvD.put {s : Slot} {v : Option V} {i : Nat} {l : List Addr} (E : EnvD K c F H σ Γ fp) (r : s.ok K F H v l) (hl : ∀ b ∈ l, H b ≠ none → b ∈ fp i) (h0 : Γ.length ≤ i → l = []) : EnvD K c F H (σ.set i v) (Γ.set i s) (fun j => if j = i then l else fp j) := by
  have hn : ∀ b ∈ l, b ∈ fp i := fun b hb => hl b hb (by obtain ⟨_, o, h⟩ := r.dom b hb; rw [h]; simp)
  refine E.chg (· = i) (Ex.refl _) E.wd.fh (fun b u _ h => h) (fun b hb => .inl hb) (by simp) (by simp) (fun j hj => ⟨List.getElem?_set_ne (Ne.symm hj), List.getElem?_set_ne (Ne.symm hj), if_neg hj⟩) (fun j s' hj hs => ?_) (fun j b hj hb => ?_) (fun j k b hj hk _ _ => hj.trans hk.symm) (fun j hj h => ?_)
  · subst hj
    have hl : j < Γ.length := by
      have := (List.getElem?_eq_some_iff.mp hs).1
      simpa using this
    rw [List.getElem?_set_self hl] at hs
    cases hs
    refine ⟨v, by rw [List.getElem?_set_self (by rw [E.len]; exact hl)], ?_⟩
    rw [if_pos rfl]; exact r
  · subst hj
    rw [if_pos rfl] at hb
    exact .inl ⟨j, rfl, hn b hb⟩
  · subst hj
    rw [if_pos rfl]; exact h0 h
theorem EnvD.set {τ : Type} [Py τ] {x : τ} {v : V} {i : Nat} (E : EnvD K c F H σ Γ fp) (r : rep K F v x) : EnvD K c F H (σ.set i (some v)) (Γ.set i (.fz x)) (fun j => if j = i then [] else fp j) :=
  E.put (s := .fz x) ⟨rfl, v, rfl, r⟩ (fun b hb => by cases hb) (fun _ => rfl)
theorem Env.set {τ : Type} [Py τ] {x : τ} {v : V} {i : Nat} (E : Env K c F H σ Γ) (r : rep K F v x) : Env K c F H (σ.set i (some v)) (Γ.set i (.fz x)) := let ⟨_, E⟩ := E; ⟨_, E.set r⟩
/-- a slot is forgotten -/
theorem EnvD.drop {i : Nat} {v : Option V} (E : EnvD K c F H σ Γ fp) : EnvD K c F H (σ.set i v) (Γ.set i .no) (fun j => if j = i then [] else fp j) :=
  E.put (s := .no) rfl (fun b hb => by cases hb) (fun _ => rfl)
/-- a slot is set, a thing that stands apart -/
theorem EnvD.setO {s : Slot} {v : V} {i : Nat} {l : List Addr} (E : EnvD K c F H σ Γ fp) (hi : i < Γ.length) (r : s.ok K F H (some v) l) (ha : ∀ b ∈ l, c.al b) (hd : ∀ j b, j ≠ i → b ∈ l → b ∉ fp j) :
    EnvD K c F H (σ.set i (some v)) (Γ.set i s) (fun j => if j = i then l else fp j) := by
  refine ⟨E.wd, by simp [E.len], fun j s' hs => ?_, fun j k b h1 h2 => ?_, fun j b h => ?_, fun j h => ?_⟩
  · by_cases hj : j = i
    · subst hj
      rw [List.getElem?_set_self hi] at hs
      cases hs
      refine ⟨some v, by rw [List.getElem?_set_self (by rw [E.len]; exact hi)], ?_⟩
      rw [if_pos rfl]; exact r
    · rw [List.getElem?_set_ne (Ne.symm hj)] at hs
      rw [List.getElem?_set_ne (Ne.symm hj), if_neg hj]
      exact E.ok j s' hs
  · split at h1
    · rename_i e1
      split at h2
      · rename_i e2; exact e1.trans e2.symm
      · rename_i e2; exact absurd h2 (hd k b e2 h1)
    · rename_i e1
      split at h2
      · exact absurd h1 (hd j b e1 h2)
      · exact E.dis j k b h1 h2
  · split at h
    · exact ha b h
    · exact E.al j b h
  · have hl : Γ.length ≤ j := by simpa using h
    rw [if_neg (by omega)]
    exact E.out j hl
/-- an owned slot changes, in place: at p stood u at w -/
theorem EnvD.mutAt {oa : Option Addr} {t u : OT} {p : List Nat} {i : Nat} (E : EnvD K c F H σ Γ fp) (hs : Γ[i]? = some (.ow oa t)) (hg : t.get? p = some u) :
    ∃ v w l2, σ[i]? = some (some v) ∧ follow H v p = some w ∧ OA K F H w l2 u ∧ (∀ b ∈ l2, b ∈ fp i) ∧ (∀ a, oa = some a → v = .ref a) ∧
      ∀ F' H' l2' u', Ex F F' → Ex F' H' → (∀ b z, b ∉ l2 → H b = some z → H' b = some z) → (∀ b, F' b ≠ none → F b ≠ none ∨ b ∈ l2 ∨ H b = none) → OA K F' H' w l2' u' → (∀ b ∈ l2', b ∈ l2 ∨ (c.al b ∧ ∀ j, b ∉ fp j)) →
        ∃ fp', EnvD K c F' H' σ (Γ.set i (.ow oa (t.put p u'))) fp' ∧ (∀ j, j ≠ i → fp' j = fp j) ∧ ∀ j b, b ∈ fp' j → b ∈ fp j ∨ b ∈ l2' := by
  obtain ⟨v, h1, h2, h3⟩ := E.geto hs
  obtain ⟨w, l2, l1, f1, f2, f3, f4⟩ := h2.focus hg
  have hil : i < Γ.length := (List.getElem?_eq_some_iff.mp hs).1
  have sub2 : ∀ b ∈ l2, b ∈ fp i := fun b hb => f3.mem_iff.mpr (by simp [hb])
  have sub1 : ∀ b ∈ l1, b ∈ fp i := fun b hb => f3.mem_iff.mpr (by simp [hb])
  have dj : ∀ b ∈ l1, b ∉ l2 := fun b hb h => (List.nodup_append.mp (f3.nodup_iff.mp h2.nodup)).2.2 b h b hb rfl
  refine ⟨v, w, l2, h1, f1, f2, sub2, h3, fun F' H' l2' u' e1 e2 ch fr hu hl => ?_⟩
  have st : ∀ b ∈ l1, F' b = none ∧ H' b = H b := fun b hb => by
    obtain ⟨d1, z, d2⟩ := h2.dom b (sub1 b hb)
    refine ⟨?_, (ch b z (dj b hb) d2).trans d2.symm⟩
    cases q : F' b with
    | none => rfl
    | some y =>
      rcases fr b (by rw [q]; simp) with h | h | h
      · exact absurd d1 h
      · exact absurd h (dj b hb)
      · rw [d2] at h; cases h
  obtain ⟨l', k1, k2⟩ := f4 F' H' l2' u' e1 st hu (fun b hb hb1 => by
    rcases hl b hb with z | z
    · exact dj b hb1 z
    · exact z.2 i (sub1 b hb1))
  have hl' : ∀ b ∈ l', b ∈ fp i ∨ (c.al b ∧ ∀ j, b ∉ fp j) := fun b hb => by
    rcases List.mem_append.mp (k2.mem_iff.mp hb) with z | z
    · exact (hl b z).imp (sub2 b) id
    · exact .inl (sub1 b z)
  refine ⟨fun j => if j = i then l' else fp j, E.chg (· = i) e1 e2 (fun b z hb hz => ch b z (fun h => hb i rfl (sub2 b h)) hz) (fun b hb => ?_) rfl (by simp) (fun j hj => ⟨List.getElem?_set_ne (Ne.symm hj), rfl, if_neg hj⟩) (fun j s' hj hs' => ?_) (fun j b hj hb => ?_) (fun j k b hj hk _ _ => hj.trans hk.symm) (fun j hj h => ?_), (fun j hj => if_neg hj), fun j b hb => ?_⟩
  · rcases fr b hb with h | h | h
    · exact .inl h
    · exact .inr (.inl ⟨i, rfl, sub2 b h⟩)
    · exact .inr (.inr h)
  · subst hj
    rw [List.getElem?_set_self hil] at hs'
    cases hs'
    refine ⟨_, h1, ?_⟩
    rw [if_pos rfl]
    exact ⟨v, rfl, k1, h3⟩
  · subst hj
    rw [if_pos rfl] at hb
    exact (hl' b hb).imp (fun h => ⟨j, rfl, h⟩) id
  · subst hj; omega
  · dsimp only at hb
    split at hb
    · rename_i e; subst e
      rcases List.mem_append.mp (k2.mem_iff.mp hb) with z | z
      · exact .inr z
      · exact .inl (sub1 b z)
    · exact .inl hb
/-- an object at a place of an owned slot, and how it changes -/
theorem EnvD.node {oa : Option Addr} {t : OT} {k : Kind} {ts : List OT} {p : List Nat} {i : Nat} (E : EnvD K c F H σ Γ fp) (hs : Γ[i]? = some (.ow oa t)) (hg : t.get? p = some (.nd k ts)) :
    ∃ v a o vs fps, σ[i]? = some (some v) ∧ follow H v p = some (.ref a) ∧ F a = none ∧ H a = some o ∧ KO K k o vs ∧ L3 (OA K F H) vs fps ts ∧ (a :: fps.flatten).Nodup ∧ (∀ b ∈ a :: fps.flatten, b ∈ fp i) ∧
      ∀ o' k' vs' fps' ts', KO K k' o' vs' → L3 (OA K F H) vs' fps' ts' → (a :: fps'.flatten).Nodup → (∀ b ∈ fps'.flatten, b ∈ fps.flatten ∨ (c.al b ∧ ∀ j, b ∉ fp j)) →
        ∃ fp', EnvD K c F (upd H a o') σ (Γ.set i (.ow oa (t.put p (.nd k' ts')))) fp' ∧ (∀ j, j ≠ i → fp' j = fp j) ∧ ∀ j b, b ∈ fp' j → b ∈ fp j ∨ b ∈ fps'.flatten := by
  obtain ⟨v, w, l2, h1, h2, h3, h4, h5, h6⟩ := E.mutAt hs hg
  obtain ⟨a, o, vs, fps, rfl, rfl, hF, hH, ko, hc, nd⟩ := h3.l3
  refine ⟨v, a, o, vs, fps, h1, h2, hF, hH, ko, hc, nd, h4, fun o' k' vs' fps' ts' ko' hc' nd' hn => ?_⟩
  have na : ∀ b ∈ fps'.flatten, b ≠ a := fun b hb e => (List.nodup_cons.mp nd').1 (e ▸ hb)
  obtain ⟨fp', q1, q2, q3⟩ := h6 F (upd H a o') (a :: fps'.flatten) (.nd k' ts') (Ex.refl _) (E.wd.fh.upd hF) (fun b z hb hz => by rw [upd_ne (fun e => hb (by rw [e]; simp))]; exact hz) (fun b hb => .inl hb)
    (OA.mk hF upd_same ko' (hc'.imp fun v l t hl o => o.grow (Ex.refl _) fun b hb => ⟨(o.dom b hb).1, upd_ne (na b (List.mem_flatten.mpr ⟨l, hl, hb⟩))⟩) nd')
    (fun b hb => by
      rcases List.mem_cons.mp hb with rfl | hb
      · exact .inl (by simp)
      · exact (hn b hb).imp (fun h => by simp [h]) id)
  refine ⟨fp', q1, q2, fun j b hb => ?_⟩
  rcases q3 j b hb with z | z
  · exact .inl z
  · rcases List.mem_cons.mp z with rfl | z
    · by_cases hj : j = i
      · subst hj; exact .inl (h4 _ (by simp))
      · rw [q2 j hj] at hb; exact .inl hb
    · exact .inr z
end
end Fw
namespace Fw
open PySem L2 Py PyProof.Rows
/-- data whose value leans on no heap -/
class PySc (τ : Type) extends Py τ where
  v : τ → V
  sc : ∀ {K : Fg} {F : Hp} {u : V} {x : τ}, rep K F u x ↔ u = v x
instance : PySc Int := { v := .int, sc := Iff.rfl }
instance : PySc Bool := { v := .bl, sc := Iff.rfl }
instance : PySc Str := { v := .str, sc := Iff.rfl }
instance : PySc Unit := { v := fun _ => .non, sc := Iff.rfl }
def optV {τ : Type} [PySc τ] : Option τ → V
  | none => .non
  | some y => PySc.v y
theorem optV_sc {τ : Type} [PySc τ] {K : Fg} {F : Hp} {u : V} {x : Option τ} : rep K F u x ↔ u = optV x := by
  cases x with
  | none => exact Iff.rfl
  | some y => exact PySc.sc (τ := τ)
instance {τ : Type} [PySc τ] : PySc (Option τ) := { v := optV, sc := optV_sc }
section
variable (X : Cx) (c : Cw) (Γ : List Slot)
def EPr (K : Fg) (c : Cw) (te : TE) (Γ : List Slot) {τ : Type} [Py τ] (x : τ) : Prop :=
  ∀ F H σ fp, EnvD K c F H σ Γ fp → ∀ Q : VK, (∀ v F' H', EnvD K c F' H' σ Γ fp → Ex F F' → Nw F H F' H' → rep K F' v x → Q v H') → te σ H Q
def EBr (K : Fg) (c : Cw) (te : TE) (Γ : List Slot) {τ : Type} [Py τ] (x : τ) : Prop :=
  ∀ F H σ fp, EnvD K c F H σ Γ fp → ∀ Q : VK, (∀ v F' H', EnvD K c F' H' σ Γ fp → Ex F F' → Nw F H F' H' → rep K H' v x → Q v H') → te σ H Q
def ETr (K : Fg) (c : Cw) (tt : TT) (Γ : List Slot) (b : Bool) : Prop :=
  ∀ F H σ fp, EnvD K c F H σ Γ fp → ∀ Q : Bool → Hp → Prop, (∀ F' H', EnvD K c F' H' σ Γ fp → Ex F F' → Nw F H F' H' → Q b H') → tt σ H Q
/-- an expression is worth x, in frozen data; the same, borrowed; a test is worth b -/
def XE {τ : Type} [Py τ] (e : Expr) (x : τ) : Prop := ∃ t, PE X e t ∧ EPr X.K c t Γ x
def XB {τ : Type} [Py τ] (e : Expr) (x : τ) : Prop := ∃ t, PE X e t ∧ EBr X.K c t Γ x
def XT (e : Expr) (b : Bool) : Prop := ∃ t, PT X e t ∧ ETr X.K c t Γ b
def XW (e : Expr) (b : Bool) : Prop := ∃ t, PW X e t ∧ ETr X.K c t Γ b
/-- arguments: frozen data, one by one -/
class PyA (α : Type) where
  reps : Fg → Hp → List V → α → Prop
  mono : ∀ {K : Fg} {F F' : Hp} {v : List V} {x : α}, Ex F F' → reps K F v x → reps K F' v x
instance : PyA Unit := ⟨fun _ _ v _ => v = [], fun _ h => h⟩
instance {τ α : Type} [Py τ] [PyA α] : PyA (τ × α) := ⟨fun K F v x => ∃ u r, v = u :: r ∧ rep K F u x.1 ∧ PyA.reps K F r x.2,
  fun e ⟨u, r, h1, h2, h3⟩ => ⟨u, r, h1, Py.mono e h2, PyA.mono e h3⟩⟩
/-- a tuple of n things as a row of n arguments -/
class PyT (υ : Type) (α : outParam Type) [Py υ] [PyA α] where
  ar : Nat
  toA : υ → α
  ofA : α → υ
  to : ∀ {K : Fg} {F : Hp} {v : V} {x : υ}, rep K F v x → ∃ a vs, v = .ref a ∧ SqT K F a vs ∧ vs.length = ar ∧ PyA.reps K F vs (toA x)
  of : ∀ {K : Fg} {F : Hp} {a : Addr} {vs : List V} {x : α}, SqT K F a vs → PyA.reps K F vs x → rep K F (.ref a) (ofA x)
  len : ∀ {K : Fg} {F : Hp} {vs : List V} {x : α}, PyA.reps K F vs x → vs.length = ar
  small : ar ≤ 100
section
variable {α β γ δ ε : Type} [Py α] [Py β] [Py γ] [Py δ] [Py ε]
instance : PyT (α × β) (α × β × Unit) where
  ar := 2
  toA x := (x.1, x.2, ())
  ofA x := (x.1, x.2.1)
  to := fun ⟨p, a, b, h1, h2, h3, h4⟩ => ⟨p, [a, b], h1, h2, rfl, a, [b], rfl, h3, b, [], rfl, h4, rfl⟩
  of := by
    rintro K F a vs x h ⟨u1, _, rfl, r1, u2, _, rfl, r2, rfl⟩
    exact ⟨a, u1, u2, rfl, h, r1, r2⟩
  len := by
    rintro K F vs x ⟨u1, _, rfl, r1, u2, _, rfl, r2, rfl⟩
    rfl
  small := by decide
instance : PyT (T3 α β γ) (α × β × γ × Unit) where
  ar := 3
  toA x := (x.a, x.b, x.c, ())
  ofA x := ⟨x.1, x.2.1, x.2.2.1⟩
  to := fun ⟨p, a, b, c, h1, h2, h3, h4, h5⟩ => ⟨p, [a, b, c], h1, h2, rfl, a, [b, c], rfl, h3, b, [c], rfl, h4, c, [], rfl, h5, rfl⟩
  of := by
    rintro K F a vs x h ⟨u1, _, rfl, r1, u2, _, rfl, r2, u3, _, rfl, r3, rfl⟩
    exact ⟨a, u1, u2, u3, rfl, h, r1, r2, r3⟩
  len := by
    rintro K F vs x ⟨u1, _, rfl, r1, u2, _, rfl, r2, u3, _, rfl, r3, rfl⟩
    rfl
  small := by decide
instance : PyT (T4 α β γ δ) (α × β × γ × δ × Unit) where
  ar := 4
  toA x := (x.a, x.b, x.c, x.d, ())
  ofA x := ⟨x.1, x.2.1, x.2.2.1, x.2.2.2.1⟩
  to := fun ⟨p, a, b, c, d, h1, h2, h3, h4, h5, h6⟩ => ⟨p, [a, b, c, d], h1, h2, rfl, a, [b, c, d], rfl, h3, b, [c, d], rfl, h4, c, [d], rfl, h5, d, [], rfl, h6, rfl⟩
  of := by
    rintro K F a vs x h ⟨u1, _, rfl, r1, u2, _, rfl, r2, u3, _, rfl, r3, u4, _, rfl, r4, rfl⟩
    exact ⟨a, u1, u2, u3, u4, rfl, h, r1, r2, r3, r4⟩
  len := by
    rintro K F vs x ⟨u1, _, rfl, r1, u2, _, rfl, r2, u3, _, rfl, r3, u4, _, rfl, r4, rfl⟩
    rfl
  small := by decide
instance : PyT (T5 α β γ δ ε) (α × β × γ × δ × ε × Unit) where
  ar := 5
  toA x := (x.a, x.b, x.c, x.d, x.e, ())
  ofA x := ⟨x.1, x.2.1, x.2.2.1, x.2.2.2.1, x.2.2.2.2.1⟩
  to := fun ⟨p, a, b, c, d, q, h1, h2, h3, h4, h5, h6, h7⟩ => ⟨p, [a, b, c, d, q], h1, h2, rfl, a, [b, c, d, q], rfl, h3, b, [c, d, q], rfl, h4, c, [d, q], rfl, h5, d, [q], rfl, h6, q, [], rfl, h7, rfl⟩
  of := by
    rintro K F a vs x h ⟨u1, _, rfl, r1, u2, _, rfl, r2, u3, _, rfl, r3, u4, _, rfl, r4, u5, _, rfl, r5, rfl⟩
    exact ⟨a, u1, u2, u3, u4, u5, rfl, h, r1, r2, r3, r4, r5⟩
  len := by
    rintro K F vs x ⟨u1, _, rfl, r1, u2, _, rfl, r2, u3, _, rfl, r3, u4, _, rfl, r4, u5, _, rfl, r5, rfl⟩
    rfl
  small := by decide
end
def XA {α : Type} [PyA α] (es : List Expr) (a : α) : Prop := ∃ t, PA X es t ∧
  ∀ F H σ fp, EnvD X.K c F H σ Γ fp → ∀ Q : List V → Hp → Prop, (∀ v F' H', EnvD X.K c F' H' σ Γ fp → Ex F F' → Nw F H F' H' → PyA.reps X.K F' v a → Q v H') → t σ H Q
end
section
variable {X : Cx} {c : Cw} {Γ Γ' : List Slot} {τ υ ζ : Type} [Py τ] [Py υ] [Py ζ] {a b d e : Expr} {x : τ} {y : υ} {z : ζ} {pos : Pos}
theorem XB.ex {τ : Type} [i : PySc τ] {x : τ} (h : XB X c Γ e x) : XE X c Γ e x := by
  obtain ⟨t, h1, h2⟩ := h
  exact ⟨t, h1, fun F H σ fp E Q q => h2 F H σ fp E Q fun v F' H' E' e1 e2 r => q v F' H' E' e1 e2 (PySc.sc.mpr (PySc.sc.mp r))⟩
/-- a frozen name -/
theorem xe_var (i : Nat) {n : Str} (hN : X.N[i]? = some n := by rfl) (h : Γ[i]? = some (.fz x) := by rfl) (hv : Vis X.env.scope n := by first | exact Or.inl rfl | exact Or.inr (Or.inl rfl) | exact Or.inr (Or.inr rfl))
    (hd : (n == ("__debug__" : Str)) = false := by decide) (hcd : (n == ("__classdict__" : Str)) = false := by decide) : XE X c Γ (.Name n pos) x :=
  ⟨_, pe_var hN hv hd hcd, fun F H σ fp E Q q => by
    obtain ⟨v, h1, r⟩ := E.get h
    exact ⟨v, h1, q v F H E (Ex.refl _) Nw.refl r⟩⟩
theorem xe_C {v : V} (h : PE X e (tC v)) (r : ∀ F, rep X.K F v x) : XE X c Γ e x :=
  ⟨_, h, fun F H σ fp E Q q => q v F H E (Ex.refl _) Nw.refl (r F)⟩
theorem xe_int {i : Int} {j} : XE X c Γ (.Constant (.int i) j pos) i := xe_C pe_int fun _ => rfl
theorem xe_bl {i : Bool} {j} : XE X c Γ (.Constant (.bool i) j pos) i := xe_C pe_bl fun _ => rfl
theorem xe_str {i : Str} {j} : XE X c Γ (.Constant (.str i) j pos) i := xe_C pe_str fun _ => rfl
theorem xe_nil {j} : XE X c Γ (.Constant .none j pos) () := xe_C pe_non fun _ => rfl
theorem xe_none {j} : XE X c Γ (.Constant .none j pos) (none : Option τ) := xe_C pe_non fun _ => rfl
theorem xe_some (h : XE X c Γ e x) : XE X c Γ e (some x) := by
  obtain ⟨t, h1, h2⟩ := h
  exact ⟨t, h1, fun F H σ fp E Q q => h2 F H σ fp E Q fun v F' H' E' e1 e2 r => q v F' H' E' e1 e2 r⟩
/-- a constant of the module -/
theorem xe_glob {n : Str} {v : V} {u : Value} (hm : X.mg n = some u) (r : RelV v u) (hr : ∀ F, rep X.K F v x) (hg : Gl X n := by rfl) (hd : (n == ("__debug__" : Str)) = false := by decide) : XE X c Γ (.Name n pos) x :=
  xe_C (pe_glob hg hm r hd) hr
theorem xe_gi {n : Str} {i : Int} (hm : ∃ t, X.mg n = some (.int i t)) (hg : Gl X n := by rfl) (hd : (n == ("__debug__" : Str)) = false := by decide) : XE X c Γ (.Name n pos) i :=
  let ⟨t, h⟩ := hm; xe_glob (v := .int i) h ⟨t, rfl⟩ (fun _ => rfl) hg hd
theorem xe_gs {n : Str} {i : Str} (hm : ∃ t, X.mg n = some (.str i t)) (hg : Gl X n := by rfl) (hd : (n == ("__debug__" : Str)) = false := by decide) : XE X c Γ (.Name n pos) i :=
  let ⟨t, h⟩ := hm; xe_glob (v := .str i) h ⟨t, rfl⟩ (fun _ => rfl) hg hd
/-- a rule on values, on frozen data -/
def ROp (K : Fg) (r : R2) (x : τ) (y : υ) (z : ζ) : Prop := ∀ F H u v, Ex F H → rep K F u x → rep K F v y → ∀ Q : VK,
  (∀ w F' H', Ex F F' → Ex F' H' → Ex H H' → (∀ b, F' b ≠ none → F b ≠ none ∨ H b = none) → rep K F' w z → Q w H') → r u v H Q
def RBp (K : Fg) (r : R2) (x : τ) (y : υ) (z : ζ) : Prop := ∀ H u v, rep K H u x → rep K H v y → ∀ Q : VK, (∀ w, rep K H w z → Q w H) → r u v H Q
theorem xe_bin {t : TE → TE → TE} {r : R2} (ht : ∀ {ta tb}, PE X a ta → PE X b tb → PE X d (tOp r ta tb)) (hr : ROp X.K r x y z) (ha : XE X c Γ a x) (hb : XE X c Γ b y) : XE X c Γ d z := by
  obtain ⟨ta, a1, a2⟩ := ha
  obtain ⟨tb, b1, b2⟩ := hb
  refine ⟨_, ht a1 b1, fun F H σ fp E Q q => ?_⟩
  refine a2 F H σ fp E _ fun u F1 H1 E1 e1 g1 r1 => ?_
  refine b2 F1 H1 σ fp E1 _ fun v F2 H2 E2 e2 g2 r2 => ?_
  refine hr F2 H2 u v E2.wd.fh (Py.mono e2 r1) r2 Q fun w F' H' p1 p2 p3 p4 p5 => ?_
  exact q w F' H' (E2.grow p1 p2 p3 p4) ((e1.trans e2).trans p1) ((g1.trans g2).trans ⟨p3, p4⟩) p5
theorem xe_op {op : Operator} {r : R2} (ho : OpR X (binaryOp op) r) (hr : ROp X.K r x y z) (ha : XE X c Γ a x) (hb : XE X c Γ b y) : XE X c Γ (.BinOp a op b pos) z :=
  xe_bin (t := fun a _ => a) (fun h1 h2 => pe_op ho h1 h2) hr ha hb
/-- a comparison is worth k -/
def XC (X : Cx) (c : Cw) (Γ : List Slot) (op : CmpOp) (a b : Expr) (k : Bool) : Prop := ∃ r ta tb, OpR X (compareOp op) r ∧ PE X a ta ∧ PE X b tb ∧ behindInMarks op b = false ∧ EPr X.K c (tOp r ta tb) Γ k
theorem xc_of {op : CmpOp} {r : R2} {k : Bool} (ho : OpR X (compareOp op) r) (hr : ROp X.K r x y k) (ha : XE X c Γ a x) (hb : XE X c Γ b y) (hm : behindInMarks op b = false) : XC X c Γ op a b k := by
  obtain ⟨ta, a1, a2⟩ := ha
  obtain ⟨tb, b1, b2⟩ := hb
  refine ⟨r, ta, tb, ho, a1, b1, hm, fun F H σ fp E Q q => ?_⟩
  refine a2 F H σ fp E _ fun u F1 H1 E1 e1 g1 r1 => ?_
  refine b2 F1 H1 σ fp E1 _ fun v F2 H2 E2 e2 g2 r2 => ?_
  refine hr F2 H2 u v E2.wd.fh (Py.mono e2 r1) r2 Q fun w F' H' p1 p2 p3 p4 p5 => ?_
  exact q w F' H' (E2.grow p1 p2 p3 p4) ((e1.trans e2).trans p1) ((g1.trans g2).trans ⟨p3, p4⟩) p5
theorem xc_ofB {op : CmpOp} {r : R2} {k : Bool} (ho : OpR X (compareOp op) r) (hr : RBp X.K r x y k) (ha : XB X c Γ a x) (hb : XB X c Γ b y) (hm : behindInMarks op b = false) : XC X c Γ op a b k := by
  obtain ⟨ta, a1, a2⟩ := ha
  obtain ⟨tb, b1, b2⟩ := hb
  refine ⟨r, ta, tb, ho, a1, b1, hm, fun F H σ fp E Q q => ?_⟩
  refine a2 F H σ fp E _ fun u F1 H1 E1 e1 g1 r1 => ?_
  refine b2 F1 H1 σ fp E1 _ fun v F2 H2 E2 e2 g2 r2 => ?_
  refine hr H2 u v (Py.mono g2.h r1) r2 Q fun w p5 => ?_
  exact q w F2 H2 E2 (e1.trans e2) (g1.trans g2) p5
theorem xe_c {op : CmpOp} {k : Bool} (h : XC X c Γ op a b k) : XE X c Γ (.Compare a [op] [b] pos) k := by
  obtain ⟨r, ta, tb, ho, a1, b1, hm, q⟩ := h
  exact ⟨_, pe_cmpR ho a1 b1 hm, q⟩
theorem xt_c {op : CmpOp} {k : Bool} (h : XC X c Γ op a b k) : XT X c Γ (.Compare a [op] [b] pos) k := by
  obtain ⟨r, ta, tb, ho, a1, b1, hm, q⟩ := h
  exact ⟨_, pt_cmpR ho a1 b1 hm, fun F H σ fp E Q k => q F H σ fp E _ fun v F' H' E' e1 e2 r => ⟨_, r, k F' H' E' e1 e2⟩⟩
theorem xt_of {t : Bool} {f : TE → TT} (hp : ∀ {te}, PE X e te → PT X e (tB te)) (h : XE X c Γ e t) : XT X c Γ e t := by
  obtain ⟨te, h1, h2⟩ := h
  exact ⟨_, hp h1, fun F H σ fp E Q q => h2 F H σ fp E _ fun v F' H' E' e1 e2 r => ⟨t, r, q F' H' E' e1 e2⟩⟩
/-- a truth as a test -/
theorem xt_val {t : Bool} (h : XE X c Γ e t) (he : ∀ whole, isTrue e X.env whole = (do let v ← whole; standAt e.pos; holding [v] (truthy v)) := by intro _; rfl) : XT X c Γ e t :=
  xt_of (f := tB) (fun h => pt_val h he) h
section ii
variable {i j : Int}
theorem ro_I0 {g : Int → Int → V} {k : ζ} (hk : ∀ F, rep X.K F (g i j) k) : ROp X.K (rI0 g) i j k := fun F H u v e h1 h2 Q q => ⟨i, j, h1, h2, q _ F H (Ex.refl _) e (Ex.refl _) (fun _ h => .inl h) (hk F)⟩
theorem ro_I {C : Int → Int → Prop} {g : Int → Int → V} {k : ζ} (hc : C i j) (hk : ∀ F, rep X.K F (g i j) k) : ROp X.K (rI C g) i j k := fun F H u v e h1 h2 Q q => ⟨i, j, h1, h2, hc, q _ F H (Ex.refl _) e (Ex.refl _) (fun _ h => .inl h) (hk F)⟩
theorem xe_add (ha : XE X c Γ a i) (hb : XE X c Γ b j) : XE X c Γ (.BinOp a .Add b pos) (i + j) := xe_op op_add (ro_I0 fun _ => rfl) ha hb
theorem xe_sub (ha : XE X c Γ a i) (hb : XE X c Γ b j) : XE X c Γ (.BinOp a .Sub b pos) (i - j) := xe_op op_sub (ro_I0 fun _ => rfl) ha hb
theorem op_mulG : OpR X (binaryOp .Mult) (rI IntMulOk fun i j => .int (i * j)) := opI fun _ _ _ _ _ _ _ hc q => mul_int q hc
theorem xe_mulG (ha : XE X c Γ a i) (hb : XE X c Γ b j) (h : IntMulOk i j) : XE X c Γ (.BinOp a .Mult b pos) (i * j) := xe_op op_mulG (ro_I h fun _ => rfl) ha hb
theorem xe_mul (ha : XE X c Γ a i) (hb : XE X c Γ b j) (h : CMul i j) : XE X c Γ (.BinOp a .Mult b pos) (i * j) := xe_op op_mul (ro_I h fun _ => rfl) ha hb
theorem xe_div (ha : XE X c Γ a i) (hb : XE X c Γ b j) (h : CDiv i j) : XE X c Γ (.BinOp a .FloorDiv b pos) (i / j) := xe_op op_fdiv (ro_I h fun _ => rfl) ha hb
theorem xe_mod (ha : XE X c Γ a i) (hb : XE X c Γ b j) (h : 0 < j) : XE X c Γ (.BinOp a .Mod b pos) (i % j) := xe_op op_mod (ro_I h fun _ => rfl) ha hb
theorem xc_lt (ha : XE X c Γ a i) (hb : XE X c Γ b j) : XC X c Γ .Lt a b (decide (i < j)) := xc_of op_lt (ro_I0 fun _ => rfl) ha hb (nomark _)
theorem xc_gt (ha : XE X c Γ a i) (hb : XE X c Γ b j) : XC X c Γ .Gt a b (decide (i > j)) := xc_of op_gt (ro_I0 fun _ => rfl) ha hb (nomark _)
theorem xc_ge (ha : XE X c Γ a i) (hb : XE X c Γ b j) : XC X c Γ .GtE a b (decide (i ≥ j)) := xc_of op_ge (ro_I0 fun _ => rfl) ha hb (nomark _)
theorem xe_neg (ha : XE X c Γ a i) : XE X c Γ (.UnaryOp .USub a pos) (-i) := by
  obtain ⟨t, h1, h2⟩ := ha
  exact ⟨_, pe_un un_neg h1, fun F H σ fp E Q q => h2 F H σ fp E _ fun v F' H' E' e1 e2 r => ⟨i, r, q _ F' H' E' e1 e2 rfl⟩⟩
end ii
/-- scalars of one kind -/
class PyEq (τ : Type) extends PySc τ where
  dec : DecidableEq τ
  ok : ∀ a b : τ, scal (v a) (v b) = true
  inj : ∀ a b : τ, v a = v b → a = b
instance (priority := low) {τ : Type} [i : PyEq τ] : DecidableEq τ := i.dec
instance : PyEq Int := { dec := inferInstance, ok := fun a b => rfl, inj := fun a b h => by injection h }
instance : PyEq Bool := { dec := inferInstance, ok := fun a b => rfl, inj := fun a b h => by injection h }
instance : PyEq Str := { dec := inferInstance, ok := fun a b => rfl, inj := fun a b h => by injection h }
theorem xc_eqS {τ : Type} [i : PyEq τ] {x y : τ} (ha : XE X c Γ a x) (hb : XE X c Γ b y) : XC X c Γ .Eq a b (decide (x = y)) :=
  xc_of op_eq (fun F H u v e h1 h2 Q q => by
    have e1 := PySc.sc.mp h1
    have e2 := PySc.sc.mp h2
    subst e1; subst e2
    refine ⟨PyEq.ok x y, q _ F H (Ex.refl _) e (Ex.refl _) (fun _ h => .inl h) ?_⟩
    show V.bl _ = V.bl _
    congr 1
    exact decide_eq_decide.mpr ⟨PyEq.inj x y, fun h => by rw [h]⟩) ha hb (nomark _)
theorem xc_neS {τ : Type} [i : PyEq τ] {x y : τ} (ha : XE X c Γ a x) (hb : XE X c Γ b y) : XC X c Γ .NotEq a b (!decide (x = y)) :=
  xc_of op_ne (fun F H u v e h1 h2 Q q => by
    have e1 := PySc.sc.mp h1
    have e2 := PySc.sc.mp h2
    subst e1; subst e2
    refine ⟨PyEq.ok x y, q _ F H (Ex.refl _) e (Ex.refl _) (fun _ h => .inl h) ?_⟩
    show V.bl _ = V.bl _
    congr 2
    exact decide_eq_decide.mpr ⟨PyEq.inj x y, fun h => by rw [h]⟩) ha hb (nomark _)
/-- None | x against None -/
theorem opt_non {τ : Type} [i : PySc τ] (hn : ∀ z : τ, PySc.v z ≠ .non) (x : Option τ) : decide (optV x = V.non) = x.isNone := by
  cases x with
  | none => rfl
  | some z => exact decide_eq_false (hn z)
theorem xc_isNone {τ : Type} [i : PySc τ] {x : Option τ} {j p} (ha : XE X c Γ a x) (hn : ∀ z : τ, PySc.v z ≠ .non := by intro z h; cases h) : XC X c Γ .Is a (.Constant .none j p) (x.isNone) :=
  xc_of (y := ()) op_isN (fun F H u v e h1 h2 Q q => ⟨h2, q _ F H (Ex.refl _) e (Ex.refl _) (fun _ h => .inl h) (by
    have e := PySc.sc.mp h1
    subst e
    show V.bl _ = V.bl _
    rw [← opt_non hn x]; rfl)⟩) ha xe_nil (nomark _)
theorem xc_notNone {τ : Type} [i : PySc τ] {x : Option τ} {j p} (ha : XE X c Γ a x) (hn : ∀ z : τ, PySc.v z ≠ .non := by intro z h; cases h) : XC X c Γ .IsNot a (.Constant .none j p) (x.isSome) :=
  xc_of (y := ()) op_notN (fun F H u v e h1 h2 Q q => ⟨h2, q _ F H (Ex.refl _) e (Ex.refl _) (fun _ h => .inl h) (by
    have e := PySc.sc.mp h1
    subst e
    show V.bl _ = V.bl _
    have := opt_non hn x
    cases x with
    | none => rfl
    | some z =>
      show V.bl (!decide (PySc.v z = V.non)) = V.bl true
      rw [decide_eq_false (hn z)]; rfl)⟩) ha xe_nil (nomark _)
variable {k l : Bool}
theorem xw_and1 (ha : XT X c Γ a k) : XW X c Γ (.BoolOp .And [a] pos) k := by
  obtain ⟨t, h1, h2⟩ := ha
  exact ⟨t, pw_and1 h1, h2⟩
theorem xw_or1 (ha : XT X c Γ a k) : XW X c Γ (.BoolOp .Or [a] pos) k := by
  obtain ⟨t, h1, h2⟩ := ha
  exact ⟨t, pw_or1 h1, h2⟩
theorem xw_and {rest : List Expr} (ha : XT X c Γ a k) (hb : k = true → XW X c Γ (.BoolOp .And (b :: rest) pos) l) : XW X c Γ (.BoolOp .And (a :: b :: rest) pos) (k && l) := by
  obtain ⟨t, h1, h2⟩ := ha
  cases k with
  | false =>
    refine ⟨tAnd t _, pw_and h1 ⟨fun _ _ _ _ _ _ _ (h : False) => h.elim⟩, fun F H σ fp E Q q => h2 F H σ fp E _ fun F' H' E' e1 e2 => ?_⟩
    rw [if_neg Bool.false_ne_true]
    exact q F' H' E' e1 e2
  | true =>
    obtain ⟨u, h3, h4⟩ := hb rfl
    refine ⟨tAnd t u, pw_and h1 h3, fun F H σ fp E Q q => h2 F H σ fp E _ fun F' H' E' e1 e2 => ?_⟩
    rw [if_pos rfl]
    exact h4 F' H' σ fp E' Q fun F2 H2 E2 e3 e4 => q F2 H2 E2 (e1.trans e3) (e2.trans e4)
theorem xw_or {rest : List Expr} (ha : XT X c Γ a k) (hb : k = false → XW X c Γ (.BoolOp .Or (b :: rest) pos) l) : XW X c Γ (.BoolOp .Or (a :: b :: rest) pos) (k || l) := by
  obtain ⟨t, h1, h2⟩ := ha
  cases k with
  | true =>
    refine ⟨tOr t _, pw_or h1 ⟨fun _ _ _ _ _ _ _ (h : False) => h.elim⟩, fun F H σ fp E Q q => h2 F H σ fp E _ fun F' H' E' e1 e2 => ?_⟩
    rw [if_pos rfl]
    exact q F' H' E' e1 e2
  | false =>
    obtain ⟨u, h3, h4⟩ := hb rfl
    refine ⟨tOr t u, pw_or h1 h3, fun F H σ fp E Q q => h2 F H σ fp E _ fun F' H' E' e1 e2 => ?_⟩
    rw [if_neg Bool.false_ne_true]
    exact h4 F' H' σ fp E' Q fun F2 H2 E2 e3 e4 => q F2 H2 E2 (e1.trans e3) (e2.trans e4)
theorem XW.t (h : XW X c Γ e k) : XT X c Γ e k := let ⟨t, h1, h2⟩ := h; ⟨t, h1.pt, h2⟩
theorem xt_not (ha : XT X c Γ a k) : XT X c Γ (.UnaryOp .Not a pos) (!k) := by
  obtain ⟨t, h1, h2⟩ := ha
  exact ⟨_, pt_not h1, fun F H σ fp E Q q => h2 F H σ fp E _ fun F' H' E' e1 e2 => q F' H' E' e1 e2⟩
theorem xe_one {op} (ha : XE X c Γ a x) : XE X c Γ (.BoolOp op [a] pos) x := by
  obtain ⟨t, h1, h2⟩ := ha
  exact ⟨t, pe_one h1, h2⟩
theorem xe_and {rest : List Expr} (ha : XE X c Γ a k) (hb : k = true → XE X c Γ (.BoolOp .And (b :: rest) pos) l) : XE X c Γ (.BoolOp .And (a :: b :: rest) pos) (k && l) := by
  obtain ⟨t, h1, h2⟩ := ha
  cases k with
  | false =>
    refine ⟨tAndV t _, pe_and h1 ⟨fun _ _ _ _ _ _ (h : False) => h.elim⟩, fun F H σ fp E Q q => h2 F H σ fp E _ fun v F' H' E' e1 e2 r => ⟨false, r, ?_⟩⟩
    rw [if_neg Bool.false_ne_true]
    exact q _ F' H' E' e1 e2 rfl
  | true =>
    obtain ⟨u, h3, h4⟩ := hb rfl
    refine ⟨tAndV t u, pe_and h1 h3, fun F H σ fp E Q q => h2 F H σ fp E _ fun v F' H' E' e1 e2 r => ⟨true, r, ?_⟩⟩
    rw [if_pos rfl]
    exact h4 F' H' σ fp E' Q fun v F2 H2 E2 e3 e4 r => q v F2 H2 E2 (e1.trans e3) (e2.trans e4) r
theorem xe_or {rest : List Expr} (ha : XE X c Γ a k) (hb : k = false → XE X c Γ (.BoolOp .Or (b :: rest) pos) l) : XE X c Γ (.BoolOp .Or (a :: b :: rest) pos) (k || l) := by
  obtain ⟨t, h1, h2⟩ := ha
  cases k with
  | true =>
    refine ⟨tOrV t _, pe_or h1 ⟨fun _ _ _ _ _ _ (h : False) => h.elim⟩, fun F H σ fp E Q q => h2 F H σ fp E _ fun v F' H' E' e1 e2 r => ⟨true, r, ?_⟩⟩
    rw [if_pos rfl]
    exact q _ F' H' E' e1 e2 rfl
  | false =>
    obtain ⟨u, h3, h4⟩ := hb rfl
    refine ⟨tOrV t u, pe_or h1 h3, fun F H σ fp E Q q => h2 F H σ fp E _ fun v F' H' E' e1 e2 r => ⟨false, r, ?_⟩⟩
    rw [if_neg Bool.false_ne_true]
    exact h4 F' H' σ fp E' Q fun v F2 H2 E2 e3 e4 r => q v F2 H2 E2 (e1.trans e3) (e2.trans e4) r
theorem xe_not (ha : XE X c Γ a k) : XE X c Γ (.UnaryOp .Not a pos) (!k) := by
  obtain ⟨t, h1, h2⟩ := ha
  exact ⟨_, pe_not h1, fun F H σ fp E Q q => h2 F H σ fp E _ fun v F' H' E' e1 e2 r => ⟨k, r, q _ F' H' E' e1 e2 rfl⟩⟩
end
end Fw
namespace Fw
open PySem L2 Py PyProof.Rows
/-- how a block ends: behind it, returned, broken off, on to the next turn -/
inductive Out (S B R : Type) where
  | nx (s : S)
  | rt (r : R)
  | bk (s : B)
  | ct (s : B)
def Out.bind {S S' B R : Type} (o : Out S B R) (k : S → Out S' B R) : Out S' B R := match o with
  | .nx s => k s
  | .rt r => .rt r
  | .bk s => .bk s
  | .ct s => .ct s
def Out.up {S B R : Type} (o : Out Empty B R) : Out S B R := match o with
  | .nx s => s.elim
  | .rt r => .rt r
  | .bk s => .bk s
  | .ct s => .ct s
def runFor {S B R τ : Type} (f : S → τ → Out S S R) : S → List τ → Out S B R
  | s, [] => .nx s
  | s, y :: r => match f s y with
    | .nx s' => runFor f s' r
    | .ct s' => runFor f s' r
    | .bk s' => .nx s'
    | .rt x => .rt x
  theorem runFor_nx {S B R τ : Type} (g : S → τ → S) : ∀ (xs : List τ) (s : S), runFor (B := B) (R := R) (fun s y => .nx (g s y)) s xs = .nx (xs.foldl g s)
  | [], s => rfl
  | y :: r, s => runFor_nx g r (g s y)
/-- what a def hands back: a datum, what it says of the slots at the end, and of the answer -/
structure Rc : Type 1 where
  ρ : Type
  RG : ρ → List Slot → Prop
  RS : ρ → Slot
  xn : ρ → Option Str
/-- what is wished of an error that leaves, the slots then -/
structure Wx : Type 1 where
  W : WX
  Γ : List Slot
def OutOk (X : Cx) (w : Wx) (c : Cw) (D : Ends) {S B : Type} {R : Rc} (F : Hp) (G : S → List Slot) (GB : B → List Slot) : Out S B R.ρ → Prop
  | .nx s => ∀ σ' F' H', Env X.K c F' H' σ' (G s) → Ex F F' → D.nx σ' H'
  | .bk s => ∀ σ' F' H', Env X.K c F' H' σ' (GB s) → Ex F F' → D.bk σ' H'
  | .ct s => ∀ σ' F' H', Env X.K c F' H' σ' (GB s) → Ex F F' → D.ct σ' H'
  | .rt r => (R.xn r = none → ∀ v σ' F' H' Γ' fp' l, EnvD X.K c F' H' σ' Γ' fp' → Ex F F' → R.RG r Γ' → (R.RS r).ok X.K F' H' (some v) l → (∀ b ∈ l, c.al b ∧ ∀ j, b ∉ fp' j) → D.rt v H') ∧
    (∀ n, R.xn r = some n → ∀ C σ' F' H', X.mg n = some (.ref C) → Env X.K c F' H' σ' w.Γ → Ex F F' → w.W (.ref C) none σ' H')
def XO (X : Cx) (w : Wx) (c : Cw) (Γ : List Slot) (sts : List Stmt) {S B : Type} {R : Rc} (G : S → List Slot) (GB : B → List Slot) (o : Out S B R.ρ) : Prop :=
  ∃ t, PSs X sts t ∧ ∀ F H σ, Env X.K c F H σ Γ → ∀ D : Ends, OutOk X w c D F G GB o → t D σ H
def XS (X : Cx) (w : Wx) (c : Cw) (Γ : List Slot) (st : Stmt) {S B : Type} {R : Rc} (G : S → List Slot) (GB : B → List Slot) (o : Out S B R.ρ) : Prop :=
  ∃ t, PS X st t ∧ ∀ F H σ, Env X.K c F H σ Γ → ∀ D : Ends, OutOk X w c D F G GB o → t D σ H
/-- slots forgotten -/
inductive Weak : List Slot → List Slot → Prop where
  | nil : Weak [] []
  | same {s : Slot} {l m : List Slot} (h : Weak l m) : Weak (s :: l) (s :: m)
  | no {s : Slot} {l m : List Slot} (h : Weak l m) : Weak (s :: l) (.no :: m)
theorem Weak.refl : ∀ l, Weak l l
  | [] => .nil
  | _ :: r => .same (Weak.refl r)
theorem Weak.len {l m : List Slot} (h : Weak l m) : l.length = m.length := by
  induction h with
  | nil => rfl
  | same _ ih => simp [ih]
  | no _ ih => simp [ih]
theorem Weak.get {l m : List Slot} (h : Weak l m) : ∀ (i : Nat) (s : Slot), m[i]? = some s → l[i]? = some s ∨ (s = .no ∧ i < l.length) := by
  induction h with
  | nil => intro i s h; simp at h
  | same _ ih =>
    intro i s h
    cases i with
    | zero => exact .inl (by simpa using h)
    | succ i => rcases ih i s (by simpa using h) with q | ⟨q, z⟩
                · exact .inl (by simpa using q)
                · exact .inr ⟨q, by simpa using z⟩
  | no _ ih =>
    intro i s h
    cases i with
    | zero => exact .inr ⟨by simpa using h.symm, by simp⟩
    | succ i => rcases ih i s (by simpa using h) with q | ⟨q, z⟩
                · exact .inl (by simpa using q)
                · exact .inr ⟨q, by simpa using z⟩
theorem EnvD.weak {K : Fg} {c : Cw} {F H : Hp} {σ : L2.St} {Γ Γ' : List Slot} {fp : Nat → List Addr} (E : EnvD K c F H σ Γ fp) (w : Weak Γ Γ') : ∃ fp', EnvD K c F H σ Γ' fp' ∧ ∀ j b, b ∈ fp' j → b ∈ fp j := by
  classical
  refine ⟨fun i => if Γ'[i]? = Γ[i]? then fp i else [], E.chg (fun i => Γ'[i]? ≠ Γ[i]?) (Ex.refl _) E.wd.fh (fun b u _ h => h) (fun b hb => .inl hb) rfl w.len.symm (fun i hi => ⟨Classical.not_not.mp hi, rfl, if_pos (Classical.not_not.mp hi)⟩) (fun i s hi hs => ?_) (fun i b hi hb => ?_) (fun i j b hi hj h1 h2 => ?_) (fun i hi h => ?_), fun j b hb => ?_⟩
  · rcases w.get i s hs with q | ⟨q, z⟩
    · exact absurd (hs.trans q.symm) hi
    · subst q
      obtain ⟨v, h1, h2⟩ := E.ok i Γ[i] (by simp [z])
      exact ⟨v, h1, if_neg hi⟩
  · rw [if_neg hi] at hb; cases hb
  · rw [if_neg hi] at h1; cases h1
  · exact if_neg hi
  · dsimp only at hb
    split at hb
    · exact hb
    · cases hb
theorem Env.weak {K : Fg} {c : Cw} {F H : Hp} {σ : L2.St} {Γ Γ' : List Slot} (E : Env K c F H σ Γ) (w : Weak Γ Γ') : Env K c F H σ Γ' := by
  obtain ⟨fp, E⟩ := E
  obtain ⟨fp', E', _⟩ := E.weak w
  exact ⟨fp', E'⟩
section
variable {X : Cx} {w : Wx} {c : Cw} {Γ Γ' : List Slot} {S S' B υ : Type} [Py υ] {R : Rc} {G : S → List Slot} {G' : S' → List Slot} {GB : B → List Slot} {o : Out S B R.ρ} {pos : Pos} {st : Stmt} {rest : List Stmt} {e d : Expr} {k : Bool}
theorem XO.eq {o' : Out S B R.ρ} (h : XO X w c Γ rest G GB o) (q : o = o') : XO X w c Γ rest G GB o' := q ▸ h
theorem XO.weak (wk : Weak Γ Γ') (h : XO X w c Γ' rest G GB o) : XO X w c Γ rest G GB o := by
  obtain ⟨t, h1, h2⟩ := h
  exact ⟨t, h1, fun F H σ E D q => h2 F H σ (E.weak wk) D q⟩
theorem xo_end {s : S} (h : Weak Γ (G s)) : XO X w c Γ [] G GB (Out.nx s : Out S B R.ρ) := ⟨_, pss_nil, fun F H σ E D q => q σ F H (E.weak h) (Ex.refl _)⟩
theorem OutOk.ex {D : Ends} {F F1 : Hp} (q : OutOk X w c D F G GB o) (e : Ex F F1) : OutOk X w c D F1 G GB o := by
  cases o with
  | nx s => exact fun σ' F' H' E x => q σ' F' H' E (e.trans x)
  | bk s => exact fun σ' F' H' E x => q σ' F' H' E (e.trans x)
  | ct s => exact fun σ' F' H' E x => q σ' F' H' E (e.trans x)
  | rt r => exact ⟨fun hn v σ' F' H' Γ' fp' l E x => q.1 hn v σ' F' H' Γ' fp' l E (e.trans x), fun n hn C σ' F' H' h E x => q.2 n hn C σ' F' H' h E (e.trans x)⟩
theorem xo_cons {o1 : Out S' B R.ρ} {k : S' → Out S B R.ρ} (h : XS X w c Γ st G' GB o1) (hr : ∀ s, o1 = .nx s → XO X w c (G' s) rest G GB (k s)) : XO X w c Γ (st :: rest) G GB (o1.bind k) := by
  obtain ⟨t, h1, h2⟩ := h
  cases o1 with
  | nx s =>
    obtain ⟨u, h3, h4⟩ := hr s rfl
    refine ⟨_, pss_cons h1 h3, fun F H σ E D q => h2 F H σ E _ fun σ' F' H' E' x => ?_⟩
    exact h4 F' H' σ' E' D (OutOk.ex (o := k s) q x)
  | bk s => exact ⟨_, pss_cons h1 pss_never, fun F H σ E D q => h2 F H σ E _ q⟩
  | ct s => exact ⟨_, pss_cons h1 pss_never, fun F H σ E D q => h2 F H σ E _ q⟩
  | rt s => exact ⟨_, pss_cons h1 pss_never, fun F H σ E D q => h2 F H σ E _ q⟩
/-- .. a statement that just goes on -/
theorem xo_next {o : Out S B R.ρ} (h : XS X w c Γ st (S := Unit) (fun _ => Γ') GB (Out.nx () : Out Unit B R.ρ)) (hr : XO X w c Γ' rest G GB o) : XO X w c Γ (st :: rest) G GB o := xo_cons (k := fun _ => o) h fun _ _ => hr
theorem xo_one (h : XS X w c Γ st G GB o) : XO X w c Γ [st] G GB o := by
  obtain ⟨t, h1, h2⟩ := h
  exact ⟨t, pss_one h1, h2⟩
theorem xs_expr {x : υ} (he : XE X c Γ e x) (hs : swapsWith e none pos.line X.env = pure false := by rfl) : XS X w c Γ (.Expr e pos) (S := Unit) (fun _ => Γ) GB (Out.nx () : Out Unit B R.ρ) := by
  obtain ⟨t, h1, h2⟩ := he
  exact ⟨_, ps_expr h1 hs, fun F H σ ⟨fp, E⟩ D q => h2 F H σ fp E _ fun v F' H' E' e1 e2 r => q _ F' H' ⟨fp, E'⟩ e1⟩
theorem xs_ret {r : R.ρ} {x : υ} (he : XE X c Γ e x) (hw : R.RG r Γ) (hv : R.RS r = .fz x) (hx : R.xn r = none) : XS X w c Γ (.Return (some e) pos) G GB (Out.rt r : Out S B R.ρ) := by
  obtain ⟨t, h1, h2⟩ := he
  exact ⟨_, ps_ret h1, fun F H σ ⟨fp, E⟩ D q => h2 F H σ fp E _ fun v F' H' E' e1 e2 rr => q.1 hx v σ F' H' _ fp [] E' e1 hw (by rw [hv]; exact ⟨rfl, v, rfl, rr⟩) (fun b hb => by cases hb)⟩
theorem xs_brk {s : B} (h : Weak Γ (GB s)) : XS X w c Γ (.Break pos) G GB (Out.bk s : Out S B R.ρ) := ⟨_, ps_break, fun F H σ E D q => q σ F H (E.weak h) (Ex.refl _)⟩
theorem xs_cnt {s : B} (h : Weak Γ (GB s)) : XS X w c Γ (.Continue pos) G GB (Out.ct s : Out S B R.ρ) := ⟨_, ps_continue, fun F H σ E D q => q σ F H (E.weak h) (Ex.refl _)⟩
/-- if .. else -/
theorem xs_if {A C : List Stmt} {o1 o2 : Out S B R.ρ} (hd : XT X c Γ d k) (ha : k = true → XO X w c Γ A G GB o1) (hb : k = false → XO X w c Γ C G GB o2) : XS X w c Γ (.If d A C pos) G GB (if k then o1 else o2) := by
  obtain ⟨t, h1, h2⟩ := hd
  cases k with
  | true =>
    obtain ⟨u, h3, h4⟩ := ha rfl
    refine ⟨_, ps_if h1 h3 pss_never, fun F H σ ⟨fp, E⟩ D q => h2 F H σ fp E _ fun F' H' E' e1 e2 => ?_⟩
    rw [if_pos rfl]
    exact h4 F' H' σ ⟨fp, E'⟩ D (OutOk.ex (o := o1) q e1)
  | false =>
    obtain ⟨u, h3, h4⟩ := hb rfl
    refine ⟨_, ps_if h1 pss_never h3, fun F H σ ⟨fp, E⟩ D q => h2 F H σ fp E _ fun F' H' E' e1 e2 => ?_⟩
    rw [if_neg Bool.false_ne_true]
    exact h4 F' H' σ ⟨fp, E'⟩ D (OutOk.ex (o := o2) q e1)
/-- if d: A, A never comes to its end; then the rest -/
theorem OutOk.up {D : Ends} {F : Hp} {nx : L2.St → Hp → Prop} {G0 : Empty → List Slot} {o : Out Empty B R.ρ} (q : OutOk X w c D F G GB (o.up : Out S B R.ρ)) : OutOk X w c { D with nx := nx } F G0 GB o := by
  cases o with
  | nx s => exact s.elim
  | bk s => exact q
  | ct s => exact q
  | rt r => exact q
theorem xo_ifx {A : List Stmt} {o1 : Out Empty B R.ρ} {o2 : Out S B R.ρ} (hd : XT X c Γ d k) (ha : k = true → XO X w c Γ A (fun s : Empty => s.elim) GB o1) (hb : k = false → XO X w c Γ rest G GB o2) :
    XO X w c Γ (.If d A [] pos :: rest) G GB (if k then o1.up else o2) := by
  obtain ⟨t, h1, h2⟩ := hd
  cases k with
  | true =>
    obtain ⟨u, h3, h4⟩ := ha rfl
    refine ⟨_, pss_cons (ps_if h1 h3 pss_never) pss_never, fun F H σ ⟨fp, E⟩ D q => h2 F H σ fp E _ fun F' H' E' e1 e2 => ?_⟩
    rw [if_pos rfl]
    exact h4 F' H' σ ⟨fp, E'⟩ _ (OutOk.up (OutOk.ex (o := o1.up) q e1))
  | false =>
    obtain ⟨u, h3, h4⟩ := hb rfl
    refine ⟨_, pss_cons (ps_if h1 pss_never pss_nil) h3, fun F H σ ⟨fp, E⟩ D q => h2 F H σ fp E _ fun F' H' E' e1 e2 => ?_⟩
    rw [if_neg Bool.false_ne_true]
    exact h4 F' H' σ ⟨fp, E'⟩ D (OutOk.ex (o := o2) q e1)
/-- the slots but some are as they were -/
def Sm (ws : List Nat) (σ σ' : L2.St) : Prop := σ'.length = σ.length ∧ ∀ j, j ∉ ws → σ'[j]? = σ[j]?
def XG (X : Cx) (c : Cw) (tg : Expr) (ws : List Nat) (up : List Slot → υ → List Slot) : Prop := ∃ g, PG X tg g ∧ ∀ F H σ fp v Γ (y : υ), EnvD X.K c F H σ Γ fp → rep X.K F v y → ∀ Q : L2.St → Hp → Prop,
  (∀ σ' fp', EnvD X.K c F H σ' (up Γ y) fp' → (∀ j b, b ∈ fp' j → b ∈ fp j) → Sm ws σ σ' → Q σ' H) → g v σ H Q
theorem xg_name (i : Nat) {n : Str} (hN : X.N.Nodup) (hi : X.N[i]? = some n := by rfl) (hx : Loc X.env.scope n := by first | exact .inl rfl | exact .inr rfl) (hf : X.fn n = true ∨ X.env.scope.names.lookup n = some .local := by first | exact .inl rfl | exact .inr rfl | assumption) :
    XG X c (.Name n pos) [i] (fun Γ (y : υ) => Γ.set i (.fz y)) := ⟨_, pg_name (i := i) hN hi hx hf, fun F H σ fp v Γ y E r Q q => q _ _ (E.set r) (fun j b hb => by split at hb; cases hb; exact hb) ⟨by simp, fun j hj => by
      rw [List.getElem?_set_ne]; rintro rfl; exact hj (by simp)⟩⟩
def XGs (X : Cx) (c : Cw) {α : Type} [PyA α] (tgs : List Expr) (ws : List Nat) (up : List Slot → α → List Slot) : Prop := ∃ g, PGs X tgs g ∧ ∀ F H σ fp vs Γ (y : α), EnvD X.K c F H σ Γ fp → PyA.reps X.K F vs y → ∀ Q : L2.St → Hp → Prop,
  (∀ σ' fp', EnvD X.K c F H σ' (up Γ y) fp' → (∀ j b, b ∈ fp' j → b ∈ fp j) → Sm ws σ σ' → Q σ' H) → g vs σ H Q
theorem xgs_nil : XGs X c [] [] (fun Γ (_ : Unit) => Γ) := ⟨_, pgs_nil, fun F H σ fp vs Γ y E r Q q => ⟨r, q σ fp E (fun _ _ h => h) ⟨rfl, fun _ _ => rfl⟩⟩⟩
theorem xgs_cons {α : Type} [PyA α] {tg : Expr} {tgs : List Expr} {w1 w2 : List Nat} {u1 : List Slot → υ → List Slot} {u2 : List Slot → α → List Slot} (h1 : XG X c tg w1 u1) (h2 : XGs X c tgs w2 u2) (hs : (assignEach (tg :: tgs) X.env).map (·.2) = assign tg X.env :: (assignEach tgs X.env).map (·.2) := by rfl) :
    XGs X c (tg :: tgs) (w1 ++ w2) (fun Γ (y : υ × α) => u2 (u1 Γ y.1) y.2) := by
  obtain ⟨g1, p1, q1⟩ := h1
  obtain ⟨g2, p2, q2⟩ := h2
  refine ⟨_, pgs_cons p1 p2 hs, fun F H σ fp vs Γ y E r Q q => ?_⟩
  obtain ⟨u, rs, rfl, r1, r2⟩ := r
  exact ⟨u, rs, rfl, q1 F H σ fp u Γ y.1 E r1 _ fun σ1 fp1 E1 i1 s1 => q2 F H σ1 fp1 rs _ y.2 E1 r2 Q fun σ2 fp2 E2 i2 s2 => q σ2 fp2 E2 (fun j b h => i1 j b (i2 j b h)) ⟨s2.1.trans s1.1, fun j hj => (s2.2 j fun h => hj (List.mem_append_right _ h)).trans (s1.2 j fun h => hj (List.mem_append_left _ h))⟩⟩
theorem xg_tup {α : Type} [PyA α] [PyT υ α] {es : List Expr} {ws : List Nat} {u : List Slot → α → List Slot} {x1} (h : XGs X c es ws u)
    (hc : X.calm = true := by rfl) (hn : (assignEach es X.env).length = PyT.ar υ := by rfl) (hst : (assignEach es X.env).findIdx? (·.1) = none := by rfl) : XG X c (.Tuple es x1 pos) ws (fun Γ (y : υ) => u Γ (PyT.toA y)) := by
  obtain ⟨g, p, q⟩ := h
  refine ⟨_, pg_tup hc p hn hst, fun F H σ fp v Γ y E r Q k => ?_⟩
  obtain ⟨a, vs, rfl, r1, r2, r3⟩ := PyT.to (α := α) r
  exact ⟨a, vs, rfl, E.wd.fh.t r1, r2, q F H σ fp vs Γ _ E r3 Q k⟩
/-- what is walked, frozen: items xs -/
structure Wk (K : Fg) (J : It) (xs : List υ) (F : Hp) : Prop where
  ex : ∃ (G : Hp → Prop) (Y : Nat → Hp → V → Hp → Prop), Walk J xs.length G Y ∧ (∀ F1 H1, Ex F F1 → Ex F1 H1 → G H1) ∧
    ∀ i F1 H1 v H2 y, Ex F F1 → Ex F1 H1 → Y i H1 v H2 → xs[i]? = some y → ∃ F2, Ex F1 F2 ∧ Ex F2 H2 ∧ Ex H1 H2 ∧ (∀ b, F2 b ≠ none → F1 b ≠ none ∨ H1 b = none) ∧ rep K F2 v y
def XI (X : Cx) (c : Cw) (Γ : List Slot) (tg it : Expr) (xs : List υ) : Prop := ∃ wi, PI X tg it wi ∧ ∀ F H σ fp, EnvD X.K c F H σ Γ fp → ∀ R : It → Hp → Prop, (∀ J F' H', EnvD X.K c F' H' σ Γ fp → Ex F F' → Nw F H F' H' → Wk X.K J xs F' → R J H') → wi σ H R
theorem xi_list {it : Expr} {tg : Expr} {α : Type} [Py α] [PyL α υ] {xs : α} (h : XE X c Γ it xs) : XI X c Γ tg it (PyL.li xs) := by
  obtain ⟨t, h1, h2⟩ := h
  refine ⟨_, pi_list h1, fun F H σ fp E R q => h2 F H σ fp E _ fun v F' H' E' e1 e2 r => ?_⟩
  obtain ⟨a, vs, rfl, r1, r2⟩ := PyL.sq r
  refine ⟨a, rfl, ⟨vs, E'.wd.fh.l r1⟩, q _ F' H' E' e1 e2 ⟨fun H => SqL X.K H a vs, YAt vs, by rw [← r2.length]; exact walk_list, fun F1 H1 x1 x2 => (x1.trans x2).l r1, fun i F1 H1 v H2 y x1 x2 hy hx => ?_⟩⟩
  obtain ⟨rfl, hv⟩ := hy
  obtain ⟨y', hy', r3⟩ := Reps.get (i := i) r2 hv
  rw [hx] at hy'
  cases hy'
  exact ⟨F1, Ex.refl _, x2, Ex.refl _, fun b h => .inl h, Py.mono x1 r3⟩
theorem xi_tup {it : Expr} {tg : Expr} {xs : Tup υ} (h : XE X c Γ it xs) : XI X c Γ tg it xs.l := by
  obtain ⟨t, h1, h2⟩ := h
  refine ⟨_, pi_tup h1, fun F H σ fp E R q => h2 F H σ fp E _ fun v F' H' E' e1 e2 r => ?_⟩
  obtain ⟨a, vs, rfl, r1, r2⟩ := r
  refine ⟨a, rfl, ⟨vs, E'.wd.fh.t r1⟩, q _ F' H' E' e1 e2 ⟨fun H => SqT X.K H a vs, YAt vs, by rw [← r2.length]; exact walk_tup, fun F1 H1 x1 x2 => (x1.trans x2).t r1, fun i F1 H1 v H2 y x1 x2 hy hx => ?_⟩⟩
  obtain ⟨rfl, hv⟩ := hy
  obtain ⟨y', hy', r3⟩ := Reps.get (i := i) r2 hv
  rw [hx] at hy'
  cases hy'
  exact ⟨F1, Ex.refl _, x2, Ex.refl _, fun b h => .inl h, Py.mono x1 r3⟩
/-- the izs from lo on -/
def izs (lo : Int) (n : Nat) : List Int := (List.range n).map fun i => lo + (i : Nat)
theorem izs_len {lo : Int} {n : Nat} : (izs lo n).length = n := by simp [izs]
theorem izs_get {lo : Int} {n i : Nat} {y : Int} (h : (izs lo n)[i]? = some y) : i < n ∧ y = lo + i := by
  unfold izs at h
  rw [List.getElem?_map] at h
  by_cases hi : i < n
  · rw [List.getElem?_range hi] at h
    exact ⟨hi, (Option.some.inj h).symm⟩
  · rw [List.getElem?_eq_none (by simp; omega)] at h
    cases h
theorem wk_range {K : Fg} {lo : Int} {n : Nat} {F : Hp} : Wk K (Itr lo n) (izs lo n) F := by
  refine ⟨fun _ => True, YFn fun i => .int (lo + i), by rw [izs_len]; exact walk_range, fun _ _ _ _ => trivial, fun i F1 H1 v H2 y x1 x2 hy hx => ?_⟩
  obtain ⟨rfl, rfl⟩ := hy
  obtain ⟨_, rfl⟩ := izs_get hx
  exact ⟨F1, Ex.refl _, x2, Ex.refl _, fun b h => .inl h, rfl⟩
theorem xi_range1 {a tg : Expr} {p : Pos} {j : Int} (hm : X.mg "range" = none) (ha : XE X c Γ a j) (hj : -(2 ^ 62) ≤ j ∧ j < 2 ^ 62) (hg : Gl X "range" := by rfl) (hs : starEach [a] X.env = [(false, eval a X.env)] := by rfl) :
    XI X c Γ tg (.Call (.Name "range" p) [a] [] pos) (izs 0 j.toNat) := by
  obtain ⟨t, h1, h2⟩ := ha
  refine ⟨_, pi_range1 hg hm (pa_cons h1 pa_nil hs) hs, fun F H σ fp E R q => h2 F H σ fp E _ fun v F' H' E' e1 e2 r => ?_⟩
  exact ⟨j, by rw [show v = V.int j from r], hj.1, hj.2, q _ F' H' E' e1 e2 wk_range⟩
theorem xi_range2 {a b tg : Expr} {p : Pos} {i j : Int} (hm : X.mg "range" = none) (ha : XE X c Γ a i) (hb : XE X c Γ b j) (hj : -(2 ^ 62) ≤ i ∧ i < 2 ^ 62 ∧ -(2 ^ 62) ≤ j ∧ j < 2 ^ 62) (hg : Gl X "range" := by rfl) (hs : starEach [a, b] X.env = [(false, eval a X.env), (false, eval b X.env)] := by rfl) (hs2 : starEach [b] X.env = [(false, eval b X.env)] := by rfl) :
    XI X c Γ tg (.Call (.Name "range" p) [a, b] [] pos) (izs i (j - i).toNat) := by
  obtain ⟨t, h1, h2⟩ := ha
  obtain ⟨u, h3, h4⟩ := hb
  refine ⟨_, pi_range2 hg hm (pa_cons h1 (pa_cons h3 pa_nil hs2) (hs.trans (by rw [hs2]))) hs hs2, fun F H σ fp E R q => h2 F H σ fp E _ fun v F' H' E' e1 e2 r => h4 F' H' σ fp E' _ fun w F2 H2 E2 e3 e4 r2 => ?_⟩
  exact ⟨i, j, by rw [show v = V.int i from r, show w = V.int j from r2], hj, q _ F2 H2 E2 (e1.trans e3) (e2.trans e4) wk_range⟩
/-- a for whose turns may leave: L tells the slots by the data carried -/
theorem xs_for {tg it : Expr} {body : List Stmt} {xs : List υ} {up : List Slot → υ → List Slot} {L : S → List Slot} {s0 : S} {f : S → υ → Out S S R.ρ} (Iv : Nat → S → Prop) (hi : XI X c Γ tg it xs) {ws : List Nat} (hg : XG X c tg ws up) (hw : Weak Γ (L s0))
    (h0 : Iv 0 s0) (hb : ∀ i y s, xs[i]? = some y → Iv i s → XO X w c (up (L s) y) body L L (f s y) ∧ match f s y with | .nx s' => Iv (i + 1) s' | .ct s' => Iv (i + 1) s' | _ => True)
    (hc : X.calm = true := by rfl) (hp : PassesOwn (model X.prog X.w) X.A X.env X.xe := by exact PassesOwn.never) (hs : ∀ x, foldedSetIterable it X.env x = pure x := by intro _; rfl) :
    XS X w c Γ (.For tg it body [] pos) L GB (runFor f s0 xs : Out S B R.ρ) := by
  obtain ⟨wi, h1, h2⟩ := hi
  obtain ⟨g, g1, g2⟩ := hg
  classical
  have key : ∃ tb, PSs X body tb ∧ ∀ i y s, xs[i]? = some y → Iv i s → ∀ F H σ, Env X.K c F H σ (up (L s) y) → ∀ D : Ends, OutOk X w c D F L L (f s y) → tb D σ H := by
    refine ⟨fun D σ H => ∃ (t : TS), PSs X body t ∧ t D σ H, ⟨fun pins s σ H D I h => ?_⟩, fun i y s hx hI F H σ E D q => ?_⟩
    · obtain ⟨t, p, q⟩ := h
      exact p.run pins s σ H D I q
    · obtain ⟨⟨t, p, q'⟩, _⟩ := hb i y s hx hI
      exact ⟨t, p, q' F H σ E D q⟩
  obtain ⟨tb, b1, b2⟩ := key
  refine ⟨_, ps_for hp hc h1 g1 b1 hs, fun F H σ ⟨fp0, E⟩ D q => h2 F H σ fp0 E _ fun J F1 H1 E1 e1 _ wk => ?_⟩
  obtain ⟨GG, Y, w1, w2, w3⟩ := wk
  obtain ⟨fin, hfin⟩ : ∃ fin, runFor (B := B) f s0 xs = fin := ⟨_, rfl⟩
  rw [hfin] at q
  -- the word: at turn i some data s with what is left giving the same end
  refine for_it w1 (fun i σ' H' => ∃ s F', Ex F1 F' ∧ Iv i s ∧ Env X.K c F' H' σ' (L s) ∧ runFor (B := B) f s (xs.drop i) = fin) ⟨s0, F1, Ex.refl _, h0, Env.weak ⟨fp0, E1⟩ hw, by rw [← hfin]; simp⟩ ?_ ?_ ?_
  · rintro i σ' H' hi ⟨s, F', x1, _, E', _⟩
    exact w2 F' H' x1 E'.wd.fh
  · rintro i v σ' Ha Hb hi ⟨s, F', x1, hI, E', hr⟩ hy
    have hx : xs[i]? = some xs[i] := by simp [hi]
    obtain ⟨F2, y1, y2, y3, y4, y5⟩ := w3 i F' Ha v Hb xs[i] x1 E'.wd.fh hy hx
    obtain ⟨fpE, E'⟩ := E'
    refine g2 F2 Hb σ' fpE v _ xs[i] (E'.grow y1 y2 y3 y4) y5 _ fun σ2 fp2 E2 _ _ => ?_
    have hIv := (hb i xs[i] s hx hI).2
    have hdr : xs.drop i = xs[i] :: xs.drop (i + 1) := List.drop_eq_getElem_cons hi
    rw [hdr] at hr
    refine b2 i xs[i] s hx hI F2 Hb σ2 ⟨fp2, E2⟩ _ ?_
    unfold runFor at hr
    cases hf : f s xs[i] with
    | nx s' =>
      rw [hf] at hr hIv
      exact fun σ3 F3 H3 E3 x3 => ⟨s', F3, (x1.trans y1).trans x3, hIv, E3, hr⟩
    | ct s' =>
      rw [hf] at hr hIv
      exact fun σ3 F3 H3 E3 x3 => ⟨s', F3, (x1.trans y1).trans x3, hIv, E3, hr⟩
    | bk s' =>
      rw [hf] at hr
      rw [← hr] at q
      exact fun σ3 F3 H3 E3 x3 => q σ3 F3 H3 E3 (((e1.trans x1).trans y1).trans x3)
    | rt r =>
      rw [hf] at hr
      rw [← hr] at q
      exact OutOk.ex (o := Out.rt r) (G := L) (GB := L) q ((e1.trans x1).trans y1)
  · rintro σ' H' ⟨s, F', x1, _, E', hr⟩
    rw [List.drop_length] at hr
    unfold runFor at hr
    rw [← hr] at q
    exact q σ' F' H' E' (e1.trans x1)
end
end Fw
namespace Fw
open PySem L2 Py PyProof.Rows
def ix {τ : Type} [Inhabited τ] (xs : List τ) (i : Int) : τ := (atI xs i).getD default
def InB {τ : Type} (xs : List τ) (i : Int) : Prop := -(xs.length : Int) ≤ i ∧ i < xs.length
instance {τ : Type} (xs : List τ) (i : Int) : Decidable (InB xs i) := inferInstanceAs (Decidable (_ ∧ _))
theorem ixN_some {n : Nat} {i : Int} (h : -(n : Int) ≤ i ∧ i < n) : ∃ j, ixN n i = some j ∧ j < n := by
  unfold ixN
  by_cases h0 : 0 ≤ i
  · rw [if_pos h0, if_pos h.2]; exact ⟨_, rfl, by omega⟩
  · rw [if_neg h0, if_pos h.1]; exact ⟨_, rfl, by omega⟩
theorem atI_ix {τ : Type} [Inhabited τ] {xs : List τ} {i : Int} (h : InB xs i) : atI xs i = some (ix xs i) := by
  obtain ⟨j, e, hj⟩ := ixN_some h
  unfold ix atI
  rw [e]
  show xs[j]? = some ((xs[j]?).getD default)
  simp [hj]
theorem ix_nat {τ : Type} [Inhabited τ] {xs : List τ} {i : Int} (h0 : 0 ≤ i) : ix xs i = (xs[i.toNat]?).getD default := by
  unfold ix atI ixN
  rw [if_pos h0]
  by_cases h : i < xs.length
  · rw [if_pos h]; rfl
  · rw [if_neg h, List.getElem?_eq_none (by omega)]; rfl
theorem atI_reps {τ : Type} [Py τ] {K : Fg} {F : Hp} {vs : List V} {xs : List τ} {i : Int} {x : τ} (r : Reps K F vs xs) (h : atI xs i = some x) : ∃ v, atI vs i = some v ∧ rep K F v x := by
  unfold atI at h ⊢
  rw [r.length]
  cases e : ixN xs.length i with
  | none => rw [e] at h; cases h
  | some j =>
    rw [e] at h
    exact Reps.get' (i := j) r h
/-- sequences: lists, read lists, tuples of one kind -/
class PyS (υ : Type) (τ : outParam Type) [Py υ] [Py τ] where
  li : υ → List τ
  sq : ∀ {K : Fg} {F : Hp} {v : V} {x : υ}, rep K F v x → ∃ a vs, v = .ref a ∧ (SqL K F a vs ∨ SqT K F a vs) ∧ Reps K F vs (li x)
instance {τ : Type} [Py τ] : PyS (List τ) τ := ⟨fun x => x, fun ⟨a, vs, h1, h2, h3⟩ => ⟨a, vs, h1, .inl (sq_of h2), h3⟩⟩
instance {τ : Type} [Py τ] : PyS (Scr τ) τ := ⟨Scr.l, fun ⟨a, vs, h1, h2, h3⟩ => ⟨a, vs, h1, .inl h2, h3⟩⟩
instance {τ : Type} [Py τ] : PyS (Tup τ) τ := ⟨Tup.l, fun ⟨a, vs, h1, h2, h3⟩ => ⟨a, vs, h1, .inr h2, h3⟩⟩
section
variable {X : Cx} {c : Cw} {Γ Γ' : List Slot} {τ υ ζ : Type} [Py τ] [Py υ] [Py ζ] {a b d e : Expr} {es : List Expr} {x : τ} {y : υ} {z : ζ} {pos : Pos}
theorem xa_nil : XA X c Γ [] () := ⟨_, pa_nil, fun F H σ fp E Q q => q [] F H E (Ex.refl _) Nw.refl rfl⟩
theorem xa_cons {α : Type} [PyA α] {r : α} (h : XE X c Γ e x) (hr : XA X c Γ es r) (hs : starEach (e :: es) X.env = (false, eval e X.env) :: starEach es X.env := by rfl) : XA X c Γ (e :: es) (x, r) := by
  obtain ⟨t, h1, h2⟩ := h
  obtain ⟨u, h3, h4⟩ := hr
  refine ⟨_, pa_cons h1 h3 hs, fun F H σ fp E Q q => h2 F H σ fp E _ fun v F1 H1 E1 e1 g1 r1 => h4 F1 H1 σ fp E1 _ fun vs F2 H2 E2 e2 g2 r2 => ?_⟩
  exact q _ F2 H2 E2 (e1.trans e2) (g1.trans g2) ⟨v, vs, rfl, Py.mono e2 r1, r2⟩
/-- a row of things of one kind -/
def XL (X : Cx) (c : Cw) (Γ : List Slot) {τ : Type} [Py τ] (es : List Expr) (xs : List τ) : Prop := ∃ t, PA X es t ∧
  ∀ F H σ fp, EnvD X.K c F H σ Γ fp → ∀ Q : List V → Hp → Prop, (∀ v F' H', EnvD X.K c F' H' σ Γ fp → Ex F F' → Nw F H F' H' → Reps X.K F' v xs → Q v H') → t σ H Q
theorem xl_nil : XL X c Γ [] ([] : List τ) := ⟨_, pa_nil, fun F H σ fp E Q q => q [] F H E (Ex.refl _) Nw.refl .nil⟩
theorem xl_cons {xs : List τ} (h : XE X c Γ e x) (hr : XL X c Γ es xs) (hs : starEach (e :: es) X.env = (false, eval e X.env) :: starEach es X.env := by rfl) : XL X c Γ (e :: es) (x :: xs) := by
  obtain ⟨t, h1, h2⟩ := h
  obtain ⟨u, h3, h4⟩ := hr
  refine ⟨_, pa_cons h1 h3 hs, fun F H σ fp E Q q => h2 F H σ fp E _ fun v F1 H1 E1 e1 g1 r1 => h4 F1 H1 σ fp E1 _ fun vs F2 H2 E2 e2 g2 r2 => ?_⟩
  exact q _ F2 H2 E2 (e1.trans e2) (g1.trans g2) (.cons (Py.mono e2 r1) r2)
theorem sz (n : Nat) (h : n ≤ 100000) : n ≤ sizeLine := Nat.le_trans h (by decide)
theorem xe_lst {xs : List τ} (h : XL X c Γ es xs) (hl : xs.length ≤ 100000) : XE X c Γ (.List es pos) xs := by
  obtain ⟨t, h1, h2⟩ := h
  refine ⟨_, pe_lst h1, fun F H σ fp E Q q => h2 F H σ fp E _ fun vs F1 H1 E1 e1 g1 r1 => ⟨sz _ (by rw [r1.length]; exact hl), fun p hp => ?_⟩⟩
  have ef : Ex F1 (upd F1 p (.lst vs)) := Ex.new (E1.ff hp)
  exact q _ _ _ (E1.lay hp) (e1.trans ef) (g1.trans (Nw.lay hp)) ⟨p, vs, rfl, upd_same, r1.mono ef⟩
theorem xe_tup {α : Type} [PyA α] [PyT υ α] {k} {r : α} (h : XA X c Γ es r) : XE X c Γ (.Tuple es k pos) (PyT.ofA r : υ) := by
  obtain ⟨t, h1, h2⟩ := h
  refine ⟨_, pe_tup h1, fun F H σ fp E Q q => h2 F H σ fp E _ fun vs F1 H1 E1 e1 g1 r1 => ⟨sz _ (by rw [PyT.len (υ := υ) r1]; exact Nat.le_trans (PyT.small (υ := υ)) (show 100 ≤ 100000 by decide)), fun p hp => ?_⟩⟩
  have ef : Ex F1 (upd F1 p (.tup vs)) := Ex.new (E1.ff hp)
  exact q _ _ _ (E1.lay hp) (e1.trans ef) (g1.trans (Nw.lay hp)) (PyT.of (st_of upd_same) (PyA.mono ef r1))
theorem xe_tupL {k} {xs : List τ} (h : XL X c Γ es xs) (hl : xs.length ≤ 100000) : XE X c Γ (.Tuple es k pos) (Tup.mk xs) := by
  obtain ⟨t, h1, h2⟩ := h
  refine ⟨_, pe_tup h1, fun F H σ fp E Q q => h2 F H σ fp E _ fun vs F1 H1 E1 e1 g1 r1 => ⟨sz _ (by rw [r1.length]; exact hl), fun p hp => ?_⟩⟩
  have ef : Ex F1 (upd F1 p (.tup vs)) := Ex.new (E1.ff hp)
  exact q _ _ _ (E1.lay hp) (e1.trans ef) (g1.trans (Nw.lay hp)) ⟨p, vs, rfl, st_of upd_same, r1.mono ef⟩
theorem xe_ix0 {i : Int} {y : τ} {s : υ} [PyL υ τ] (ha : XE X c Γ a s) (hb : XE X c Γ b i) (h : atI (PyL.li s) i = some y) (hs : PlainIx b := by exact fun _ _ => rfl) : XE X c Γ (.Subscript a b pos) y :=
  xe_bin (t := fun a _ => a) (fun h1 h2 => pe_ix ix_list h1 h2 hs) (fun F H u v e h1 h2 Q q => by
    obtain ⟨p, vs, rfl, r1, r2⟩ := PyL.sq h1
    obtain ⟨w, h3, h4⟩ := atI_reps r2 h
    exact ⟨p, vs, i, w, rfl, h2, e.l r1, h3, q w F H (Ex.refl _) e (Ex.refl _) (fun _ h => .inl h) h4⟩) ha hb
theorem xe_ix [Inhabited τ] {i : Int} {s : υ} [PyL υ τ] (ha : XE X c Γ a s) (hb : XE X c Γ b i) (h : InB (PyL.li s) i) (hs : PlainIx b := by exact fun _ _ => rfl) : XE X c Γ (.Subscript a b pos) (ix (PyL.li s) i) := xe_ix0 ha hb (atI_ix h) hs
/-- t[0], t[1], .. of a tuple of n things -/
theorem xe_fst {p : τ × υ} (ha : XE X c Γ a p) {j q} (hs : PlainIx (.Constant (.int 0) j q) := by exact fun _ _ => rfl) : XE X c Γ (.Subscript a (.Constant (.int 0) j q) pos) p.1 :=
  xe_bin (t := fun a _ => a) (y := (0 : Int)) (fun h1 h2 => pe_ix ix_tup h1 h2 hs) (fun F H u v e h1 h2 Q q => by
    obtain ⟨p, v1, v2, rfl, r1, r2, r3⟩ := h1
    exact ⟨p, [v1, v2], 0, v1, rfl, h2, e.t r1, rfl, q _ F H (Ex.refl _) e (Ex.refl _) (fun _ h => .inl h) r2⟩) ha xe_int
theorem xe_snd {p : τ × υ} (ha : XE X c Γ a p) {j q} (hs : PlainIx (.Constant (.int 1) j q) := by exact fun _ _ => rfl) : XE X c Γ (.Subscript a (.Constant (.int 1) j q) pos) p.2 :=
  xe_bin (t := fun a _ => a) (y := (1 : Int)) (fun h1 h2 => pe_ix ix_tup h1 h2 hs) (fun F H u v e h1 h2 Q q => by
    obtain ⟨p, v1, v2, rfl, r1, r2, r3⟩ := h1
    exact ⟨p, [v1, v2], 1, v2, rfl, h2, e.t r1, rfl, q _ F H (Ex.refl _) e (Ex.refl _) (fun _ h => .inl h) r3⟩) ha xe_int
section
variable {p3 : T3 τ υ ζ}
theorem xe_t3a (ha : XE X c Γ a p3) {j q} (hs : PlainIx (.Constant (.int 0) j q) := by exact fun _ _ => rfl) : XE X c Γ (.Subscript a (.Constant (.int 0) j q) pos) p3.a :=
  xe_bin (t := fun a _ => a) (y := (0 : Int)) (fun h1 h2 => pe_ix ix_tup h1 h2 hs) (fun F H u v e h1 h2 Q q => by
    obtain ⟨p, v1, v2, v3, rfl, r1, r2, r3, r4⟩ := h1
    exact ⟨p, [v1, v2, v3], 0, v1, rfl, h2, e.t r1, rfl, q _ F H (Ex.refl _) e (Ex.refl _) (fun _ h => .inl h) r2⟩) ha xe_int
theorem xe_t3b (ha : XE X c Γ a p3) {j q} (hs : PlainIx (.Constant (.int 1) j q) := by exact fun _ _ => rfl) : XE X c Γ (.Subscript a (.Constant (.int 1) j q) pos) p3.b :=
  xe_bin (t := fun a _ => a) (y := (1 : Int)) (fun h1 h2 => pe_ix ix_tup h1 h2 hs) (fun F H u v e h1 h2 Q q => by
    obtain ⟨p, v1, v2, v3, rfl, r1, r2, r3, r4⟩ := h1
    exact ⟨p, [v1, v2, v3], 1, v2, rfl, h2, e.t r1, rfl, q _ F H (Ex.refl _) e (Ex.refl _) (fun _ h => .inl h) r3⟩) ha xe_int
theorem xe_t3c (ha : XE X c Γ a p3) {j q} (hs : PlainIx (.Constant (.int 2) j q) := by exact fun _ _ => rfl) : XE X c Γ (.Subscript a (.Constant (.int 2) j q) pos) p3.c :=
  xe_bin (t := fun a _ => a) (y := (2 : Int)) (fun h1 h2 => pe_ix ix_tup h1 h2 hs) (fun F H u v e h1 h2 Q q => by
    obtain ⟨p, v1, v2, v3, rfl, r1, r2, r3, r4⟩ := h1
    exact ⟨p, [v1, v2, v3], 2, v3, rfl, h2, e.t r1, rfl, q _ F H (Ex.refl _) e (Ex.refl _) (fun _ h => .inl h) r4⟩) ha xe_int
end
/-- one sign of a text -/
def ixS (s : Str) (i : Int) : Str := ⟨#[ix s.cps.toList i]⟩
theorem xe_ixS {i : Int} {s : Str} (ha : XE X c Γ a s) (hb : XE X c Γ b i) (h : InB s.cps.toList i) (hl : s.length ≤ 100000) (hs : PlainIx b := by exact fun _ _ => rfl) : XE X c Γ (.Subscript a b pos) (ixS s i) :=
  xe_bin (t := fun a _ => a) (fun h1 h2 => pe_ix ix_str h1 h2 hs) (fun F H u v e h1 h2 Q q => by
    exact ⟨s, i, _, h1, h2, sz _ hl, atI_ix h, q _ F H (Ex.refl _) e (Ex.refl _) (fun _ h => .inl h) rfl⟩) ha hb
/-- the parts of a slice -/
def XP (X : Cx) (c : Cw) (Γ : List Slot) (e : Option Expr) (i : Option Int) : Prop := ∃ t, PO X e t ∧
  ∀ F H σ fp, EnvD X.K c F H σ Γ fp → ∀ Q : Option Int → Hp → Prop, (∀ F' H', EnvD X.K c F' H' σ Γ fp → Ex F F' → Nw F H F' H' → Q i H') → t σ H Q
theorem xp_none : XP X c Γ none none := ⟨_, po_none, fun F H σ fp E Q q => q F H E (Ex.refl _) Nw.refl⟩
theorem xp_some {i : Int} (h : XE X c Γ e i) : XP X c Γ (some e) (some i) := by
  obtain ⟨t, h1, h2⟩ := h
  exact ⟨_, po_some h1, fun F H σ fp E Q q => h2 F H σ fp E _ fun v F' H' E' e1 e2 r => ⟨i, r, q F' H' E' e1 e2⟩⟩
def cutL {τ : Type} (xs : List τ) (lo hi : Option Int) : List τ := (xs.drop (HT.sIx xs.length 0 lo)).take (HT.sIx xs.length xs.length hi - HT.sIx xs.length 0 lo)
theorem rep_flat {K : Fg} {F : Hp} {vs : List V} {xs : List τ} (r : Reps K F vs xs) : ∀ n : Nat, Reps K F (List.replicate n vs).flatten (List.replicate n xs).flatten
  | 0 => .nil
  | n + 1 => by
    rw [List.replicate_succ, List.replicate_succ, List.flatten_cons, List.flatten_cons]
    exact r.app (rep_flat r n)
/-- a built-in of one argument whose answer leans on no heap -/
theorem xe_b1 {n : Str} {id : String} {p : Pos} {r : List V → Hp → VK → Prop} {τ' : Type} [PySc τ'] {w : τ'} (hc : CallR X (.builtin id) r) (hv : bootBuiltins n = some (.builtin id)) (hr : ∀ F H v, Ex F H → rep X.K F v x → ∀ Q : VK, Q (PySc.v w) H → r [v] H Q)
    (hg : Gl X n) (hm : X.mg n = none) (ha : XE X c Γ a x) (hn : n ≠ "__name__" := by decide) (hdb : (n == ("__debug__" : Str)) = false := by decide)
    (hs : starEach [a] X.env = [(false, eval a X.env)] := by rfl) : XE X c Γ (.Call (.Name n p) [a] [] pos) w := by
  obtain ⟨t, h1, h2⟩ := ha
  refine ⟨_, pe_callB hc hg hm hv (pa_cons h1 pa_nil hs) hn hdb hs rfl, fun F H σ fp E Q q => h2 F H σ fp E _ fun v F' H' E' e1 e2 r' => hr F' H' v E'.wd.fh r' _ (q _ F' H' E' e1 e2 (PySc.sc.mpr rfl))⟩
theorem xe_b2 {n : Str} {id : String} {p : Pos} {r : List V → Hp → VK → Prop} {τ' : Type} [PySc τ'] {w : τ'} (hc : CallR X (.builtin id) r) (hv : bootBuiltins n = some (.builtin id)) (hr : ∀ F H u v, Ex F H → rep X.K F u x → rep X.K F v y → ∀ Q : VK, Q (PySc.v w) H → r [u, v] H Q)
    (hg : Gl X n) (hm : X.mg n = none) (ha : XE X c Γ a x) (hb : XE X c Γ b y) (hn : n ≠ "__name__" := by decide) (hdb : (n == ("__debug__" : Str)) = false := by decide)
    (hs : starEach [a, b] X.env = (false, eval a X.env) :: starEach [b] X.env := by rfl) (hs2 : starEach [b] X.env = [(false, eval b X.env)] := by rfl) (hbk : ((backTo pos (starEach [b] X.env)).any fun x => x.fst) = false := by rfl) : XE X c Γ (.Call (.Name n p) [a, b] [] pos) w := by
  obtain ⟨t, h1, h2⟩ := ha
  obtain ⟨u, h3, h4⟩ := hb
  refine ⟨_, pe_callB hc hg hm hv (pa_cons h1 (pa_cons h3 pa_nil hs2) hs) hn hdb hs hbk, fun F H σ fp E Q q => h2 F H σ fp E _ fun v F' H' E' e1 e2 r' => h4 F' H' σ fp E' _ fun v2 F2 H2 E2 e3 e4 r2 => ?_⟩
  exact hr F2 H2 v v2 E2.wd.fh (Py.mono e3 r') r2 _ (q _ F2 H2 E2 (e1.trans e3) (e2.trans e4) (PySc.sc.mpr rfl))
theorem xe_len {s : υ} [PyS υ τ] {p : Pos} (hm : X.mg "len" = none) (ha : XE X c Γ a s) (hg : Gl X "len" := by rfl) (hs : starEach [a] X.env = [(false, eval a X.env)] := by rfl) :
    XE X c Γ (.Call (.Name "len" p) [a] [] pos) (((PyS.li s).length : Nat) : Int) :=
  xe_b1 call_len_seq PySem.boot_len (fun F H v e r Q q => by
    obtain ⟨p, vs, rfl, r1, r2⟩ := PyS.sq r
    rw [← r2.length] at q
    exact ⟨p, vs, rfl, r1.elim (fun h => .inl (e.l h)) (fun h => .inr (e.t h)), q⟩) hg hm ha (by decide) (by decide) hs
theorem xe_lenS {s : Str} {p : Pos} (hm : X.mg "len" = none) (ha : XE X c Γ a s) (hl : s.length ≤ sizeLine) (hg : Gl X "len" := by rfl) (hs : starEach [a] X.env = [(false, eval a X.env)] := by rfl) :
    XE X c Γ (.Call (.Name "len" p) [a] [] pos) ((s.length : Nat) : Int) :=
  xe_b1 call_len_str PySem.boot_len (fun F H v e r Q q => ⟨s, by rw [show v = V.str s from r], hl, q⟩) hg hm ha (by decide) (by decide) hs
theorem min_eq (i j : Int) : (if j < i then j else i) = min i j := by rw [Int.min_def]; split <;> split <;> omega
theorem max_eq (i j : Int) : (if j > i then j else i) = max i j := by rw [Int.max_def]; split <;> split <;> omega
theorem xe_min {i j : Int} {p : Pos} (hm : X.mg "min" = none) (ha : XE X c Γ a i) (hb : XE X c Γ b j) (hc : X.calm = true := by rfl) (hg : Gl X "min" := by rfl)
    (hs : starEach [a, b] X.env = (false, eval a X.env) :: starEach [b] X.env := by rfl) (hs2 : starEach [b] X.env = [(false, eval b X.env)] := by rfl) (hbk : ((backTo pos (starEach [b] X.env)).any fun x => x.fst) = false := by rfl) :
    XE X c Γ (.Call (.Name "min" p) [a, b] [] pos) (min i j) :=
  xe_b2 (call_min2 hc) (by decide +kernel) (fun F H u v e r1 r2 Q q => ⟨i, j, by rw [show u = V.int i from r1, show v = V.int j from r2], by rw [min_eq]; exact q⟩) hg hm ha hb (by decide) (by decide) hs hs2 hbk
theorem xe_max {i j : Int} {p : Pos} (hm : X.mg "max" = none) (ha : XE X c Γ a i) (hb : XE X c Γ b j) (hc : X.calm = true := by rfl) (hg : Gl X "max" := by rfl)
    (hs : starEach [a, b] X.env = (false, eval a X.env) :: starEach [b] X.env := by rfl) (hs2 : starEach [b] X.env = [(false, eval b X.env)] := by rfl) (hbk : ((backTo pos (starEach [b] X.env)).any fun x => x.fst) = false := by rfl) :
    XE X c Γ (.Call (.Name "max" p) [a, b] [] pos) (max i j) :=
  xe_b2 (call_max2 hc) (by decide +kernel) (fun F H u v e r1 r2 Q q => ⟨i, j, by rw [show u = V.int i from r1, show v = V.int j from r2], by rw [max_eq]; exact q⟩) hg hm ha hb (by decide) (by decide) hs hs2 hbk
/-- int(a truth) -/
theorem xe_intB {k : Bool} {p : Pos} (hm : X.mg "int" = none) (ha : XE X c Γ a k) (hg : Gl X "int" := by rfl)
    (hs : starEach [a] X.env = [(false, eval a X.env)] := by rfl) : XE X c Γ (.Call (.Name "int" p) [a] [] pos) (if k then (1 : Int) else 0) := by
  obtain ⟨t, h1, h2⟩ := ha
  refine ⟨_, pe_callTy call_int1 hg hm (by decide +kernel) (pa_cons h1 pa_nil hs) (by decide) (by decide) hs rfl, fun F H σ fp E Q q => h2 F H σ fp E _ fun v F' H' E' e1 e2 r' => .inr ⟨k, by rw [show v = V.bl k from r'], q _ F' H' E' e1 e2 rfl⟩⟩
end
end Fw
namespace Fw
open PySem L2 Py PyProof.Rows
/-- an argument: frozen data, or a thing that the def may change -/
inductive ArgD : Type 1 where
  | fz {τ : Type} [inst : Py τ] (x : τ)
  | ow (t : OT)
def ArgD.slot (as : Nat → Addr) (i : Nat) : ArgD → Slot
  | @ArgD.fz _ _ x => .fz x
  | .ow t => .ow (some (as i)) t
def ArgD.isOw : ArgD → Bool
  | @ArgD.fz _ _ _ => false
  | .ow _ => true
def argSl (as : Nat → Addr) : Nat → List ArgD → List Slot
  | _, [] => []
  | i, d :: r => d.slot as i :: argSl as (i + 1) r
def outSl (as : Nat → Addr) : Nat → List (Option OT) → List Slot
  | _, [] => []
  | i, none :: r => .no :: outSl as (i + 1) r
  | i, some t :: r => .ow (some (as i)) t :: outSl as (i + 1) r
theorem argSl_get {as : Nat → Addr} : ∀ {ds : List ArgD} {j i : Nat}, (argSl as j ds)[i]? = (ds[i]?).map (ArgD.slot as (j + i))
  | [], j, i => by simp [argSl]
  | d :: r, j, 0 => by simp [argSl]
  | d :: r, j, i + 1 => by
    have := argSl_get (as := as) (ds := r) (j := j + 1) (i := i)
    simp only [argSl, List.getElem?_cons_succ, this]
    rw [show j + 1 + i = j + (i + 1) by omega]
theorem outSl_get {as : Nat → Addr} : ∀ {ds : List (Option OT)} {j i : Nat}, (outSl as j ds)[i]? = (ds[i]?).map fun d => match d with | none => Slot.no | some t => .ow (some (as (j + i))) t
  | [], j, i => by simp [outSl]
  | none :: r, j, 0 => by simp [outSl]
  | some t :: r, j, 0 => by simp [outSl]
  | none :: r, j, i + 1 => by
    have := outSl_get (as := as) (ds := r) (j := j + 1) (i := i)
    simp only [outSl, List.getElem?_cons_succ, this]
    rw [show j + 1 + i = j + (i + 1) by omega]
  | some t :: r, j, i + 1 => by
    have := outSl_get (as := as) (ds := r) (j := j + 1) (i := i)
    simp only [outSl, List.getElem?_cons_succ, this]
    rw [show j + 1 + i = j + (i + 1) by omega]
theorem argSl_len {as : Nat → Addr} : ∀ {ds : List ArgD} {j : Nat}, (argSl as j ds).length = ds.length
  | [], j => rfl
  | d :: r, j => by simp [argSl, argSl_len]
theorem outSl_len {as : Nat → Addr} : ∀ {ds : List (Option OT)} {j : Nat}, (outSl as j ds).length = ds.length
  | [], j => rfl
  | none :: r, j => by simp [outSl, outSl_len]
  | some t :: r, j => by simp [outSl, outSl_len]
def cwOf (F H : Hp) (fp : Nat → List Addr) : Cw := ⟨F, H, fun b => ∃ j, b ∈ fp j⟩
/-- the promise of a def: arguments D0 a, where pre holds; the answer m a, by D1 what the changed ones are, by RS the value, by xn an error's class -/
def SpG (K : Fg) (mg : Str → Option Value) {α ρ : Type} (D0 : α → List ArgD) (pre : α → Prop) (D1 : ρ → List (Option OT)) (RS : ρ → Slot) (xn : ρ → Option Str) (m : α → ρ) : Sp := fun vs H Q E =>
  ∃ F fp a as, EnvD K (cwOf F H fp) F H (vs.map some) (argSl as 0 (D0 a)) fp ∧ pre a ∧
    (xn (m a) = none → ∀ v F' H' fp', EnvD K (cwOf F H fp) F' H' (vs.map some ++ [some v]) (outSl as 0 (D1 (m a)) ++ [RS (m a)]) fp' → Q v H') ∧
    (∀ n, xn (m a) = some n → ∀ C F' H', mg n = some (.ref C) → Wd (cwOf F H fp) F' H' → E (.ref C) none H')
/-- a def known by its name -/
structure Fk (P : Program) (w : World) (K : Fg) (mg : Str → Option Value) (base : Heap) (CX : CXT) (n : Str) (ps : List Str) (ds : List Value) (k : Nat) (sp : Sp) : Prop where
  ex : ∃ f fd, mg n = some (.ref f) ∧ PySem.W.keepIn K (.ref f) = true ∧ Binds K fd ps ds ∧ FnOk P w K mg base CX k f fd ps sp
/-- a def of the text -/
structure Df (K : Fg) (mg : Str → Option Value) (n : Str) (st : Stmt) : Prop where
  ex : ∃ f fd, mg n = some (.ref f) ∧ Fun K n n st f fd
/-- the slots at a def's begin -/
theorem env0 {K : Fg} {c : Cw} {F H : Hp} {vs : List V} {N : List Str} {Γ : List Slot} {fp : Nat → List Addr} (E : EnvD K c F H (vs.map some) Γ fp) (hN : Γ.length ≤ N.length) : EnvD K c F H (L2.start N vs) (Γ ++ List.replicate (N.length - Γ.length) Slot.no) fp := by
  have hl : vs.length = Γ.length := by simpa using E.len
  refine ⟨E.wd, ?_, fun i s hs => ?_, E.dis, E.al, fun i h => E.out i (by simp at h; omega)⟩
  · unfold L2.start
    simp [hl]
  · unfold L2.start
    by_cases hi : i < Γ.length
    · rw [List.getElem?_append_left hi] at hs
      rw [List.getElem?_append_left (by simpa [hl] using hi)]
      exact E.ok i s hs
    · rw [List.getElem?_append_right (by omega), List.getElem?_replicate] at hs
      split at hs
      · rename_i hz
        cases hs
        refine ⟨none, ?_, E.out i (by omega)⟩
        rw [List.getElem?_append_right (by simp [hl]; omega), List.getElem?_replicate, if_pos]
        simpa [hl] using hz
      · cases hs
/-- how a def's body is stated -/
abbrev RcG {ρ : Type} (as : Nat → Addr) (D1 : ρ → List (Option OT)) (RS : ρ → Slot) (xn : ρ → Option Str) : Rc := ⟨ρ, fun r Γ => ∀ (i : Nat) (s : Slot), (outSl as 0 (D1 r))[i]? = some s → s = Slot.no ∨ Γ[i]? = some s, RS, xn⟩
/-- how one that comes to its end is told -/
def Out.fin {S ρ : Type} (n : S → ρ) : Out S Empty ρ → ρ
  | .nx s => n s
  | .rt r => r
  | .bk s => s.elim
  | .ct s => s.elim
/-- a def's body is worth r, whether it returns or comes to its end -/
def XF (X : Cx) (w : Wx) (c : Cw) (Γ : List Slot) (sts : List Stmt) {S : Type} {R : Rc} (n : S → R.ρ) (G : S → List Slot) (r : R.ρ) : Prop := ∃ o : Out S Empty R.ρ, o.fin n = r ∧ XO X w c Γ sts G (fun e : Empty => e.elim) o
section
variable {P : Program} {w : World} {K : Fg} {mg : Str → Option Value} {base : Heap} {α ρ : Type} {D0 : α → List ArgD} {pre : α → Prop} {D1 : ρ → List (Option OT)} {RS : ρ → Slot} {xn : ρ → Option Str} {m : α → ρ}
/-- the answer of a body, told to the caller -/
theorem ret_ok {F H : Hp} {fp : Nat → List Addr} {vs : List V} {a : α} {as : Nat → Addr} (E0 : EnvD K (cwOf F H fp) F H (vs.map some) (argSl as 0 (D0 a)) fp) {r : ρ} (sh : (D1 r).map Option.isSome = (D0 a).map ArgD.isOw)
    {v : V} {F' H' : Hp} {σ' : L2.St} {Γ' : List Slot} {fp' : Nat → List Addr} {l : List Addr} (E : EnvD K (cwOf F H fp) F' H' σ' Γ' fp') (hG : ∀ (i : Nat) (s : Slot), (outSl as 0 (D1 r))[i]? = some s → s = Slot.no ∨ Γ'[i]? = some s)
    (hr : (RS r).ok K F' H' (some v) l) (hl : ∀ b ∈ l, (cwOf F H fp).al b ∧ ∀ j, b ∉ fp' j) : ∃ fp2, EnvD K (cwOf F H fp) F' H' (vs.map some ++ [some v]) (outSl as 0 (D1 r) ++ [RS r]) fp2 := by
  have hlen : (D1 r).length = (D0 a).length := by simpa using congrArg List.length sh
  have hv : vs.length = (D0 a).length := by have := E0.len; rw [argSl_len] at this; simpa using this
  have ol : (outSl as 0 (D1 r)).length = vs.length := by rw [outSl_len, hlen, hv]
  classical
  refine ⟨fun i => if i = vs.length then l else if ∃ t, (D1 r)[i]? = some (some t) then fp' i else [], E.wd, by simp [ol], fun i s hs => ?_, fun i j b h1 h2 => ?_, fun i b h => ?_, fun i h => ?_⟩
  · by_cases hi : i < vs.length
    · rw [List.getElem?_append_left (by omega)] at hs
      rw [List.getElem?_append_left (by simpa using hi)]
      rw [if_neg (by omega)]
      have hs0 := hs
      rw [outSl_get] at hs
      have hi1 : i < (D1 r).length := by omega
      rw [List.getElem?_eq_getElem hi1] at hs
      refine ⟨some vs[i], by simp [hi], ?_⟩
      cases hd : (D1 r)[i] with
      | none =>
        rw [hd] at hs
        cases hs
        rw [if_neg]
        · rfl
        · rintro ⟨t, ht⟩
          rw [List.getElem?_eq_getElem hi1, hd] at ht; cases ht
      | some t =>
        rw [hd] at hs
        have hs : Slot.ow (some (as (0 + i))) t = s := by simpa using hs
        subst hs
        rw [if_pos ⟨t, by rw [List.getElem?_eq_getElem hi1, hd]⟩]
        rcases hG i _ hs0 with z | z
        · cases z
        · obtain ⟨u, q1, q2, q3⟩ := E.geto z
          have hu := q3 _ rfl
          subst hu
          -- the argument itself
          have hd0 : ((D0 a)[i]?).map ArgD.isOw = some true := by
            have := congrArg (fun l => l[i]?) sh
            simp only [List.getElem?_map] at this
            rw [← this, List.getElem?_eq_getElem hi1, hd]; rfl
          cases hd1 : (D0 a)[i]? with
          | none => rw [hd1] at hd0; cases hd0
          | some d =>
            rw [hd1] at hd0
            cases d with
            | fz x => cases hd0
            | ow t0 =>
              have hs1 : (argSl as 0 (D0 a))[i]? = some (.ow (some (as (0 + i))) t0) := by rw [argSl_get, hd1]; rfl
              obtain ⟨u, k1, k2, k3⟩ := E0.geto hs1
              have hu := k3 _ rfl
              subst hu
              have : vs[i] = .ref (as (0 + i)) := by simpa [hi] using k1
              exact ⟨_, congrArg some this, q2, fun a ha => by cases ha; rfl⟩
    · have hie : i = vs.length := by
        have := (List.getElem?_eq_some_iff.mp hs).1
        simp [ol] at this; omega
      subst hie
      rw [List.getElem?_append_right (by omega), ol, Nat.sub_self] at hs
      cases hs
      refine ⟨some v, by simp, ?_⟩
      rw [if_pos rfl]; exact hr
  · split at h1
    · split at h2
      · omega
      · split at h2
        · exact absurd h2 ((hl b h1).2 j)
        · cases h2
    · split at h1
      · split at h2
        · exact absurd h1 ((hl b h2).2 i)
        · split at h2
          · exact E.dis i j b h1 h2
          · cases h2
      · cases h1
  · split at h
    · exact (hl b h).1
    · split at h
      · exact E.al i b h
      · cases h
  · have : vs.length + 1 ≤ i := by simpa [ol] using h
    rw [if_neg (by omega), if_neg]
    rintro ⟨t, ht⟩
    have := (List.getElem?_eq_some_iff.mp ht).1
    omega
abbrev Room' (k : Nat) (A : Around) (q : Str) (st : Stmt) (s : Shared) (f : Addr) (cdv : Value) : Prop := Room k (A.deeper (envOfC q (defScope st) s.heap.objs.size f cdv))
/-- THE RULE for a def -/
theorem fn_of {x q : Str} {st : Stmt} {f : Addr} {fd : FuncData} {N ps : List Str} {k : Nat} {S : Type} {n : S → ρ} {G : (Nat → Addr) → S → List Slot} (Fd : Fun K x q st f fd) (Sc : FnScope N ps (defScope st)) (hn : ∀ a, (D0 a).length = ps.length)
    (sh : ∀ a r, (D1 r).map Option.isSome = (D0 a).map ArgD.isOw) (hnx : ∀ as s, xn (n s) = none ∧ RS (n s) = .fz () ∧ ∀ (i : Nat) (z : Slot), (outSl as 0 (D1 (n s)))[i]? = some z → z = Slot.no ∨ (G as s)[i]? = some z)
    (body : ∀ (f : Addr) (cdv : Value) (A : Around) (outer : List PySem.Env) (s : Shared) (H : Hp) (E : XK) (c : Cw) (as : Nat → Addr) (a : α), Room' k A q st s f cdv → pre a →
      XF (R := RcG as D1 RS xn) (cxOf (L2.CX P w) P w K mg base N q (defScope st) f cdv A outer s H E) ⟨fun cls d _ H => E cls d H, List.replicate N.length .no⟩ c (argSl as 0 (D0 a) ++ List.replicate (N.length - (D0 a).length) .no) (defBody st) n (G as) (m a)) :
    FnOk P w K mg base (L2.CX P w) (k + 1) f fd ps (SpG K mg D0 pre D1 RS xn m) := by
  refine Fd.okX Sc (fun vs H Q E h => ?_) (fun cdv A outer s H vs Q E hr h => ?_)
  · obtain ⟨F, fp, a, as, E0, _⟩ := h
    have := E0.len
    rw [argSl_len, hn a] at this
    simpa using this
  · obtain ⟨F, fp, a, as, E0, hp, q⟩ := h
    obtain ⟨o, ho, t, h1, h2⟩ := body f cdv A outer s H E (cwOf F H fp) as a hr hp
    have hN : (argSl as 0 (D0 a)).length ≤ N.length := by
      have q := congrArg List.length Sc.pre
      rw [List.length_take] at q
      rw [argSl_len, hn a]; omega
    have ES := env0 E0 hN
    rw [argSl_len] at ES
    refine ⟨t, h1, h2 F H _ ⟨fp, ES⟩ _ ?_⟩
    rw [← ho] at q
    have fin : ∀ r v σ' F' H' Γ' fp' l, o.fin n = r → xn r = none → EnvD K (cwOf F H fp) F' H' σ' Γ' fp' → (∀ (i : Nat) (s : Slot), (outSl as 0 (D1 r))[i]? = some s → s = Slot.no ∨ Γ'[i]? = some s) → (RS r).ok K F' H' (some v) l → (∀ b ∈ l, (cwOf F H fp).al b ∧ ∀ j, b ∉ fp' j) → Q v H' := fun r v σ' F' H' Γ' fp' l hr hx E' hg hv hl => by
      obtain ⟨fp2, E2⟩ := ret_ok E0 (sh a r) E' hg hv hl
      rw [hr] at q
      exact q.1 hx v F' H' fp2 E2
    cases o with
    | nx s =>
      intro σ' F' H' ⟨fp', E'⟩ _
      obtain ⟨g0, g1, g2⟩ := hnx as s
      exact fin (n s) .non σ' F' H' _ fp' [] rfl g0 E' g2 (by rw [g1]; exact ⟨rfl, _, rfl, rfl⟩) (fun b hb => by cases hb)
    | rt r => exact ⟨fun hx v σ' F' H' Γ' fp' l E' _ hg hv hl => fin r v σ' F' H' Γ' fp' l rfl hx E' hg hv hl, fun n hx C σ' F' H' hC E' _ => q.2 n hx C F' H' hC E'.wd⟩
    | bk s => exact s.elim
    | ct s => exact s.elim
theorem fk_of {n : Str} {st : Stmt} {N ps : List Str} {k : Nat} {S : Type} {nf : S → ρ} {G : (Nat → Addr) → S → List Slot} (D : Df K mg n st) (Sc : FnScope N ps (defScope st)) (hn : ∀ a, (D0 a).length = ps.length)
    (hb : ∀ (kV doc pm : Value) (an : Option Addr) (cdv ct : Value) (us : List Value), us.length = ps.length → bindArgs (PySem.W.fnOf n n (defArgs st) (defBody st) (defScope st) .none kV doc pm an cdv ct) ⟨us, []⟩ = pure (ps.zip us))
    (sh : ∀ a r, (D1 r).map Option.isSome = (D0 a).map ArgD.isOw) (hnx : ∀ as s, xn (nf s) = none ∧ RS (nf s) = .fz () ∧ ∀ (i : Nat) (z : Slot), (outSl as 0 (D1 (nf s)))[i]? = some z → z = Slot.no ∨ (G as s)[i]? = some z)
    (body : ∀ (f : Addr) (cdv : Value) (A : Around) (outer : List PySem.Env) (s : Shared) (H : Hp) (E : XK) (c : Cw) (as : Nat → Addr) (a : α), Room' k A n st s f cdv → pre a →
      XF (R := RcG as D1 RS xn) (cxOf (L2.CX P w) P w K mg base N n (defScope st) f cdv A outer s H E) ⟨fun cls d _ H => E cls d H, List.replicate N.length .no⟩ c (argSl as 0 (D0 a) ++ List.replicate (N.length - (D0 a).length) .no) (defBody st) nf (G as) (m a)) :
    Fk P w K mg base (L2.CX P w) n ps [] (k + 1) (SpG K mg D0 pre D1 RS xn m) := by
  obtain ⟨f, fd, hm, F⟩ := D.ex
  exact ⟨f, fd, hm, F.kp, F.binds hb, fn_of F Sc hn sh hnx body⟩
/-- a def with defaults, known by its name; dvs are those of the parameters that a call leaves out -/
structure FkD (P : Program) (w : World) (K : Fg) (mg : Str → Option Value) (base : Heap) (CX : CXT) (n : Str) (ps : List Str) (dvs : List V) (k : Nat) (sp : Sp) : Prop where
  ex : ∃ ds, Vals dvs ds ∧ Fk P w K mg base CX n ps ds k sp
/-- a def of the text with defaults dvs -/
structure DfD (K : Fg) (mg : Str → Option Value) (n : Str) (st : Stmt) (dvs : List V) : Prop where
  ex : ∃ f fd, mg n = some (.ref f) ∧ FunD K n n (defArgs st) (defBody st) (defScope st) dvs [] f fd
theorem fnd_of {x q : Str} {st : Stmt} {f : Addr} {fd : FuncData} {N ps : List Str} {dvs : List V} {k : Nat} {S : Type} {n : S → ρ} {G : (Nat → Addr) → S → List Slot} (Fd : FunD K x q (defArgs st) (defBody st) (defScope st) dvs [] f fd) (Sc : FnScope N ps (defScope st)) (hn : ∀ a, (D0 a).length = ps.length)
    (sh : ∀ a r, (D1 r).map Option.isSome = (D0 a).map ArgD.isOw) (hnx : ∀ as s, xn (n s) = none ∧ RS (n s) = .fz () ∧ ∀ (i : Nat) (z : Slot), (outSl as 0 (D1 (n s)))[i]? = some z → z = Slot.no ∨ (G as s)[i]? = some z)
    (body : ∀ (f : Addr) (cdv : Value) (A : Around) (outer : List PySem.Env) (s : Shared) (H : Hp) (E : XK) (c : Cw) (as : Nat → Addr) (a : α), Room' k A q st s f cdv → pre a →
      XF (R := RcG as D1 RS xn) (cxOf (L2.CX P w) P w K mg base N q (defScope st) f cdv A outer s H E) ⟨fun cls d _ H => E cls d H, List.replicate N.length .no⟩ c (argSl as 0 (D0 a) ++ List.replicate (N.length - (D0 a).length) .no) (defBody st) n (G as) (m a)) :
    FnOk P w K mg base (L2.CX P w) (k + 1) f fd ps (SpG K mg D0 pre D1 RS xn m) := by
  refine Fd.ok Sc (fun vs H Q E h => ?_) (fun cdv A outer s H vs Q E hr h => ?_)
  · obtain ⟨F, fp, a, as, E0, _⟩ := h
    have := E0.len
    rw [argSl_len, hn a] at this
    simpa using this
  · obtain ⟨F, fp, a, as, E0, hp, q⟩ := h
    obtain ⟨o, ho, t, h1, h2⟩ := body f cdv A outer s H E (cwOf F H fp) as a hr hp
    have hN : (argSl as 0 (D0 a)).length ≤ N.length := by
      have q := congrArg List.length Sc.pre
      rw [List.length_take] at q
      rw [argSl_len, hn a]; omega
    have ES := env0 E0 hN
    rw [argSl_len] at ES
    refine ⟨t, h1, h2 F H _ ⟨fp, ES⟩ _ ?_⟩
    rw [← ho] at q
    have fin : ∀ r v σ' F' H' Γ' fp' l, o.fin n = r → xn r = none → EnvD K (cwOf F H fp) F' H' σ' Γ' fp' → (∀ (i : Nat) (s : Slot), (outSl as 0 (D1 r))[i]? = some s → s = Slot.no ∨ Γ'[i]? = some s) → (RS r).ok K F' H' (some v) l → (∀ b ∈ l, (cwOf F H fp).al b ∧ ∀ j, b ∉ fp' j) → Q v H' := fun r v σ' F' H' Γ' fp' l hr hx E' hg hv hl => by
      obtain ⟨fp2, E2⟩ := ret_ok E0 (sh a r) E' hg hv hl
      rw [hr] at q
      exact q.1 hx v F' H' fp2 E2
    cases o with
    | nx s =>
      intro σ' F' H' ⟨fp', E'⟩ _
      obtain ⟨g0, g1, g2⟩ := hnx as s
      exact fin (n s) .non σ' F' H' _ fp' [] rfl g0 E' g2 (by rw [g1]; exact ⟨rfl, _, rfl, rfl⟩) (fun b hb => by cases hb)
    | rt r => exact ⟨fun hx v σ' F' H' Γ' fp' l E' _ hg hv hl => fin r v σ' F' H' Γ' fp' l rfl hx E' hg hv hl, fun n hx C σ' F' H' hC E' _ => q.2 n hx C F' H' hC E'.wd⟩
    | bk s => exact s.elim
    | ct s => exact s.elim
theorem fkd_of {n : Str} {st : Stmt} {N ps : List Str} {dvs : List V} {k : Nat} {S : Type} {nf : S → ρ} {G : (Nat → Addr) → S → List Slot} (D : DfD K mg n st dvs) (Sc : FnScope N ps (defScope st)) (hn : ∀ a, (D0 a).length = ps.length) (j q : Nat) (hd : dvs ≠ []) (hq : q + (dvs.length - j) = ps.length)
    (hb : ∀ (T : Addr) (kV doc pm : Value) (an : Option Addr) (cdv ct : Value) (us its : List Value), us.length = q → its.length = dvs.length →
      ∃ k, bindArgs (PySem.W.fnOf n n (defArgs st) (defBody st) (defScope st) (.ref T) kV doc pm an cdv ct) ⟨us, []⟩ = seqItems? (.ref T) >>= k ∧ k (some its.toArray) = pure (ps.zip (us ++ its.drop j)))
    (sh : ∀ a r, (D1 r).map Option.isSome = (D0 a).map ArgD.isOw) (hnx : ∀ as s, xn (nf s) = none ∧ RS (nf s) = .fz () ∧ ∀ (i : Nat) (z : Slot), (outSl as 0 (D1 (nf s)))[i]? = some z → z = Slot.no ∨ (G as s)[i]? = some z)
    (body : ∀ (f : Addr) (cdv : Value) (A : Around) (outer : List PySem.Env) (s : Shared) (H : Hp) (E : XK) (c : Cw) (as : Nat → Addr) (a : α), Room' k A n st s f cdv → pre a →
      XF (R := RcG as D1 RS xn) (cxOf (L2.CX P w) P w K mg base N n (defScope st) f cdv A outer s H E) ⟨fun cls d _ H => E cls d H, List.replicate N.length .no⟩ c (argSl as 0 (D0 a) ++ List.replicate (N.length - (D0 a).length) .no) (defBody st) nf (G as) (m a)) :
    FkD P w K mg base (L2.CX P w) n ps (dvs.drop j) (k + 1) (SpG K mg D0 pre D1 RS xn m) := by
  obtain ⟨f, fd, hm, F⟩ := D.ex
  obtain ⟨ds, h1, h2⟩ := F.binds1 q j hd hq hb
  exact ⟨ds, h1, f, fd, hm, F.kp, h2, fnd_of F Sc hn sh hnx body⟩
theorem dfd_mk {h : Heap} {n : Str} {st : Stmt} {f Ta : Addr} {oc oc2 : Value} {od an od2 : Option Addr} {osl osl2 : Array (Option Value)} {kV doc pm cdv ct : Value} {its : List Value} {m : Nat} {dvs : List V} (X : K.In h) (G : h.Ns mainGlobals mg) (a : PySem.W.nsIn K mainGlobals n = some (some (.ref f)))
    (l : K.lookup f = some ⟨oc, od, .func (PySem.W.fnOf n n (defArgs st) (defBody st) (defScope st) (.ref Ta) kV doc pm an cdv ct), osl⟩) (c : PySem.W.codeIn K cdv n = true) (k : PySem.W.keepIn K (.ref f) = true) (t : K.lookup Ta = some ⟨oc2, od2, .seq its.toArray m, osl2⟩) (hd : dvs ≠ []) (hv : Vals dvs its) : DfD K mg n st dvs :=
  ⟨f, _, PySem.W.mg_of X G a, ⟨oc, od, .ref Ta, kV, doc, pm, an, cdv, ct, osl, rfl, l, c, .inr ⟨hd, Ta, _, its, m, rfl, t, rfl, hv⟩, .inl rfl⟩, k⟩
end
end Fw
namespace Fw
open PySem L2 Py PyProof.Rows
/-- what was made, named -/
def bnd {α : Type} {β : Sort _} (s : α) (k : α → β) : β := k s
theorem bnd_at {α : Type} {s : α} {k : α → Prop} (h : bnd s k) {x : α} (e : x = s) : k x := by subst e; exact h
/-- what a loop asks of its turns -/
def vRun {S τ R : Type} (f : S → τ → Out S S R) (vb : S → τ → Prop) : S → List τ → Prop
  | _, [] => True
  | s, y :: r => vb s y ∧ match f s y with
    | .nx s' => vRun f vb s' r
    | .ct s' => vRun f vb s' r
    | _ => True
def vFold {S τ : Type} (g : S → τ → S) (vb : S → τ → Prop) : S → List τ → Prop
  | _, [] => True
  | s, y :: r => vb s y ∧ vFold g vb (g s y) r
section
variable {X : Cx} {w : Wx} {c : Cw} {Γ Γ' : List Slot} {S S' B υ : Type} [Py υ] {R : Rc} {G : S → List Slot} {G' : S' → List Slot} {GB : B → List Slot} {o : Out S B R.ρ} {pos : Pos} {st : Stmt} {rest : List Stmt} {e d : Expr} {k : Bool}
/-- .. then the rest, what was made named -/
theorem xo_nxt {s : S'} {k : S' → Out S B R.ρ} (h : XS X w c Γ st G' GB (Out.nx s : Out S' B R.ρ)) (hr : ∀ s', s' = s → XO X w c (G' s') rest G GB (k s')) : XO X w c Γ (st :: rest) G GB (bnd s k) :=
  xo_cons (k := k) h fun s' hs => by
    injection hs with hs
    exact hr s' hs.symm
theorem xn_nxt {s : S'} {kx : S' → S} (h : XS X w c Γ st G' GB (Out.nx s : Out S' B R.ρ)) (hr : ∀ s', s' = s → XO X w c (G' s') rest G GB (Out.nx (kx s') : Out S B R.ρ)) : XO X w c Γ (st :: rest) G GB (Out.nx (bnd s kx) : Out S B R.ρ) :=
  xo_nxt (k := fun s => Out.nx (kx s)) h hr
/-- x = e -/
theorem xs_let {x : υ} (i : Nat) {n : Str} {p : Pos} (hN : X.N.Nodup) (he : XE X c Γ e x) (hi : X.N[i]? = some n := by rfl) (hx : Loc X.env.scope n := by first | exact .inl rfl | exact .inr rfl) (hs : swapsWith e (some (.Name n p)) pos.line X.env = pure false := by rfl)
    (hf : X.fn n = true ∨ X.env.scope.names.lookup n = some .local := by first | exact .inl rfl | exact .inr rfl | assumption) : XS X w c Γ (.Assign [.Name n p] e pos) (fun x : υ => Γ.set i (.fz x)) GB (Out.nx x : Out υ B R.ρ) := by
  obtain ⟨t, h1, h2⟩ := he
  refine ⟨_, ps_set (i := i) hN hi hx h1 hs hf, fun F H σ ⟨fp, E⟩ D q => h2 F H σ fp E _ fun v F' H' E' e1 e2 r => ?_⟩
  exact q _ F' H' (Env.set ⟨fp, E'⟩ r) e1
/-- target = e -/
theorem xs_lets {x : υ} {tg : Expr} {up : List Slot → υ → List Slot} (he : XE X c Γ e x) {ws : List Nat} (hg : XG X c tg ws up) (hs : swapsWithSole [tg] e pos.line X.env = pure false := by rfl) (hw : swappedStores [tg] e X.env = pure none := by rfl) (h1' : (assignEach [tg] X.env).map (·.2) = [assign tg X.env] := by rfl) :
    XS X w c Γ (.Assign [tg] e pos) (fun x : υ => up Γ x) GB (Out.nx x : Out υ B R.ρ) := by
  obtain ⟨t, h1, h2⟩ := he
  obtain ⟨g, h3, h4⟩ := hg
  refine ⟨_, ps_asg h1 h3 hs hw h1', fun F H σ ⟨fp, E⟩ D q => h2 F H σ fp E _ fun v F' H' E' e1 e2 r => h4 F' H' σ fp v _ x E' r _ fun σ' fp' E2 _ _ => q σ' F' H' ⟨fp', E2⟩ e1⟩
/-- both ways go on -/
theorem xs_ifs {A C : List Stmt} {s1 s2 : S} (hd : XT X c Γ d k) (ha : k = true → XO X w c Γ A G GB (Out.nx s1 : Out S B R.ρ)) (hb : k = false → XO X w c Γ C G GB (Out.nx s2 : Out S B R.ρ)) :
    XS X w c Γ (.If d A C pos) G GB (Out.nx (if k then s1 else s2) : Out S B R.ρ) := by
  cases k with
  | true => exact xs_if (o1 := .nx s1) (o2 := .nx s2) hd (fun _ => ha rfl) (fun h => by cases h)
  | false => exact xs_if (o1 := .nx s1) (o2 := .nx s2) hd (fun h => by cases h) (fun _ => hb rfl)
/-- a for whose turns may leave -/
theorem xs_forV {tg it : Expr} {body : List Stmt} {xs : List υ} {up : List Slot → υ → List Slot} {L : S → List Slot} {s0 : S} {f : S → υ → Out S S R.ρ} {vb : S → υ → Prop} (hi : XI X c Γ tg it xs) {ws : List Nat} (hg : XG X c tg ws up) (hw : Weak Γ (L s0))
    (hv : vRun f vb s0 xs) (hb : ∀ y s, vb s y → XO X w c (up (L s) y) body L L (f s y))
    (hc : X.calm = true := by rfl) (hp : PassesOwn (model X.prog X.w) X.A X.env X.xe := by first | exact PassesOwn.never | exact passes_of rfl | assumption) (hs : ∀ x, foldedSetIterable it X.env x = pure x := by intro _; rfl) :
    XS X w c Γ (.For tg it body [] pos) L GB (runFor f s0 xs : Out S B R.ρ) := by
  refine xs_for (fun i s => vRun f vb s (xs.drop i)) hi hg hw (by simpa using hv) (fun i y s hx hI => ?_) hc hp hs
  have hlt := (List.getElem?_eq_some_iff.mp hx).1
  rw [List.drop_eq_getElem_cons hlt] at hI
  have e : xs[i] = y := by rw [List.getElem?_eq_getElem hlt] at hx; exact Option.some.inj hx
  rw [e] at hI
  obtain ⟨h1, h2⟩ := hI
  refine ⟨hb y s h1, ?_⟩
  cases hf : f s y with
  | nx s' => rw [hf] at h2; exact h2
  | ct s' => rw [hf] at h2; exact h2
  | _ => trivial
theorem vFold_run {S τ R : Type} {g : S → τ → S} {vb : S → τ → Prop} : ∀ {xs : List τ} {s : S}, vFold g vb s xs → vRun (R := R) (fun s y => .nx (g s y)) vb s xs
  | [], _, _ => trivial
  | _ :: _, _, h => ⟨h.1, vFold_run h.2⟩
/-- a for that folds -/
theorem xs_foldV {tg it : Expr} {body : List Stmt} {xs : List υ} {up : List Slot → υ → List Slot} {L : S → List Slot} {s0 : S} {g : S → υ → S} {vb : S → υ → Prop} (hi : XI X c Γ tg it xs) {ws : List Nat} (hg : XG X c tg ws up) (hw : Weak Γ (L s0))
    (hv : vFold g vb s0 xs) (hb : ∀ y s, vb s y → XO X w c (up (L s) y) body L L (Out.nx (g s y) : Out S S R.ρ))
    (hc : X.calm = true := by rfl) (hp : PassesOwn (model X.prog X.w) X.A X.env X.xe := by first | exact PassesOwn.never | exact passes_of rfl | assumption) (hs : ∀ x, foldedSetIterable it X.env x = pure x := by intro _; rfl) :
    XS X w c Γ (.For tg it body [] pos) L GB (Out.nx (xs.foldl g s0) : Out S B R.ρ) := by
  have h := xs_forV (GB := GB) (R := R) (w := w) (f := fun s y => .nx (g s y)) hi hg hw (vFold_run hv) (fun y s h => hb y s h) hc hp hs (pos := pos)
  rw [runFor_nx] at h
  exact h
end
end Fw
namespace Fw
open PySem L2 Py PyProof.Rows
inductive FA (K : Fg) (F : Hp) : V → OT → Prop where
  | fz {τ : Type} [Py τ] {x : τ} {v : V} (r : rep K F v x) : FA K F v (.fz x)
  | hole {a : Addr} : FA K F (.ref a) (.hole a)
  | nd {a : Addr} {o : HO} {k : Kind} {vs : List V} {ts : List OT} (hF : F a = some o) (ko : KO K k o vs) (l1 : vs.length = ts.length) (hc : ∀ (i : Nat) v t, vs[i]? = some v → ts[i]? = some t → FA K F v t) : FA K F (.ref a) (.nd k ts)
section
variable {K : Fg} {F F' H H' : Hp} {v : V} {l : List Addr} {t u : OT}
theorem FA.mono (h : FA K F v t) (e : Ex F F') : FA K F' v t := by
  induction h with
  | fz r => exact .fz (Py.mono e r)
  | hole => exact .hole
  | nd hF ko l1 hc ih => exact .nd (e _ _ hF) ko l1 ih
theorem OA.fa (h : OA K F H v l t) (e : Ex F F') : (∀ b ∈ l, F' b = H b) → FA K F' v t := by
  induction h with
  | fz r => exact fun _ => .fz (Py.mono e r)
  | hole => exact fun _ => .hole
  | nd fps hF hH ko l1 l2 hc nd ih =>
    intro k
    refine .nd ((k _ (by simp)).trans hH) ko l1 fun i v t h1 h3 => ?_
    have hi := (List.getElem?_eq_some_iff.mp h3).1
    exact ih i v _ t h1 (List.getElem?_eq_getElem (by omega)) h3 fun b hb => k b (List.mem_cons_of_mem _ (List.mem_flatten.mpr ⟨_, List.getElem_mem (by omega), hb⟩))
theorem FA.ofz {τ : Type} [Py τ] {x : τ} (h : FA K F v (.fz x)) : rep K F v x := by
  cases h with
  | fz r => exact r
theorem FA.lst {ts : List OT} (h : FA K F v (.nd .lst ts)) : ∃ a vs, v = .ref a ∧ F a = some (.lst vs) ∧ vs.length = ts.length ∧ ∀ (i : Nat) v t, vs[i]? = some v → ts[i]? = some t → FA K F v t := by
  cases h with
  | nd hF ko l1 hc => cases (show _ = _ from ko); exact ⟨_, _, rfl, hF, l1, hc⟩
/-- data given by a tree -/
abbrev pyOf {τ : Type} (ot : τ → OT) : Py τ := ⟨fun K F v x => FA K F v (ot x), fun e h => h.mono e⟩
/-- the tree t, frozen, is x -/
def FzT (t : OT) {τ : Type} [Py τ] (x : τ) : Prop := ∀ {K : Fg} {F : Hp} {v : V}, FA K F v t → rep K F v x
theorem FzT.fz {τ : Type} [Py τ] {x : τ} : FzT (.fz x) x := fun h => h.ofz
/-- a list of things -/
def OT.li {τ : Type} (g : τ → OT) (xs : List τ) : OT := .nd .lst (xs.map g)
theorem FzT.li {τ υ : Type} [Py υ] {g : τ → OT} {h : τ → υ} {xs : List τ} (k : ∀ x, FzT (g x) (h x)) : FzT (OT.li g xs) (xs.map h) := fun {K F v} q => by
  obtain ⟨a, vs, rfl, h1, h2, h3⟩ := q.lst
  refine ⟨a, vs, rfl, h1, ?_⟩
  clear h1 q
  induction xs generalizing vs with
  | nil =>
    cases vs with
    | nil => exact .nil
    | cons => simp at h2
  | cons x r ih =>
    cases vs with
    | nil => simp at h2
    | cons v vs => exact .cons (k x (h3 0 v (g x) rfl rfl)) (ih vs (by simpa using h2) fun i v' t q1 q2 => h3 (i + 1) v' t (by simpa using q1) (by simpa using q2))
/-- a list of frozen things; a list of such -/
abbrev ol {τ : Type} [Py τ] (xs : List τ) : OT := OT.li (fun x : τ => .fz x) xs
theorem FzT.ol {τ : Type} [Py τ] {xs : List τ} : FzT (ol xs) xs := fun {K F v} h => by
  have := FzT.li (h := fun x : τ => x) (fun x => FzT.fz) h
  rwa [List.map_id'] at this
/-- data that leans on tuples alone -/
class PyTl (τ : Type) [Py τ] : Prop where
  tl : ∀ {K : Fg} {F F' : Hp} {v : V} {x : τ}, (∀ p vs, SqT K F p vs → SqT K F' p vs) → rep K F v x → rep K F' v x
instance : PyTl Int := ⟨fun _ h => h⟩
instance : PyTl Bool := ⟨fun _ h => h⟩
instance : PyTl Str := ⟨fun _ h => h⟩
instance : PyTl Unit := ⟨fun _ h => h⟩
instance {τ : Type} [Py τ] [PyTl τ] : PyTl (Option τ) := ⟨fun {K F F' v x} h r => by
  cases x with
  | none => exact r
  | some y => exact PyTl.tl (x := y) h r⟩
theorem Reps.tl {τ : Type} [Py τ] [PyTl τ] (h : ∀ p vs, SqT K F p vs → SqT K F' p vs) : ∀ {vs : List V} {xs : List τ}, Reps K F vs xs → Reps K F' vs xs
  | _, _, .nil => .nil
  | _, _, .cons r t => .cons (PyTl.tl h r) (Reps.tl h t)
instance {τ : Type} [Py τ] [PyTl τ] : PyTl (Tup τ) := ⟨fun h ⟨p, ws, e, h1, h2⟩ => ⟨p, ws, e, h _ _ h1, Reps.tl h h2⟩⟩
section
variable {α β γ δ ε : Type} [Py α] [Py β] [Py γ] [Py δ] [Py ε] [PyTl α] [PyTl β] [PyTl γ] [PyTl δ] [PyTl ε]
instance : PyTl (α × β) := ⟨fun h ⟨p, a, b, e, h1, h2, h3⟩ => ⟨p, a, b, e, h _ _ h1, PyTl.tl h h2, PyTl.tl h h3⟩⟩
instance : PyTl (T3 α β γ) := ⟨fun h ⟨p, a, b, c, e, h1, h2, h3, h4⟩ => ⟨p, a, b, c, e, h _ _ h1, PyTl.tl h h2, PyTl.tl h h3, PyTl.tl h h4⟩⟩
instance : PyTl (T4 α β γ δ) := ⟨fun h ⟨p, a, b, c, d, e, h1, h2, h3, h4, h5⟩ => ⟨p, a, b, c, d, e, h _ _ h1, PyTl.tl h h2, PyTl.tl h h3, PyTl.tl h h4, PyTl.tl h h5⟩⟩
instance : PyTl (T5 α β γ δ ε) := ⟨fun h ⟨p, a, b, c, d, q, e, h1, h2, h3, h4, h5, h6⟩ => ⟨p, a, b, c, d, q, e, h _ _ h1, PyTl.tl h h2, PyTl.tl h h3, PyTl.tl h h4, PyTl.tl h h5, PyTl.tl h h6⟩⟩
end
/-- a tree whose leaves lean on tuples alone -/
def OTl (t : OT) : Prop := ∀ {K : Fg} {F F' H : Hp} {v : V} {l : List Addr}, (∀ p vs, SqT K F p vs → SqT K F' p vs) → (∀ b ∈ l, F' b = none) → OA K F H v l t → OA K F' H v l t
theorem OTl.fz {τ : Type} [Py τ] [PyTl τ] {x : τ} : OTl (.fz x) := fun h _ q => by
  cases q with
  | fz r => exact .fz (PyTl.tl h r)
theorem OTl.nd {k : Kind} {ts : List OT} (q : ∀ t ∈ ts, OTl t) : OTl (.nd k ts) := fun h hl z => by
  obtain ⟨a, o, vs, fps, rfl, rfl, hF, hH, ko, hc, nd⟩ := z.l3
  refine OA.mk (hl a (by simp)) hH ko ⟨hc.1, hc.2.1, fun i v l t h1 h2 h3 => ?_⟩ nd
  exact q t (List.mem_of_getElem? h3) h (fun b hb => hl b (List.mem_cons_of_mem _ (List.mem_flatten.mpr ⟨l, List.mem_of_getElem? h2, hb⟩))) (hc.2.2 i v l t h1 h2 h3)
theorem OTl.li {τ : Type} {g : τ → OT} {xs : List τ} (k : ∀ x, OTl (g x)) : OTl (OT.li g xs) := OTl.nd fun t ht => by
  obtain ⟨x, _, rfl⟩ := List.mem_map.mp ht
  exact k x
theorem OTl.ol {τ : Type} [Py τ] [PyTl τ] {xs : List τ} : OTl (ol xs) := OTl.li fun _ => OTl.fz
def frz (F H : Hp) (l : List Addr) : Hp := fun b => if b ∈ l then H b else F b
theorem frz_in {b : Addr} (h : b ∈ l) : frz F H l b = H b := if_pos h
theorem frz_ni {b : Addr} (h : b ∉ l) : frz F H l b = F b := if_neg h
theorem Ex.frz (h : ∀ b ∈ l, F b = none) : Ex F (frz F H l) := fun b o hb => by
  rw [frz_ni]; exact hb
  intro q; rw [h b q] at hb; cases hb
theorem frz_sub (e : Ex F H) : Ex (frz F H l) H := fun b o hb => by
  by_cases q : b ∈ l
  · rwa [frz_in q] at hb
  · rw [frz_ni q] at hb; exact e _ _ hb
theorem EnvD.frz {c : Cw} {σ : L2.St} {Γ : List Slot} {fp : Nat → List Addr} (E : EnvD K c F H σ Γ fp) (h : ∀ b ∈ l, F b = none ∧ c.al b ∧ ∀ j, b ∉ fp j) : EnvD K c (frz F H l) H σ Γ fp := by
  have e : Ex F (Fw.frz F H l) := Ex.frz fun b hb => (h b hb).1
  refine ⟨⟨E.wd.f0.trans e, frz_sub E.wd.fh, E.wd.keep, fun b hb => ?_⟩, E.len, fun i s hs => ?_, E.dis, E.al, E.out⟩
  · by_cases q : b ∈ l
    · exact .inr (h b q).2.1
    · rw [frz_ni q] at hb; exact E.wd.new b hb
  · obtain ⟨v, q1, q2⟩ := E.ok i s hs
    refine ⟨v, q1, q2.grow e fun b hb => ⟨?_, rfl⟩⟩
    rw [frz_ni fun z => (h b z).2.2 i hb]
    exact (q2.dom b hb).1
/-- an owned slot is frozen -/
theorem EnvD.frzS {c : Cw} {σ : L2.St} {Γ : List Slot} {fp : Nat → List Addr} {oa : Option Addr} {i : Nat} {τ : Type} [Py τ] {x : τ} (E : EnvD K c F H σ Γ fp) (hi : Γ[i]? = some (.ow oa t)) (hf : FzT t x) :
    EnvD K c (Fw.frz F H (fp i)) H σ (Γ.set i (.fz x)) (fun j => if j = i then [] else fp j) := by
  obtain ⟨v, h1, h2, h3⟩ := E.geto hi
  have hil : i < Γ.length := (List.getElem?_eq_some_iff.mp hi).1
  have E1 := E.drop (i := i) (v := some v)
  have es : σ.set i (some v) = σ := by
    apply List.ext_getElem?
    intro j
    by_cases hj : j = i
    · subst hj
      rw [List.getElem?_set_self (by rw [E.len]; exact hil), h1]
    · rw [List.getElem?_set_ne (Ne.symm hj)]
  rw [es] at E1
  have E2 := E1.frz (l := fp i) fun b hb => ⟨(h2.dom b hb).1, E.al i b hb, fun j hj => by
    split at hj
    · cases hj
    · rename_i hne; exact hne (E.dis j i b hj hb)⟩
  have r : rep K (Fw.frz F H (fp i)) v x := hf (h2.fa (Ex.frz fun b hb => (h2.dom b hb).1) fun b hb => frz_in hb)
  have E3 := E2.set (i := i) r
  rw [es, List.set_set] at E3
  have ef : (fun j => if j = i then ([] : List Addr) else if j = i then [] else fp j) = (fun j => if j = i then [] else fp j) := by
    funext j; split <;> rfl
  rw [ef] at E3
  exact E3
/-- .. without some -/
def unfrz (F : Hp) (l : List Addr) : Hp := fun b => if b ∈ l then none else F b
theorem unfrz_in {b : Addr} (h : b ∈ l) : unfrz F l b = none := if_pos h
theorem unfrz_ni {b : Addr} (h : b ∉ l) : unfrz F l b = F b := if_neg h
theorem OA.nodes (h : OA K F H v l t) : ∀ b ∈ l, ∃ o k vs, H b = some o ∧ KO K k o vs := by
  induction h with
  | fz r => intro b hb; cases hb
  | hole => intro b hb; cases hb
  | nd fps hF hH ko l1 l2 hc nd ih =>
    intro b hb
    rcases List.mem_cons.mp hb with rfl | hb
    · exact ⟨_, _, _, hH, ko⟩
    · obtain ⟨l, hl, hb⟩ := List.mem_flatten.mp hb
      obtain ⟨i, hi⟩ := List.getElem?_of_mem hl
      have h0 : i < fps.length := (List.getElem?_eq_some_iff.mp hi).1
      exact ih i _ l _ (by rw [List.getElem?_eq_getElem (by omega)]) hi (by rw [List.getElem?_eq_getElem (by omega)]) b hb
theorem KO.nt {k : Kind} {o : HO} {vs ws : List V} (h : KO K k o vs) : o ≠ .tup ws ∧ ∀ z u, o ≠ .frz z u := by
  cases k with
  | lst => cases (show o = _ from h); exact ⟨by simp, by simp⟩
  | ins C ns => obtain ⟨_, _, dx, rfl⟩ := h; exact ⟨by simp, by simp⟩
  | dK ks => obtain ⟨_, rfl⟩ := h; exact ⟨by simp, by simp⟩
  | dT ks => obtain ⟨_, rfl⟩ := h; exact ⟨by simp, by simp⟩
theorem sqT_unfrz (h : ∀ b ∈ l, ∃ o k vs, F b = some o ∧ KO K k o vs) (p : Addr) (vs : List V) (q : SqT K F p vs) : SqT K (unfrz F l) p vs := by
  have key : ∀ u, F p = some u → (∀ k ws, ¬ KO K k u ws) → unfrz F l p = some u := fun u hu hn => by
    rw [unfrz_ni]; exact hu
    intro hp
    obtain ⟨o, k, ws, h1, h2⟩ := h p hp
    rw [hu] at h1; cases h1
    exact hn k ws h2
  rcases q with (q | ⟨o, q⟩) | q
  · exact .inl (.inl (key _ q fun k ws h => (h.nt (ws := vs)).1 rfl))
  · exact .inl (.inr ⟨o, key _ q fun k ws h => (h.nt (ws := vs)).2 _ _ rfl⟩)
  · exact .inr q
end
section
variable (X : Cx) (c : Cw) (Γ Γ' : List Slot)
def ENr (K : Fg) (c : Cw) (te : TE) (Γ : List Slot) (t : OT) : Prop :=
  ∀ F H σ fp, EnvD K c F H σ Γ fp → ∀ Q : VK, (∀ v F' H' l, EnvD K c F' H' σ Γ fp → Ex F F' → Nw F H F' H' → OA K F' H' v l t → (∀ b ∈ l, H b = none) → Q v H') → te σ H Q
/-- an expression makes the tree t, all new -/
def XN (e : Expr) (t : OT) : Prop := ∃ te, PE X e te ∧ ENr X.K c te Γ t
def EMr (K : Fg) (c : Cw) (te : TE) (Γ Γ' : List Slot) (s : Slot) : Prop :=
  ∀ F H σ fp, EnvD K c F H σ Γ fp → ∀ Q : VK, (∀ v F' H' fp' l, EnvD K c F' H' σ Γ' fp' → Ex F F' → s.ok K F' H' (some v) l → (∀ b ∈ l, c.al b ∧ ∀ j, b ∉ fp' j) → Q v H') → te σ H Q
/-- an expression that changes what is owned; its value is as s tells -/
def XM (e : Expr) (s : Slot) : Prop := ∃ te, PE X e te ∧ EMr X.K c te Γ Γ' s
end
section
variable {X : Cx} {c : Cw} {Γ Γ' : List Slot} {τ υ : Type} [Py τ] [Py υ] {e : Expr} {t u : OT} {x : τ} {pos : Pos}
theorem XE.n (h : XE X c Γ e x) : XN X c Γ e (.fz x) := by
  obtain ⟨te, h1, h2⟩ := h
  exact ⟨te, h1, fun F H σ fp E Q q => h2 F H σ fp E Q fun v F' H' E' e1 e2 r => q v F' H' [] E' e1 e2 (.fz r) (fun b hb => by cases hb)⟩
theorem XN.fr (h : XN X c Γ e t) (hf : FzT t x) : XE X c Γ e x := by
  obtain ⟨te, h1, h2⟩ := h
  refine ⟨te, h1, fun F H σ fp E Q q => h2 F H σ fp E Q fun v F' H' l E' e1 e2 r hl => ?_⟩
  have h0 : ∀ b ∈ l, F' b = none := fun b hb => (r.dom b hb).1
  refine q v (frz F' H' l) H' (E'.frz fun b hb => ⟨h0 b hb, E.wd.fresh (hl b hb), E.fresh (hl b hb)⟩) (e1.trans (Ex.frz h0)) ⟨e2.h, fun b hb => ?_⟩ (hf (r.fa (Ex.frz h0) fun b hb => frz_in hb))
  by_cases q : b ∈ l
  · exact .inr (hl b q)
  · rw [frz_ni q] at hb; exact e2.n b hb
theorem XN.eq {t' : OT} (h : XN X c Γ e t) (q : t = t') : XN X c Γ e t' := q ▸ h
theorem XN.m (h : XN X c Γ e t) : XM X c Γ Γ e (.ow none t) := by
  obtain ⟨te, h1, h2⟩ := h
  exact ⟨te, h1, fun F H σ fp E Q q => h2 F H σ fp E Q fun v F' H' l E' e1 e2 r hl => q v F' H' fp l E' e1 ⟨v, rfl, r, fun a ha => by cases ha⟩ fun b hb => ⟨E.wd.fresh (hl b hb), E.fresh (hl b hb)⟩⟩
theorem XE.m (h : XE X c Γ e x) : XM X c Γ Γ e (.fz x) := by
  obtain ⟨te, h1, h2⟩ := h
  exact ⟨te, h1, fun F H σ fp E Q q => h2 F H σ fp E Q fun v F' H' E' e1 e2 r => q v F' H' fp [] E' e1 ⟨rfl, v, rfl, r⟩ fun b hb => by cases hb⟩
/-- what is made over the slots Γt may be made over Γ -/
def Thaw (K : Fg) (c : Cw) (Γ Γt : List Slot) (t : OT) : Prop := ∀ te, ENr K c te Γt t → ENr K c te Γ t
theorem Thaw.id {K : Fg} : Thaw K c Γ Γ t := fun _ h => h
theorem Thaw.trans {K : Fg} {Γ'' : List Slot} (h : Thaw K c Γ Γ' t) (k : Thaw K c Γ' Γ'' t) : Thaw K c Γ Γ'' t := fun te q => h te (k te q)
theorem Thaw.one {K : Fg} (i : Nat) {oa : Option Addr} (hi : Γ[i]? = some (.ow oa u)) (hf : FzT u x) (ht : OTl t) : Thaw K c Γ (Γ.set i (.fz x)) t := by
  intro te h2 F H σ fp E Q q
  have E1 := E.frzS hi hf
  obtain ⟨v0, g1, g2, g3⟩ := E.geto hi
  refine h2 _ H σ _ E1 Q fun v F2 H2 l E2 e2 n2 r hl => ?_
  have hno : ∀ b ∈ fp i, F b = none := fun b hb => (g2.dom b hb).1
  have e3 : Ex F (unfrz F2 (fp i)) := fun b o hb => by
    rw [unfrz_ni fun z => by rw [hno b z] at hb; cases hb]
    exact e2 _ _ (Ex.frz hno _ _ hb)
  have e4 : Ex (unfrz F2 (fp i)) H2 := fun b o hb => by
    by_cases q : b ∈ fp i
    · rw [unfrz_in q] at hb; cases hb
    · rw [unfrz_ni q] at hb; exact E2.wd.fh _ _ hb
  have n3 : ∀ b, unfrz F2 (fp i) b ≠ none → F b ≠ none ∨ H b = none := fun b hb => by
    by_cases q : b ∈ fp i
    · rw [unfrz_in q] at hb; exact absurd rfl hb
    · rw [unfrz_ni q] at hb
      rcases n2.n b hb with z | z
      · rw [frz_ni q] at z; exact .inl z
      · exact .inr z
  refine q v (unfrz F2 (fp i)) H2 l (E.grow e3 e4 n2.h n3) e3 ⟨n2.h, n3⟩ (ht (fun p vs => sqT_unfrz (fun b hb => ?_) p vs) (fun b hb => ?_) r) hl
  · obtain ⟨o, k, ws, z1, z2⟩ := g2.nodes b hb
    exact ⟨o, k, ws, e2 _ _ (by rw [frz_in hb]; exact z1), z2⟩
  · by_cases q : b ∈ fp i
    · exact unfrz_in q
    · rw [unfrz_ni q]; exact (r.dom b hb).1
/-- a slot is frozen while an expression is read -/
theorem xn_thaw (i : Nat) {oa : Option Addr} (hi : Γ[i]? = some (.ow oa u)) (hf : FzT u x) (ht : OTl t) (h : XN X c (Γ.set i (.fz x)) e t) : XN X c Γ e t := by
  obtain ⟨te, h1, h2⟩ := h
  exact ⟨te, h1, Thaw.one i hi hf ht te h2⟩
theorem xe_thaw {y : υ} [PyTl υ] (i : Nat) {oa : Option Addr} (hi : Γ[i]? = some (.ow oa u)) (hf : FzT u x) (h : XE X c (Γ.set i (.fz x)) e y) : XE X c Γ e y :=
  (xn_thaw i hi hf OTl.fz h.n).fr FzT.fz
end
section
variable {X : Cx} {w : Wx} {c : Cw} {Γ Γ' : List Slot} {S S' B υ : Type} [Py υ] {R : Rc} {G : S → List Slot} {G' : S' → List Slot} {GB : B → List Slot} {o : Out S B R.ρ} {pos : Pos} {st : Stmt} {rest : List Stmt} {e d : Expr} {k : Bool} {s : Slot} {t : OT}
/-- a block begins by freezing a name for good -/
theorem xo_freeze {x : υ} (i : Nat) {oa : Option Addr} (hf : FzT t x) (h : XO X w c (Γ.set i (.fz x)) rest G GB o) (hi : Γ[i]? = some (.ow oa t) := by rfl) : XO X w c Γ rest G GB o := by
  obtain ⟨tt, h1, h2⟩ := h
  refine ⟨tt, h1, fun F H σ ⟨fp, E⟩ D q => ?_⟩
  obtain ⟨v0, g1, g2, g3⟩ := E.geto hi
  exact h2 _ H σ ⟨_, E.frzS hi hf⟩ D (OutOk.ex (o := o) q (Ex.frz fun b hb => (g2.dom b hb).1))
/-- x = e, e changes things -/
theorem xs_letM {σ' : Type} {y : S'} {Γ1 : S' → List Slot} {sl : S' → Slot} (i : Nat) {n : Str} {p : Pos} (hN : X.N.Nodup) (he : XM X c Γ (Γ1 y) e (sl y)) (hil : ∀ y, i < (Γ1 y).length) (hi : X.N[i]? = some n := by rfl) (hx : Loc X.env.scope n := by first | exact .inl rfl | exact .inr rfl) (hs : swapsWith e (some (.Name n p)) pos.line X.env = pure false := by rfl)
    (hf : X.fn n = true ∨ X.env.scope.names.lookup n = some .local := by first | exact .inl rfl | exact .inr rfl | assumption) : XS X w c Γ (.Assign [.Name n p] e pos) (fun y : S' => (Γ1 y).set i (sl y)) GB (Out.nx y : Out S' B R.ρ) := by
  obtain ⟨tt, h1, h2⟩ := he
  refine ⟨_, ps_set (i := i) hN hi hx h1 hs hf, fun F H σ ⟨fp, E⟩ D q => h2 F H σ fp E _ fun v F' H' fp' l E' e1 r hl => ?_⟩
  exact q _ F' H' ⟨_, E'.setO (hil y) r (fun b hb => (hl b hb).1) (fun j b _ hb => (hl b hb).2 j)⟩ e1
/-- x = a new thing -/
theorem xs_letN {α : Type} {x : α} (g : α → OT) (i : Nat) {n : Str} {p : Pos} (hN : X.N.Nodup) (he : XN X c Γ e (g x)) (hil : i < Γ.length := by exact Nat.le_of_ble_eq_true rfl) (hi : X.N[i]? = some n := by rfl) (hx : Loc X.env.scope n := by first | exact .inl rfl | exact .inr rfl) (hs : swapsWith e (some (.Name n p)) pos.line X.env = pure false := by rfl)
    (hf : X.fn n = true ∨ X.env.scope.names.lookup n = some .local := by first | exact .inl rfl | exact .inr rfl | assumption) : XS X w c Γ (.Assign [.Name n p] e pos) (fun y : α => Γ.set i (.ow none (g y))) GB (Out.nx x : Out α B R.ρ) :=
  xs_letM (σ' := Unit) (Γ1 := fun _ => Γ) (sl := fun y => .ow none (g y)) i hN he.m (fun _ => hil) hi hx hs hf
theorem xs_exprM {y : S'} {Γ1 : S' → List Slot} (he : XM X c Γ (Γ1 y) e s) (hs : swapsWith e none pos.line X.env = pure false := by rfl) : XS X w c Γ (.Expr e pos) Γ1 GB (Out.nx y : Out S' B R.ρ) := by
  obtain ⟨tt, h1, h2⟩ := he
  exact ⟨_, ps_expr h1 hs, fun F H σ ⟨fp, E⟩ D q => h2 F H σ fp E _ fun v F' H' fp' l E' e1 r hl => q _ F' H' ⟨fp', E'⟩ e1⟩
/-- return e -/
theorem xs_retM {r : R.ρ} (he : XM X c Γ Γ' e s) (hw : R.RG r Γ') (hv : R.RS r = s) (hx : R.xn r = none) : XS X w c Γ (.Return (some e) pos) G GB (Out.rt r : Out S B R.ρ) := by
  obtain ⟨tt, h1, h2⟩ := he
  exact ⟨_, ps_ret h1, fun F H σ ⟨fp, E⟩ D q => h2 F H σ fp E _ fun v F' H' fp' l E' e1 rr hl => q.1 hx v σ F' H' _ fp' l E' e1 hw (by rw [hv]; exact rr) hl⟩
/-- an owned name as a value: it is given away -/
theorem xm_give (i : Nat) {n : Str} {p : Pos} {oa : Option Addr} (hi : Γ[i]? = some (.ow oa t) := by rfl) (hN : X.N[i]? = some n := by rfl) (hv : Vis X.env.scope n := by first | exact Or.inl rfl | exact Or.inr (Or.inl rfl) | exact Or.inr (Or.inr rfl))
    (hd : (n == ("__debug__" : Str)) = false := by decide) (hcd : (n == ("__classdict__" : Str)) = false := by decide) : XM X c Γ (Γ.set i .no) (.Name n p) (.ow none t) :=
  ⟨_, pe_var (i := i) hN hv hd hcd, fun F H σ fp E Q q => by
    obtain ⟨v, g1, g2, g3⟩ := E.geto hi
    have hil : i < Γ.length := (List.getElem?_eq_some_iff.mp hi).1
    have E1 := E.drop (i := i) (v := some v)
    have es : σ.set i (some v) = σ := by
      apply List.ext_getElem?
      intro j
      by_cases hj : j = i
      · subst hj
        rw [List.getElem?_set_self (by rw [E.len]; exact hil), g1]
      · rw [List.getElem?_set_ne (Ne.symm hj)]
    rw [es] at E1
    refine ⟨v, g1, q v F H _ (fp i) E1 (Ex.refl _) ⟨v, rfl, g2, fun a ha => by cases ha⟩ fun b hb => ⟨E.al i b hb, fun j hj => ?_⟩⟩
    split at hj
    · cases hj
    · rename_i hne; exact hne (E.dis j i b hj hb)⟩
end
end Fw
namespace Fw
open PySem L2 Py PyProof.Rows
def wipeS (Γ : List Slot) : List Nat → List Slot
  | [] => Γ
  | v :: vs => (wipeS Γ vs).set v .no
theorem EnvD.wipe {K : Fg} {c : Cw} {F H : Hp} {σ : L2.St} {Γ : List Slot} {fp : Nat → List Addr} (E : EnvD K c F H σ Γ fp) : ∀ vs : List Nat, ∃ fp', EnvD K c F H (L2.wipe σ vs) (wipeS Γ vs) fp' ∧ ∀ j b, b ∈ fp' j → b ∈ fp j
  | [] => ⟨fp, E, fun _ _ h => h⟩
  | v :: vs => by
    obtain ⟨fp1, E1, h1⟩ := EnvD.wipe E vs
    refine ⟨_, E1.drop (i := v) (v := none), fun j b hb => ?_⟩
    split at hb
    · cases hb
    · exact h1 j b hb
theorem wipe_get (σ : L2.St) : ∀ (vs : List Nat) (j : Nat), j < σ.length → (L2.wipe σ vs)[j]? = if j ∈ vs then some none else σ[j]?
  | [], j, h => by simp [L2.wipe]
  | v :: vs, j, h => by
    show ((L2.wipe σ vs).set v none)[j]? = _
    by_cases hj : j = v
    · subst hj
      rw [List.getElem?_set_self (by rw [wipe_length]; exact h), if_pos (by simp)]
    · rw [List.getElem?_set_ne (Ne.symm hj), wipe_get σ vs j h]
      by_cases hm : j ∈ vs
      · rw [if_pos hm, if_pos (by simp [hm])]
      · rw [if_neg hm, if_neg (by simp [hm, hj])]
theorem wipe_sm {σ σ2 : L2.St} {ws vs : List Nat} (h : Sm ws (L2.wipe σ vs) σ2) (hs : ∀ w ∈ ws, w ∈ vs) : L2.wipe σ2 vs = L2.wipe σ vs := by
  have hl : σ2.length = σ.length := by rw [h.1, wipe_length]
  apply List.ext_getElem?
  intro j
  by_cases hj : j < σ.length
  · rw [wipe_get σ2 vs j (by omega), wipe_get σ vs j hj]
    by_cases hm : j ∈ vs
    · rw [if_pos hm, if_pos hm]
    · rw [if_neg hm, if_neg hm, h.2 j (fun q => hm (hs j q)), wipe_get σ vs j hj, if_neg hm]
  · rw [List.getElem?_eq_none (by rw [wipe_length]; omega), List.getElem?_eq_none (by rw [wipe_length]; omega)]
theorem EnvD.mutD {K : Fg} {c : Cw} {F H : Hp} {σ : L2.St} {Γ : List Slot} {fp : Nat → List Addr} {D : Addr} {o : HO} (E : EnvD K c F H σ Γ fp) (hF : F D = none) (hD : ∀ j, D ∉ fp j) (ha : c.al D) : EnvD K c F (upd H D o) σ Γ fp := by
  refine ⟨⟨E.wd.f0, E.wd.fh.upd hF, fun b u hb h => ?_, E.wd.new⟩, E.len, fun j s hj => ?_, E.dis, E.al, E.out⟩
  · by_cases hba : b = D
    · subst hba
      rcases ha with z | z
      · exact absurd z hb
      · rw [z] at h; cases h
    · rw [upd_ne hba]; exact E.wd.keep b u hb h
  · obtain ⟨v, q1, q2⟩ := E.ok j s hj
    refine ⟨v, q1, q2.grow (Ex.refl _) fun b hb => ⟨(q2.dom b hb).1, ?_⟩⟩
    rw [upd_ne]
    rintro rfl
    exact hD j hb
section
variable {X : Cx} {c : Cw} {Γ Γ' : List Slot} {τ υ ζ : Type} [Py τ] [Py υ] [Py ζ] {a b d e : Expr} {es : List Expr} {x : τ} {y : υ} {z : ζ} {pos : Pos}
/-- within a comprehension's block -/
structure Bq where
  s : Shared
  H : Hp
  C : Addr
  cl : List (Str × Addr)
  fp : List Addr
abbrev Bk (X : Cx) (scope : Scope) (q : Bq) : Cx := X.blk q.s q.H scope (compEnvC scope q.cl q.C X.env) q.fp
theorem Nw.updD {F H F' H' : Hp} {D : Addr} {o : HO} (n : Nw F H F' H') (h : H D = none) : Nw F H F' (upd H' D o) := ⟨n.h.upd h, n.n⟩
theorem Nw.none {F H F' H' : Hp} {D : Addr} (n : Nw F H F' H') (h : F D = none) (h2 : H D ≠ none) : F' D = none := by
  cases q : F' D with
  | none => rfl
  | some o =>
    rcases n.n D (by rw [q]; simp) with z | z
    · exact absurd h z
    · exact absurd z h2
/-- the list of a comprehension, whatever it keeps -/
theorem xn_lcG {elt tg it : Expr} {ifs : List Expr} {scope : Scope} {ws : List Nat} {xs : List υ} {up : List Slot → υ → List Slot} {g : υ → OT} {p : υ → Bool} (own : List (Str × Nat)) (hN : X.N.Nodup) (hi : XI X c Γ tg it xs) (hl : xs.length ≤ 100000)
    (hg : ∀ q : Bq, XG (Bk X scope q) c tg ws up)
    (kt : ∃ tt, (∀ q : Bq, PTs (Bk X scope q) ifs tt) ∧ ∀ (i : Nat) y, xs[i]? = some y → ETr X.K c tt (up (wipeS Γ (own.map (·.2))) y) (p y))
    (he : ∀ (i : Nat) y, xs[i]? = some y → p y = true → ∀ q : Bq, XN (Bk X scope q) c (up (wipeS Γ (own.map (·.2))) y) elt (g y))
    (ok : blkC X.N X.env.scope scope own = true) (hws : ∀ w ∈ ws, w ∈ own.map (·.2)) (hc : X.calm = true) (hs : ∀ x, foldedSetIterable it X.env x = pure x) :
    ∃ wi tgr tt te, PI X tg it wi ∧ (∀ q : Bq, PG (Bk X scope q) tg tgr) ∧ (∀ q : Bq, PTs (Bk X scope q) ifs tt) ∧ (∀ q : Bq, PE (Bk X scope q) elt te) ∧
      ENr X.K c (tLc wi tgr tt te (own.map (·.2))) Γ (OT.li g (xs.filter p)) := by
  obtain ⟨wi, i1, i2⟩ := hi
  have kg : ∃ tg', (∀ q : Bq, PG (Bk X scope q) tg tg') ∧ ∀ F1 H1 σ fpE v Γ1 (y : υ), EnvD X.K c F1 H1 σ Γ1 fpE → rep X.K F1 v y → ∀ Q : L2.St → Hp → Prop, (∀ σ' fp', EnvD X.K c F1 H1 σ' (up Γ1 y) fp' → (∀ j b, b ∈ fp' j → b ∈ fpE j) → Sm ws σ σ' → Q σ' H1) → tg' v σ H1 Q := by
    refine ⟨fun v σ H1 Q => ∀ q : Bq, ∃ t, PG (Bk X scope q) tg t ∧ t v σ H1 Q, fun q => ⟨?_⟩, fun F1 H1 σ fpE v Γ1 y E r Q q b => ?_⟩
    · intros
      rename_i h
      obtain ⟨t, h1, h2⟩ := h q
      apply h1.run <;> assumption
    · obtain ⟨t, h1, h2⟩ := hg b
      exact ⟨t, h1, h2 F1 H1 σ fpE v Γ1 y E r Q q⟩
  obtain ⟨tgr, g1, g2⟩ := kg
  obtain ⟨tt, t1, t2⟩ := kt
  have ke : ∃ te, (∀ q : Bq, PE (Bk X scope q) elt te) ∧ ∀ (i : Nat) y, xs[i]? = some y → p y = true → ENr X.K c te (up (wipeS Γ (own.map (·.2))) y) (g y) := by
    refine ⟨fun σ H1 Q => ∀ q : Bq, ∃ t, PE (Bk X scope q) elt t ∧ t σ H1 Q, fun q => ⟨fun pins s1 σ H1 Q I h => ?_⟩, fun i y hx hy F1 H1 σ fpE E Q q b => ?_⟩
    · obtain ⟨t, h1, h2⟩ := h q
      exact h1.run pins s1 σ H1 Q I h2
    · obtain ⟨t, h1, h2⟩ := he i y hx hy b
      exact ⟨t, h1, h2 F1 H1 σ fpE E Q q⟩
  obtain ⟨te, e1, e2⟩ := ke
  refine ⟨wi, tgr, tt, te, i1, g1, t1, e1, fun F H σ fp E Q q => i2 F H σ fp E _ fun J F1 H1 E1 x1 n1 wk D hD => ?_⟩
  obtain ⟨GG, Y, w1, w2, w3⟩ := wk
  have hDf : F1 D = none := E1.ff hD
  have hal : c.al D := E1.wd.fresh hD
  have hDH : H D = none := by
    cases z : H D with
    | none => rfl
    | some o => rw [n1.h _ _ z] at hD; cases hD
  have hDfp : ∀ j, D ∉ fp j := fun j => E1.fresh hD j
  refine lc_it w1 (fun i H' => ∃ F' vs fps, Ex F1 F' ∧ Nw F1 H1 F' H' ∧ EnvD X.K c F' H' σ Γ fp ∧ F' D = none ∧ H' D = some (.lst vs) ∧ vs.length ≤ i ∧ L3 (OA X.K F' H') vs fps (((xs.take i).filter p).map g) ∧ (D :: fps.flatten).Nodup ∧ (∀ b ∈ fps.flatten, H1 b = none))
    ⟨F1, [], [], Ex.refl _, Nw.refl.updD hD, E1.mutD hDf hDfp hal, hDf, upd_same, Nat.le_refl _, .nil, by simp, by simp⟩ ?_ ?_ ?_
  · rintro i H' hi ⟨F', vs, fps, y1, y2, y3, _⟩
    exact w2 F' H' y1 y3.wd.fh
  · rintro i v Ha Hb hi ⟨F', vs, fps, y1, y2, y3, y4, y5, yl, y6, y7, y8⟩ hy
    have hx : xs[i]? = some xs[i] := by simp [hi]
    have htake : xs.take (i + 1) = xs.take i ++ [xs[i]] := by rw [List.take_succ_eq_append_getElem hi]
    obtain ⟨F2, z1, z2, z3, z4, z5⟩ := w3 i F' Ha v Hb xs[i] y1 y3.wd.fh hy hx
    have E2 := y3.grow z1 z2 z3 z4
    have n2 : Nw F1 H1 F2 Hb := y2.trans ⟨z3, z4⟩
    have nD2 : F2 D = none := Nw.none ⟨z3, z4⟩ y4 (by rw [y5]; simp)
    have b5 : Hb D = some (.lst vs) := z3 _ _ y5
    obtain ⟨fw2, Ew2, hfw2⟩ := E2.wipe (own.map (·.2))
    refine g2 F2 Hb _ fw2 v _ xs[i] Ew2 z5 _ fun σ2 fp2 E3 hfp2 sm => ⟨wipe_sm sm hws, ?_⟩
    have hD2 : ∀ j, D ∉ fp2 j := fun j hj => hDfp j (hfw2 _ _ (hfp2 _ _ hj))
    refine t2 i xs[i] hx F2 Hb σ2 fp2 E3 _ fun F3 H3 E4 x4 n4 => ?_
    have nD3 : F3 D = none := n4.none nD2 (by rw [b5]; simp)
    -- the frame's own slots over the grown heaps
    have E23 : EnvD X.K c F3 H3 σ Γ fp := E2.grow x4 E4.wd.fh n4.h n4.n
    -- the parts made so far over them
    have part : ∀ {Fa Ha' Fb Hb' : Hp} {us : List V} {gs : List (List Addr)} {ts : List OT}, L3 (OA X.K Fa Ha') us gs ts → Ex Fa Fb → Nw Fa Ha' Fb Hb' → L3 (OA X.K Fb Hb') us gs ts := fun r e n => r.imp fun v l t _ o => o.grow e fun b hb => by
      obtain ⟨d1, u, d2⟩ := o.dom b hb
      exact ⟨Nw.none n d1 (by rw [d2]; simp), (n.h _ _ d2).trans d2.symm⟩
    have y6' := part (part y6 z1 ⟨z3, z4⟩) x4 n4
    by_cases hpy : p xs[i] = true
    · rw [if_pos hpy]
      refine e2 i xs[i] hx hpy F3 H3 σ2 fp2 E4 _ fun u F4 H4 l E5 x5 n5 r5 hl5 => ?_
      have c5 : H4 D = some (.lst vs) := n5.h _ _ (n4.h _ _ b5)
      have nD4 : F4 D = none := n5.none nD3 (by rw [n4.h _ _ b5]; simp)
      have hz : i < 100000 := by omega
      have ez : (100000 : Nat) ≤ sizeLine := by decide
      have y6'' := part y6' x5 n5
      have Dl : D ∉ l := fun h => by have := hl5 D h; rw [n4.h _ _ b5] at this; cases this
      have hH1 : ∀ b ∈ l, H1 b = none := fun b hb => by
        cases z : H1 b with
        | none => rfl
        | some o =>
          have := hl5 b hb
          rw [(n2.trans n4).h _ _ z] at this; cases this
      have ll : ∀ b ∈ fps.flatten, b ∉ l := fun b hb h => by
        obtain ⟨m, hm, hbm⟩ := List.mem_flatten.mp hb
        obtain ⟨j, hj⟩ := List.getElem?_of_mem hm
        have hj2 : j < fps.length := (List.getElem?_eq_some_iff.mp hj).1
        have k1 : j < vs.length := by rw [y6'.1, ← y6'.2.1]; exact hj2
        have k2 : j < (((xs.take i).filter p).map g).length := by rw [← y6'.2.1]; exact hj2
        have o := y6'.2.2 j _ m _ (List.getElem?_eq_getElem k1) hj (List.getElem?_eq_getElem k2)
        obtain ⟨_, w, d⟩ := o.dom b hbm
        rw [hl5 b h] at d; cases d
      have nd' : (D :: (fps ++ [l]).flatten).Nodup := by
        rw [List.flatten_append, List.flatten_cons, List.flatten_nil, List.append_nil]
        rw [List.nodup_cons] at y7 ⊢
        refine ⟨fun h => ?_, List.nodup_append.mpr ⟨y7.2, r5.nodup, fun b hb c hc e => ll b hb (e ▸ hc)⟩⟩
        rcases List.mem_append.mp h with h | h
        · exact y7.1 h
        · exact Dl h
      have up1 : ∀ {us : List V} {gs : List (List Addr)} {ts : List OT} {o : HO}, L3 (OA X.K F4 H4) us gs ts → D ∉ gs.flatten → L3 (OA X.K F4 (upd H4 D o)) us gs ts := fun r hn => r.imp fun v m t hm oo => oo.grow (Ex.refl _) fun b hb => ⟨(oo.dom b hb).1, upd_ne (by rintro rfl; exact hn (List.mem_flatten.mpr ⟨m, hm, hb⟩))⟩
      refine ⟨vs, c5, by omega, F4, vs ++ [u], fps ++ [l], ((y1.trans z1).trans x4).trans x5, ((n2.trans n4).trans n5).updD hD, (E23.grow x5 E5.wd.fh n5.h n5.n).mutD nD4 hDfp hal, nD4, upd_same, by simp; omega, ?_, nd', ?_⟩
      · rw [htake, List.filter_append, List.map_append, List.filter_cons_of_pos hpy, List.filter_nil]
        exact up1 (y6''.app (.cons r5 .nil)) (List.nodup_cons.mp nd').1
      · intro b hb
        rw [List.flatten_append, List.flatten_cons, List.flatten_nil, List.append_nil] at hb
        rcases List.mem_append.mp hb with h | h
        · exact y8 b h
        · exact hH1 b h
    · rw [if_neg hpy]
      refine ⟨F3, vs, fps, (y1.trans z1).trans x4, n2.trans n4, E23, nD3, n4.h _ _ b5, by omega, ?_, y7, y8⟩
      rw [htake, List.filter_append, List.map_append, List.filter_cons_of_neg hpy, List.filter_nil]
      simpa using y6'
  · rintro H' ⟨F', vs, fps, y1, y2, y3, y4, y5, _, y6, y7, y8⟩
    rw [List.take_length] at y6
    refine q (.ref D) F' H' (D :: fps.flatten) y3 (x1.trans y1) (n1.trans y2) (OA.mk y4 y5 rfl y6 y7) fun b hb => ?_
    rcases List.mem_cons.mp hb with rfl | hb
    · exact hDH
    · cases z : H b with
      | none => rfl
      | some o => have := y8 b hb; rw [n1.h _ _ z] at this; cases this
theorem kt_no {scope : Scope} {vs : List Nat} {xs : List υ} {up : List Slot → υ → List Slot} : ∃ tt, (∀ q : Bq, PTs (Bk X scope q) [] tt) ∧ ∀ (i : Nat) y, xs[i]? = some y → ETr X.K c tt (up (wipeS Γ vs) y) ((fun _ => true) y) :=
  ⟨tYes, fun _ => pts_nil, fun _ _ _ F H σ fp E Q q => q F H E (Ex.refl _) Nw.refl⟩
theorem kt_one {scope : Scope} {cond : Expr} {vs : List Nat} {xs : List υ} {p : υ → Bool} {up : List Slot → υ → List Slot} (hp : ∀ (i : Nat) y, xs[i]? = some y → ∀ q : Bq, XT (Bk X scope q) c (up (wipeS Γ vs) y) cond (p y)) :
    ∃ tt, (∀ q : Bq, PTs (Bk X scope q) [cond] tt) ∧ ∀ (i : Nat) y, xs[i]? = some y → ETr X.K c tt (up (wipeS Γ vs) y) (p y) := by
  refine ⟨fun σ H1 Q => ∀ q : Bq, ∃ t, PT (Bk X scope q) cond t ∧ t σ H1 Q, fun q => pts_one ⟨fun pins s1 σ H1 Q I h => ?_⟩, fun i y hx F1 H1 σ fpE E Q q b => ?_⟩
  · obtain ⟨t, h1, h2⟩ := h q
    exact h1.run pins s1 σ H1 Q I h2
  · obtain ⟨t, h1, h2⟩ := hp i y hx b
    exact ⟨t, h1, h2 F1 H1 σ fpE E Q q⟩
/-- [elt for tg in it], new -/
theorem xn_lc {elt tg it : Expr} {scope : Scope} {ws : List Nat} {xs : List υ} {up : List Slot → υ → List Slot} {g : υ → OT} (own : List (Str × Nat)) (hN : X.N.Nodup) (hi : XI X c Γ tg it xs) (hl : xs.length ≤ 100000)
    (hg : ∀ q : Bq, XG (Bk X scope q) c tg ws up)
    (he : ∀ y ∈ xs, ∀ q : Bq, XN (Bk X scope q) c (up (wipeS Γ (own.map (·.2))) y) elt (g y))
    (ok : blkC X.N X.env.scope scope own = true := by decide +kernel) (hws : ∀ w ∈ ws, w ∈ own.map (·.2) := by decide) (hc : X.calm = true := by rfl) (hs : ∀ x, foldedSetIterable it X.env x = pure x := by intro _; rfl) :
    XN X c Γ (.ListComp elt [⟨tg, it, [], 0⟩] scope pos) (OT.li g xs) := by
  obtain ⟨wi, tgr, tt, te, i1, g1, t1, e1, h⟩ := xn_lcG (p := fun _ => true) own hN hi hl hg kt_no (fun i y hx _ => he y (List.mem_of_getElem? hx)) ok hws hc hs
  rw [show xs.filter (fun _ => true) = xs from List.filter_eq_self.mpr fun _ _ => rfl] at h
  exact ⟨_, pe_lc (own := own) hc hN i1 (blkOk_by ok) (fun s H C cl fp => g1 ⟨s, H, C, cl, fp⟩) (fun s H C cl fp => t1 ⟨s, H, C, cl, fp⟩) (fun s H C cl fp => e1 ⟨s, H, C, cl, fp⟩) hs, h⟩
/-- [elt for tg in it if cond], new -/
theorem xn_lcif {elt tg it cond : Expr} {scope : Scope} {ws : List Nat} {xs : List υ} {up : List Slot → υ → List Slot} {g : υ → OT} {p : υ → Bool} (own : List (Str × Nat)) (hN : X.N.Nodup) (hi : XI X c Γ tg it xs) (hl : xs.length ≤ 100000)
    (hg : ∀ q : Bq, XG (Bk X scope q) c tg ws up)
    (hp : ∀ y ∈ xs, ∀ q : Bq, XT (Bk X scope q) c (up (wipeS Γ (own.map (·.2))) y) cond (p y))
    (he : ∀ y ∈ xs, p y = true → ∀ q : Bq, XN (Bk X scope q) c (up (wipeS Γ (own.map (·.2))) y) elt (g y))
    (ok : blkC X.N X.env.scope scope own = true := by decide +kernel) (hws : ∀ w ∈ ws, w ∈ own.map (·.2) := by decide) (hc : X.calm = true := by rfl) (hs : ∀ x, foldedSetIterable it X.env x = pure x := by intro _; rfl) :
    XN X c Γ (.ListComp elt [⟨tg, it, [cond], 0⟩] scope pos) (OT.li g (xs.filter p)) := by
  obtain ⟨wi, tgr, tt, te, i1, g1, t1, e1, h⟩ := xn_lcG (p := p) own hN hi hl hg (kt_one fun i y hx => hp y (List.mem_of_getElem? hx)) (fun i y hx => he y (List.mem_of_getElem? hx)) ok hws hc hs
  exact ⟨_, pe_lc (own := own) hc hN i1 (blkOk_by ok) (fun s H C cl fp => g1 ⟨s, H, C, cl, fp⟩) (fun s H C cl fp => t1 ⟨s, H, C, cl, fp⟩) (fun s H C cl fp => e1 ⟨s, H, C, cl, fp⟩) hs, h⟩
end
section
variable {X : Cx} {w : Wx} {c : Cw} {Γ Γ' : List Slot} {S B υ : Type} [Py υ] {R : Rc} {GB : B → List Slot} {pos : Pos}
/-- y = [elt for tg in it if cond] -/
theorem EnvD.setN {F H : Hp} {K : Fg} {σ : L2.St} {fp : Nat → List Addr} {F' H' : Hp} {v : V} {l : List Addr} {t : OT} {i : Nat} (E : EnvD K c F H σ Γ fp) (E' : EnvD K c F' H' σ Γ fp) (hil : i < Γ.length) (r : OA K F' H' v l t) (hl : ∀ b ∈ l, H b = none) :
    Env K c F' H' (σ.set i (some v)) (Γ.set i (.ow none t)) := ⟨_, E'.setO hil ⟨v, rfl, r, fun a ha => by cases ha⟩ (fun b hb => E.wd.fresh (hl b hb)) (fun j b _ hb => E.fresh (hl b hb) j)⟩
theorem xs_lcN {elt tg it : Expr} {scope : Scope} {spos : Pos} {ws : List Nat} {xs : List υ} {up : List Slot → υ → List Slot} {g : υ → OT} {α : Type} {ys : α} {Γt : List Slot} (gg : α → OT) (i : Nat) {y : Str} {py : Pos} (own : List (Str × Nat)) (hN : X.N.Nodup) (hi : XI X c Γt tg it xs) (hl : xs.length ≤ 100000)
    (hg : ∀ q : Bq, XG (Bk X scope q) c tg ws up)
    (he : ∀ y ∈ xs, ∀ q : Bq, XN (Bk X scope q) c (up (wipeS Γt (own.map (·.2))) y) elt (g y)) (hgg : OT.li g xs = gg ys) (th : Thaw X.K c Γ Γt (gg ys) := by exact Thaw.id) (hil : i < Γ.length := by exact Nat.le_of_ble_eq_true rfl)
    (hy : X.N[i]? = some y := by rfl) (hyl : X.env.scope.names.lookup y = some .local := by rfl) (hsw : swapsWith (.ListComp elt [⟨tg, it, [], 0⟩] scope pos) (some (.Name y py)) spos.line X.env = pure true := by exact sw_true rfl rfl rfl (by decide +kernel))
    (ok : blkC X.N X.env.scope scope own = true := by decide +kernel) (hws : ∀ w ∈ ws, w ∈ own.map (·.2) := by decide) (hc : X.calm = true := by rfl) (hs : ∀ x, foldedSetIterable it X.env x = pure x := by intro _; rfl) :
    XS X w c Γ (.Assign [.Name y py] (.ListComp elt [⟨tg, it, [], 0⟩] scope pos) spos) (fun x : α => Γ.set i (.ow none (gg x))) GB (Out.nx ys : Out α B R.ρ) := by
  obtain ⟨wi, tgr, tt, te, i1, g1, t1, e1, h⟩ := xn_lcG (p := fun _ => true) own hN hi hl hg kt_no (fun i y hx _ => he y (List.mem_of_getElem? hx)) ok hws hc hs
  rw [show xs.filter (fun _ => true) = xs from List.filter_eq_self.mpr fun _ _ => rfl, hgg] at h
  exact ⟨_, ps_setLc (own := own) (i := i) hc hN hy hyl hsw i1 (blkOk_by ok) (fun s H C cl fp => g1 ⟨s, H, C, cl, fp⟩) (fun s H C cl fp => t1 ⟨s, H, C, cl, fp⟩) (fun s H C cl fp => e1 ⟨s, H, C, cl, fp⟩) hs,
    fun F H σ ⟨fp, E⟩ D q => th _ h F H σ fp E _ fun v F' H' l E' e1 _ r hl => q _ F' H' (E.setN E' hil r hl) e1⟩
end
end Fw
namespace Fw
open PySem L2 Py PyProof.Rows
section
variable {X : Cx} {c : Cw} {Γ Γ' : List Slot} {τ υ ζ : Type} [Py τ] [Py υ] [Py ζ] {a b d e : Expr} {es : List Expr} {x : τ} {y : υ} {z : ζ} {pos : Pos}
variable {i j k : Int} {p q : Int → Int → Bool} {o1 o2 : CmpOp}
theorem xt_chain (ho : OpR X (compareOp o1) (rI0 fun i j => .bl (p i j))) (ho' : OpR X (compareOp o2) (rI0 fun i j => .bl (q i j))) (ha : XE X c Γ a i) (hb : XE X c Γ b j) (hc : p i j = true → XE X c Γ d k)
    (hm : lastMarks [o1, o2] [b, d] = false := by with_unfolding_all rfl) : XT X c Γ (.Compare a [o1, o2] [b, d] pos) (p i j && q j k) := by
  obtain ⟨ta, a1, a2⟩ := ha
  obtain ⟨tb, b1, b2⟩ := hb
  cases hp : p i j with
  | true =>
    obtain ⟨tc, c1, c2⟩ := hc hp
    refine ⟨_, pt_chain ho ho' a1 b1 c1 hm, fun F H σ fp E Q k => ?_⟩
    refine a2 F H σ fp E _ fun u F1 H1 E1 e1 g1 r1 => b2 F1 H1 σ fp E1 _ fun v F2 H2 E2 e2 g2 r2 => ⟨i, j, r1, r2, true, by dsimp only; rw [hp], ?_⟩
    rw [if_pos rfl]
    refine c2 F2 H2 σ fp E2 _ fun w F3 H3 E3 e3 g3 r3 => ⟨j, _, r2, r3, ?_⟩
    exact ⟨_, rfl, k F3 H3 E3 ((e1.trans e2).trans e3) ((g1.trans g2).trans g3)⟩
  | false =>
    refine ⟨_, pt_chain (tc := fun _ _ _ => False) ho ho' a1 b1 ⟨fun _ _ _ _ _ _ (h : False) => h.elim⟩ hm, fun F H σ fp E Q k => ?_⟩
    refine a2 F H σ fp E _ fun u F1 H1 E1 e1 g1 r1 => b2 F1 H1 σ fp E1 _ fun v F2 H2 E2 e2 g2 r2 => ⟨i, j, r1, r2, false, by dsimp only; rw [hp], ?_⟩
    rw [if_neg Bool.false_ne_true]
    exact ⟨_, rfl, k F2 H2 E2 (e1.trans e2) (g1.trans g2)⟩
end
inductive Dy where
  | non
  | bl (b : Bool)
  | int (i : Int)
  | str (s : Str)
  | lst (l : List Dy)
  | tup (l : List Dy)
  | emp
mutual
def Dy.rep (K : Fg) (F : Hp) : Dy → V → Prop
  | .non, v => v = .non
  | .bl b, v => v = .bl b
  | .int i, v => v = .int i
  | .str s, v => v = .str s
  | .lst l, v => ∃ a vs, v = .ref a ∧ F a = some (.lst vs) ∧ Dy.reps K F l vs
  | .tup l, v => ∃ a vs, v = .ref a ∧ SqT K F a vs ∧ Dy.reps K F l vs
  | .emp, v => ∃ a, v = .ref a ∧ F a = some (.dK [])
def Dy.reps (K : Fg) (F : Hp) : List Dy → List V → Prop
  | [], vs => vs = []
  | d :: r, vs => ∃ u us, vs = u :: us ∧ Dy.rep K F d u ∧ Dy.reps K F r us
end
mutual
theorem Dy.rep_mono {K : Fg} {F F' : Hp} (e : Ex F F') : ∀ (d : Dy) (v : V), Dy.rep K F d v → Dy.rep K F' d v
  | .non, v, h => by unfold Dy.rep at *; exact h
  | .bl b, v, h => by unfold Dy.rep at *; exact h
  | .int b, v, h => by unfold Dy.rep at *; exact h
  | .str b, v, h => by unfold Dy.rep at *; exact h
  | .lst l, v, h => by
    unfold Dy.rep at *
    obtain ⟨a, vs, h1, h2, h3⟩ := h
    exact ⟨a, vs, h1, e _ _ h2, Dy.reps_mono e l vs h3⟩
  | .tup l, v, h => by
    unfold Dy.rep at *
    obtain ⟨a, vs, h1, h2, h3⟩ := h
    exact ⟨a, vs, h1, e.t h2, Dy.reps_mono e l vs h3⟩
  | .emp, v, h => by
    unfold Dy.rep at *
    obtain ⟨a, h1, h2⟩ := h
    exact ⟨a, h1, e _ _ h2⟩
theorem Dy.reps_mono {K : Fg} {F F' : Hp} (e : Ex F F') : ∀ (l : List Dy) (vs : List V), Dy.reps K F l vs → Dy.reps K F' l vs
  | [], vs, h => by unfold Dy.reps at *; exact h
  | d :: r, vs, h => by
    unfold Dy.reps at *
    obtain ⟨u, us, h1, h2, h3⟩ := h
    exact ⟨u, us, h1, Dy.rep_mono e d u h2, Dy.reps_mono e r us h3⟩
end
instance : Py Dy := ⟨fun K F v d => Dy.rep K F d v, fun e h => Dy.rep_mono e _ _ h⟩
instance : Inhabited Dy := ⟨.non⟩
/-- things that are told as any kind -/
class ToDy (τ : Type) [Py τ] where
  dy : τ → Dy
  ok : ∀ {K : Fg} {F : Hp} {v : V} {x : τ}, rep K F v x → Dy.rep K F (dy x) v
instance : ToDy Int := ⟨.int, fun h => by unfold Dy.rep; exact h⟩
instance : ToDy Bool := ⟨.bl, fun h => by unfold Dy.rep; exact h⟩
instance : ToDy Str := ⟨.str, fun h => by unfold Dy.rep; exact h⟩
instance : ToDy Unit := ⟨fun _ => .non, fun h => by unfold Dy.rep; exact h⟩
instance : ToDy Dy := ⟨fun x => x, fun h => h⟩
theorem ToDy.reps {τ : Type} [Py τ] [ToDy τ] {K : Fg} {F : Hp} : ∀ {vs : List V} {xs : List τ}, Reps K F vs xs → Dy.reps K F (xs.map ToDy.dy) vs
  | _, _, .nil => by simp [Dy.reps]
  | _, _, .cons h t => by
    simp only [List.map_cons, Dy.reps]
    exact ⟨_, _, rfl, ToDy.ok h, ToDy.reps t⟩
instance {τ : Type} [Py τ] [ToDy τ] : ToDy (List τ) := ⟨fun xs => .lst (xs.map ToDy.dy), fun ⟨a, vs, h1, h2, h3⟩ => by unfold Dy.rep; exact ⟨a, vs, h1, h2, ToDy.reps h3⟩⟩
instance {τ : Type} [Py τ] [ToDy τ] : ToDy (Tup τ) := ⟨fun xs => .tup (xs.l.map ToDy.dy), fun ⟨a, vs, h1, h2, h3⟩ => by unfold Dy.rep; exact ⟨a, vs, h1, h2, ToDy.reps h3⟩⟩
instance {α β : Type} [Py α] [Py β] [ToDy α] [ToDy β] : ToDy (α × β) := ⟨fun x => .tup [ToDy.dy x.1, ToDy.dy x.2], fun ⟨p, a, b, h1, h2, h3, h4⟩ => by
  unfold Dy.rep
  refine ⟨p, [a, b], h1, h2, ?_⟩
  unfold Dy.reps Dy.reps Dy.reps
  exact ⟨a, [b], rfl, ToDy.ok h3, b, [], rfl, ToDy.ok h4, rfl⟩⟩
/-- of such a thing the kind's name -/
class PyTy (τ : Type) [Py τ] where
  ty : τ → String
  ok : ∀ {K : Fg} {F : Hp} {v : V} {x : τ}, rep K F v x → TyX K F v (.type (ty x))
theorem tyx_mono {K : Fg} {F H : Hp} {v : V} {n : String} (e : Ex F H) (h : TyX K F v (.type n)) : TyX K H v (.type n) := by
  generalize hn : Value.type n = t at h ⊢
  cases h with
  | base b =>
    refine .base ?_
    cases b with
    | non => exact .non
    | bl x => exact .bl x
    | int x => exact .int x
    | str x => exact .str x
    | flt x => exact .flt x
    | lst h => exact .lst (e _ _ h)
    | frz h => exact .frz (e _ _ h)
    | tup h => exact .tup (e _ _ h)
    | dK h => exact .dK (e _ _ h)
    | dT h => exact .dT (e _ _ h)
    | ins h1 h2 h3 h4 h5 h6 => cases hn
  | byt x => exact .byt x
  | set h => exact .set (e _ _ h)
  | kList h1 h2 => exact .kList h1 h2
  | kTuple h1 h2 => exact .kTuple h1 h2
  | kDict h1 h2 => exact .kDict h1 h2
  | fTuple h => exact .fTuple (e _ _ h)
  | fDict h => exact .fDict (e _ _ h)
theorem tyx_tup {K : Fg} {H : Hp} {a : Addr} {xs : List V} (h : SqT K H a xs) : TyX K H (.ref a) (.type "tuple") := by
  rcases h with (h | ⟨o, h⟩) | ⟨o, its, n, h1, h2, _⟩
  · exact .base (.tup h)
  · exact .fTuple h
  · exact .kTuple h1 h2
instance : PyTy Int := ⟨fun _ => "int", fun h => by cases (show _ = _ from h); exact .base (.int _)⟩
instance : PyTy Bool := ⟨fun _ => "bool", fun h => by cases (show _ = _ from h); exact .base (.bl _)⟩
instance : PyTy Str := ⟨fun _ => "str", fun h => by cases (show _ = _ from h); exact .base (.str _)⟩
instance : PyTy Unit := ⟨fun _ => "NoneType", fun h => by cases (show _ = _ from h); exact .base .non⟩
instance {τ : Type} [Py τ] : PyTy (List τ) := ⟨fun _ => "list", fun ⟨a, vs, h1, h2, _⟩ => by subst h1; exact .base (.lst h2)⟩
instance {τ : Type} [Py τ] : PyTy (Tup τ) := ⟨fun _ => "tuple", fun ⟨a, vs, h1, h2, _⟩ => by subst h1; exact tyx_tup h2⟩
instance {α β : Type} [Py α] [Py β] : PyTy (α × β) := ⟨fun _ => "tuple", fun ⟨p, a, b, h1, h2, _⟩ => by subst h1; exact tyx_tup h2⟩
instance {α β γ : Type} [Py α] [Py β] [Py γ] : PyTy (T3 α β γ) := ⟨fun _ => "tuple", fun ⟨p, a, b, c, h1, h2, _⟩ => by subst h1; exact tyx_tup h2⟩
instance {α β γ δ : Type} [Py α] [Py β] [Py γ] [Py δ] : PyTy (T4 α β γ δ) := ⟨fun _ => "tuple", fun ⟨p, a, b, c, d, h1, h2, _⟩ => by subst h1; exact tyx_tup h2⟩
instance {α β γ δ ε : Type} [Py α] [Py β] [Py γ] [Py δ] [Py ε] : PyTy (T5 α β γ δ ε) := ⟨fun _ => "tuple", fun ⟨p, a, b, c, d, e, h1, h2, _⟩ => by subst h1; exact tyx_tup h2⟩
instance {τ : Type} [Py τ] [PyTy τ] : PyTy (Option τ) := ⟨fun x => match x with | none => "NoneType" | some y => PyTy.ty y, fun {K F v x} h => by
  cases x with
  | none => cases (show _ = _ from h); exact .base .non
  | some y => exact PyTy.ok (τ := τ) h⟩
def Dy.ty : Dy → String
  | .non => "NoneType"
  | .bl _ => "bool"
  | .int _ => "int"
  | .str _ => "str"
  | .lst _ => "list"
  | .tup _ => "tuple"
  | .emp => "dict"
instance : PyTy Dy := ⟨Dy.ty, fun {K F v x} h => by
  change Dy.rep K F x v at h
  cases x with
  | non => unfold Dy.rep at h; subst h; exact .base .non
  | bl b => unfold Dy.rep at h; subst h; exact .base (.bl _)
  | int b => unfold Dy.rep at h; subst h; exact .base (.int _)
  | str b => unfold Dy.rep at h; subst h; exact .base (.str _)
  | lst l => unfold Dy.rep at h; obtain ⟨a, vs, rfl, h2, _⟩ := h; exact .base (.lst h2)
  | tup l => unfold Dy.rep at h; obtain ⟨a, vs, rfl, h2, _⟩ := h; exact tyx_tup h2
  | emp => unfold Dy.rep at h; obtain ⟨a, rfl, h2⟩ := h; exact .base (.dK h2)⟩
/-- the kinds that are asked for, of the kinds that stand here -/
def kd (a b : String) : Bool := a == b || (a == "bool" && b == "int")
theorem kd_ok {K : Fg} {a b : String} (ha : a = "NoneType" ∨ a = "bool" ∨ a = "int" ∨ a = "str" ∨ a = "list" ∨ a = "tuple" ∨ a = "dict") (hb : b = "bool" ∨ b = "int" ∨ b = "str" ∨ b = "list" ∨ b = "tuple" ∨ b = "dict") : PySem.W.kitOne K (.type a) (.type b) = some (kd a b) := by
  apply kit_ty
  rcases ha with rfl | rfl | rfl | rfl | rfl | rfl | rfl <;> rcases hb with rfl | rfl | rfl | rfl | rfl | rfl <;> decide +kernel
section
variable {X : Cx} {c : Cw} {Γ Γ' : List Slot} {τ υ ζ : Type} [Py τ] [Py υ] [Py ζ] {a b d e : Expr} {es : List Expr} {x : τ} {y : υ} {z : ζ} {pos : Pos}
theorem xe_isi [PyTy τ] {n : Str} {t : String} {p p2 : Pos} (hm : X.mg "isinstance" = none) (hmt : X.mg n = none) (ha : XE X c Γ a x) (hx : PyTy.ty x = "NoneType" ∨ PyTy.ty x = "bool" ∨ PyTy.ty x = "int" ∨ PyTy.ty x = "str" ∨ PyTy.ty x = "list" ∨ PyTy.ty x = "tuple" ∨ PyTy.ty x = "dict")
    (hb : t = "bool" ∨ t = "int" ∨ t = "str" ∨ t = "list" ∨ t = "tuple" ∨ t = "dict") (hv : bootBuiltins n = some (.type t) := by decide +kernel) (hg : Gl X "isinstance" := by rfl) (hgt : Gl X n := by rfl) (hn : n ≠ "__name__" := by decide) (hdb : (n == ("__debug__" : Str)) = false := by decide)
    (hs : starEach [a, .Name n p2] X.env = (false, eval a X.env) :: starEach [.Name n p2] X.env := by rfl) (hs2 : starEach [.Name n p2] X.env = [(false, eval (.Name n p2) X.env)] := by rfl) (hbk : ((backTo pos (starEach [.Name n p2] X.env)).any fun x => x.fst) = false := by rfl) :
    XE X c Γ (.Call (.Name "isinstance" p) [a, .Name n p2] [] pos) (kd (PyTy.ty x) t) := by
  obtain ⟨ta, h1, h2⟩ := ha
  refine ⟨_, pe_callB call_isi hg hm (by decide +kernel) (pa_cons h1 (pa_cons (pe_bltn (v := .ty t) hgt hmt hv rfl hn hdb) pa_nil hs2) hs) (by decide) (by decide) hs hbk, fun F H σ fp E Q q => h2 F H σ fp E _ fun v F' H' E' e1 e2 r => ?_⟩
  exact ⟨v, .ty t, .type (PyTy.ty x), .type t, kd (PyTy.ty x) t, rfl, .ty t, tyx_mono E'.wd.fh (PyTy.ok r), kd_ok hx hb, q _ F' H' E' e1 e2 rfl⟩
end
end Fw
namespace Fw
open PySem L2 Py PyProof.Rows
section
variable {X : Cx} {c : Cw} {Γ Γ' : List Slot} {τ υ ζ : Type} [Py τ] [Py υ] [Py ζ] {a b d e : Expr} {es : List Expr} {x : τ} {y : υ} {z : ζ} {pos : Pos}
theorem xe_ixl [Inhabited τ] {i : Int} {s : List τ} (ha : XE X c Γ a s) (hb : XE X c Γ b i) (h : InB s i) (hs : PlainIx b := by exact fun _ _ => rfl) : XE X c Γ (.Subscript a b pos) (ix s i) := xe_ix ha hb h hs
theorem xe_ixr [Inhabited τ] {i : Int} {s : Scr τ} (ha : XE X c Γ a s) (hb : XE X c Γ b i) (h : InB s.l i) (hs : PlainIx b := by exact fun _ _ => rfl) : XE X c Γ (.Subscript a b pos) (ix s.l i) := xe_ix ha hb h hs
theorem le100 {n : Nat} (h : Nat.ble n 100000 = true) : n ≤ 100000 := Nat.le_of_ble_eq_true h
theorem xe_lenl {s : List τ} {p : Pos} (hm : X.mg "len" = none) (ha : XE X c Γ a s) (hg : Gl X "len" := by rfl) (hs : starEach [a] X.env = [(false, eval a X.env)] := by rfl) : XE X c Γ (.Call (.Name "len" p) [a] [] pos) ((s.length : Nat) : Int) := xe_len hm ha hg hs
theorem xe_lenr {s : Scr τ} {p : Pos} (hm : X.mg "len" = none) (ha : XE X c Γ a s) (hg : Gl X "len" := by rfl) (hs : starEach [a] X.env = [(false, eval a X.env)] := by rfl) : XE X c Γ (.Call (.Name "len" p) [a] [] pos) ((s.l.length : Nat) : Int) := xe_len hm ha hg hs
theorem xe_adds {s t : Str} (ha : XE X c Γ a s) (hb : XE X c Γ b t) (h : s.length + t.length ≤ sizeLine) : XE X c Γ (.BinOp a .Add b pos) (s ++ t) :=
  xe_op op_add_str (fun F H u v e h1 h2 Q q => ⟨s, t, h1, h2, h, q _ F H (Ex.refl _) e (Ex.refl _) (fun _ h => .inl h) rfl⟩) ha hb
theorem xc_ninSq {υ : Type} [Py υ] [PyS υ τ] [DecidableEq τ] {s : υ} (hf : ∀ {F : Hp} {u v : V} {x y : τ}, rep X.K F u x → rep X.K F v y → flatV u = true ∧ eqV v u = decide (y = x)) (ha : XE X c Γ a x) (hb : XE X c Γ b s) (hm : behindInMarks .NotIn b = false) :
    XC X c Γ .NotIn a b (!decide (x ∈ PyS.li s)) :=
  xc_of op_notIn_seq (fun F H u v e h1 h2 Q q => by
    obtain ⟨p, vs, rfl, r1, r2⟩ := PyS.sq h2
    have key : vs.all flatV = true ∧ inV u vs = decide (x ∈ PyS.li s) := by
      generalize PyS.li s = xs at r2 ⊢
      clear r1 h2
      induction r2 with
      | nil => exact ⟨rfl, rfl⟩
      | cons r t ih =>
        refine ⟨by rw [List.all_cons, (hf r r).1, ih.1]; rfl, ?_⟩
        unfold inV at ih ⊢
        rw [List.any_cons, ih.2, (hf h1 r).2]
        simp only [List.mem_cons]
        rw [Bool.decide_or]
        congr 1
        exact decide_eq_decide.mpr ⟨Eq.symm, Eq.symm⟩
    refine ⟨p, vs, rfl, r1.imp e.l e.t, (hf h1 h1).1, key.1, ?_⟩
    rw [if_pos rfl, key.2]
    exact q _ F H (Ex.refl _) e (Ex.refl _) (fun _ h => .inl h) rfl) ha hb hm
/-- flat kinds: compared item by item -/
class PyFl (τ : Type) [Py τ] where
  dec : DecidableEq τ
  fl : ∀ {K : Fg} {F : Hp} {u v : V} {x y : τ}, rep K F u x → rep K F v y → flatV u = true ∧ eqV v u = decide (y = x)
instance : PyFl Int := ⟨inferInstance, fun {K F u v x y} h1 h2 => by
  cases (show _ = _ from h1); cases (show _ = _ from h2)
  exact ⟨rfl, by show (y == x) = _; by_cases h : y = x <;> simp [h]⟩⟩
instance : PyFl Str := ⟨inferInstance, fun {K F u v x y} h1 h2 => by
  cases (show _ = _ from h1); cases (show _ = _ from h2)
  exact ⟨rfl, by show (y == x) = _; by_cases h : y = x <;> simp [h]⟩⟩
instance : PyFl (Option Int) := ⟨inferInstance, fun {K F u v x y} h1 h2 => by
  cases x with
  | none =>
    cases (show _ = _ from h1)
    cases y with
    | none => cases (show _ = _ from h2); exact ⟨rfl, rfl⟩
    | some j => cases (show _ = _ from h2); exact ⟨rfl, rfl⟩
  | some i =>
    cases (show _ = _ from h1)
    cases y with
    | none => cases (show _ = _ from h2); exact ⟨rfl, rfl⟩
    | some j => cases (show _ = _ from h2); exact ⟨rfl, by show (j == i) = _; by_cases h : j = i <;> simp [h]⟩⟩
def signsL (s : Str) : List Str := s.cps.toList.map fun c => ⟨#[c]⟩
def enumL {τ : Type} (xs : List τ) : List (Int × τ) := List.zipWith (fun (i : Nat) x => ((i : Int), x)) (List.range xs.length) xs
theorem enumL_get {τ : Type} {xs : List τ} {i : Nat} {y : Int × τ} (h : (enumL xs)[i]? = some y) : y.1 = i ∧ xs[i]? = some y.2 := by
  unfold enumL at h
  rw [List.getElem?_zipWith] at h
  by_cases hi : i < xs.length
  · rw [List.getElem?_range hi] at h
    simp only [List.getElem?_eq_getElem hi] at h ⊢
    have := Option.some.inj h
    rw [← this]
    exact ⟨rfl, rfl⟩
  · rw [List.getElem?_eq_none (by simp; omega)] at h
    cases h
theorem enumL_len {τ : Type} {xs : List τ} : (enumL xs).length = xs.length := by simp [enumL]
theorem pair_new {K : Fg} {F1 H1 H2 : Hp} {T : Addr} {u w : V} {α β : Type} [Py α] [Py β] {p : α × β} (x2 : Ex F1 H1) (hT : H1 T = none) (h2 : H2 = upd H1 T (.tup [u, w])) (r1 : rep K F1 u p.1) (r2 : rep K F1 w p.2) :
    ∃ F2, Ex F1 F2 ∧ Ex F2 H2 ∧ Ex H1 H2 ∧ (∀ b, F2 b ≠ none → F1 b ≠ none ∨ H1 b = none) ∧ rep K F2 (.ref T) p := by
  subst h2
  have hf : F1 T = none := by
    cases q : F1 T with
    | none => rfl
    | some o => rw [x2 _ _ q] at hT; cases hT
  refine ⟨upd F1 T (.tup [u, w]), Ex.new hf, fun z o hz => ?_, Ex.new hT, (Nw.lay hT).n, T, u, w, rfl, st_of upd_same, Py.mono (Ex.new hf) r1, Py.mono (Ex.new hf) r2⟩
  by_cases hzl : z = T
  · subst hzl; rw [upd_same] at hz ⊢; exact hz
  · rw [upd_ne hzl] at hz ⊢; exact x2 _ _ hz
theorem xi_zip {a b : Expr} {p tpos : Pos} {elts : List Expr} {kk : Nat} {α β : Type} [Py α] [Py β] [PyL α τ] [PyL β υ] {xs : α} {ys : β} (hm : X.mg "zip" = none) (ha : XE X c Γ a xs) (hb : XE X c Γ b ys) (hg : Gl X "zip" := by rfl)
    (hs : starEach [a, b] X.env = (false, eval a X.env) :: starEach [b] X.env := by rfl) (hs2 : starEach [b] X.env = [(false, eval b X.env)] := by rfl) (hpl : (backTo pos (starEach [b] X.env)).any (·.1) = false := by rfl) :
    XI X c Γ (.Tuple elts kk tpos) (.Call (.Name "zip" p) [a, b] [] pos) ((PyL.li xs).zip (PyL.li ys)) := by
  obtain ⟨t, h1, h2⟩ := ha
  obtain ⟨u, h3, h4⟩ := hb
  refine ⟨_, pi_zip hg hm (pa_cons h1 (pa_cons h3 pa_nil hs2) hs) hs hpl, fun F H σ fp E R q => h2 F H σ fp E _ fun v F' H' E' e1 e2 r => h4 F' H' σ fp E' _ fun v2 F2 H2 E2 e3 e4 r2 => ?_⟩
  obtain ⟨ad, vs, rfl, r1, r1'⟩ := PyL.sq (Py.mono e3 r)
  obtain ⟨bd, ws, rfl, s1, s1'⟩ := PyL.sq r2
  refine ⟨ad, bd, vs, ws, rfl, E2.wd.fh.l r1, E2.wd.fh.l s1, q _ F2 H2 E2 (e1.trans e3) (e2.trans e4) ⟨_, _, walk_zip (xs := vs) (ys := ws) (by rw [List.length_zip, r1'.length, s1'.length]), fun F1 H1 x1 x2 => ⟨(x1.trans x2).l r1, (x1.trans x2).l s1⟩, fun i F1 H1 v H2 y x1 x2 hy hx => ?_⟩⟩
  obtain ⟨T, u, w, rfl, hT, hH, e5, e6⟩ := hy
  rw [List.getElem?_zip_eq_some] at hx
  obtain ⟨y', hy', r3⟩ := Reps.get (i := i) r1' e5
  obtain ⟨y2, hy2, r4⟩ := Reps.get (i := i) s1' e6
  rw [hx.1] at hy'; cases hy'
  rw [hx.2] at hy2; cases hy2
  exact pair_new x2 hT hH (Py.mono x1 r3) (Py.mono x1 r4)
structure Gt (K : Fg) (mg : Str → Option Value) (n : Str) (t : Tup Str) : Prop where
  ex : ∃ (ad : Addr) (o : Obj) (its : Array Value) (k : Nat), mg n = some (.ref ad) ∧ K.lookup ad = some o ∧ o.cls = .type "tuple" ∧ o.data = .seq its k ∧ its.size ≤ sizeLine ∧ Vals (t.l.map V.str) its.toList
end
section
theorem df_mk {K : Fg} {h : Heap} {mg : Str → Option Value} {n : Str} {st : Stmt} {f : Addr} {oc : Value} {od an : Option Addr} {osl : Array (Option Value)} {kV doc pm cdv ct : Value} (X : K.In h) (G : h.Ns mainGlobals mg) (a : PySem.W.nsIn K mainGlobals n = some (some (.ref f)))
    (l : K.lookup f = some ⟨oc, od, .func (PySem.W.fnOf n n (defArgs st) (defBody st) (defScope st) .none kV doc pm an cdv ct), osl⟩) (c : PySem.W.codeIn K cdv n = true) (k : PySem.W.keepIn K (.ref f) = true) : Df K mg n st :=
  ⟨f, _, PySem.W.mg_of X G a, fun_mk l c k⟩
theorem ci_mk {K : Fg} {h : Heap} {mg : Str → Option Value} {n : Str} {i : Int} {t : Tok} (X : K.In h) (G : h.Ns mainGlobals mg) (a : PySem.W.nsIn K mainGlobals n = some (some (.int i t))) : ∃ t, mg n = some (.int i t) := ⟨t, PySem.W.mg_of X G a⟩
theorem cs_mk {K : Fg} {h : Heap} {mg : Str → Option Value} {n : Str} {i : Str} {t : Tok} (X : K.In h) (G : h.Ns mainGlobals mg) (a : PySem.W.nsIn K mainGlobals n = some (some (.str i t))) : ∃ t, mg n = some (.str i t) := ⟨t, PySem.W.mg_of X G a⟩
/-- the script -/
structure Pre (s : Scr Int) : Prop where
  len : s.l.length ≤ 63
  bits : ∀ z ∈ s.l, Builtin.Int.intBits z ≤ 1048576
/-- law's promise: True -/
def SpL (K : Fg) (pre : Scr Int → Prop) : Sp := fun vs H Q _ => ∃ F a u, vs = [u] ∧ Ex F H ∧ rep K F u a ∧ pre a ∧ ∀ H', Q (.bl true) H'
abbrev RcL : Rc := ⟨Bool, fun _ _ => True, fun b => .fz b, fun _ => none⟩
section
variable {P : Program} {w : World} {K : Fg} {mg : Str → Option Value} {base : Heap}
theorem fn_law {x : Str} {st : Stmt} {f : Addr} {fd : FuncData} {N : List Str} {k : Nat} {pre : Scr Int → Prop} (Fd : Fun K "law" "law" st f fd) (Sc : FnScope N [x] (defScope st))
    (body : ∀ (f : Addr) (cdv : Value) (A : Around) (outer : List PySem.Env) (s : Shared) (H : Hp) (E : XK) (c : Cw) (a : Scr Int), Room' k A "law" st s f cdv → pre a →
      XF (R := RcL) (cxOf CX0 P w K mg base N "law" (defScope st) f cdv A outer s H E).nox ⟨fun _ _ _ _ => False, List.replicate N.length .no⟩ c (.fz a :: List.replicate (N.length - 1) .no) (defBody st) (S := Empty) (fun e => e.elim) (fun e => e.elim) true) :
    FnOk P w K mg base CX0 (k + 1) f fd [x] (SpL K pre) := by
  refine Fd.ok Sc (fun vs H Q E h => ?_) (fun cdv A outer s H vs Q E hr h => ?_)
  · obtain ⟨F, a, u, rfl, _⟩ := h; rfl
  · obtain ⟨F, a, u, rfl, e, r, hp, q⟩ := h
    obtain ⟨o, ho, t, h1, h2⟩ := body f cdv A outer s H E ⟨F, H, fun _ => False⟩ a hr hp
    have hN : 1 ≤ N.length := by
      have q := congrArg List.length Sc.pre
      rw [List.length_take] at q
      simp at q; omega
    have E0 : EnvD K ⟨F, H, fun _ => False⟩ F H ([u].map some) [.fz a] (fun _ => []) := ⟨⟨Ex.refl _, e, fun b o _ h => h, fun b h => .inl h⟩, rfl, (fun i s hs => by
      cases i with
      | zero => cases hs; exact ⟨_, rfl, rfl, u, rfl, r⟩
      | succ i => cases hs), (fun i j b h => by cases h), (fun i b h => by cases h), fun i h => rfl⟩
    refine ⟨t, h1, h2 F H _ ⟨_, env0 E0 hN⟩ _ ?_⟩
    cases o with
    | nx s => exact s.elim
    | bk s => exact s.elim
    | ct s => exact s.elim
    | rt r =>
    cases (show r = true from ho)
    refine ⟨fun _ v σ' F' H' Γ' fp' l E' e1 _ hv _ => ?_, fun n hn => by cases hn⟩
    obtain ⟨_, z, hz, hr⟩ := hv
    cases hz
    cases (show v = .bl true from hr)
    exact q H'
end
theorem walk_fw {Tx : Fg → (Str → Option Value) → Prop} {l : PySem.W.OpenLaw} {q : Program} {loose : List Str} {XP : (Str → Option Value) → Heap → Prop} {YP : World → Heap → Prop} {d : DefRec} {K : Params → PySem.W.Frag} {x : Str} {lvl : Nat} {st : Stmt} (hn : l.most = some 63) (hdf : d.params.defaults = []) (hr : Room lvl callerA)
    (hd : d.name = "law") (hY : ∀ (w : World) (h : Heap), YP w h → (K w.params).In h)
    (F : ∀ (w : World) (mg : Str → Option Value) (h : Heap), (K w.params).In h → h.Ns mainGlobals mg → Tx (K w.params) mg)
    (hb : ∀ (kV doc pm : Value) (an : Option Addr) (cdv ct : Value) (v : Value), bindArgs (PySem.W.fnOf "law" "law" (defArgs st) (defBody st) (defScope st) .none kV doc pm an cdv ct) ⟨[v], []⟩ = pure [(x, v)])
    (D : ∀ K mg, Tx K mg → Df K mg "law" st)
    (ok : ∀ {P : Program} {w : World} {K : Fg} {mg : Str → Option Value} {base : Heap}, Tx K mg → ∀ f fd, mg "law" = some (.ref f) → Fun K "law" "law" st f fd → FnOk P w K mg base CX0 lvl f fd [x] (SpL K Pre)) :
    PySem.W.WalkO q loose XP YP l.row.toRowW d [] (fun f vs => PySem.call f vs) := by
  refine L2.walk_ofB (n := 63) (k := lvl) (x := x) (CX := fun _ => CX0) (sp := fun w => SpL (K w.params) Pre) hn (by decide) hdf hr hY (fun w mg fa h X G hfa => ?_) (fun w H a ns hl hbits _ hS => ?_) fun _ _ _ _ _ z => z
  · rw [hd] at hfa
    have T := F w mg h X G
    obtain ⟨f, fd, hf, Fu⟩ := (D _ _ T).ex
    rw [hfa] at hf
    cases hf
    refine ⟨fd, fun s u => ?_, fun base _ _ => ok T fa fd hfa Fu⟩
    obtain ⟨oc, od, kV, doc, pm, an, cdv, ct, osl, rfl, _, _⟩ := Fu.ex
    exact .of_eq (hb kV doc pm an cdv ct u)
  · exact ⟨H, ⟨ns⟩, _, rfl, Ex.refl _, ⟨a, ns.map V.int, rfl, hS, Reps.map (g := V.int) (fun _ => rfl) ns⟩, ⟨hl, hbits⟩, fun H' => rfl⟩
end
end Fw
namespace Fw
open PySem L2 Py PyProof.Rows
theorem strs_of {K : Fg} {F : Hp} : ∀ {vs : List V} {xs : List Str}, Reps K F vs xs → vs = xs.map V.str
  | _, _, .nil => rfl
  | _, _, .cons h t => by rw [List.map_cons, ← strs_of t]; exact congrArg (· :: _) h
theorem ints_of {K : Fg} {F : Hp} : ∀ {vs : List V} {xs : List Int}, Reps K F vs xs → vs = xs.map V.int
  | _, _, .nil => rfl
  | _, _, .cons h t => by rw [List.map_cons, ← ints_of t]; exact congrArg (· :: _) h
section
variable {X : Cx} {c : Cw} {Γ Γ' : List Slot} {τ υ ζ : Type} [Py τ] [Py υ] [Py ζ] {a b d e o : Expr} {es : List Expr} {x : τ} {y : υ} {z : ζ} {pos ap : Pos}
theorem xe_join {s : Str} {ys : List Str} (ho : XE X c Γ o s) (he : XE X c Γ e ys) (h2 : (ys.map (·.length)).sum + ys.length * s.length ≤ 16777216) (hs : starEach [e] X.env = [(false, eval e X.env)] := by rfl) (hbase : attributeBase o "join" X.env (eval o X.env) = eval o X.env := by rfl) (hline : (ap.endLine == pos.line) = true := by rfl) :
    XE X c Γ (.Call (.Attribute o "join" ap) [e] [] pos) (Txt.join s ys : Str) := by
  obtain ⟨t1, a1, a2⟩ := ho
  obtain ⟨t2, b1, b2⟩ := he
  refine ⟨_, pe_join a1 b1 hs hbase hline, fun F H σ fp E Q q => a2 F H σ fp E _ fun v F1 H1 E1 e1 g1 r1 => ⟨⟨s, r1⟩, b2 F1 H1 σ fp E1 _ fun u F2 H2 E2 e2 g2 r2 => ?_⟩⟩
  obtain ⟨p, vs, rfl, r3, r4⟩ := r2
  exact ⟨s, p, ys, r1, rfl, .inl (sq_of (by rw [← strs_of r4]; exact E2.wd.fh _ _ r3)), h2, q _ _ _ E2 (e1.trans e2) (g1.trans g2) rfl⟩
/-- what is known not to be None -/
theorem xe_get [Inhabited τ] {o : Option τ} (ha : XE X c Γ a o) (h : o.isSome = true) : XE X c Γ a (o.getD default) := by
  obtain ⟨y, rfl⟩ := Option.isSome_iff_exists.mp h
  obtain ⟨t, h1, h2⟩ := ha
  exact ⟨t, h1, fun F H σ fp E Q q => h2 F H σ fp E Q q⟩
end
end Fw
namespace Fw
open PySem L2 Py PyProof.Rows
class PyD (τ : Type) [Py τ] where
  dec : DecidableEq τ
  toD : τ → PyData
  dok : τ → Prop
  dep : Nat
  nn : Bool
  dp : ∀ {K F v x}, rep K F v x → Dp K F v (toD x)
  eqv : ∀ x y, PyData.eqv (toD x) (toD y) = @decide (x = y) (dec x y)
  lay : ∀ x, dok x → (toD x).canLay0 = true
  dle : ∀ x, (toD x).depth ≤ dep
  nno : nn = true → ∀ x, toD x ≠ .none
instance (priority := low) {τ : Type} [Py τ] [i : PyD τ] : DecidableEq τ := i.dec
/-- that may always be laid -/
class PyDn (τ : Type) [Py τ] [PyD τ] : Prop where
  all : ∀ x : τ, PyD.dok x
def dAll {τ : Type} [Py τ] [PyD τ] (xs : List τ) : List PyData := xs.map PyD.toD
section
variable {τ : Type} [Py τ] [i : PyD τ]
theorem dAll_dp {K : Fg} {F : Hp} : ∀ {vs : List V} {xs : List τ}, Reps K F vs xs → DpAll K F vs (dAll xs)
  | _, _, .nil => .nil
  | _, _, .cons h t => .cons (PyD.dp h) (dAll_dp t)
theorem dAll_eqv : ∀ xs ys : List τ, PyData.eqvAll (dAll xs) (dAll ys) = @decide (xs = ys) (@instDecidableEqList _ i.dec xs ys)
  | [], [] => by rw [decide_eq_true (rfl : ([] : List τ) = [])]; rfl
  | [], y :: ys => by rw [decide_eq_false (by intro h; cases h)]; rfl
  | x :: xs, [] => by rw [decide_eq_false (by intro h; cases h)]; rfl
  | x :: xs, y :: ys => by
    show (PyData.eqv (PyD.toD x) (PyD.toD y) && PyData.eqvAll (dAll xs) (dAll ys)) = _
    rw [PyD.eqv, dAll_eqv xs ys, Bool.eq_iff_iff, Bool.and_eq_true, decide_eq_true_eq, decide_eq_true_eq, decide_eq_true_eq, List.cons.injEq]
theorem dAll_lay : ∀ xs : List τ, (∀ x ∈ xs, PyD.dok x) → PyData.canLayAll0 (dAll xs) = true
  | [], _ => rfl
  | x :: xs, h => by
    show ((PyD.toD x).canLay0 && PyData.canLayAll0 (dAll xs)) = true
    rw [PyD.lay x (h x (List.mem_cons_self ..)), dAll_lay xs fun z hz => h z (List.mem_cons_of_mem _ hz)]; rfl
theorem dAll_dle : ∀ xs : List τ, PyData.depthAll (dAll xs) ≤ PyD.dep τ
  | [] => Nat.zero_le _
  | x :: xs => Nat.max_le.mpr ⟨PyD.dle x, dAll_dle xs⟩
end
instance : PyD Int := ⟨inferInstance, .int, fun _ => True, 0, true, fun {K F v x} h => by rw [show v = V.int x from h]; exact .int x, fun x y => rfl, fun _ _ => rfl, fun _ => Nat.le_refl _, fun _ x h => by cases h⟩
instance : PyD Bool := ⟨inferInstance, .bool, fun _ => True, 0, true, fun {K F v x} h => by rw [show v = V.bl x from h]; exact .bl x, fun x y => by cases x <;> cases y <;> rfl, fun _ _ => rfl, fun _ => Nat.le_refl _, fun _ x h => by cases h⟩
instance : PyD Str := ⟨inferInstance, .str, fun x => PyData.strOk x = true, 0, true, fun {K F v x} h => by rw [show v = V.str x from h]; exact .str x, fun x y => by
  show (x == y) = _
  rw [Bool.eq_iff_iff, beq_iff_eq, decide_eq_true_eq], fun _ h => h, fun _ => Nat.le_refl _, fun _ x h => by cases h⟩
instance : PyD Unit := ⟨inferInstance, fun _ => .none, fun _ => True, 0, false, fun {K F v x} h => by rw [show v = V.non from h]; exact .non, fun x y => rfl, fun _ _ => rfl, fun _ => Nat.le_refl _, fun h => by cases h⟩
theorem eqv_none_l {d : PyData} (h : d ≠ .none) : PyData.eqv .none d = false := by cases d <;> first | rfl | exact absurd rfl h
theorem eqv_none_r {d : PyData} (h : d ≠ .none) : PyData.eqv d .none = false := by cases d <;> first | rfl | exact absurd rfl h
/-- what is never None -/
class PyNN (τ : Type) [Py τ] [PyD τ] : Prop where
  nn : PyD.nn τ = true
instance : PyNN Int := ⟨rfl⟩
instance : PyNN Bool := ⟨rfl⟩
instance : PyNN Str := ⟨rfl⟩
instance {τ : Type} [Py τ] [i : PyD τ] [n : PyNN τ] : PyD (Option τ) where
  dec := fun a b => match a, b with
    | none, none => .isTrue rfl
    | none, some _ => .isFalse (by intro h; cases h)
    | some _, none => .isFalse (by intro h; cases h)
    | some x, some y => match i.dec x y with
      | .isTrue h => .isTrue (by rw [h])
      | .isFalse h => .isFalse fun z => h (by injection z)
  toD := fun x => match x with | none => .none | some y => PyD.toD y
  dok := fun x => ∀ y, x = some y → PyD.dok y
  dep := PyD.dep τ
  nn := false
  dp := fun {K F v x} h => by
    cases x with
    | none => rw [show v = V.non from h]; exact .non
    | some y => exact PyD.dp (show rep K F v y from h)
  eqv := fun x y => by
    cases x with
    | none => cases y with
      | none => rw [decide_eq_true (rfl : (none : Option τ) = none)]; rfl
      | some y => rw [decide_eq_false (by intro h; cases h)]; exact eqv_none_l (PyD.nno n.nn y)
    | some x => cases y with
      | none => rw [decide_eq_false (by intro h; cases h)]; exact eqv_none_r (PyD.nno n.nn x)
      | some y =>
        show PyData.eqv (PyD.toD x) (PyD.toD y) = _
        rw [PyD.eqv, Bool.eq_iff_iff, decide_eq_true_eq, decide_eq_true_eq, Option.some.injEq]
  lay := fun x h => by
    cases x with
    | none => rfl
    | some y => exact PyD.lay y (h y rfl)
  dle := fun x => by
    cases x with
    | none => exact Nat.zero_le _
    | some y => exact PyD.dle y
  nno := fun h => by cases h
instance {τ : Type} [Py τ] [i : PyD τ] : PyD (List τ) where
  dec := @instDecidableEqList _ i.dec
  toD := fun x => .list (dAll x)
  dok := fun x => ∀ y ∈ x, PyD.dok y
  dep := PyD.dep τ + 1
  nn := true
  dp := fun ⟨a, vs, h1, h2, h3⟩ => h1 ▸ .lst (sq_of h2) (dAll_dp h3)
  eqv := dAll_eqv
  lay := dAll_lay
  dle := fun x => Nat.succ_le_succ (dAll_dle x)
  nno := fun _ x h => by cases h
instance {τ : Type} [Py τ] [i : PyD τ] : PyD (Tup τ) where
  dec := inferInstance
  toD := fun x => .tuple (dAll x.l)
  dok := fun x => ∀ y ∈ x.l, PyD.dok y
  dep := PyD.dep τ + 1
  nn := true
  dp := fun ⟨a, vs, h1, h2, h3⟩ => h1 ▸ .tup h2 (dAll_dp h3)
  eqv := fun x y => by
    obtain ⟨x⟩ := x
    obtain ⟨y⟩ := y
    refine (dAll_eqv x y).trans ?_
    rw [Bool.eq_iff_iff, decide_eq_true_eq, decide_eq_true_eq, Tup.mk.injEq]
  lay := fun x h => dAll_lay x.l h
  dle := fun x => Nat.succ_le_succ (dAll_dle x.l)
  nno := fun _ x h => by cases h
instance {τ : Type} [Py τ] [PyD τ] : PyNN (List τ) := ⟨rfl⟩
instance {τ : Type} [Py τ] [PyD τ] : PyNN (Tup τ) := ⟨rfl⟩
section
variable {α β γ δ ε : Type} [Py α] [Py β] [Py γ] [Py δ] [Py ε] [i1 : PyD α] [i2 : PyD β] [i3 : PyD γ] [i4 : PyD δ] [i5 : PyD ε]
instance : PyD (α × β) where
  dec := @instDecidableEqProd _ _ i1.dec i2.dec
  toD := fun x => .tuple [PyD.toD x.1, PyD.toD x.2]
  dok := fun x => PyD.dok x.1 ∧ PyD.dok x.2
  dep := max (PyD.dep α) (PyD.dep β) + 1
  nn := true
  dp := fun ⟨p, a, b, h1, h2, h3, h4⟩ => h1 ▸ .tup h2 (.cons (PyD.dp h3) (.cons (PyD.dp h4) .nil))
  eqv := fun x y => by
    obtain ⟨a, b⟩ := x
    obtain ⟨a', b'⟩ := y
    show (PyData.eqv (PyD.toD a) (PyD.toD a') && (PyData.eqv (PyD.toD b) (PyD.toD b') && true)) = _
    rw [PyD.eqv, PyD.eqv, Bool.and_true, Bool.eq_iff_iff, Bool.and_eq_true, decide_eq_true_eq, decide_eq_true_eq, decide_eq_true_eq, Prod.mk.injEq]
  lay := fun x h => by
    show ((PyD.toD x.1).canLay0 && ((PyD.toD x.2).canLay0 && true)) = true
    rw [PyD.lay _ h.1, PyD.lay _ h.2]; rfl
  dle := fun x => by
    have h1 := PyD.dle x.1
    have h2 := PyD.dle x.2
    show max (PyD.toD x.1).depth (max (PyD.toD x.2).depth 0) + 1 ≤ _
    omega
  nno := fun _ x h => by cases h
instance : PyD (T3 α β γ) where
  dec := inferInstance
  toD := fun x => .tuple [PyD.toD x.a, PyD.toD x.b, PyD.toD x.c]
  dok := fun x => PyD.dok x.a ∧ PyD.dok x.b ∧ PyD.dok x.c
  dep := max (PyD.dep α) (max (PyD.dep β) (PyD.dep γ)) + 1
  nn := true
  dp := fun ⟨p, a, b, c, h1, h2, h3, h4, h5⟩ => h1 ▸ .tup h2 (.cons (PyD.dp h3) (.cons (PyD.dp h4) (.cons (PyD.dp h5) .nil)))
  eqv := fun x y => by
    obtain ⟨a, b, c⟩ := x
    obtain ⟨a', b', c'⟩ := y
    show (PyData.eqv (PyD.toD a) (PyD.toD a') && (PyData.eqv (PyD.toD b) (PyD.toD b') && (PyData.eqv (PyD.toD c) (PyD.toD c') && true))) = _
    rw [PyD.eqv, PyD.eqv, PyD.eqv, Bool.and_true, Bool.eq_iff_iff, Bool.and_eq_true, Bool.and_eq_true, decide_eq_true_eq, decide_eq_true_eq, decide_eq_true_eq, decide_eq_true_eq, T3.mk.injEq]
  lay := fun x h => by
    show ((PyD.toD x.a).canLay0 && ((PyD.toD x.b).canLay0 && ((PyD.toD x.c).canLay0 && true))) = true
    rw [PyD.lay _ h.1, PyD.lay _ h.2.1, PyD.lay _ h.2.2]; rfl
  dle := fun x => by
    have h1 := PyD.dle x.a
    have h2 := PyD.dle x.b
    have h3 := PyD.dle x.c
    show max (PyD.toD x.a).depth (max (PyD.toD x.b).depth (max (PyD.toD x.c).depth 0)) + 1 ≤ _
    omega
  nno := fun _ x h => by cases h
instance : PyD (T5 α β γ δ ε) where
  dec := inferInstance
  toD := fun x => .tuple [PyD.toD x.a, PyD.toD x.b, PyD.toD x.c, PyD.toD x.d, PyD.toD x.e]
  dok := fun x => PyD.dok x.a ∧ PyD.dok x.b ∧ PyD.dok x.c ∧ PyD.dok x.d ∧ PyD.dok x.e
  dep := max (PyD.dep α) (max (PyD.dep β) (max (PyD.dep γ) (max (PyD.dep δ) (PyD.dep ε)))) + 1
  nn := true
  dp := fun ⟨p, a, b, c, d, e, h1, h2, h3, h4, h5, h6, h7⟩ => h1 ▸ .tup h2 (.cons (PyD.dp h3) (.cons (PyD.dp h4) (.cons (PyD.dp h5) (.cons (PyD.dp h6) (.cons (PyD.dp h7) .nil)))))
  eqv := fun x y => by
    obtain ⟨a, b, c, d, e⟩ := x
    obtain ⟨a', b', c', d', e'⟩ := y
    show (PyData.eqv (PyD.toD a) (PyD.toD a') && (PyData.eqv (PyD.toD b) (PyD.toD b') && (PyData.eqv (PyD.toD c) (PyD.toD c') && (PyData.eqv (PyD.toD d) (PyD.toD d') && (PyData.eqv (PyD.toD e) (PyD.toD e') && true))))) = _
    rw [PyD.eqv, PyD.eqv, PyD.eqv, PyD.eqv, PyD.eqv, Bool.and_true, Bool.eq_iff_iff, Bool.and_eq_true, Bool.and_eq_true, Bool.and_eq_true, Bool.and_eq_true, decide_eq_true_eq, decide_eq_true_eq, decide_eq_true_eq, decide_eq_true_eq, decide_eq_true_eq, decide_eq_true_eq, T5.mk.injEq]
  lay := fun x h => by
    show ((PyD.toD x.a).canLay0 && ((PyD.toD x.b).canLay0 && ((PyD.toD x.c).canLay0 && ((PyD.toD x.d).canLay0 && ((PyD.toD x.e).canLay0 && true))))) = true
    rw [PyD.lay _ h.1, PyD.lay _ h.2.1, PyD.lay _ h.2.2.1, PyD.lay _ h.2.2.2.1, PyD.lay _ h.2.2.2.2]; rfl
  dle := fun x => by
    have h1 := PyD.dle x.a
    have h2 := PyD.dle x.b
    have h3 := PyD.dle x.c
    have h4 := PyD.dle x.d
    have h5 := PyD.dle x.e
    show max (PyD.toD x.a).depth (max (PyD.toD x.b).depth (max (PyD.toD x.c).depth (max (PyD.toD x.d).depth (max (PyD.toD x.e).depth 0)))) + 1 ≤ _
    omega
  nno := fun _ x h => by cases h
instance : PyNN (α × β) := ⟨rfl⟩
instance : PyNN (T3 α β γ) := ⟨rfl⟩
instance : PyNN (T5 α β γ δ ε) := ⟨rfl⟩
instance [PyDn α] [PyDn β] : PyDn (α × β) := ⟨fun x => ⟨PyDn.all _, PyDn.all _⟩⟩
instance [PyDn α] [PyDn β] [PyDn γ] : PyDn (T3 α β γ) := ⟨fun x => ⟨PyDn.all _, PyDn.all _, PyDn.all _⟩⟩
instance [PyDn α] : PyDn (List α) := ⟨fun x y _ => PyDn.all _⟩
instance [PyDn α] : PyDn (Tup α) := ⟨fun x y _ => PyDn.all _⟩
instance [PyNN α] [PyDn α] : PyDn (Option α) := ⟨fun x y _ => PyDn.all _⟩
end
instance : PyDn Int := ⟨fun _ => trivial⟩
instance : PyDn Bool := ⟨fun _ => trivial⟩
instance : PyDn Unit := ⟨fun _ => trivial⟩
section
variable {X : Cx} {c : Cw} {Γ Γ' : List Slot} {τ υ ζ : Type} [Py τ] [Py υ] [Py ζ] {a b d e o : Expr} {es : List Expr} {x y : τ} {pos ap : Pos}
theorem shaped_of [PyD τ] {x : τ} (h : PyD.dok x) (hd : PyD.dep τ ≤ 64) : SeqAt.shaped (PyD.toD x) = true := by
  unfold SeqAt.shaped
  rw [PyD.lay x h, decide_eq_true (Nat.le_trans (PyD.dle x) hd)]; rfl
/-- are they equal -/
def eqb {τ : Type} [Py τ] [i : PyD τ] (x y : τ) : Bool := @decide (x = y) (i.dec x y)
theorem eqb_iff {τ : Type} [Py τ] [i : PyD τ] {x y : τ} : eqb x y = true ↔ x = y := by
  unfold eqb; exact decide_eq_true_iff
theorem eqb_refl {τ : Type} [Py τ] [i : PyD τ] (x : τ) : eqb x x = true := eqb_iff.mpr rfl
theorem xb_of (h : XE X c Γ e x) : XB X c Γ e x := by
  obtain ⟨t, h1, h2⟩ := h
  exact ⟨t, h1, fun F H σ fp E Q q => h2 F H σ fp E _ fun v F' H' E' e1 e2 r => q v F' H' E' e1 e2 (Py.mono E'.wd.fh r)⟩
theorem xc_eqB [i : PyD τ] (hu : X.A.units + 64 < cLine) (ha : XB X c Γ a x) (hb : XB X c Γ b y) (hx : PyD.dok x) (hy : PyD.dok y) (hd : PyD.dep τ ≤ 64 := by decide) : XC X c Γ .Eq a b (eqb x y) :=
  xc_ofB (op_eqD hu) (fun H u v h1 h2 Q q => by
    refine ⟨_, _, PyD.dp h1, PyD.dp h2, shaped_of hx hd, shaped_of hy hd, ?_⟩
    rw [PyD.eqv]; exact q _ rfl) ha hb (nomark _)
theorem xc_neB [i : PyD τ] (hu : X.A.units + 64 < cLine) (ha : XB X c Γ a x) (hb : XB X c Γ b y) (hx : PyD.dok x) (hy : PyD.dok y) (hd : PyD.dep τ ≤ 64 := by decide) : XC X c Γ .NotEq a b (!eqb x y) :=
  xc_ofB (op_neD hu) (fun H u v h1 h2 Q q => by
    refine ⟨_, _, PyD.dp h1, PyD.dp h2, shaped_of hx hd, shaped_of hy hd, ?_⟩
    rw [PyD.eqv]; exact q _ rfl) ha hb (nomark _)
theorem xc_eqD [i : PyD τ] (hu : X.A.units + 64 < cLine) (ha : XE X c Γ a x) (hb : XE X c Γ b y) (hx : PyD.dok x) (hy : PyD.dok y) (hd : PyD.dep τ ≤ 64 := by decide) : XC X c Γ .Eq a b (eqb x y) := xc_eqB hu (xb_of ha) (xb_of hb) hx hy hd
theorem xc_neD [i : PyD τ] (hu : X.A.units + 64 < cLine) (ha : XE X c Γ a x) (hb : XE X c Γ b y) (hx : PyD.dok x) (hy : PyD.dok y) (hd : PyD.dep τ ≤ 64 := by decide) : XC X c Γ .NotEq a b (!eqb x y) := xc_neB hu (xb_of ha) (xb_of hb) hx hy hd
/-- what never lies as None -/
class PyNv (τ : Type) [Py τ] : Prop where
  nv : ∀ {K F v} {x : τ}, rep K F v x → v ≠ .non
instance : PyNv Int := ⟨fun {K F v x} h => by rw [show v = V.int x from h]; intro z; cases z⟩
instance : PyNv Bool := ⟨fun {K F v x} h => by rw [show v = V.bl x from h]; intro z; cases z⟩
instance : PyNv Str := ⟨fun {K F v x} h => by rw [show v = V.str x from h]; intro z; cases z⟩
instance {τ : Type} [Py τ] : PyNv (List τ) := ⟨fun ⟨a, vs, h1, _⟩ z => by rw [h1] at z; cases z⟩
instance {τ : Type} [Py τ] : PyNv (Tup τ) := ⟨fun ⟨a, vs, h1, _⟩ z => by rw [h1] at z; cases z⟩
instance {α β : Type} [Py α] [Py β] : PyNv (α × β) := ⟨fun ⟨a, _, _, h1, _⟩ z => by rw [h1] at z; cases z⟩
instance {α β γ : Type} [Py α] [Py β] [Py γ] : PyNv (T3 α β γ) := ⟨fun ⟨a, _, _, _, h1, _⟩ z => by rw [h1] at z; cases z⟩
end
end Fw
namespace Fw
open PySem L2 Py PyProof.Rows
@[irreducible] def Bit (n : Nat) (z : Int) : Prop := z.natAbs < 2 ^ n
theorem Bit.mono {n m : Nat} {z : Int} (h : Bit n z) (k : n ≤ m) : Bit m z := by
  unfold Bit at h ⊢
  exact Nat.lt_of_lt_of_le h (Nat.pow_le_pow_right (by decide) k)
theorem Bit.of {n : Nat} {z : Int} (h : Builtin.Int.intBits z ≤ n) : Bit n z := by
  unfold Bit
  exact PySem.intBits_le_iff.mp h
theorem Bit.ok {n m : Nat} {a b : Int} (h : Bit n a) (k : Bit m b) (l : n + m ≤ 134217728) : IntMulOk a b := by
  unfold Bit at h k
  exact CMulX.ok (mulx_ok h k l)
theorem Bit.sm {n : Nat} {z : Int} (h : -(2 ^ 64) < z ∧ z < 2 ^ 64) (k : 64 ≤ n) : Bit n z := by
  refine Bit.mono (n := 64) ?_ k
  unfold Bit
  omega
theorem Bit.scr {s : Scr Int} (h : Pre s) {z : Int} (hz : z ∈ s.l) : Bit 1048576 z := Bit.of (h.bits z hz)
section
variable {τ : Type}
theorem ix_mem [Inhabited τ] {xs : List τ} {i : Int} (h : InB xs i) : ix xs i ∈ xs := by
  have e := atI_ix h
  unfold atI at e
  cases q : ixN xs.length i with
  | none => rw [q] at e; cases e
  | some j => rw [q] at e; exact List.mem_of_getElem? e
theorem ix_all [Inhabited τ] {p : τ → Prop} {xs : List τ} {i : Int} (h : ∀ x ∈ xs, p x) (hi : InB xs i) : p (ix xs i) := h _ (ix_mem hi)
theorem sum_le {b : Nat} : ∀ {ys : List Str}, (∀ y ∈ ys, y.length ≤ b) → (ys.map (·.length)).sum ≤ ys.length * b
  | [], _ => Nat.zero_le _
  | y :: r, h => by
    have h1 := h y (List.mem_cons_self ..)
    have h2 := sum_le (ys := r) fun z hz => h z (List.mem_cons_of_mem _ hz)
    show y.length + (r.map (·.length)).sum ≤ (r.length + 1) * b
    rw [Nat.succ_mul]; omega
theorem join_le {ys : List Str} {sep : Str} (b n m : Nat) (h : ∀ y ∈ ys, y.length ≤ b) (hn : ys.length ≤ n) (hs : sep.length ≤ m) (hm : n * b + n * m ≤ 16777216) : (ys.map (·.length)).sum + ys.length * sep.length ≤ 16777216 := by
  have h1 := sum_le h
  have h2 : ys.length * b ≤ n * b := Nat.mul_le_mul_right _ hn
  have h3 : ys.length * sep.length ≤ n * m := Nat.mul_le_mul hn hs
  omega
end
/-- a text's signs -/
abbrev tl (s : Str) : List Nat := s.cps.toList
theorem tl_len (s : Str) : (tl s).length = s.length := by simp [tl, Str.length]
theorem tl_cat (s t : Str) : tl (s ++ t) = tl s ++ tl t := TL.tl_append s t
theorem tl_joinL (s : Str) (ys : List Str) : tl (Txt.join s ys) = TL.joinL (tl s) (ys.map tl) := by
  rw [TL.join_eq]; exact TL.tl_join s ys
theorem joinL_mem {sep : List Nat} {c : Nat} : ∀ {ps : List (List Nat)}, c ∈ TL.joinL sep ps → c ∈ sep ∨ ∃ p ∈ ps, c ∈ p
  | [], h => nomatch h
  | [p], h => .inr ⟨p, by simp, h⟩
  | p :: q :: r, h => by
    have h' : c ∈ p ++ (sep ++ TL.joinL sep (q :: r)) := h
    rw [List.mem_append, List.mem_append] at h'
    rcases h' with h' | h' | h'
    · exact .inr ⟨p, by simp, h'⟩
    · exact .inl h'
    · exact (joinL_mem h').imp id fun ⟨z, hz, h⟩ => ⟨z, List.mem_cons_of_mem _ hz, h⟩
end Fw
namespace Fw
open PySem L2 Py PyProof.Rows
section
variable {X : Cx} {w : Wx} {c : Cw} {Γ Γ' : List Slot} {S S' B υ : Type} [Py υ] {R : Rc} {n : S → R.ρ} {G : S → List Slot} {G' : S' → List Slot} {pos : Pos} {st : Stmt} {rest : List Stmt} {e d : Expr} {k : Bool} {r : R.ρ} {s : Slot} {t : OT}
theorem XF.gam (h : Γ = Γ') (q : XF X w c Γ' rest n G r) : XF X w c Γ rest n G r := h ▸ q
theorem XF.eq {r' : R.ρ} (h : XF X w c Γ rest n G r) (q : r = r') : XF X w c Γ rest n G r' := q ▸ h
/-- the end, reached -/
theorem xf_end {s : S} (h : Weak Γ (G s)) (hn : n s = r) : XF X w c Γ [] n G r := ⟨.nx s, hn, xo_end h⟩
theorem xf_one (h : XS X w c Γ st G (fun e : Empty => e.elim) (Out.rt r : Out S Empty R.ρ)) : XF X w c Γ (st :: rest) n G r := ⟨.rt r, rfl, by
  have := xo_cons (k := fun s : S => Out.nx s) (rest := rest) (o1 := Out.rt r) (G := G) h (fun s hs => by cases hs)
  exact this⟩
theorem xf_nxt {s : S'} {k : S' → R.ρ} (h : XS X w c Γ st G' (fun e : Empty => e.elim) (Out.nx s : Out S' Empty R.ρ)) (hr : ∀ s', s' = s → XF X w c (G' s') rest n G (k s')) : XF X w c Γ (st :: rest) n G (bnd s k) := by
  obtain ⟨o, h1, h2⟩ := hr s rfl
  exact ⟨o, h1, xo_cons (k := fun _ => o) h fun s' hs => by injection hs with hs; subst hs; exact h2⟩
theorem xf_seq (h : XS X w c Γ st (S := Unit) (fun _ => Γ') (fun e : Empty => e.elim) (Out.nx () : Out Unit Empty R.ρ)) (hr : XF X w c Γ' rest n G r) : XF X w c Γ (st :: rest) n G r := by
  obtain ⟨o, h1, h2⟩ := hr
  exact ⟨o, h1, xo_next h h2⟩
def Out.thn {S ρ : Type} (o : Out S Empty ρ) (k : S → ρ) : ρ := match o with
  | .nx s => k s
  | .rt r => r
  | .bk s => s.elim
  | .ct s => s.elim
theorem xf_cons {o1 : Out S' Empty R.ρ} {k : S' → R.ρ} (h : XS X w c Γ st G' (fun e : Empty => e.elim) o1) (hr : ∀ s, o1 = .nx s → XF X w c (G' s) rest n G (k s)) : XF X w c Γ (st :: rest) n G (o1.thn k) := by
  cases o1 with
  | nx s =>
    obtain ⟨o, h1, h2⟩ := hr s rfl
    exact ⟨o, h1, xo_cons (k := fun _ => o) h fun s' hs => by injection hs with hs; subst hs; exact h2⟩
  | rt r => exact xf_one (S := S) (G := G) (by
      obtain ⟨t, h1, h2⟩ := h
      exact ⟨t, h1, fun F H σ E D q => h2 F H σ E D q⟩)
  | bk s => exact s.elim
  | ct s => exact s.elim
/-- if d: A, A returns; then the rest -/
theorem xf_ifx {A : List Stmt} {r1 r2 : R.ρ} (hd : XT X c Γ d k) (ha : k = true → XF X w c Γ A (S := Empty) (fun e => e.elim) (fun e => e.elim) r1) (hb : k = false → XF X w c Γ rest n G r2) :
    XF X w c Γ (.If d A [] pos :: rest) n G (if k then r1 else r2) := by
  cases k with
  | true =>
    obtain ⟨o, h1, h2⟩ := ha rfl
    refine ⟨o.up, ?_, by
      have := xo_ifx (o1 := o) (o2 := o.up) (rest := rest) (G := G) (pos := pos) hd (fun _ => h2) (fun h => by cases h)
      exact this⟩
    cases o with
    | nx s => exact s.elim
    | rt r => exact h1
    | bk s => exact s.elim
    | ct s => exact s.elim
  | false =>
    obtain ⟨o, h1, h2⟩ := hb rfl
    exact ⟨o, h1, xo_ifx (o1 := Out.rt r1) (o2 := o) hd (fun h => by cases h) (fun _ => h2)⟩
/-- if d: A else: C, the last -/
theorem xf_ife {A C : List Stmt} {r1 r2 : R.ρ} (hd : XT X c Γ d k) (ha : k = true → XF X w c Γ A n G r1) (hb : k = false → XF X w c Γ C n G r2) : XF X w c Γ [.If d A C pos] n G (if k then r1 else r2) := by
  cases k with
  | true =>
    obtain ⟨o, h1, h2⟩ := ha rfl
    exact ⟨o, h1, xo_one (xs_if (o1 := o) (o2 := o) hd (fun _ => h2) (fun h => by cases h))⟩
  | false =>
    obtain ⟨o, h1, h2⟩ := hb rfl
    exact ⟨o, h1, xo_one (xs_if (o1 := o) (o2 := o) hd (fun h => by cases h) (fun _ => h2))⟩
/-- a block begins by freezing a name for good -/
theorem xf_freeze {x : υ} (i : Nat) {oa : Option Addr} (hf : FzT t x) (h : XF X w c (Γ.set i (.fz x)) rest n G r) (hi : Γ[i]? = some (.ow oa t) := by rfl) : XF X w c Γ rest n G r := by
  obtain ⟨o, h1, h2⟩ := h
  exact ⟨o, h1, xo_freeze i hf h2 hi⟩
theorem xf_never (h : False) : XF X w c Γ rest n G r := h.elim
end
/-- how a row stands: a list, a list that is only read, a tuple -/
inductive Sk where
  | l
  | r
  | t
deriving DecidableEq
def SqM (m : Sk) (K : Fg) (H : Hp) (a : Addr) (vs : List V) : Prop := match m with
  | .l => H a = some (.lst vs)
  | .r => SqL K H a vs
  | .t => SqT K H a vs
/-- a list (or tuple), its items new or frozen -/
def XQ (X : Cx) (c : Cw) (Γ : List Slot) (sq : Sk) (e : Expr) {τ : Type} (g : τ → OT) (xs : List τ) : Prop := ∃ te, PE X e te ∧
  ∀ F H σ fp, EnvD X.K c F H σ Γ fp → ∀ Q : VK, (∀ a vs fps F' H', EnvD X.K c F' H' σ Γ fp → Ex F F' → Nw F H F' H' → SqM sq X.K H' a vs → L3 (OA X.K F' H') vs fps (xs.map g) → fps.flatten.Nodup → (∀ b ∈ fps.flatten, H b = none) → Q (.ref a) H') → te σ H Q
section
variable {X : Cx} {c : Cw} {Γ Γ' : List Slot} {τ υ : Type} [Py υ] {e a b : Expr} {t u : OT} {x : τ} {g : τ → OT} {xs ys : List τ} {pos : Pos}
theorem l3_fz {K : Fg} {F H : Hp} : ∀ {vs : List V} {zs : List υ}, Reps K F vs zs → L3 (OA K F H) vs (zs.map fun _ => []) (zs.map fun z => OT.fz z)
  | _, _, .nil => .nil
  | _, _, .cons r t => .cons (.fz r) (l3_fz t)
theorem flat_nil {α : Type} : ∀ zs : List α, (zs.map fun _ => ([] : List Addr)).flatten = []
  | [] => rfl
  | _ :: r => flat_nil r
theorem xq_fz {s : List υ} (h : XE X c Γ e s) : XQ X c Γ .l e (fun z : υ => OT.fz z) s := by
  obtain ⟨te, h1, h2⟩ := h
  refine ⟨te, h1, fun F H σ fp E Q q => h2 F H σ fp E Q fun v F' H' E' e1 e2 r => ?_⟩
  obtain ⟨p, vs, rfl, r1, r2⟩ := r
  exact q p vs _ F' H' E' e1 e2 (E'.wd.fh _ _ r1) (l3_fz r2) (by rw [flat_nil]; exact List.nodup_nil) (by rw [flat_nil]; intro b hb; cases hb)
theorem xq_n (h : XN X c Γ e (OT.li g xs)) : XQ X c Γ .l e g xs := by
  obtain ⟨te, h1, h2⟩ := h
  refine ⟨te, h1, fun F H σ fp E Q q => h2 F H σ fp E Q fun v F' H' l E' e1 e2 r hl => ?_⟩
  obtain ⟨p, o, vs, fps, rfl, rfl, hF, hH, ko, hc, nd⟩ := r.l3
  cases (show o = _ from ko)
  exact q p vs fps F' H' E' e1 e2 hH hc (List.nodup_cons.mp nd).2 fun b hb => hl b (List.mem_cons_of_mem _ hb)
/-- items go on standing -/
theorem l3_nw {K : Fg} {F H F' H' : Hp} {vs : List V} {fps : List (List Addr)} {ts : List OT} (r : L3 (OA K F H) vs fps ts) (e : Ex F F') (n : Nw F H F' H') : L3 (OA K F' H') vs fps ts := r.imp fun v l t _ o => o.grow e fun b hb => by
  obtain ⟨d1, u, d2⟩ := o.dom b hb
  exact ⟨Nw.none n d1 (by rw [d2]; simp), (n.h _ _ d2).trans d2.symm⟩
theorem l3_dom {K : Fg} {F H : Hp} {vs : List V} {fps : List (List Addr)} {ts : List OT} (r : L3 (OA K F H) vs fps ts) : ∀ b ∈ fps.flatten, F b = none ∧ ∃ o, H b = some o := fun b hb => by
  obtain ⟨m, hm, hbm⟩ := List.mem_flatten.mp hb
  obtain ⟨j, hj⟩ := List.getElem?_of_mem hm
  have hj2 : j < fps.length := (List.getElem?_eq_some_iff.mp hj).1
  exact (r.2.2 j _ m _ (List.getElem?_eq_getElem (by rw [r.1, ← r.2.1]; exact hj2)) hj (List.getElem?_eq_getElem (by rw [← r.2.1]; exact hj2))).dom b hbm
/-- a new list is laid, with these items -/
theorem lay_li {K : Fg} {F H : Hp} {σ : L2.St} {fp : Nat → List Addr} (E : EnvD K c F H σ Γ fp) {p : Addr} {vs : List V} {fps : List (List Addr)} {ts : List OT} (hp : H p = none) (r : L3 (OA K F H) vs fps ts) (nd : fps.flatten.Nodup) :
    EnvD K c F (upd H p (.lst vs)) σ Γ fp ∧ Nw F H F (upd H p (.lst vs)) ∧ OA K F (upd H p (.lst vs)) (.ref p) (p :: fps.flatten) (.nd .lst ts) := by
  have hf := E.ff hp
  have np : p ∉ fps.flatten := fun h => by
    obtain ⟨_, o, d⟩ := l3_dom r p h
    rw [hp] at d; cases d
  refine ⟨E.grow (Ex.refl _) (E.wd.fh.upd hf) (Ex.new hp) fun b h => .inl h, ⟨Ex.new hp, fun b h => .inl h⟩, OA.mk hf upd_same rfl (r.imp fun v l t hl o => o.grow (Ex.refl _) fun b hb => ⟨(o.dom b hb).1, upd_ne ?_⟩) (List.nodup_cons.mpr ⟨np, nd⟩)⟩
  rintro rfl
  exact np (List.mem_flatten.mpr ⟨l, hl, hb⟩)
/-- a row of things -/
def XNs (X : Cx) (c : Cw) (Γ : List Slot) (es : List Expr) (ts : List OT) : Prop := ∃ t, PA X es t ∧
  ∀ F H σ fp, EnvD X.K c F H σ Γ fp → ∀ Q : List V → Hp → Prop, (∀ vs fps F' H', EnvD X.K c F' H' σ Γ fp → Ex F F' → Nw F H F' H' → L3 (OA X.K F' H') vs fps ts → fps.flatten.Nodup → (∀ b ∈ fps.flatten, H b = none) → Q vs H') → t σ H Q
theorem xns_nil : XNs X c Γ [] [] := ⟨_, pa_nil, fun F H σ fp E Q q => q [] [] F H E (Ex.refl _) Nw.refl .nil List.nodup_nil fun b hb => by cases hb⟩
theorem xns_cons {es : List Expr} {ts : List OT} (h : XN X c Γ e t) (hr : XNs X c Γ es ts) (hs : starEach (e :: es) X.env = (false, eval e X.env) :: starEach es X.env := by rfl) : XNs X c Γ (e :: es) (t :: ts) := by
  obtain ⟨te, h1, h2⟩ := h
  obtain ⟨tr, h3, h4⟩ := hr
  refine ⟨_, pa_cons h1 h3 hs, fun F H σ fp E Q q => h2 F H σ fp E _ fun v F1 H1 l E1 e1 n1 r1 hl => h4 F1 H1 σ fp E1 _ fun vs fps F2 H2 E2 e2 n2 r2 nd hf => ?_⟩
  have r1' : OA X.K F2 H2 v l t := r1.grow e2 fun b hb => by
    obtain ⟨d1, u, d2⟩ := r1.dom b hb
    exact ⟨Nw.none n2 d1 (by rw [d2]; simp), (n2.h _ _ d2).trans d2.symm⟩
  refine q (v :: vs) (l :: fps) F2 H2 E2 (e1.trans e2) (n1.trans n2) (.cons r1' r2) ?_ ?_
  · rw [List.flatten_cons]
    refine List.nodup_append.mpr ⟨r1.nodup, nd, fun b hb c hc e => ?_⟩
    subst e
    obtain ⟨_, u, d⟩ := r1.dom b hb
    rw [hf b hc] at d; cases d
  · intro b hb
    rw [List.flatten_cons] at hb
    rcases List.mem_append.mp hb with h | h
    · exact hl b h
    · cases z : H b with
      | none => rfl
      | some o => have := hf b h; rw [n1.h _ _ z] at this; cases this
/-- [..] -/
theorem xn_lst {es : List Expr} {ts : List OT} (h : XNs X c Γ es ts) (hl : ts.length ≤ 100000) : XN X c Γ (.List es pos) (.nd .lst ts) := by
  obtain ⟨te, h1, h2⟩ := h
  refine ⟨_, pe_lst h1, fun F H σ fp E Q q => h2 F H σ fp E _ fun vs fps F1 H1 E1 e1 n1 r1 nd hf => ⟨sz _ (by rw [r1.1]; exact hl), fun p hp => ?_⟩⟩
  obtain ⟨g1, g2, g3⟩ := lay_li E1 hp r1 nd
  refine q _ _ _ _ g1 e1 (n1.trans g2) g3 fun b hb => ?_
  rcases List.mem_cons.mp hb with rfl | hb
  · cases z : H b with
    | none => rfl
    | some o => rw [n1.h _ _ z] at hp; cases hp
  · exact hf b hb
theorem l3_cut {P : V → List Addr → OT → Prop} {vs : List V} {fps : List (List Addr)} {zs : List τ} (r : L3 P vs fps (zs.map g)) (lo hi : Option Int) : ∃ fps', L3 P (cutV vs lo hi) fps' ((cutL zs lo hi).map g) ∧ fps'.Sublist fps := by
  have e : vs.length = zs.length := by rw [r.1]; simp
  refine ⟨(fps.drop (HT.sIx zs.length 0 lo)).take (HT.sIx zs.length zs.length hi - HT.sIx zs.length 0 lo), ?_, ((List.take_sublist _ _).trans (List.drop_sublist _ _))⟩
  unfold cutV cutL
  rw [e, List.map_take, List.map_drop]
  exact (r.drop _).take _
theorem flat_sub : ∀ {l m : List (List Addr)}, l.Sublist m → l.flatten.Sublist m.flatten
  | _, _, .slnil => .slnil
  | _, _, .cons a h => by rw [List.flatten_cons]; exact (flat_sub h).trans (List.sublist_append_right _ _)
  | _, _, .cons₂ a h => by rw [List.flatten_cons, List.flatten_cons]; exact (List.Sublist.refl a).append (flat_sub h)
/-- xs[lo:hi], a new list -/
theorem xn_slice {lo hi : Option Expr} {i j : Option Int} {p2 : Pos} {m : Sk} (ha : XQ X c Γ m a g xs) (h1 : XP X c Γ lo i) (h2 : XP X c Γ hi j) (hm : m ≠ .t := by decide) : XN X c Γ (.Subscript a (.Slice lo hi none p2) pos) (OT.li g (cutL xs i j)) := by
  obtain ⟨t, a1, a2⟩ := ha
  obtain ⟨u, b1, b2⟩ := h1
  obtain ⟨w, c1, c2⟩ := h2
  refine ⟨_, pe_slice sl_list a1 b1 c1, fun F H σ fp E Q q => a2 F H σ fp E _ fun p vs fps F1 H1 E1 e1 n1 sq r1 nd hf => b2 F1 H1 σ fp E1 _ fun F2 H2 E2 e2 g2 => c2 F2 H2 σ fp E2 _ fun F3 H3 E3 e3 g3 => ?_⟩
  refine ⟨p, vs, rfl, (g2.h.trans g3.h).l (by cases m with | l => exact sq_of sq | r => exact sq | t => exact absurd rfl hm), fun l hl => ?_⟩
  obtain ⟨fps', r2, sb⟩ := l3_cut (l3_nw (l3_nw r1 e2 g2) e3 g3) i j
  obtain ⟨k1, k2, k3⟩ := lay_li E3 hl r2 (nd.sublist (flat_sub sb))
  refine q _ _ _ _ k1 ((e1.trans e2).trans e3) (((n1.trans g2).trans g3).trans k2) k3 fun b hb => ?_
  rcases List.mem_cons.mp hb with rfl | hb
  · cases z : H b with
    | none => rfl
    | some o => rw [((n1.trans g2).trans g3).h _ _ z] at hl; cases hl
  · exact hf b ((flat_sub sb).subset hb)
/-- xs + ys, a new list -/
theorem xn_cat (ha : XQ X c Γ .l a g xs) (hb : XQ X c Γ .l b g ys) (h : xs.length + ys.length ≤ 100000) : XN X c Γ (.BinOp a .Add b pos) (OT.li g (xs ++ ys)) := by
  obtain ⟨t, a1, a2⟩ := ha
  obtain ⟨u, b1, b2⟩ := hb
  refine ⟨_, pe_op op_cat a1 b1, fun F H σ fp E Q q => a2 F H σ fp E _ fun p vs fps F1 H1 E1 e1 n1 sq r1 nd hf => b2 F1 H1 σ fp E1 _ fun p' ws gps F2 H2 E2 e2 n2 sq2 r2 nd2 hf2 => ?_⟩
  have r1' := l3_nw r1 e2 n2
  refine ⟨p, p', vs, ws, rfl, rfl, n2.h _ _ sq, sq2, sz _ (by rw [r1.1, r2.1]; simpa using h), fun l hl => ?_⟩
  have r3 := r1'.app r2
  have fl : (fps ++ gps).flatten = fps.flatten ++ gps.flatten := by simp
  have nd3 : (fps ++ gps).flatten.Nodup := by
    rw [fl]
    refine List.nodup_append.mpr ⟨nd, nd2, fun b hb c hc e => ?_⟩
    subst e
    obtain ⟨_, o, d⟩ := l3_dom r1 b hb
    rw [hf2 b hc] at d; cases d
  obtain ⟨k1, k2, k3⟩ := lay_li E2 hl r3 nd3
  rw [← List.map_append] at k3
  refine q _ _ _ _ k1 (e1.trans e2) ((n1.trans n2).trans k2) k3 fun b hb => ?_
  have old : ∀ b, H1 b = none → H b = none := fun b h1 => by
    cases z : H b with
    | none => rfl
    | some o => rw [n1.h _ _ z] at h1; cases h1
  rcases List.mem_cons.mp hb with rfl | hb
  · cases z : H b with
    | none => rfl
    | some o => rw [(n1.trans n2).h _ _ z] at hl; cases hl
  · rw [fl] at hb
    rcases List.mem_append.mp hb with h | h
    · exact hf b h
    · exact old b (hf2 b h)
/-- list(xs), a new list -/
theorem xn_list {sq : Sk} {p : Pos} (hm : X.mg "list" = none) (ha : XQ X c Γ sq e g xs) (hg : Gl X "list" := by rfl) (hs : starEach [e] X.env = [(false, eval e X.env)] := by rfl) : XN X c Γ (.Call (.Name "list" p) [e] [] pos) (OT.li g xs) := by
  obtain ⟨t, h1, h2⟩ := ha
  refine ⟨_, pe_callTy call_list_of hg hm (by decide +kernel) (pa_cons h1 pa_nil hs) (by decide) (by decide) hs rfl, fun F H σ fp E Q q => h2 F H σ fp E _ fun ad vs fps F1 H1 E1 e1 n1 sq' r1 nd hf => ?_⟩
  refine ⟨ad, vs, rfl, (by cases sq with | l => exact .inl (sq_of sq') | r => exact .inl sq' | t => exact .inr sq'), fun l hl => ?_⟩
  obtain ⟨k1, k2, k3⟩ := lay_li E1 hl r1 nd
  refine q _ _ _ _ k1 e1 (n1.trans k2) k3 fun b hb => ?_
  rcases List.mem_cons.mp hb with rfl | hb
  · cases z : H b with
    | none => rfl
    | some o => rw [n1.h _ _ z] at hl; cases hl
  · exact hf b hb
/-- a frozen-item list rule's answer as a new list -/
theorem rep_list_nd {K : Fg} {F H : Hp} {p : Addr} {vs : List V} {zs : List υ} (hF : F p = none) (hp : H p = some (.lst vs)) (r : Reps K F vs zs) : OA K F H (.ref p) [p] (ol zs) := by
  have := OA.mk (K := K) (F := F) (H := H) (fps := zs.map fun _ => []) hF hp (k := .lst) rfl (l3_fz (H := H) r) (by rw [flat_nil]; simp)
  rwa [flat_nil] at this
theorem reps_l3 {K : Fg} {F H : Hp} : ∀ {zs : List υ} {vs : List V} {fps : List (List Addr)}, L3 (OA K F H) vs fps (zs.map fun z => OT.fz z) → Reps K F vs zs
  | [], vs, fps, r => by
    have := r.1
    cases vs with
    | nil => exact .nil
    | cons => simp at this
  | z :: zs, vs, fps, r => by
    have q1 := r.1; have q2 := r.2.1
    cases vs with
    | nil => simp at q1
    | cons v vs => cases fps with
      | nil => simp at q2
      | cons l fps =>
        have := r.head
        cases this with
        | fz r0 => exact .cons r0 (reps_l3 r.tail)
/-- xs * k, a new list of frozen things -/
theorem xn_rep {zs : List υ} {k : Int} (ha : XQ X c Γ .l a (fun z : υ => OT.fz z) zs) (hb : XE X c Γ b k) (h : k ≤ 100000 ∧ zs.length * k.toNat ≤ 100000) (h0 : -100000 ≤ k) : XN X c Γ (.BinOp a .Mult b pos) (ol (List.replicate k.toNat zs).flatten) := by
  obtain ⟨t, a1, a2⟩ := ha
  obtain ⟨u, b1, b2⟩ := hb
  refine ⟨_, pe_op op_rep a1 b1, fun F H σ fp E Q q => a2 F H σ fp E _ fun p vs fps F1 H1 E1 e1 n1 sq r1 nd hf => b2 F1 H1 σ fp E1 _ fun v F2 H2 E2 e2 n2 r2 => ?_⟩
  refine ⟨p, k, vs, rfl, r2, n2.h _ _ sq, by omega, by omega, sz _ (by rw [r1.1]; simpa using h.2), fun l hl => ?_⟩
  have rr : Reps X.K F2 vs zs := reps_l3 (l3_nw r1 e2 n2)
  have hf := E2.ff hl
  refine q _ F2 _ [l] (E2.grow (Ex.refl _) (E2.wd.fh.upd hf) (Ex.new hl) fun b h => .inl h) (e1.trans e2) ((n1.trans n2).trans ⟨Ex.new hl, fun b h => .inl h⟩) (rep_list_nd hf upd_same (rep_flat rr _)) fun b hb => ?_
  cases List.mem_singleton.mp hb
  cases z : H l with
  | none => rfl
  | some o => rw [(n1.trans n2).h _ _ z] at hl; cases hl
end
end Fw
namespace Fw
open PySem L2 Py PyProof.Rows
def OT.isNd : OT → Bool
  | .nd _ _ => true
  | _ => false
/-- an argument as it is handed in: frozen data, or a place in an owned slot -/
inductive CA : Type 1 where
  | fz {τ : Type} [inst : Py τ] (x : τ)
  | pl (i : Nat) (p : List Nat) (oa : Option Addr) (t u : OT)
def CA.d : CA → ArgD
  | @CA.fz _ _ x => .fz x
  | .pl _ _ _ _ u => .ow u
def CA.ix : CA → Option Nat
  | @CA.fz _ _ _ => none
  | .pl i _ _ _ _ => some i
def CAok (K : Fg) (F H : Hp) (σ : L2.St) (v : V) : CA → Prop
  | @CA.fz _ _ x => rep K F v x
  | .pl i p _ _ _ => ∃ v0, σ[i]? = some (some v0) ∧ follow H v0 p = some v
def caOk (Γ : List Slot) : List CA → Prop
  | [] => True
  | @CA.fz _ _ _ :: r => caOk Γ r
  | .pl i p oa t u :: r => (Γ[i]? = some (.ow oa t) ∧ t.get? p = some u ∧ u.isNd = true) ∧ caOk Γ r
def caUp : List Slot → List CA → List (Option OT) → List Slot
  | Γ, .pl i p oa t _ :: as, some u' :: ds => caUp (Γ.set i (.ow oa (t.put p u'))) as ds
  | Γ, .pl _ _ _ _ _ :: as, none :: ds => caUp Γ as ds
  | Γ, @CA.fz _ _ _ :: as, _ :: ds => caUp Γ as ds
  | Γ, [], _ => Γ
  | Γ, _ :: _, [] => Γ
theorem caOk_get {Γ : List Slot} : ∀ {as : List CA} {k i : Nat} {p : List Nat} {oa : Option Addr} {t u : OT}, caOk Γ as → as[k]? = some (.pl i p oa t u) → Γ[i]? = some (.ow oa t) ∧ t.get? p = some u ∧ u.isNd = true
  | [], k, i, p, oa, t, u, h, e => by simp at e
  | @CA.fz _ _ _ :: r, 0, i, p, oa, t, u, h, e => by simp at e
  | .pl i1 p1 oa1 t1 u1 :: r, 0, i, p, oa, t, u, h, e => by
    have e : CA.pl i1 p1 oa1 t1 u1 = CA.pl i p oa t u := by simpa only [List.getElem?_cons_zero, Option.some.injEq] using e
    cases e; exact h.1
  | @CA.fz _ _ _ :: r, k + 1, i, p, oa, t, u, h, e => caOk_get (as := r) h (by simpa using e)
  | .pl _ _ _ _ _ :: r, k + 1, i, p, oa, t, u, h, e => caOk_get (as := r) h.2 (by simpa using e)
theorem ix_inj : ∀ {as : List CA}, (as.filterMap CA.ix).Nodup → ∀ {k k' i : Nat} {a a' : CA}, as[k]? = some a → as[k']? = some a' → a.ix = some i → a'.ix = some i → k = k'
  | [], _, k, k', i, a, a', h, _, _, _ => by simp at h
  | b :: r, nd, k, k', i, a, a', h1, h2, e1, e2 => by
    have mem : ∀ {j : Nat} {a : CA}, r[j]? = some a → a.ix = some i → i ∈ r.filterMap CA.ix := fun h e => List.mem_filterMap.mpr ⟨_, List.mem_of_getElem? h, e⟩
    have nd' : (r.filterMap CA.ix).Nodup ∧ (b.ix = some i → i ∉ r.filterMap CA.ix) := by
      cases hb : b.ix with
      | none => rw [List.filterMap_cons_none hb] at nd; exact ⟨nd, fun h => by cases h⟩
      | some j =>
        rw [List.filterMap_cons_some hb, List.nodup_cons] at nd
        exact ⟨nd.2, fun h => by cases h; exact nd.1⟩
    cases k with
    | zero =>
      have h1 : b = a := by simpa using h1
      subst h1
      cases k' with
      | zero => rfl
      | succ k' => exact absurd (mem (by simpa using h2) e2) (nd'.2 e1)
    | succ k =>
      cases k' with
      | zero =>
        have h2 : b = a' := by simpa using h2
        subst h2
        exact absurd (mem (by simpa using h1) e1) (nd'.2 e2)
      | succ k' => exact congrArg (· + 1) (ix_inj nd'.1 (k := k) (k' := k') (a := a) (a' := a') (by simpa using h1) (by simpa using h2) e1 e2)
theorem caUp_len : ∀ {as : List CA} {Γ : List Slot} {ds : List (Option OT)}, (caUp Γ as ds).length = Γ.length
  | [], Γ, [] => rfl
  | [], Γ, _ :: _ => rfl
  | @CA.fz _ _ _ :: as, Γ, [] => rfl
  | .pl _ _ _ _ _ :: as, Γ, [] => rfl
  | @CA.fz _ _ _ :: as, Γ, none :: ds => by unfold caUp; exact caUp_len
  | @CA.fz _ _ _ :: as, Γ, some _ :: ds => by unfold caUp; exact caUp_len
  | .pl _ _ _ _ _ :: as, Γ, none :: ds => by unfold caUp; exact caUp_len
  | .pl i p oa t u :: as, Γ, some u' :: ds => by unfold caUp; exact caUp_len.trans (by simp)
/-- slots that no argument names stay -/
theorem caUp_ne : ∀ {as : List CA} {Γ : List Slot} {ds : List (Option OT)} {j : Nat}, (∀ (k : Nat) a, as[k]? = some a → a.ix ≠ some j) → (caUp Γ as ds)[j]? = Γ[j]?
  | [], Γ, ds, j, h => by unfold caUp; rfl
  | @CA.fz _ _ _ :: as, Γ, [], j, h => rfl
  | .pl _ _ _ _ _ :: as, Γ, [], j, h => rfl
  | @CA.fz _ _ _ :: as, Γ, none :: ds, j, h => by unfold caUp; exact caUp_ne fun k a ha => h (k + 1) a (by simpa using ha)
  | @CA.fz _ _ _ :: as, Γ, some _ :: ds, j, h => by unfold caUp; exact caUp_ne fun k a ha => h (k + 1) a (by simpa using ha)
  | .pl _ _ _ _ _ :: as, Γ, none :: ds, j, h => by unfold caUp; exact caUp_ne fun k a ha => h (k + 1) a (by simpa using ha)
  | .pl i p oa t u :: as, Γ, some u' :: ds, j, h => by
    unfold caUp
    rw [caUp_ne fun k a ha => h (k + 1) a (by simpa using ha), List.getElem?_set_ne]
    rintro rfl
    exact h 0 _ rfl rfl
theorem caUp_eq : ∀ {as : List CA} {Γ : List Slot} {ds : List (Option OT)} {k i : Nat} {p : List Nat} {oa : Option Addr} {t u u' : OT}, (as.filterMap CA.ix).Nodup → i < Γ.length → as[k]? = some (.pl i p oa t u) → ds[k]? = some (some u') → (caUp Γ as ds)[i]? = some (.ow oa (t.put p u'))
  | [], Γ, ds, k, i, p, oa, t, u, u', _, _, h, _ => by simp at h
  | a :: as, Γ, [], k, i, p, oa, t, u, u', _, _, _, h => by simp at h
  | a :: as, Γ, d :: ds, 0, i, p, oa, t, u, u', nd, hi, h1, h2 => by
    have h1 : a = .pl i p oa t u := by simpa using h1
    have h2 : d = some u' := by simpa using h2
    subst h1; subst h2
    unfold caUp
    rw [caUp_ne, List.getElem?_set_self hi]
    intro k a ha e
    have := ix_inj nd (k := 0) (k' := k + 1) (a := .pl i p oa t u) (a' := a) rfl (by simpa using ha) rfl e
    omega
  | a :: as, Γ, d :: ds, k + 1, i, p, oa, t, u, u', nd, hi, h1, h2 => by
    have nd' : (as.filterMap CA.ix).Nodup := by
      cases hb : a.ix with
      | none => rwa [List.filterMap_cons_none hb] at nd
      | some j =>
        rw [List.filterMap_cons_some hb, List.nodup_cons] at nd
        exact nd.2
    have h1 : as[k]? = some (.pl i p oa t u) := by simpa using h1
    have h2 : ds[k]? = some (some u') := by simpa using h2
    cases a with
    | fz x =>
      cases d with
      | none => unfold caUp; exact caUp_eq nd' hi h1 h2
      | some z => unfold caUp; exact caUp_eq nd' hi h1 h2
    | pl =>
      cases d with
      | none => unfold caUp; exact caUp_eq nd' hi h1 h2
      | some z => unfold caUp; exact caUp_eq nd' (by simpa using hi) h1 h2
inductive Pd (R : V → CA → Prop) : List V → List CA → Prop where
  | nil : Pd R [] []
  | cons {v : V} {a : CA} {vs : List V} {as : List CA} (h : R v a) (t : Pd R vs as) : Pd R (v :: vs) (a :: as)
theorem Pd.length {R : V → CA → Prop} : ∀ {vs : List V} {as : List CA}, Pd R vs as → vs.length = as.length
  | _, _, .nil => rfl
  | _, _, .cons _ t => by simp [Pd.length t]
theorem paired_get {R : V → CA → Prop} : ∀ {xs : List V} {ys : List CA}, Pd R xs ys → ∀ {k : Nat} {y : CA}, ys[k]? = some y → ∃ x, xs[k]? = some x ∧ R x y
  | _, _, .nil, k, y, h => by simp at h
  | _, _, .cons r t, 0, y, h => by simp at h; subst h; exact ⟨_, rfl, r⟩
  | _, _, .cons r t, k + 1, y, h => by
    obtain ⟨x, h1, h2⟩ := paired_get t (k := k) (by simpa using h)
    exact ⟨x, by simpa using h1, h2⟩
section
variable {K : Fg} {c : Cw} {F H : Hp} {σ : L2.St} {Γ : List Slot} {fp : Nat → List Addr}
/-- what is known of an argument at the call -/
def Fc (K : Fg) (F H : Hp) (σ : L2.St) (fp : Nat → List Addr) (v : V) (l2 l1 : List Addr) : CA → Prop
  | @CA.fz _ _ x => l2 = [] ∧ l1 = [] ∧ rep K F v x
  | .pl i p oa t u => ∃ v0 w, v = .ref w ∧ σ[i]? = some (some v0) ∧ OA K F H v l2 u ∧ (fp i).Perm (l2 ++ l1) ∧ (∀ a, oa = some a → v0 = .ref a) ∧
      ∀ F' H' l2' u', Ex F F' → (∀ b ∈ l1, F' b = none ∧ H' b = H b) → OA K F' H' v l2' u' → (∀ b ∈ l2', b ∉ l1) → ∃ l', OA K F' H' v0 l' (t.put p u') ∧ l'.Perm (l2' ++ l1)
theorem fc_of (E : EnvD K c F H σ Γ fp) {v : V} {a : CA} (h : CAok K F H σ v a) (hg : ∀ i p oa t u, a = .pl i p oa t u → Γ[i]? = some (.ow oa t) ∧ t.get? p = some u ∧ u.isNd = true) : ∃ l2 l1, Fc K F H σ fp v l2 l1 a := by
  cases a with
  | fz x => exact ⟨[], [], rfl, rfl, h⟩
  | pl i p oa t u =>
    obtain ⟨g1, g2, g3⟩ := hg i p oa t u rfl
    obtain ⟨v0, h1, h2⟩ := h
    obtain ⟨v0', k1, k2, k3⟩ := E.geto g1
    rw [h1] at k1; cases k1
    obtain ⟨w, l2, l1, f1, f2, f3, f4⟩ := k2.focus g2
    rw [h2] at f1; cases f1
    have hw : ∃ a, v = .ref a := by
      cases f2 with
      | fz r => cases g3
      | hole => cases g3
      | nd => exact ⟨_, rfl⟩
    obtain ⟨a, rfl⟩ := hw
    exact ⟨l2, l1, v0, a, rfl, h1, f2, f3, k3, f4⟩
def adr (vs : List V) (k : Nat) : Addr := match vs[k]? with
  | some (.ref a) => a
  | _ => 0
/-- the callee's slots, and how what it leaves is taken back -/
theorem call_env (E : EnvD K c F H σ Γ fp) {vs : List V} {as : List CA} (hp : Pd (CAok K F H σ) vs as) (hg : caOk Γ as) (nd : (as.filterMap CA.ix).Nodup) :
    ∃ l2 : Nat → List Addr, EnvD K (cwOf F H l2) F H (vs.map some) (argSl (adr vs) 0 (as.map CA.d)) l2 ∧ (∀ k b, b ∈ l2 k → ∃ j, b ∈ fp j) ∧ ((∀ a ∈ as, a.ix = none) → l2 = fun _ => []) ∧
      ∀ F' H' v ds r fp', ds.map Option.isSome = (as.map CA.d).map ArgD.isOw → EnvD K (cwOf F H l2) F' H' (vs.map some ++ [some v]) (outSl (adr vs) 0 ds ++ [r]) fp' →
        ∃ fp2, EnvD K c F' H' σ (caUp Γ as ds) fp2 ∧ r.ok K F' H' (some v) (fp' vs.length) ∧ ∀ b ∈ fp' vs.length, c.al b ∧ ∀ j, b ∉ fp2 j := by
  have hlen : vs.length = as.length := Pd.length hp
  have ex : ∀ k : Nat, ∃ l2 l1 : List Addr, (∀ v a, vs[k]? = some v → as[k]? = some a → Fc K F H σ fp v l2 l1 a) ∧ (as.length ≤ k → l2 = [] ∧ l1 = []) := fun k => by
    by_cases hk : k < as.length
    · obtain ⟨v, h1, h2⟩ := paired_get hp (List.getElem?_eq_getElem hk)
      obtain ⟨l2, l1, h3⟩ := fc_of E h2 fun i p oa t u e => caOk_get hg (by rw [List.getElem?_eq_getElem hk, e])
      refine ⟨l2, l1, fun v' a' q1 q2 => ?_, fun h => by omega⟩
      rw [h1] at q1; cases q1
      rw [List.getElem?_eq_getElem hk] at q2; cases q2
      exact h3
    · refine ⟨[], [], ⟨fun v a q1 q2 => ?_, fun _ => ⟨rfl, rfl⟩⟩⟩
      rw [List.getElem?_eq_none (by omega)] at q2; cases q2
  obtain ⟨l2, ex⟩ := Classical.skolem.mp ex
  obtain ⟨l1, ex⟩ := Classical.skolem.mp ex
  have fcs : ∀ {k : Nat} {v : V} {a : CA}, vs[k]? = some v → as[k]? = some a → Fc K F H σ fp v (l2 k) (l1 k) a := fun h1 h2 => (ex _).1 _ _ h1 h2
  -- an address of an argument: the argument is a place
  have own : ∀ {k b}, b ∈ l2 k ∨ b ∈ l1 k → ∃ (i : Nat) (p : List Nat) (oa : Option Addr) (t u : OT) (v : V), as[k]? = some (CA.pl i p oa t u) ∧ vs[k]? = some v ∧ b ∈ fp i := fun {k b} hb => by
    by_cases hk : k < as.length
    · obtain ⟨v, h1, _⟩ := paired_get hp (List.getElem?_eq_getElem hk)
      have h2 : as[k]? = some as[k] := List.getElem?_eq_getElem hk
      have h3 := fcs h1 h2
      cases ha : as[k] with
      | fz x =>
        rw [ha] at h3
        obtain ⟨e1, e2, _⟩ := h3
        rw [e1, e2] at hb
        rcases hb with h | h <;> cases h
      | pl i p oa t u =>
        rw [ha] at h3
        obtain ⟨v0, w, e1, e2, e3, e4, _⟩ := h3
        exact ⟨i, p, oa, t, u, v, by rw [h2, ha], h1, e4.mem_iff.mpr (by rcases hb with h | h <;> simp [h])⟩
    · obtain ⟨e1, e2⟩ := (ex k).2 (by omega)
      rw [e1, e2] at hb
      rcases hb with h | h <;> cases h
  have uniq : ∀ {k k' b}, (b ∈ l2 k ∨ b ∈ l1 k) → (b ∈ l2 k' ∨ b ∈ l1 k') → k = k' := fun h1 h2 => by
    obtain ⟨i, p, oa, t, u, v, a1, a2, a3⟩ := own h1
    obtain ⟨i', p', oa', t', u', v', b1, b2, b3⟩ := own h2
    have := E.dis i i' _ a3 b3
    subst this
    exact ix_inj nd a1 b1 rfl rfl
  have nd12 : ∀ {k b}, b ∈ l2 k → b ∉ l1 k := fun {k b} h1 h2 => by
    obtain ⟨i, p, oa, t, u, v, a1, a2, a3⟩ := own (.inl h1)
    obtain ⟨v0, w, e1, e2, e3, e4, _⟩ := fcs a2 a1
    have g := caOk_get hg a1
    obtain ⟨_, _, k2, _⟩ := E.geto g.1
    exact (List.nodup_append.mp (e4.nodup_iff.mp k2.nodup)).2.2 b h1 b h2 rfl
  refine ⟨l2, ⟨⟨Ex.refl _, E.wd.fh, fun b o _ h => h, fun b h => .inl h⟩, by simp [argSl_len, hlen], fun k s hs => ?_, fun j k b h1 h2 => uniq (.inl h1) (.inl h2), fun k b h => .inl ⟨k, h⟩, fun k h => ?_⟩, fun k b hb => ?_, fun hn => ?_, fun F' H' v ds r fp' hsh E' => ?_⟩
  · rw [argSl_get, List.getElem?_map] at hs
    by_cases hk : k < as.length
    · rw [List.getElem?_eq_getElem hk] at hs
      obtain ⟨v, h1, _⟩ := paired_get hp (List.getElem?_eq_getElem hk)
      have h3 := fcs h1 (List.getElem?_eq_getElem hk)
      refine ⟨some v, by simp [h1], ?_⟩
      cases ha : as[k] with
      | fz x =>
        rw [ha] at hs h3
        obtain ⟨e1, e2, e3⟩ := h3
        have hs : Slot.fz x = s := by simpa [CA.d, ArgD.slot] using hs
        subst hs
        exact ⟨e1, v, rfl, e3⟩
      | pl i p oa t u =>
        rw [ha] at hs h3
        obtain ⟨v0, w, e1, e2, e3, e4, _⟩ := h3
        have hs : Slot.ow (some (adr vs (0 + k))) u = s := by simpa [CA.d, ArgD.slot] using hs
        subst hs
        refine ⟨v, rfl, e3, fun a ha => ?_⟩
        cases ha
        rw [Nat.zero_add]
        unfold adr
        rw [h1, e1]
    · rw [List.getElem?_eq_none (by omega)] at hs; cases hs
  · rw [argSl_len, List.length_map] at h
    exact ((ex k).2 h).1
  · obtain ⟨i, _, _, _, _, _, _, _, h⟩ := own (.inl hb)
    exact ⟨i, h⟩
  · funext k
    cases q : l2 k with
    | nil => rfl
    | cons b r =>
      obtain ⟨i, p, oa, t, u, v, a1, _⟩ := own (k := k) (b := b) (.inl (by rw [q]; simp))
      have := hn _ (List.mem_of_getElem? a1)
      cases this
  · have dl : ds.length = as.length := by simpa using congrArg List.length hsh
    have notW : ∀ {k b}, b ∈ l1 k → ¬ (cwOf F H l2).W b := fun h1 ⟨j, h2⟩ => by
      have := uniq (.inl h2) (.inr h1)
      subst this
      exact nd12 h2 h1
    have inH : ∀ {k b}, (b ∈ l2 k ∨ b ∈ l1 k) → F b = none ∧ ∃ o, H b = some o := fun h => by
      obtain ⟨i, _, _, _, _, _, _, _, h⟩ := own h
      exact E.dom h
    have alW : ∀ {b}, (cwOf F H l2).al b → (∃ (i : Nat) (p : List Nat) (oa : Option Addr) (t u : OT), (∃ k : Nat, as[k]? = some (CA.pl i p oa t u)) ∧ b ∈ fp i) ∨ H b = none := fun h => by
      rcases h with ⟨k, h⟩ | h
      · obtain ⟨i, p, oa, t, u, v, a1, _, a3⟩ := own (.inl h)
        exact .inl ⟨i, p, oa, t, u, ⟨k, a1⟩, a3⟩
      · exact .inr h
    -- each place, behind the call
    have back : ∀ i : Nat, ∃ l' : List Addr, (∀ (k : Nat) p oa t u, as[k]? = some (CA.pl i p oa t u) → ∃ v0 u', ds[k]? = some (some u') ∧ σ[i]? = some (some v0) ∧ OA K F' H' v0 l' (t.put p u') ∧ (∀ a, oa = some a → v0 = .ref a) ∧ l'.Perm (fp' k ++ l1 k)) ∧ ((∀ (k : Nat) p oa t u, as[k]? ≠ some (CA.pl i p oa t u)) → l' = fp i) := fun i => by
      classical
      by_cases hi : ∃ (k : Nat) (p : List Nat) (oa : Option Addr) (t u : OT), as[k]? = some (CA.pl i p oa t u)
      · obtain ⟨k, p, oa, t, u, ha⟩ := hi
        have hk : k < as.length := (List.getElem?_eq_some_iff.mp ha).1
        obtain ⟨v1, h1, _⟩ := paired_get hp ha
        obtain ⟨v0, w, e1, e2, e3, e4, e5, e6⟩ := fcs h1 ha
        have hd : ∃ u', ds[k]? = some (some u') := by
          have := congrArg (fun l => l[k]?) hsh
          simp only [List.getElem?_map, ha] at this
          rw [List.getElem?_eq_getElem (by omega)] at this
          cases q : ds[k] with
          | none => rw [q] at this; cases this
          | some u' => exact ⟨u', by rw [List.getElem?_eq_getElem (by omega), q]⟩
        obtain ⟨u', hd⟩ := hd
        have hs : (outSl (adr vs) 0 ds ++ [r])[k]? = some (.ow (some (adr vs (0 + k))) u') := by
          rw [List.getElem?_append_left (by rw [outSl_len]; omega), outSl_get, hd]; rfl
        obtain ⟨x, q1, q2, q3⟩ := E'.geto hs
        have hx : x = v1 := by
          rw [List.getElem?_append_left (by simp; omega), List.getElem?_map, h1] at q1
          simpa using q1.symm
        subst hx
        obtain ⟨l', z1, z2⟩ := e6 F' H' (fp' k) u' E'.wd.f0 (fun b hb => by
          obtain ⟨d1, o, d2⟩ := inH (.inr hb)
          refine ⟨?_, (E'.wd.keep b o (notW hb) d2).trans d2.symm⟩
          cases q : F' b with
          | none => rfl
          | some y =>
            rcases E'.wd.new b (by rw [q]; simp) with z | z | z
            · exact absurd d1 z
            · exact absurd z (notW hb)
            · rw [show H b = none from z] at d2; cases d2) q2 (fun b hb hb1 => by
          obtain ⟨d1, o, d2⟩ := inH (.inr hb1)
          rcases E'.al k b hb with z | z
          · exact notW hb1 z
          · rw [show H b = none from z] at d2; cases d2)
        refine ⟨l', fun k2 p2 oa2 t2 u2 ha2 => ?_, fun h => absurd ha (h _ _ _ _ _)⟩
        have := ix_inj nd ha ha2 rfl rfl
        subst this
        rw [ha] at ha2; cases ha2
        exact ⟨v0, u', hd, e2, z1, e5, z2⟩
      · refine ⟨fp i, fun k p oa t u ha => absurd ⟨k, p, oa, t, u, ha⟩ hi, fun _ => rfl⟩
    obtain ⟨fp2, back⟩ := Classical.skolem.mp back
    let I : Nat → Prop := fun i => ∃ (k : Nat) (p : List Nat) (oa : Option Addr) (t u : OT), as[k]? = some (CA.pl i p oa t u)
    have nI : ∀ {i}, ¬ I i → ∀ (k : Nat) p oa t u, as[k]? ≠ some (CA.pl i p oa t u) := fun h k p oa t u e => h ⟨k, p, oa, t, u, e⟩
    have rn : ∀ b ∈ fp' vs.length, ∀ k, k < vs.length → b ∉ fp' k := fun b hb k hk h => by
      have := E'.dis _ _ b hb h; omega
    -- an address behind the call, at a place
    have at2 : ∀ {i b}, I i → b ∈ fp2 i → ∃ (k : Nat) (p : List Nat) (oa : Option Addr) (t u : OT), as[k]? = some (CA.pl i p oa t u) ∧ (b ∈ fp' k ∨ b ∈ l1 k) := fun ⟨k, p, oa, t, u, ha⟩ hb => by
      obtain ⟨v0, u', z1, z2, z3, z4, z5⟩ := (back _).1 k p oa t u ha
      exact ⟨k, p, oa, t, u, ha, List.mem_append.mp (z5.mem_iff.mp hb)⟩
    have E2 : EnvD K c F' H' σ (caUp Γ as ds) fp2 := by
      refine E.chg I E'.wd.f0 E'.wd.fh (fun b u hb hu => ?_) (fun b hb => ?_) rfl caUp_len (fun i hi => ⟨?_, rfl, (back i).2 (nI hi)⟩) (fun i s hi hs => ?_) (fun i b hi hb => ?_) (fun i j b hi hj h1 h2 => ?_) (fun i hi h => ?_)
      · refine E'.wd.keep b u (fun ⟨k, h⟩ => ?_) hu
        obtain ⟨i, p, oa, t, u, v, a1, a2, a3⟩ := own (.inl h)
        exact hb i ⟨k, p, oa, t, u, a1⟩ a3
      · rcases E'.wd.new b hb with z | z
        · exact .inl z
        · rcases alW z with ⟨i, p, oa, t, u, ⟨k, a1⟩, a3⟩ | z
          · exact .inr (.inl ⟨i, ⟨k, p, oa, t, u, a1⟩, a3⟩)
          · exact .inr (.inr z)
      · refine caUp_ne fun k a ha e => ?_
        cases a with
        | fz x => cases e
        | pl i' p oa t u => cases e; exact hi ⟨k, p, oa, t, u, ha⟩
      · obtain ⟨k, p, oa, t, u, ha⟩ := hi
        obtain ⟨v0, u', z1, z2, z3, z4, z5⟩ := (back i).1 k p oa t u ha
        have g := caOk_get hg ha
        rw [caUp_eq nd (List.getElem?_eq_some_iff.mp g.1).1 ha z1] at hs
        cases hs
        exact ⟨_, z2, v0, rfl, z3, z4⟩
      · obtain ⟨k, p, oa, t, u, ha, h⟩ := at2 hi hb
        rcases h with h | h
        · rcases alW (E'.al k b h) with ⟨i', p', oa', t', u', ⟨k', a1⟩, a3⟩ | z
          · exact .inl ⟨i', ⟨k', p', oa', t', u', a1⟩, a3⟩
          · exact .inr ⟨E.wd.fresh z, E.fresh z⟩
        · obtain ⟨i', p', oa', t', u', v', a1, a2, a3⟩ := own (.inr h)
          exact .inl ⟨i', ⟨k, p', oa', t', u', a1⟩, a3⟩
      · obtain ⟨k, p, oa, t, u, ha, h⟩ := at2 hi h1
        obtain ⟨k', p', oa', t', u', ha', h'⟩ := at2 hj h2
        have hkk : k = k' := by
          rcases h with h | h
          · rcases h' with h' | h'
            · exact E'.dis k k' b h h'
            · exfalso
              obtain ⟨d1, o, d2⟩ := inH (.inr h')
              rcases E'.al k b h with z | z
              · exact notW h' z
              · rw [show H b = none from z] at d2; cases d2
          · rcases h' with h' | h'
            · exfalso
              obtain ⟨d1, o, d2⟩ := inH (.inr h)
              rcases E'.al k' b h' with z | z
              · exact notW h z
              · rw [show H b = none from z] at d2; cases d2
            · exact uniq (.inr h) (.inr h')
        subst hkk
        rw [ha] at ha'; cases ha'; rfl
      · obtain ⟨k, p, oa, t, u, ha⟩ := hi
        have g := caOk_get hg ha
        have := (List.getElem?_eq_some_iff.mp g.1).1
        omega
    refine ⟨fp2, E2, ?_, fun b hb => ⟨?_, fun j hj => ?_⟩⟩
    · have hs : (outSl (adr vs) 0 ds ++ [r])[vs.length]? = some r := by
        rw [List.getElem?_append_right (by rw [outSl_len]; omega), outSl_len, dl, hlen, Nat.sub_self]; rfl
      obtain ⟨x, q1, q2⟩ := E'.ok _ r hs
      rw [List.getElem?_append_right (by simp), List.length_map, Nat.sub_self] at q1
      have q1 : some v = x := by simpa using q1
      subst q1
      exact q2
    · rcases alW (E'.al _ b hb) with ⟨i, p, oa, t, u, _, a3⟩ | z
      · exact E.al i b a3
      · exact E.wd.fresh z
    · by_cases hi : I j
      · obtain ⟨k, p, oa, t, u, ha, h⟩ := at2 hi hj
        have hk : k < as.length := (List.getElem?_eq_some_iff.mp ha).1
        rcases h with h | h
        · exact rn b hb k (by omega) h
        · obtain ⟨d1, o, d2⟩ := inH (.inr h)
          rcases E'.al _ b hb with z | z
          · exact notW h z
          · rw [show H b = none from z] at d2; cases d2
      · rw [(back j).2 (nI hi)] at hj
        obtain ⟨d1, o, d2⟩ := E.dom hj
        rcases alW (E'.al _ b hb) with ⟨i, p, oa, t, u, ⟨k, a1⟩, a3⟩ | z
        · have := E.dis j i b hj a3
          subst this
          exact hi ⟨k, p, oa, t, u, a1⟩
        · rw [z] at d2; cases d2
end
end Fw
namespace Fw
open PySem L2 Py PyProof.Rows
/-- the place of a name -/
def fIx {α : Type} [DecidableEq α] : List α → α → Option Nat
  | [], _ => none
  | n :: r, f => if n = f then some 0 else match fIx r f with
    | some j => some (j + 1)
    | none => none
theorem fIx_get {α : Type} [DecidableEq α] : ∀ {ns : List α} {f : α} {j : Nat}, fIx ns f = some j → ns[j]? = some f
  | [], f, j, h => by cases h
  | n :: r, f, j, h => by
    unfold fIx at h
    split at h
    · rename_i e; cases h; simp [e]
    · cases q : fIx r f with
      | none => rw [q] at h; cases h
      | some k => rw [q] at h; cases h; simpa using fIx_get q
theorem fIx_mem {α : Type} [DecidableEq α] {ns : List α} {f : α} {j : Nat} (h : fIx ns f = some j) : f ∈ ns := List.mem_of_getElem? (fIx_get h)
theorem lookup_zip : ∀ {ns : List Str} {vs : List V} {f : Str} {j : Nat} {v : V}, fIx ns f = some j → vs[j]? = some v → (ns.zip vs).lookup f = some v
  | [], vs, f, j, v, h, _ => by cases h
  | n :: r, vs, f, j, v, h, hv => by
    cases vs with
    | nil => simp at hv
    | cons w vs =>
      unfold fIx at h
      rw [List.zip_cons_cons, List.lookup_cons]
      split at h
      · rename_i e; cases h
        have hv : w = v := by simpa using hv
        subst e; subst hv; simp
      · rename_i e
        have e2 : (f == n) = false := beq_eq_false_iff_ne.mpr (fun h => e h.symm)
        rw [e2]
        cases q : fIx r f with
        | none => rw [q] at h; cases h
        | some k => rw [q] at h; cases h; exact lookup_zip q (by simpa using hv)
theorem lookup_zip_none : ∀ {ns : List Str} {vs : List V} {f : Str}, fIx ns f = none → (ns.zip vs).lookup f = none
  | [], vs, f, _ => by simp
  | n :: r, [], f, h => by simp
  | n :: r, w :: vs, f, h => by
    unfold fIx at h
    split at h
    · cases h
    · rename_i e
      rw [List.zip_cons_cons, List.lookup_cons, beq_eq_false_iff_ne.mpr (fun h => e h.symm)]
      cases q : fIx r f with
      | none => exact lookup_zip_none q
      | some k => rw [q] at h; cases h
theorem putF_new : ∀ {ns : List Str} {vs : List V} {f : Str} {y : V}, ns.length = vs.length → fIx ns f = none → putF f y (ns.zip vs) = (ns ++ [f]).zip (vs ++ [y])
  | [], vs, f, y, hl, _ => by
    cases vs with
    | nil => rfl
    | cons => simp at hl
  | n :: r, [], f, y, hl, h => by simp at hl
  | n :: r, w :: vs, f, y, hl, h => by
    unfold fIx at h
    rw [List.zip_cons_cons]
    unfold putF
    split at h
    · cases h
    · rename_i e
      rw [if_neg e]
      cases q : fIx r f with
      | none => rw [putF_new (by simpa using hl) q]; rfl
      | some k => rw [q] at h; cases h
theorem follow_snoc {H : Hp} : ∀ {p : List Nat} {v w u : V} {a : Addr} {o : HO} {j : Nat}, follow H v p = some (.ref a) → H a = some o → (kids o)[j]? = some u → follow H v (p ++ [j]) = some u
  | [], v, w, u, a, o, j, h, ho, hj => by
    have h : some v = some (.ref a) := by simpa [follow] using h
    cases h
    show follow H (.ref a) [j] = some u
    unfold follow
    rw [ho]
    dsimp only
    rw [hj]
    dsimp only
    unfold follow
    rfl
  | i :: p, v, w, u, a, o, j, h, ho, hj => by
    cases v with
    | ref b =>
      unfold follow at h
      show follow H (.ref b) (i :: (p ++ [j])) = some u
      unfold follow
      cases q : H b with
      | none => rw [q] at h; cases h
      | some o' =>
        rw [q] at h
        dsimp only at h ⊢
        cases q2 : (kids o')[i]? with
        | none => rw [q2] at h; cases h
        | some z =>
          rw [q2] at h
          exact follow_snoc (w := w) h ho hj
    | _ => unfold follow at h; cases h
/-- an expression tells the place p of the owned slot i -/
def XPl (X : Cx) (c : Cw) (Γ : List Slot) (e : Expr) (i : Nat) (p : List Nat) : Prop := ∃ te, PE X e te ∧
  ∀ F H σ fp, EnvD X.K c F H σ Γ fp → ∀ Q : VK, (∀ v v0 F' H', EnvD X.K c F' H' σ Γ fp → Ex F F' → Nw F H F' H' → σ[i]? = some (some v0) → follow H' v0 p = some v → Q v H') → te σ H Q
section
variable {X : Cx} {c : Cw} {Γ Γ' : List Slot} {τ υ : Type} [Py τ] [Py υ] {e a b : Expr} {t u : OT} {x : τ} {pos : Pos} {i : Nat} {p : List Nat} {oa : Option Addr} {k : Kind} {ts : List OT}
theorem xpl_name (i : Nat) {n : Str} (hN : X.N[i]? = some n := by rfl) (h : Γ[i]? = some (.ow oa t) := by rfl) (hv : Vis X.env.scope n := by first | exact Or.inl rfl | exact Or.inr (Or.inl rfl) | exact Or.inr (Or.inr rfl))
    (hd : (n == ("__debug__" : Str)) = false := by decide) (hcd : (n == ("__classdict__" : Str)) = false := by decide) : XPl X c Γ (.Name n pos) i [] :=
  ⟨_, pe_var hN hv hd hcd, fun F H σ fp E Q q => by
    obtain ⟨v, h1, r, _⟩ := E.geto h
    exact ⟨v, h1, q v v F H E (Ex.refl _) Nw.refl h1 (by unfold follow; rfl)⟩⟩
/-- .f -/
theorem xpl_fld {f : Str} {C : Addr} {ns : List Str} {j : Nat} (h : XPl X c Γ e i p) (hs : Γ[i]? = some (.ow oa t)) (hg : t.get? p = some (.nd (.ins C ns) ts)) (hf : fIx ns f = some j)
    (hb : attributeBase e f X.env (eval e X.env) = eval e X.env := by rfl) : XPl X c Γ (.Attribute e f pos) i (p ++ [j]) := by
  obtain ⟨te, h1, h2⟩ := h
  refine ⟨_, pe_fld h1 hb, fun F H σ fp E Q q => h2 F H σ fp E _ fun v v0 F1 H1 E1 e1 n1 g1 g2 => ?_⟩
  obtain ⟨v0', a, o, vs, fps, k1, k2, k3, k4, k5, k6, _⟩ := E1.node hs hg
  rw [g1] at k1; cases k1
  rw [g2] at k2; cases k2
  have kk := k5.kids
  obtain ⟨⟨hc, hn⟩, hl, dx, rfl⟩ := k5
  have hj : j < vs.length := by
    have := (List.getElem?_eq_some_iff.mp (fIx_get hf)).1
    omega
  exact ⟨a, C, dx, _, _, rfl, k4, hc, hn f (fIx_mem hf), lookup_zip hf (List.getElem?_eq_getElem hj), q _ v0 F1 H1 E1 e1 n1 g1 (follow_snoc (w := .non) g2 k4 (by rw [kk]; exact List.getElem?_eq_getElem hj))⟩
/-- [n] of a list -/
theorem xpl_ix {n : Int} {j : Nat} {ei : Expr} (h : XPl X c Γ e i p) (hk : XE X c Γ ei n) (hs : Γ[i]? = some (.ow oa t)) (hg : t.get? p = some (.nd .lst ts)) (hf : ixN ts.length n = some j)
    (hpl : PlainIx ei := by exact fun _ _ => rfl) : XPl X c Γ (.Subscript e ei pos) i (p ++ [j]) := by
  obtain ⟨te, h1, h2⟩ := h
  obtain ⟨tk, h3, h4⟩ := hk
  refine ⟨_, pe_ix ix_list h1 h3 hpl, fun F H σ fp E Q q => h2 F H σ fp E _ fun v v0 F1 H1 E1 e1 n1 g1 g2 => h4 F1 H1 σ fp E1 _ fun y' F2 H2 E2 e2 n2 r2 => ?_⟩
  cases (show y' = .int n from r2)
  obtain ⟨v0', a, o, vs, fps, k1, k2, k3, k4, k5, k6, _⟩ := E2.node hs hg
  have g2' := follow_ex n2.h g2
  rw [g1] at k1; cases k1
  rw [g2'] at k2; cases k2
  cases (show o = _ from k5)
  have hj : j < ts.length := by
    unfold ixN at hf
    split at hf
    · split at hf
      · cases hf; omega
      · cases hf
    · split at hf
      · cases hf; omega
      · cases hf
  have hj2 : j < vs.length := by rw [k6.1]; exact hj
  refine ⟨a, vs, n, vs[j], rfl, rfl, sq_of k4, ?_, q _ v0 F2 H2 E2 (e1.trans e2) (n1.trans n2) g1 (follow_snoc (w := .non) g2' k4 (show vs[j]? = _ from List.getElem?_eq_getElem hj2))⟩
  unfold atI
  rw [k6.1, hf]
  exact List.getElem?_eq_getElem hj2
/-- frozen data at a place, read -/
theorem xe_pl (h : XPl X c Γ e i p) (hs : Γ[i]? = some (.ow oa t)) (hg : t.get? p = some (.fz x)) : XE X c Γ e x := by
  obtain ⟨te, h1, h2⟩ := h
  refine ⟨te, h1, fun F H σ fp E Q q => h2 F H σ fp E _ fun v v0 F1 H1 E1 e1 n1 g1 g2 => ?_⟩
  obtain ⟨v0', w, l2, k1, k2, k3, _⟩ := E1.mutAt hs hg
  rw [g1] at k1; cases k1
  rw [g2] at k2; cases k2
  cases k3 with
  | fz r => exact q _ F1 H1 E1 e1 n1 r
def XAr (X : Cx) (c : Cw) (Γ : List Slot) (es : List Expr) (as : List CA) : Prop := ∃ t, PA X es t ∧
  ∀ F H σ fp, EnvD X.K c F H σ Γ fp → ∀ Q : List V → Hp → Prop, (∀ vs F' H', EnvD X.K c F' H' σ Γ fp → Ex F F' → Nw F H F' H' → Pd (CAok X.K F' H' σ) vs as → Q vs H') → t σ H Q
theorem xr_nil : XAr X c Γ [] [] := ⟨_, pa_nil, fun F H σ fp E Q q => q [] F H E (Ex.refl _) Nw.refl .nil⟩
theorem CAok.mono {K : Fg} {F F' H H' : Hp} {σ : L2.St} {v : V} {a : CA} (h : CAok K F H σ v a) (e : Ex F F') (e2 : Ex H H') : CAok K F' H' σ v a := by
  cases a with
  | fz x => exact Py.mono e h
  | pl i p oa t u => obtain ⟨v0, h1, h2⟩ := h; exact ⟨v0, h1, follow_ex e2 h2⟩
theorem xr_fz {es : List Expr} {as : List CA} (h : XE X c Γ e x) (hr : XAr X c Γ es as) (hs : starEach (e :: es) X.env = (false, eval e X.env) :: starEach es X.env := by rfl) : XAr X c Γ (e :: es) (.fz x :: as) := by
  obtain ⟨t, h1, h2⟩ := h
  obtain ⟨u, h3, h4⟩ := hr
  refine ⟨_, pa_cons h1 h3 hs, fun F H σ fp E Q q => h2 F H σ fp E _ fun v F1 H1 E1 e1 g1 r1 => h4 F1 H1 σ fp E1 _ fun vs F2 H2 E2 e2 g2 r2 => ?_⟩
  exact q _ F2 H2 E2 (e1.trans e2) (g1.trans g2) (.cons (Py.mono e2 r1) r2)
theorem xr_pl {es : List Expr} {as : List CA} (h : XPl X c Γ e i p) (hr : XAr X c Γ es as) (hs : starEach (e :: es) X.env = (false, eval e X.env) :: starEach es X.env := by rfl) : XAr X c Γ (e :: es) (.pl i p oa t u :: as) := by
  obtain ⟨tt, h1, h2⟩ := h
  obtain ⟨tu, h3, h4⟩ := hr
  refine ⟨_, pa_cons h1 h3 hs, fun F H σ fp E Q q => h2 F H σ fp E _ fun v v0 F1 H1 E1 e1 g1 k1 k2 => h4 F1 H1 σ fp E1 _ fun vs F2 H2 E2 e2 g2 r2 => ?_⟩
  exact q _ F2 H2 E2 (e1.trans e2) (g1.trans g2) (.cons ⟨v0, k1, follow_ex g2.h k2⟩ r2)
section
variable {α ρ : Type} {D0 : α → List ArgD} {pre : α → Prop} {D1 : ρ → List (Option OT)} {RS : ρ → Slot} {xn : ρ → Option Str} {m : α → ρ} {n : Str} {ps : List Str} {lv lj : Nat} {r : α} {as : List CA} {es : List Expr} {pf : Pos} {s : Slot}
theorem call_res {CX : CXT} {K : Fg} {mg : Str → Option Value} {F H F1 H1 : Hp} {σ : L2.St} {fp : Nat → List Addr} {vs : List V} {Q : VK} {E' : XK} (hD : as.map CA.d = D0 r) (hg : caOk Γ as) (nd : (as.filterMap CA.ix).Nodup) (hp : pre r) (hx : xn (m r) = none) (hsh : (D1 (m r)).map Option.isSome = (D0 r).map ArgD.isOw)
    (E1 : EnvD K c F1 H1 σ Γ fp) (k : Pd (CAok K F1 H1 σ) vs as)
    (q : ∀ v F' H' fp' l, EnvD K c F' H' σ (caUp Γ as (D1 (m r))) fp' → Ex F1 F' → (RS (m r)).ok K F' H' (some v) l → (∀ b ∈ l, c.al b ∧ ∀ j, b ∉ fp' j) → Q v H') : SpG K mg D0 pre D1 RS xn m vs H1 Q E' := by
  obtain ⟨l2, z1, z2, z3, z4⟩ := call_env E1 k hg nd
  refine ⟨F1, l2, r, adr vs, by rw [← hD]; exact z1, hp, fun _ v F' H' fp' E2 => ?_, fun n hn => by rw [hx] at hn; cases hn⟩
  obtain ⟨fp2, y1, y2, y3⟩ := z4 F' H' v (D1 (m r)) (RS (m r)) fp' (by rw [hsh, hD]) E2
  exact q v F' H' fp2 _ y1 E2.wd.f0 y2 y3
/-- .. where all arguments are frozen -/
theorem call_resN {CX : CXT} {K : Fg} {mg : Str → Option Value} {F1 H1 : Hp} {σ : L2.St} {fp : Nat → List Addr} {vs : List V} {Q : VK} {E' : XK} (hD : as.map CA.d = D0 r) (hn : ∀ a ∈ as, a.ix = none) (hg : caOk Γ as) (hp : pre r) (hx : xn (m r) = none) (hsh : (D1 (m r)).map Option.isSome = (D0 r).map ArgD.isOw)
    (E1 : EnvD K c F1 H1 σ Γ fp) (k : Pd (CAok K F1 H1 σ) vs as)
    (q : ∀ v F' H' l, EnvD K c F' H' σ Γ fp → Ex F1 F' → Nw F1 H1 F' H' → (RS (m r)).ok K F' H' (some v) l → (∀ b ∈ l, H1 b = none) → Q v H') : SpG K mg D0 pre D1 RS xn m vs H1 Q E' := by
  have nd : (as.filterMap CA.ix).Nodup := by
    rw [List.filterMap_eq_nil_iff.mpr hn]; exact List.nodup_nil
  obtain ⟨l2, z1, z2, z3, z4⟩ := call_env E1 k hg nd
  have e2 := z3 hn
  subst e2
  refine ⟨F1, _, r, adr vs, by rw [← hD]; exact z1, hp, fun _ v F' H' fp' E2 => ?_, fun n hn => by rw [hx] at hn; cases hn⟩
  obtain ⟨fp2, y1, y2, y3⟩ := z4 F' H' v (D1 (m r)) (RS (m r)) fp' (by rw [hsh, hD]) E2
  have eh : Ex H1 H' := fun b o h => E2.wd.keep b o (fun ⟨_, h⟩ => by cases h) h
  have en : ∀ b, F' b ≠ none → F1 b ≠ none ∨ H1 b = none := fun b hb => (E2.wd.new b hb).imp id (fun h => h.elim (fun ⟨_, h⟩ => by cases h) id)
  exact q v F' H' _ (E1.grow E2.wd.f0 E2.wd.fh eh en) E2.wd.f0 ⟨eh, en⟩ y2 fun b hb => (E2.al _ b hb).elim (fun ⟨_, h⟩ => by cases h) id
/-- f(..) -/
theorem xm_call (G : Fk X.prog X.w X.K X.mg X.base (L2.CX X.prog X.w) n ps [] lv (SpG X.K X.mg D0 pre D1 RS xn m)) (hr : Room lj X.A) (hj : lv ≤ lj) (ha : XAr X c Γ (e :: es) as) (hp : pre r) (hD : as.map CA.d = D0 r) (hg : caOk Γ as) (nd : (as.filterMap CA.ix).Nodup) (hsh : (D1 (m r)).map Option.isSome = (D0 r).map ArgD.isOw) (hx : xn (m r) = none := by rfl)
    (hgl : Gl X n := by rfl) (hdb : (n == ("__debug__" : Str)) = false := by decide) (hs : starEach (e :: es) X.env = (false, eval e X.env) :: starEach es X.env := by rfl) (hb : ((backTo pos (starEach es X.env)).any fun x => x.fst) = false := by rfl) :
    XM X c Γ (caUp Γ as (D1 (m r))) (.Call (.Name n pf) (e :: es) [] pos) (RS (m r)) := by
  obtain ⟨f, fd, g1, g2, g3, g4⟩ := G.ex
  obtain ⟨t, h1, h2⟩ := ha
  refine ⟨_, pe_call (E := E0) g4 (hr.mono hj) hgl g1 g2 g3 .nil passL h1 hdb hs hb, fun F H σ fp E Q q => h2 F H σ fp E _ fun vs F1 H1 E1 e1 x1 k => ?_⟩
  rw [List.append_nil]
  exact call_res (CX := L2.CX X.prog X.w) (F := F) (H := H) hD hg nd hp hx hsh E1 k fun v F' H' fp' l y1 y2 y3 y4 => q v F' H' fp' l y1 (e1.trans y2) y3 y4
theorem xn_callG (G : FkD X.prog X.w X.K X.mg X.base (L2.CX X.prog X.w) n ps dvs lv (SpG X.K X.mg D0 pre D1 RS xn m)) {as0 : List CA} (hdv : ∀ F H σ vs, Pd (CAok X.K F H σ) vs as0 → Pd (CAok X.K F H σ) (vs ++ dvs) as) (hr : Room lj X.A) (hj : lv ≤ lj) (ha : XAr X c Γ (e :: es) as0) (hp : pre r) (hD : as.map CA.d = D0 r) (hn : ∀ a ∈ as, a.ix = none) (hg : caOk Γ as) (hsh : (D1 (m r)).map Option.isSome = (D0 r).map ArgD.isOw) (hx : xn (m r) = none := by rfl)
    (hgl : Gl X n := by rfl) (hdb : (n == ("__debug__" : Str)) = false := by decide) (hs : starEach (e :: es) X.env = (false, eval e X.env) :: starEach es X.env := by rfl) (hb : ((backTo pos (starEach es X.env)).any fun x => x.fst) = false := by rfl) :
    ∃ te, PE X (.Call (.Name n pf) (e :: es) [] pos) te ∧ ∀ F H σ fp, EnvD X.K c F H σ Γ fp → ∀ Q : VK, (∀ v F' H' l, EnvD X.K c F' H' σ Γ fp → Ex F F' → Nw F H F' H' → (RS (m r)).ok X.K F' H' (some v) l → (∀ b ∈ l, H b = none) → Q v H') → te σ H Q := by
  obtain ⟨ds, hd, G⟩ := G.ex
  obtain ⟨f, fd, g1, g2, g3, g4⟩ := G.ex
  obtain ⟨t, h1, h2⟩ := ha
  refine ⟨_, pe_call (E := E0) g4 (hr.mono hj) hgl g1 g2 g3 hd passL h1 hdb hs hb, fun F H σ fp E Q q => h2 F H σ fp E _ fun vs F1 H1 E1 e1 x1 k => ?_⟩
  refine call_resN (CX := L2.CX X.prog X.w) hD hn hg hp hx hsh E1 (hdv _ _ _ _ k) fun v F' H' l y1 y2 y3 y4 y5 => q v F' H' l y1 (e1.trans y2) (x1.trans y3) y4 fun b hb => ?_
  cases z : H b with
  | none => rfl
  | some o => have := y5 b hb; rw [x1.h _ _ z] at this; cases this
theorem FkD.of {P : Program} {w : World} {K : Fg} {mg : Str → Option Value} {base : Heap} {CX : CXT} {sp : Sp} (G : Fk P w K mg base CX n ps [] lv sp) : FkD P w K mg base CX n ps [] lv sp := ⟨[], .nil, G⟩
/-- .. a new thing -/
theorem xn_call (G : Fk X.prog X.w X.K X.mg X.base (L2.CX X.prog X.w) n ps [] lv (SpG X.K X.mg D0 pre D1 RS xn m)) (hr : Room lj X.A) (hj : lv ≤ lj) (ha : XAr X c Γ (e :: es) as) (hp : pre r) (hR : RS (m r) = .ow none t) (hD : as.map CA.d = D0 r) (hn : ∀ a ∈ as, a.ix = none) (hg : caOk Γ as) (hsh : (D1 (m r)).map Option.isSome = (D0 r).map ArgD.isOw) (hx : xn (m r) = none := by rfl)
    (hgl : Gl X n := by rfl) (hdb : (n == ("__debug__" : Str)) = false := by decide) (hs : starEach (e :: es) X.env = (false, eval e X.env) :: starEach es X.env := by rfl) (hb : ((backTo pos (starEach es X.env)).any fun x => x.fst) = false := by rfl) :
    XN X c Γ (.Call (.Name n pf) (e :: es) [] pos) t := by
  obtain ⟨te, h1, h2⟩ := xn_callG (.of G) (dvs := []) (fun _ _ _ _ h => by rw [List.append_nil]; exact h) hr hj ha hp hD hn hg hsh hx hgl hdb hs hb
  refine ⟨te, h1, fun F H σ fp E Q q => h2 F H σ fp E Q fun v F' H' l y1 y2 y3 y4 y5 => ?_⟩
  rw [hR] at y4
  obtain ⟨u, hu, y4, _⟩ := y4
  cases hu
  exact q v F' H' l y1 y2 y3 y4 y5
/-- .. frozen data -/
theorem xe_call (G : Fk X.prog X.w X.K X.mg X.base (L2.CX X.prog X.w) n ps [] lv (SpG X.K X.mg D0 pre D1 RS xn m)) (hr : Room lj X.A) (hj : lv ≤ lj) (ha : XAr X c Γ (e :: es) as) (hp : pre r) (hR : RS (m r) = .fz x) (hD : as.map CA.d = D0 r) (hn : ∀ a ∈ as, a.ix = none) (hg : caOk Γ as) (hsh : (D1 (m r)).map Option.isSome = (D0 r).map ArgD.isOw) (hx : xn (m r) = none := by rfl)
    (hgl : Gl X n := by rfl) (hdb : (n == ("__debug__" : Str)) = false := by decide) (hs : starEach (e :: es) X.env = (false, eval e X.env) :: starEach es X.env := by rfl) (hb : ((backTo pos (starEach es X.env)).any fun x => x.fst) = false := by rfl) :
    XE X c Γ (.Call (.Name n pf) (e :: es) [] pos) x := by
  obtain ⟨te, h1, h2⟩ := xn_callG (.of G) (dvs := []) (fun _ _ _ _ h => by rw [List.append_nil]; exact h) hr hj ha hp hD hn hg hsh hx hgl hdb hs hb
  refine ⟨te, h1, fun F H σ fp E Q q => h2 F H σ fp E Q fun v F' H' l y1 y2 y3 y4 y5 => ?_⟩
  rw [hR] at y4
  obtain ⟨_, u, hu, y4⟩ := y4
  cases hu
  exact q v F' H' y1 y2 y3 y4
end
end
end Fw
namespace Fw
open PySem L2 Py PyProof.Rows
section
variable {a : Addr} {fps : List (List Addr)} {l l0 : List Addr}
theorem nd_set {j : Nat} (h : (a :: fps.flatten).Nodup) (hj : fps[j]? = some l0) (hl : l.Nodup) (hd : ∀ b ∈ l, b ∉ a :: fps.flatten) : (a :: (fps.set j l).flatten).Nodup ∧ ∀ b ∈ (fps.set j l).flatten, b ∈ fps.flatten ∨ b ∈ l := by
  have q := flat_set (l' := l) hj
  have m : ∀ b ∈ (fps.set j l).flatten, b ∈ fps.flatten ∨ b ∈ l := fun b hb => by
    rcases List.mem_append.mp (q.2.mem_iff.mp hb) with z | z
    · exact .inr z
    · exact .inl (q.1.mem_iff.mpr (List.mem_append_right _ z))
  refine ⟨List.nodup_cons.mpr ⟨fun hb => ?_, ?_⟩, m⟩
  · rcases m a hb with z | z
    · exact (List.nodup_cons.mp h).1 z
    · exact hd a z (by simp)
  · refine q.2.nodup_iff.mpr (List.nodup_append.mpr ⟨hl, (List.nodup_append.mp (q.1.nodup_iff.mp (List.nodup_cons.mp h).2)).2.1, fun b hb c hc e => ?_⟩)
    subst e
    exact hd b hb (List.mem_cons_of_mem _ (q.1.mem_iff.mpr (List.mem_append_right _ hc)))
theorem nd_app {gps : List (List Addr)} (h : (a :: fps.flatten).Nodup) (hl : gps.flatten.Nodup) (hd : ∀ b ∈ gps.flatten, b ∉ a :: fps.flatten) : (a :: (fps ++ gps).flatten).Nodup ∧ ∀ b ∈ (fps ++ gps).flatten, b ∈ fps.flatten ∨ b ∈ gps.flatten := by
  have e : (fps ++ gps).flatten = fps.flatten ++ gps.flatten := by simp
  rw [e]
  have h1 := List.nodup_cons.mp h
  refine ⟨List.nodup_cons.mpr ⟨fun hb => ?_, List.nodup_append.mpr ⟨h1.2, hl, fun b hb c hc e => ?_⟩⟩, fun b hb => List.mem_append.mp hb⟩
  · rcases List.mem_append.mp hb with z | z
    · exact h1.1 z
    · exact hd a z (by simp)
  · subst e; exact hd b hc (List.mem_cons_of_mem _ hb)
theorem nd_sub {gps : List (List Addr)} (h : (a :: fps.flatten).Nodup) (s : gps.Sublist fps) : (a :: gps.flatten).Nodup ∧ ∀ b ∈ gps.flatten, b ∈ fps.flatten :=
  ⟨h.sublist ((flat_sub s).cons₂ a), fun b hb => (flat_sub s).subset hb⟩
theorem nd_ins {n : Nat} (h : (a :: fps.flatten).Nodup) (hl : l.Nodup) (hd : ∀ b ∈ l, b ∉ a :: fps.flatten) : (a :: (fps.take n ++ [l] ++ fps.drop n).flatten).Nodup ∧ ∀ b ∈ (fps.take n ++ [l] ++ fps.drop n).flatten, b ∈ fps.flatten ∨ b ∈ l := by
  have e : (fps.take n ++ [l] ++ fps.drop n).flatten.Perm (fps ++ [l]).flatten := by
    have p : (fps.take n ++ [l] ++ fps.drop n).Perm (fps ++ [l]) := by
      have : (fps.take n ++ [l] ++ fps.drop n).Perm (fps.take n ++ (fps.drop n ++ [l])) := by
        rw [List.append_assoc]; exact List.Perm.append_left _ List.perm_append_comm
      rwa [← List.append_assoc, List.take_append_drop] at this
    exact p.flatten
  have q := nd_app (gps := [l]) h (by simpa using hl) (by simpa using hd)
  exact ⟨(e.cons a).nodup_iff.mpr q.1, fun b hb => by simpa using q.2 b (e.mem_iff.mp hb)⟩
end
section
variable {X : Cx} {w : Wx} {c : Cw} {Γ Γ' : List Slot} {S' B τ υ α : Type} [Py τ] [Py υ] {R : Rc} {GB : B → List Slot} {e ep ei : Expr} {t u : OT} {x : τ} {y : α} {pos : Pos} {i : Nat} {p : List Nat} {oa : Option Addr} {k : Kind} {ts : List OT} {g : α → OT}
/-- .. f is new -/
theorem xs_fnew {f : Str} {C : Addr} {ns : List Str} {pf : Pos} (g : α → OT) (he : XN X c Γ e u) (hp : XPl X c Γ ep i p) (hs : Γ[i]? = some (.ow oa t)) (hg : t.get? p = some (.nd (.ins C ns) ts)) (hna : NoAttr X.K C f) (hf : fIx ns f = none := by decide +kernel) (hl : ns.length < 999 := by decide) (hy : t.put p (.nd (.ins C (ns ++ [f])) (ts ++ [u])) = g y := by rfl)
    (hsw : swapsWith e (some (.Attribute ep f pf)) pos.line X.env = pure false := by rfl) : XS X w c Γ (.Assign [.Attribute ep f pf] e pos) (fun y : α => Γ.set i (.ow oa (g y))) GB (Out.nx y : Out α B R.ρ) := by
  obtain ⟨te, h1, h2⟩ := he
  obtain ⟨tp, h3, h4⟩ := hp
  refine ⟨_, ps_fld h3 h1 hsw, fun F H σ ⟨fp, E⟩ D q => h2 F H σ fp E _ fun v F1 H1 l E1 e1 n1 r1 hl1 => h4 F1 H1 σ fp E1 _ fun vp v0 F2 H2 E2 e2 n2 g1 g2 => ?_⟩
  obtain ⟨v0', a, o, vs, fps, k1, k2, k3, k4, k5, k6, k7, k8, k9⟩ := E2.node hs hg
  rw [g1] at k1; cases k1
  rw [g2] at k2; cases k2
  obtain ⟨⟨hc, hn⟩, hlen, dx, rfl⟩ := k5
  have r2 : OA X.K F2 H2 v l u := r1.grow e2 fun b hb => by
    obtain ⟨d1, z, d2⟩ := r1.dom b hb
    exact ⟨Nw.none n2 d1 (by rw [d2]; simp), (n2.h _ _ d2).trans d2.symm⟩
  have fr : ∀ b ∈ l, c.al b ∧ ∀ j, b ∉ fp j := fun b hb => ⟨E.wd.fresh (hl1 b hb), E.fresh (hl1 b hb)⟩
  obtain ⟨m1, m2⟩ := nd_app (gps := [l]) k7 (by simpa using r2.nodup) (fun b hb h => (fr b (by simpa using hb)).2 i (k8 b h))
  obtain ⟨fp', E3, _, _⟩ := k9 (.ins C dx (putF f v (ns.zip vs))) (.ins C (ns ++ [f])) (vs ++ [v]) (fps ++ [l]) (ts ++ [u]) ⟨⟨hc, fun n hm => by
      rcases List.mem_append.mp hm with h | h
      · exact hn n h
      · cases List.mem_singleton.mp h; exact hna⟩, by simp [hlen], dx, by rw [putF_new hlen hf]⟩ (k6.app (.cons r2 .nil)) m1 (fun b hb => (m2 b hb).imp id (fun h => fr b (by simpa using h)))
  rw [hy] at E3
  exact ⟨a, C, dx, _, rfl, k4, hc, hna, by rw [List.length_zip]; omega, q σ F2 _ ⟨fp', E3⟩ (e1.trans e2)⟩
/-- P[n] = e, a list -/
theorem xs_iset {n : Int} {j : Nat} {q1 : Pos} (g : α → OT) (he : XN X c Γ e u) (hp : XPl X c Γ ep i p) (hk : XE X c Γ ei n) (hs : Γ[i]? = some (.ow oa t)) (hg : t.get? p = some (.nd .lst ts)) (hf : ixN ts.length n = some j) (hy : t.put p (.nd .lst (ts.set j u)) = g y)
    (ha : ∀ v, assign (.Subscript ep ei q1) X.env v = (do
      let ov ← holding [v] (eval ep X.env)
      let iv ← holding [v, ov] (eval ei X.env)
      standAt q1
      holding [v, ov, iv] (setItem ov iv v)
      release [v, ov, iv] []) := by exact fun _ => rfl)
    (hsw : swapsWithSole [.Subscript ep ei q1] e pos.line X.env = pure false := by rfl) (hw : swappedStores [.Subscript ep ei q1] e X.env = pure none := by rfl)
    (h1' : (assignEach [.Subscript ep ei q1] X.env).map (·.2) = [assign (.Subscript ep ei q1) X.env] := by rfl) :
    XS X w c Γ (.Assign [.Subscript ep ei q1] e pos) (fun y : α => Γ.set i (.ow oa (g y))) GB (Out.nx y : Out α B R.ρ) := by
  obtain ⟨te, h1, h2⟩ := he
  obtain ⟨tp, h3, h4⟩ := hp
  obtain ⟨ti, h5, h6⟩ := hk
  refine ⟨_, ps_asg h1 (pg_sub h3 h5 set_list ha) hsw hw h1', fun F H σ ⟨fp, E⟩ D q => h2 F H σ fp E _ fun v F1 H1 l E1 e1 n1 r1 hl1 => h4 F1 H1 σ fp E1 _ fun vp v0 F2 H2 E2 e2 n2 g1 g2 => h6 F2 H2 σ fp E2 _ fun vi F3 H3 E3 e3 n3 r3 => ?_⟩
  cases (show vi = .int n from r3)
  obtain ⟨v0', a, o, vs, fps, k1, k2, k3, k4, k5, k6, k7, k8, k9⟩ := E3.node hs hg
  have g2' := follow_ex n3.h g2
  rw [g1] at k1; cases k1
  rw [g2'] at k2; cases k2
  cases (show o = _ from k5)
  have r2 : OA X.K F3 H3 v l u := r1.grow (e2.trans e3) fun b hb => by
    obtain ⟨d1, z, d2⟩ := r1.dom b hb
    exact ⟨Nw.none (n2.trans n3) d1 (by rw [d2]; simp), ((n2.trans n3).h _ _ d2).trans d2.symm⟩
  have fr : ∀ b ∈ l, c.al b ∧ ∀ j, b ∉ fp j := fun b hb => ⟨E.wd.fresh (hl1 b hb), E.fresh (hl1 b hb)⟩
  have hj : j < ts.length := by
    unfold ixN at hf
    split at hf
    · split at hf
      · cases hf; omega
      · cases hf
    · split at hf
      · cases hf; omega
      · cases hf
  have hjl : j < fps.length := by rw [k6.2.1]; exact hj
  obtain ⟨m1, m2⟩ := nd_set (j := j) k7 (List.getElem?_eq_getElem hjl) r2.nodup (fun b hb h => (fr b hb).2 i (k8 b h))
  obtain ⟨fp', E4, _, _⟩ := k9 (.lst (vs.set j v)) .lst (vs.set j v) (fps.set j l) (ts.set j u) rfl (k6.set j r2) m1 (fun b hb => (m2 b hb).imp id (fr b))
  rw [hy] at E4
  exact ⟨a, vs, n, j, rfl, rfl, k4, by rw [k6.1]; exact hf, q σ F3 _ ⟨fp', E4⟩ ((e1.trans e2).trans e3)⟩
/-- P.append(e) -/
theorem xs_append {q1 q2 : Pos} (g : α → OT) (hp : XPl X c Γ ep i p) (he : XN X c Γ e u) (hs : Γ[i]? = some (.ow oa t)) (hg : t.get? p = some (.nd .lst ts)) (hl : ts.length < 100000) (hy : t.put p (.nd .lst (ts ++ [u])) = g y)
    (hst : starEach [e] X.env = [(false, eval e X.env)] := by rfl)
    (hsw : swapsWith (.Call (.Attribute ep "append" q1) [e] [] q2) none pos.line X.env = pure false := by rfl) (hab : attributeBase ep "append" X.env (eval ep X.env) = eval ep X.env := by rfl) (hln : (q1.endLine == q2.line) = true := by rfl)
    (hfew : ((backTo q2 (starEach [e] X.env)).all (fun x => !x.1) && (backToKw q2 (keywordEach [] X.env)).all (fun x => x.1.isSome) && decide (([e] : List Expr).length + ([] : List Keyword).length + (if ([] : List Keyword).isEmpty then 0 else 1) < 30)) = true := by rfl) :
    XS X w c Γ (.Expr (.Call (.Attribute ep "append" q1) [e] [] q2) pos) (fun y : α => Γ.set i (.ow oa (g y))) GB (Out.nx y : Out α B R.ρ) := by
  obtain ⟨te, h1, h2⟩ := he
  obtain ⟨tp, h3, h4⟩ := hp
  refine ⟨_, ps_expr (pe_bm PySem.F.plainAttrs_list PySem.F.slot_list_append PySem.F.type_list_append mt_append h3 (pa_cons h1 pa_nil hst) hab hfew hln hst rfl) hsw, fun F H σ ⟨fp, E⟩ D q => h4 F H σ fp E _ fun vp v0 F1 H1 E1 e1 n1 g1 g2 => ?_⟩
  have typ : tyV X.K "list" vp H1 := by
    obtain ⟨v0', a, o, vs, fps, k1, k2, k3, k4, k5, _⟩ := E1.node hs hg
    rw [g1] at k1; cases k1
    rw [g2] at k2; cases k2
    cases (show o = _ from k5)
    exact .inl ⟨rfl, _, sq_of k4⟩
  refine ⟨typ, h2 F1 H1 σ fp E1 _ fun v F2 H2 l E2 e2 n2 r1 hl1 => ?_⟩
  obtain ⟨v0', a, o, vs, fps, k1, k2, k3, k4, k5, k6, k7, k8, k9⟩ := E2.node hs hg
  have g2' := follow_ex n2.h g2
  rw [g1] at k1; cases k1
  rw [g2'] at k2; cases k2
  cases (show o = _ from k5)
  have fr : ∀ b ∈ l, c.al b ∧ ∀ j, b ∉ fp j := fun b hb => ⟨E1.wd.fresh (hl1 b hb), E1.fresh (hl1 b hb)⟩
  obtain ⟨m1, m2⟩ := nd_app (gps := [l]) k7 (by simpa using r1.nodup) (fun b hb h => (fr b (by simpa using hb)).2 i (k8 b h))
  obtain ⟨fp', E4, _, _⟩ := k9 (.lst (vs ++ [v])) .lst (vs ++ [v]) (fps ++ [l]) (ts ++ [u]) rfl (k6.app (.cons r1 .nil)) m1 (fun b hb => (m2 b hb).imp id (fun h => fr b (by simpa using h)))
  rw [hy] at E4
  exact ⟨a, vs, v, rfl, rfl, k4, Nat.lt_of_lt_of_le (by rw [k6.1]; exact hl) (by decide : 100000 ≤ sizeLine), q σ F2 _ ⟨fp', E4⟩ (e1.trans e2)⟩
/-- P.extend(e) -/
theorem xs_extend {q1 q2 : Pos} {gg : τ → OT} {zs : List τ} (g : α → OT) (hp : XPl X c Γ ep i p) (he : XQ X c Γ .l e gg zs) (hs : Γ[i]? = some (.ow oa t)) (hg : t.get? p = some (.nd .lst ts)) (hl : ts.length + zs.length ≤ 100000) (hy : t.put p (.nd .lst (ts ++ zs.map gg)) = g y)
    (hst : starEach [e] X.env = [(false, eval e X.env)] := by rfl)
    (hsw : swapsWith (.Call (.Attribute ep "extend" q1) [e] [] q2) none pos.line X.env = pure false := by rfl) (hab : attributeBase ep "extend" X.env (eval ep X.env) = eval ep X.env := by rfl) (hln : (q1.endLine == q2.line) = true := by rfl)
    (hfew : ((backTo q2 (starEach [e] X.env)).all (fun x => !x.1) && (backToKw q2 (keywordEach [] X.env)).all (fun x => x.1.isSome) && decide (([e] : List Expr).length + ([] : List Keyword).length + (if ([] : List Keyword).isEmpty then 0 else 1) < 30)) = true := by rfl) :
    XS X w c Γ (.Expr (.Call (.Attribute ep "extend" q1) [e] [] q2) pos) (fun y : α => Γ.set i (.ow oa (g y))) GB (Out.nx y : Out α B R.ρ) := by
  obtain ⟨te, h1, h2⟩ := he
  obtain ⟨tp, h3, h4⟩ := hp
  refine ⟨_, ps_expr (pe_bm PySem.F.plainAttrs_list PySem.F.slot_list_extend PySem.F.type_list_extend mt_extend h3 (pa_cons h1 pa_nil hst) hab hfew hln hst rfl) hsw, fun F H σ ⟨fp, E⟩ D q => h4 F H σ fp E _ fun vp v0 F1 H1 E1 e1 n1 g1 g2 => ?_⟩
  have typ : tyV X.K "list" vp H1 := by
    obtain ⟨v0', a, o, vs, fps, k1, k2, k3, k4, k5, _⟩ := E1.node hs hg
    rw [g1] at k1; cases k1
    rw [g2] at k2; cases k2
    cases (show o = _ from k5)
    exact .inl ⟨rfl, _, sq_of k4⟩
  refine ⟨typ, h2 F1 H1 σ fp E1 _ fun a2 ws gps F2 H2 E2 e2 n2 sq r1 nd1 hl1 => ?_⟩
  obtain ⟨v0', a, o, vs, fps, k1, k2, k3, k4, k5, k6, k7, k8, k9⟩ := E2.node hs hg
  have g2' := follow_ex n2.h g2
  rw [g1] at k1; cases k1
  rw [g2'] at k2; cases k2
  cases (show o = _ from k5)
  have fr : ∀ b ∈ gps.flatten, c.al b ∧ ∀ j, b ∉ fp j := fun b hb => ⟨E1.wd.fresh (hl1 b hb), E1.fresh (hl1 b hb)⟩
  obtain ⟨m1, m2⟩ := nd_app (gps := gps) k7 nd1 (fun b hb h => (fr b hb).2 i (k8 b h))
  obtain ⟨fp', E4, _, _⟩ := k9 (.lst (vs ++ ws)) .lst (vs ++ ws) (fps ++ gps) (ts ++ zs.map gg) rfl (k6.app r1) m1 (fun b hb => (m2 b hb).imp id (fr b))
  rw [hy] at E4
  exact ⟨a, a2, vs, ws, rfl, rfl, k4, sq, sz _ (by rw [k6.1, r1.1]; simpa using hl), q σ F2 _ ⟨fp', E4⟩ (e1.trans e2)⟩
/-- P.insert(n, e) -/
theorem xs_insert {q1 q2 : Pos} {n : Int} (g : α → OT) (hp : XPl X c Γ ep i p) (hk : XE X c Γ ei n) (he : XN X c Γ e u) (hn : 0 ≤ n ∧ n < 2 ^ 63) (hs : Γ[i]? = some (.ow oa t)) (hg : t.get? p = some (.nd .lst ts)) (hl : ts.length < 100000) (hy : t.put p (.nd .lst (ts.take n.toNat ++ [u] ++ ts.drop n.toNat)) = g y)
    (hst : starEach [ei, e] X.env = (false, eval ei X.env) :: starEach [e] X.env := by rfl) (hst2 : starEach [e] X.env = [(false, eval e X.env)] := by rfl)
    (hsw : swapsWith (.Call (.Attribute ep "insert" q1) [ei, e] [] q2) none pos.line X.env = pure false := by rfl) (hab : attributeBase ep "insert" X.env (eval ep X.env) = eval ep X.env := by rfl) (hln : (q1.endLine == q2.line) = true := by rfl)
    (hfew : ((backTo q2 (starEach [ei, e] X.env)).all (fun x => !x.1) && (backToKw q2 (keywordEach [] X.env)).all (fun x => x.1.isSome) && decide (([ei, e] : List Expr).length + ([] : List Keyword).length + (if ([] : List Keyword).isEmpty then 0 else 1) < 30)) = true := by rfl)
    (hpl : (backTo q2 (starEach [e] X.env)).any (·.1) = false := by rfl) :
    XS X w c Γ (.Expr (.Call (.Attribute ep "insert" q1) [ei, e] [] q2) pos) (fun y : α => Γ.set i (.ow oa (g y))) GB (Out.nx y : Out α B R.ρ) := by
  obtain ⟨te, h1, h2⟩ := he
  obtain ⟨tp, h3, h4⟩ := hp
  obtain ⟨ti, h5, h6⟩ := hk
  refine ⟨_, ps_expr (pe_bm PySem.F.plainAttrs_list PySem.F.slot_list_insert PySem.F.type_list_insert mt_insert h3 (pa_cons h5 (pa_cons h1 pa_nil hst2) hst) hab hfew hln hst hpl) hsw, fun F H σ ⟨fp, E⟩ D q => h4 F H σ fp E _ fun vp v0 F1 H1 E1 e1 n1 g1 g2 => ?_⟩
  have typ : tyV X.K "list" vp H1 := by
    obtain ⟨v0', a, o, vs, fps, k1, k2, k3, k4, k5, _⟩ := E1.node hs hg
    rw [g1] at k1; cases k1
    rw [g2] at k2; cases k2
    cases (show o = _ from k5)
    exact .inl ⟨rfl, _, sq_of k4⟩
  refine ⟨typ, h6 F1 H1 σ fp E1 _ fun vi F2 H2 E2 e2 n2 r2 => h2 F2 H2 σ fp E2 _ fun v F3 H3 l E3 e3 n3 r1 hl1 => ?_⟩
  cases (show vi = .int n from r2)
  obtain ⟨v0', a, o, vs, fps, k1, k2, k3, k4, k5, k6, k7, k8, k9⟩ := E3.node hs hg
  have g2' := follow_ex (n2.trans n3).h g2
  rw [g1] at k1; cases k1
  rw [g2'] at k2; cases k2
  cases (show o = _ from k5)
  have fr : ∀ b ∈ l, c.al b ∧ ∀ j, b ∉ fp j := fun b hb => ⟨E2.wd.fresh (hl1 b hb), E2.fresh (hl1 b hb)⟩
  obtain ⟨m1, m2⟩ := nd_ins (n := n.toNat) k7 r1.nodup (fun b hb h => (fr b hb).2 i (k8 b h))
  obtain ⟨fp', E4, _, _⟩ := k9 (.lst (vs.take n.toNat ++ [v] ++ vs.drop n.toNat)) .lst _ (fps.take n.toNat ++ [l] ++ fps.drop n.toNat) (ts.take n.toNat ++ [u] ++ ts.drop n.toNat) rfl (((k6.take _).app (.cons r1 .nil)).app (k6.drop _)) m1 (fun b hb => (m2 b hb).imp id (fr b))
  rw [hy] at E4
  exact ⟨a, vs, n, v, rfl, rfl, k4, Nat.lt_of_lt_of_le (by rw [k6.1]; exact hl) (by decide : 100000 ≤ sizeLine), hn.1, hn.2, q σ F3 _ ⟨fp', E4⟩ ((e1.trans e2).trans e3)⟩
/-- P.pop(n), its value passed over -/
theorem xs_popAt {q1 q2 : Pos} {n : Int} {j : Nat} (g : α → OT) (hp : XPl X c Γ ep i p) (hk : XE X c Γ ei n) (hs : Γ[i]? = some (.ow oa t)) (hg : t.get? p = some (.nd .lst ts)) (hn : 0 ≤ n ∧ n < 2 ^ 63) (hf : n.toNat < ts.length) (hy : t.put p (.nd .lst (ts.eraseIdx n.toNat)) = g y)
    (hst : starEach [ei] X.env = [(false, eval ei X.env)] := by rfl)
    (hsw : swapsWith (.Call (.Attribute ep "pop" q1) [ei] [] q2) none pos.line X.env = pure false := by rfl) (hab : attributeBase ep "pop" X.env (eval ep X.env) = eval ep X.env := by rfl) (hln : (q1.endLine == q2.line) = true := by rfl)
    (hfew : ((backTo q2 (starEach [ei] X.env)).all (fun x => !x.1) && (backToKw q2 (keywordEach [] X.env)).all (fun x => x.1.isSome) && decide (([ei] : List Expr).length + ([] : List Keyword).length + (if ([] : List Keyword).isEmpty then 0 else 1) < 30)) = true := by rfl) :
    XS X w c Γ (.Expr (.Call (.Attribute ep "pop" q1) [ei] [] q2) pos) (fun y : α => Γ.set i (.ow oa (g y))) GB (Out.nx y : Out α B R.ρ) := by
  obtain ⟨tp, h3, h4⟩ := hp
  obtain ⟨ti, h5, h6⟩ := hk
  refine ⟨_, ps_expr (pe_bm PySem.F.plainAttrs_list PySem.F.slot_list_pop PySem.F.type_list_pop mt_popAt h3 (pa_cons h5 pa_nil hst) hab hfew hln hst rfl) hsw, fun F H σ ⟨fp, E⟩ D q => h4 F H σ fp E _ fun vp v0 F1 H1 E1 e1 n1 g1 g2 => ?_⟩
  have typ : tyV X.K "list" vp H1 := by
    obtain ⟨v0', a, o, vs, fps, k1, k2, k3, k4, k5, _⟩ := E1.node hs hg
    rw [g1] at k1; cases k1
    rw [g2] at k2; cases k2
    cases (show o = _ from k5)
    exact .inl ⟨rfl, _, sq_of k4⟩
  refine ⟨typ, h6 F1 H1 σ fp E1 _ fun vi F2 H2 E2 e2 n2 r2 => ?_⟩
  cases (show vi = .int n from r2)
  obtain ⟨v0', a, o, vs, fps, k1, k2, k3, k4, k5, k6, k7, k8, k9⟩ := E2.node hs hg
  have g2' := follow_ex n2.h g2
  rw [g1] at k1; cases k1
  rw [g2'] at k2; cases k2
  cases (show o = _ from k5)
  have hv : n.toNat < vs.length := by rw [k6.1]; exact hf
  obtain ⟨m1, m2⟩ := nd_sub k7 (List.eraseIdx_sublist fps n.toNat)
  obtain ⟨fp', E4, _, _⟩ := k9 (.lst (vs.eraseIdx n.toNat)) .lst _ (fps.eraseIdx n.toNat) (ts.eraseIdx n.toNat) rfl (k6.erase _) m1 (fun b hb => .inl (m2 b hb))
  rw [hy] at E4
  refine ⟨a, vs, n, n.toNat, vs[n.toNat], rfl, rfl, k4, by omega, hn.2, ?_, List.getElem?_eq_getElem hv, q σ F2 _ ⟨fp', E4⟩ (e1.trans e2)⟩
  refine (ixN_seq ?_).1
  unfold ixN
  rw [if_pos hn.1, if_pos (by omega)]
end
end Fw
namespace Fw
open PySem L2 Py PyProof.Rows
/-- a method -/
structure Fm (P : Program) (w : World) (K : Fg) (mg : Str → Option Value) (base : Heap) (CX : CXT) (C : Addr) (m : Str) (ps : List Str) (k : Nat) (sp : Sp) : Prop where
  ex : ∃ f fd, Meth K C m f ∧ Binds K fd ps [] ∧ FnOk P w K mg base CX k f fd ps sp
/-- a method of the text -/
structure Dm (K : Fg) (C : Addr) (m q : Str) (st : Stmt) : Prop where
  ex : ∃ f fd, Meth K C m f ∧ Fun K m q st f fd
/-- a class, called -/
structure Fc' (P : Program) (w : World) (K : Fg) (mg : Str → Option Value) (base : Heap) (CX : CXT) (x : Str) (C : Addr) (ps : List Str) (k : Nat) (sp : Sp) : Prop where
  ex : ∃ f fd, Mk K C f ∧ mg x = some (.ref C) ∧ Binds K fd ps [] ∧ FnOk P w K mg base CX k f fd ps sp
structure Dc (K : Fg) (mg : Str → Option Value) (x : Str) (C : Addr) (q : Str) (st : Stmt) : Prop where
  ex : ∃ f fd, Mk K C f ∧ Fun K "__init__" q st f fd
  mg : mg x = some (.ref C)
  cl : Cls K C
section
variable {P : Program} {w : World} {K : Fg} {mg : Str → Option Value} {base : Heap} {α ρ : Type} {D0 : α → List ArgD} {pre : α → Prop} {D1 : ρ → List (Option OT)} {RS : ρ → Slot} {xn : ρ → Option Str} {m : α → ρ}
abbrev BindOk (x q : Str) (st : Stmt) (ps : List Str) : Prop := ∀ (kV doc pm : Value) (an : Option Addr) (cdv ct : Value) (us : List Value), us.length = ps.length → bindArgs (PySem.W.fnOf x q (defArgs st) (defBody st) (defScope st) .none kV doc pm an cdv ct) ⟨us, []⟩ = pure (ps.zip us)
theorem fm_of {C : Addr} {mn q : Str} {st : Stmt} {N ps : List Str} {k : Nat} {S : Type} {nf : S → ρ} {G : (Nat → Addr) → S → List Slot} (D : Dm K C mn q st) (Sc : FnScope N ps (defScope st)) (hn : ∀ a, (D0 a).length = ps.length) (hb : BindOk mn q st ps)
    (sh : ∀ a r, (D1 r).map Option.isSome = (D0 a).map ArgD.isOw) (hnx : ∀ as s, xn (nf s) = none ∧ RS (nf s) = .fz () ∧ ∀ (i : Nat) (z : Slot), (outSl as 0 (D1 (nf s)))[i]? = some z → z = Slot.no ∨ (G as s)[i]? = some z)
    (body : ∀ (f : Addr) (cdv : Value) (A : Around) (outer : List PySem.Env) (s : Shared) (H : Hp) (E : XK) (c : Cw) (as : Nat → Addr) (a : α), Room' k A q st s f cdv → pre a →
      XF (R := RcG as D1 RS xn) (cxOf (L2.CX P w) P w K mg base N q (defScope st) f cdv A outer s H E) ⟨fun cls d _ H => E cls d H, List.replicate N.length .no⟩ c (argSl as 0 (D0 a) ++ List.replicate (N.length - (D0 a).length) .no) (defBody st) nf (G as) (m a)) :
    Fm P w K mg base (L2.CX P w) C mn ps (k + 1) (SpG K mg D0 pre D1 RS xn m) := by
  obtain ⟨f, fd, hm, F⟩ := D.ex
  exact ⟨f, fd, hm, F.binds hb, fn_of F Sc hn sh hnx body⟩
theorem fc_of' {x : Str} {C : Addr} {q : Str} {st : Stmt} {N ps : List Str} {k : Nat} {S : Type} {nf : S → ρ} {G : (Nat → Addr) → S → List Slot} (D : Dc K mg x C q st) (Sc : FnScope N ps (defScope st)) (hn : ∀ a, (D0 a).length = ps.length) (hb : BindOk "__init__" q st ps)
    (sh : ∀ a r, (D1 r).map Option.isSome = (D0 a).map ArgD.isOw) (hnx : ∀ as s, xn (nf s) = none ∧ RS (nf s) = .fz () ∧ ∀ (i : Nat) (z : Slot), (outSl as 0 (D1 (nf s)))[i]? = some z → z = Slot.no ∨ (G as s)[i]? = some z)
    (body : ∀ (f : Addr) (cdv : Value) (A : Around) (outer : List PySem.Env) (s : Shared) (H : Hp) (E : XK) (c : Cw) (as : Nat → Addr) (a : α), Room' k A q st s f cdv → pre a →
      XF (R := RcG as D1 RS xn) (cxOf (L2.CX P w) P w K mg base N q (defScope st) f cdv A outer s H E) ⟨fun cls d _ H => E cls d H, List.replicate N.length .no⟩ c (argSl as 0 (D0 a) ++ List.replicate (N.length - (D0 a).length) .no) (defBody st) nf (G as) (m a)) :
    Fc' P w K mg base (L2.CX P w) x C ps (k + 1) (SpG K mg D0 pre D1 RS xn m) := by
  obtain ⟨f, fd, hm, F⟩ := D.ex
  exact ⟨f, fd, hm, D.mg, F.binds hb, fn_of F Sc hn sh hnx body⟩
theorem dm_mk {h : Heap} {C : Addr} {x q : Str} {st : Stmt} {f : Addr} {oc : Value} {od an : Option Addr} {osl : Array (Option Value)} {kV doc pm cdv ct : Value} (l : K.lookup f = some ⟨oc, od, .func (PySem.W.fnOf x q (defArgs st) (defBody st) (defScope st) .none kV doc pm an cdv ct), osl⟩)
    (c : PySem.W.codeIn K cdv q = true) (k : PySem.W.keepIn K (.ref f) = true) (a : PySem.W.findIn K (.ref C) x = some (some (.ref f))) (fn : PySem.W.isFn K (.ref f) = true) : Dm K C x q st := ⟨f, _, ⟨a, fn, k⟩, fun_mk l c k⟩
end
section
variable {X : Cx} {c : Cw} {Γ Γ' : List Slot} {τ υ : Type} [Py τ] [Py υ] {e a b : Expr} {t u : OT} {x : τ} {pos apos : Pos} {i : Nat} {p : List Nat} {oa : Option Addr} {k : Kind} {ts : List OT}
variable {α ρ : Type} {D0 : α → List ArgD} {pre : α → Prop} {D1 : ρ → List (Option OT)} {RS : ρ → Slot} {xn : ρ → Option Str} {m : α → ρ} {n : Str} {ps : List Str} {lv lj : Nat} {r : α} {as : List CA} {es : List Expr} {pf : Pos} {s : Slot} {C : Addr} {ns : List Str} {o : Expr}
theorem FA.ins (h : FA X.K F v (.nd (.ins C ns) ts)) : ∃ a dx vs, v = .ref a ∧ F a = some (.ins C dx (ns.zip vs)) ∧ (Cls X.K C ∧ ∀ n ∈ ns, NoAttr X.K C n) ∧ ns.length = vs.length ∧ vs.length = ts.length ∧ ∀ (i : Nat) v t, vs[i]? = some v → ts[i]? = some t → FA X.K F v t := by
  cases h with
  | nd hF ko l1 hc => obtain ⟨h1, h2, dx, rfl⟩ := ko; exact ⟨_, dx, _, rfl, hF, h1, h2, l1, hc⟩
/-- e is data that, frozen, is the tree t -/
def IsT (τ : Type) [Py τ] (x : τ) (t : OT) : Prop := ∀ {K : Fg} {F : Hp} {v : V}, rep K F v x → FA K F v t
theorem xe_fattr {f : Str} {j : Nat} {y : υ} (he : XE X c Γ e x) (ht : IsT τ x (.nd (.ins C ns) ts)) (hf : fIx ns f = some j) (hj : ts[j]? = some u) (hy : FzT u y) (hb : attributeBase e f X.env (eval e X.env) = eval e X.env := by rfl) : XE X c Γ (.Attribute e f pos) y := by
  obtain ⟨te, h1, h2⟩ := he
  refine ⟨_, pe_fld h1 hb, fun F H σ fp E Q q => h2 F H σ fp E _ fun v F1 H1 E1 e1 n1 r => ?_⟩
  obtain ⟨a, dx, vs, rfl, k1, ⟨hc, hn⟩, k3, k4, k5⟩ := (ht r).ins
  have hjl := (List.getElem?_eq_some_iff.mp hj).1
  have hv : vs[j]? = some vs[j] := List.getElem?_eq_getElem (by omega)
  exact ⟨a, C, dx, _, _, rfl, E1.wd.fh _ _ k1, hc, hn f (fIx_mem hf), lookup_zip hf hv, q _ F1 H1 E1 e1 n1 (hy (k5 j _ u hv hj))⟩
theorem FA.dK {ks : List Key} {K : Fg} {F : Hp} {v : V} (h : FA K F v (.nd (.dK ks) ts)) : ∃ a vs, v = .ref a ∧ F a = some (.dK (ks.zip vs)) ∧ ks.length = vs.length ∧ vs.length = ts.length ∧ ∀ (i : Nat) v t, vs[i]? = some v → ts[i]? = some t → FA K F v t := by
  cases h with
  | nd hF ko l1 hc => obtain ⟨h1, rfl⟩ := ko; exact ⟨_, _, rfl, hF, h1, l1, hc⟩
/-- C(..), a new object; the arguments are frozen -/
theorem xn_make (G : Fc' X.prog X.w X.K X.mg X.base (L2.CX X.prog X.w) n C ps lv (SpG X.K X.mg D0 pre D1 RS xn m)) (cl : Cls X.K C) (hr : Room lj X.A) (hj : lv + 1 ≤ lj) (ha : XAr X c Γ (e :: es) as) (hn : ∀ a ∈ as, a.ix = none)
    (hp : pre r) (hD : ArgD.ow (.nd (.ins C []) []) :: as.map CA.d = D0 r) {ds : List (Option OT)} (hd1 : D1 (m r) = some t :: ds) (hRS : RS (m r) = .fz ()) (hx : xn (m r) = none := by rfl)
    (hgl : Gl X n := by rfl) (hdb : (n == ("__debug__" : Str)) = false := by decide) (he : starEach (e :: es) X.env = (false, eval e X.env) :: starEach es X.env := by rfl) (hpl : (backTo pos (starEach es X.env)).any (·.1) = false := by rfl) :
    XN X c Γ (.Call (.Name n pf) (e :: es) [] pos) t := by
  obtain ⟨f, fd, g1, g2, g3, g4⟩ := G.ex
  obtain ⟨ta, h1, h2⟩ := ha
  refine ⟨_, pe_make (E := E0) g1 g4 (hr.mono hj) hgl g2 g3 .nil passL h1 hdb he hpl, fun F H σ fp E Q q => h2 F H σ fp E _ fun vs F1 H1 E1 e1 x1 k => ?_⟩
  intro x dx hx1 hdx hne
  rw [List.append_nil]
  have hFx : F1 x = none := E1.ff hx1
  have hFd : F1 dx = none := E1.ff hdx
  let H2 : Hp := upd (upd H1 dx (.own x)) x (.ins C dx [])
  have eH : Ex H1 H2 := (Ex.new hdx).trans (Ex.new (by rw [upd_ne (Ne.symm hne)]; exact hx1))
  have eF : Ex F1 H2 := E1.wd.fh.trans eH
  have hlen : vs.length = as.length := Pd.length k
  have nov : ∀ (j : Nat) (a : CA), as[j]? = some a → ∃ (ζ : Type) (i : Py ζ) (z : ζ), a = CA.fz z := fun j a ha => by
    have := hn a (List.mem_of_getElem? ha)
    cases a with
    | fz z => exact ⟨_, _, z, rfl⟩
    | pl => cases this
  -- the callee's slots
  have E0 : EnvD X.K (cwOf F1 H2 (fun k => if k = 0 then [x] else [])) F1 H2 ((V.ref x :: vs).map some) (argSl (fun _ => x) 0 (D0 r)) (fun k => if k = 0 then [x] else []) := by
    rw [← hD]
    refine ⟨⟨Ex.refl _, eF, fun b o _ h => h, fun b h => .inl h⟩, by simp [argSl_len, hlen], fun j s hs => ?_, fun i j b h1 h2 => ?_, fun i b h => .inl ⟨i, h⟩, fun i h => ?_⟩
    · cases j with
      | zero =>
        have hs : Slot.ow (some x) (.nd (.ins C []) []) = s := by simpa [argSl, ArgD.slot] using hs
        subst hs
        refine ⟨some (.ref x), rfl, .ref x, rfl, ?_, fun a ha => by cases ha; rfl⟩
        have := OA.mk (K := X.K) (F := F1) (H := H2) (a := x) (fps := []) (ts := []) (vs := []) (k := .ins C []) (o := .ins C dx []) hFx upd_same ⟨⟨cl, fun n hn => by cases hn⟩, rfl, dx, rfl⟩ .nil (by simp)
        simpa using this
      | succ j =>
        have hs : (argSl (fun _ => x) 1 (as.map CA.d))[j]? = some s := by simpa [argSl] using hs
        rw [argSl_get, List.getElem?_map] at hs
        by_cases hj : j < as.length
        · rw [List.getElem?_eq_getElem hj] at hs
          obtain ⟨v, q1, q2⟩ := paired_get k (List.getElem?_eq_getElem hj)
          obtain ⟨ζ, i, z, hz⟩ := nov j _ (List.getElem?_eq_getElem hj)
          rw [hz] at hs q2
          have hs : Slot.fz z = s := by simpa [CA.d, ArgD.slot] using hs
          subst hs
          exact ⟨some v, by simp [q1], by simp, v, rfl, q2⟩
        · rw [List.getElem?_eq_none (by omega)] at hs; cases hs
    · (try dsimp only at h1 h2)
      split at h1
      · split at h2
        · omega
        · cases h2
      · cases h1
    · have : i ≠ 0 := by
        rintro rfl
        simp [argSl] at h
      rw [if_neg this]
  refine ⟨F1, _, r, fun _ => x, E0, hp, fun _ v F' H' fp' E' => ?_, fun n hn => by rw [hx] at hn; cases hn⟩
  rw [hd1, hRS] at E'
  obtain ⟨u, q1, q2, q3⟩ := E'.geto (i := 0) (oa := some x) (t := t) rfl
  cases q3 x rfl
  have l0 : (outSl (fun _ => x) 0 (some t :: ds) ++ [Slot.fz ()]).length = vs.length + 2 := by rw [← E'.len]; simp
  have hv : v = .non := by
    have hs : (outSl (fun _ => x) 0 (some t :: ds) ++ [Slot.fz ()])[vs.length + 1]? = some (.fz ()) := by
      have l1 : (outSl (fun _ => x) 0 (some t :: ds)).length = vs.length + 1 := by simp at l0 ⊢; omega
      rw [List.getElem?_append_right (by omega), l1, Nat.sub_self]; rfl
    obtain ⟨z, z1, z2⟩ := E'.get hs
    have : some v = some z := by
      rw [List.getElem?_append_right (by simp)] at z1
      simpa using z1
    cases this
    exact z2
  have alH : ∀ b, (cwOf F1 H2 (fun k => if k = 0 then [x] else [])).al b → H1 b = none := fun b h => by
    rcases h with ⟨k, h⟩ | h
    · (try dsimp only at h)
      split at h
      · cases List.mem_singleton.mp h; exact hx1
      · cases h
    · cases z : H1 b with
      | none => rfl
      | some o => have := eH _ _ z; rw [show H2 b = none from h] at this; cases this
  have eh : Ex H1 H' := fun b o h => E'.wd.keep b o (fun ⟨k, h2⟩ => by
    (try dsimp only at h2)
    split at h2
    · cases List.mem_singleton.mp h2; rw [hx1] at h; cases h
    · cases h2) (eH _ _ h)
  have en : ∀ b, F' b ≠ none → F1 b ≠ none ∨ H1 b = none := fun b hb => (E'.wd.new b hb).imp id (alH b)
  refine ⟨hv, q (.ref x) F' H' (fp' 0) (E1.grow E'.wd.f0 E'.wd.fh eh en) (e1.trans E'.wd.f0) (x1.trans ⟨eh, en⟩) q2 fun b hb => ?_⟩
  have := alH b (E'.al 0 b hb)
  cases z : H b with
  | none => rfl
  | some o => rw [x1.h _ _ z] at this; cases this
end
end Fw
namespace Fw
open PySem L2 Py PyProof.Rows
end Fw
namespace Fw
open PySem L2 Py PyProof.Rows
theorem FzT.lid {τ : Type} [Py τ] {g : τ → OT} {xs : List τ} (k : ∀ x, FzT (g x) x) : FzT (OT.li g xs) xs := fun {K F v} h => by
  have := FzT.li (h := fun x : τ => x) k h
  rwa [List.map_id'] at this
theorem inB_mod {τ : Type} {xs : List τ} {k : Int} (n : Nat) (hn : xs.length = n) (h0 : (0 : Int) < n) : InB xs (k % n) := by
  have h1 := Int.emod_nonneg k (b := (n : Int)) (by omega)
  have h2 := Int.emod_lt_of_pos k h0
  unfold InB; rw [hn]; omega
def ixn {τ : Type} (xs : List τ) (i : Int) : Nat := (ixN xs.length i).getD 0
theorem ixn_ok {τ : Type} {g : τ → OT} {xs : List τ} {i : Int} (h : InB xs i) : ixN (xs.map g).length i = some (ixn xs i) := by
  obtain ⟨j, hj, _⟩ := ixN_some h
  unfold ixn
  rw [List.length_map, hj]; rfl
theorem ix_ixn {τ : Type} [Inhabited τ] {xs : List τ} {i : Int} (h : InB xs i) : xs[ixn xs i]? = some (ix xs i) := by
  have := atI_ix h
  unfold atI at this
  obtain ⟨j, hj, hl⟩ := ixN_some h
  rw [hj] at this
  unfold ixn; rw [hj]; exact this
/-- the list with y at i -/
def stI {τ : Type} (xs : List τ) (i : Int) (y : τ) : List τ := xs.set (ixn xs i) y
def insI {τ : Type} (xs : List τ) (i : Int) (y : τ) : List τ := xs.take i.toNat ++ [y] ++ xs.drop i.toNat
def delI {τ : Type} (xs : List τ) (i : Int) : List τ := xs.eraseIdx i.toNat
section
variable {τ : Type} {t u u0 : OT} {p : List Nat} {k : Kind} {ts : List OT} {j : Nat} {g : τ → OT} {xs ys : List τ} {i : Int} {y : τ}
theorem get_app : ∀ {p : List Nat} {t : OT}, t.get? p = some u → t.get? (p ++ [j]) = u.get? [j]
  | [], t, h => by cases (show some t = some u from h); rfl
  | i :: p, t, h => by
    cases t with
    | fz x => unfold OT.get? at h; cases h
    | hole a => unfold OT.get? at h; cases h
    | nd k ts =>
      unfold OT.get? at h
      show OT.get? (.nd k ts) (i :: (p ++ [j])) = _
      conv => lhs; unfold OT.get?
      cases q : ts[i]? with
      | none => rw [q] at h; cases h
      | some t => rw [q] at h; exact get_app (p := p) h
theorem put_app {v : OT} : ∀ {p : List Nat} {t : OT}, t.get? p = some u → t.put (p ++ [j]) v = t.put p (u.put [j] v)
  | [], t, h => by cases (show some t = some u from h); rfl
  | i :: p, t, h => by
    cases t with
    | fz x => unfold OT.get? at h; cases h
    | hole a => unfold OT.get? at h; cases h
    | nd k ts =>
      unfold OT.get? at h
      show OT.put (.nd k ts) (i :: (p ++ [j])) v = _
      unfold OT.put
      cases q : ts[i]? with
      | none => rw [q] at h
      | some t =>
        rw [q] at h
        dsimp only
        rw [put_app (p := p) h]
theorem get_nd (h : t.get? p = some (.nd k ts)) (hj : ts[j]? = some u) : t.get? (p ++ [j]) = some u := by
  rw [get_app h]
  show (match ts[j]? with | some t => t.get? [] | none => none) = _
  rw [hj]
  first | done | rfl
theorem put_nd (h : t.get? p = some (.nd k ts)) (hj : ts[j]? = some u0) : t.put (p ++ [j]) u = t.put p (.nd k (ts.set j u)) := by
  rw [put_app h]
  congr 1
  show (match ts[j]? with | some t => OT.nd k (ts.set j (t.put [] u)) | none => .nd k ts) = _
  rw [hj]
  first | done | rfl
theorem get_ix [Inhabited τ] (h : t.get? p = some (OT.li g xs)) (hi : InB xs i) : t.get? (p ++ [ixn xs i]) = some (g (ix xs i)) := by
  refine get_nd (ts := xs.map g) h ?_
  rw [List.getElem?_map, ix_ixn hi]; rfl
theorem put_ix [Inhabited τ] (h : t.get? p = some (OT.li g xs)) (hi : InB xs i) : t.put (p ++ [ixn xs i]) (g y) = t.put p (OT.li g (stI xs i y)) := by
  rw [put_nd (ts := xs.map g) (u0 := g (ix xs i)) h (by rw [List.getElem?_map, ix_ixn hi]; rfl)]
  unfold OT.li stI
  rw [List.map_set]
theorem li_set (_h : t.get? p = some (OT.li g xs)) (_hi : InB xs i) : t.put p (.nd .lst ((xs.map g).set (ixn xs i) (g y))) = t.put p (OT.li g (stI xs i y)) := by
  unfold OT.li stI
  rw [List.map_set]
theorem li_app (_h : t.get? p = some (OT.li g xs)) : t.put p (.nd .lst (xs.map g ++ [g y])) = t.put p (OT.li g (xs ++ [y])) := by
  unfold OT.li
  rw [List.map_append]; rfl
theorem li_cat (_h : t.get? p = some (OT.li g xs)) : t.put p (.nd .lst (xs.map g ++ ys.map g)) = t.put p (OT.li g (xs ++ ys)) := by
  unfold OT.li
  rw [List.map_append]
theorem li_ins (_h : t.get? p = some (OT.li g xs)) : t.put p (.nd .lst ((xs.map g).take i.toNat ++ [g y] ++ (xs.map g).drop i.toNat)) = t.put p (OT.li g (insI xs i y)) := by
  unfold OT.li insI
  rw [List.map_append, List.map_append, List.map_take, List.map_drop]; rfl
theorem li_del (_h : t.get? p = some (OT.li g xs)) : t.put p (.nd .lst ((xs.map g).eraseIdx i.toNat)) = t.put p (OT.li g (delI xs i)) := by
  unfold OT.li delI
  rw [List.eraseIdx_eq_take_drop_succ, List.eraseIdx_eq_take_drop_succ, List.map_append, List.map_take, List.map_drop]
theorem lt_map {n : Nat} (h : xs.length < n) : (xs.map g).length < n := by rw [List.length_map]; exact h
theorem lt_mapn {n : Nat} (h : n < xs.length) : n < (xs.map g).length := by rw [List.length_map]; exact h
theorem le_map {n m : Nat} (h : xs.length + m ≤ n) : (xs.map g).length + m ≤ n := by rw [List.length_map]; exact h
end
def RGL (as : Nat → Addr) : Nat → List (Option OT) → List Slot → Prop
  | _, [], _ => True
  | i, none :: r, Γ => RGL as (i + 1) r Γ
  | i, some t :: r, Γ => Γ[i]? = some (.ow (some (as i)) t) ∧ RGL as (i + 1) r Γ
theorem rgl_get {as : Nat → Addr} {Γ : List Slot} : ∀ {ds : List (Option OT)} {j : Nat}, RGL as j ds Γ → ∀ (i : Nat) (s : Slot), (outSl as j ds)[i]? = some s → s = Slot.no ∨ Γ[j + i]? = some s
  | [], j, h, i, s, e => by simp [outSl] at e
  | none :: r, j, h, 0, s, e => by simp [outSl] at e; exact .inl e.symm
  | some t :: r, j, h, 0, s, e => by
    simp [outSl] at e
    subst e
    exact .inr h.1
  | none :: r, j, h, i + 1, s, e => by
    have := rgl_get (ds := r) (j := j + 1) h i s (by simpa [outSl] using e)
    rwa [show j + 1 + i = j + (i + 1) by omega] at this
  | some t :: r, j, h, i + 1, s, e => by
    have := rgl_get (ds := r) (j := j + 1) h.2 i s (by simpa [outSl] using e)
    rwa [show j + 1 + i = j + (i + 1) by omega] at this
theorem rg_of {as : Nat → Addr} {Γ : List Slot} {ds : List (Option OT)} (h : RGL as 0 ds Γ) : ∀ (i : Nat) (s : Slot), (outSl as 0 ds)[i]? = some s → s = Slot.no ∨ Γ[i]? = some s := fun i s e => by
  have := rgl_get h i s e
  rwa [Nat.zero_add] at this
def caFz : List CA → Bool
  | [] => true
  | @CA.fz _ _ _ :: r => caFz r
  | .pl _ _ _ _ _ :: _ => false
theorem caFz_ix : ∀ {as : List CA}, caFz as = true → ∀ a ∈ as, a.ix = none
  | [], _, a, h => by cases h
  | @CA.fz _ _ _ :: r, h, a, ha => by
    rcases List.mem_cons.mp ha with rfl | ha
    · rfl
    · exact caFz_ix (as := r) h a ha
theorem caFz_ok {Γ : List Slot} : ∀ {as : List CA}, caFz as = true → caOk Γ as
  | [], _ => trivial
  | @CA.fz _ _ _ :: r, h => caFz_ok (as := r) h
theorem pd_app {R : V → CA → Prop} {vs ws : List V} {as bs : List CA} (h : Pd R vs as) (k : Pd R ws bs) : Pd R (vs ++ ws) (as ++ bs) := by
  induction h with
  | nil => exact k
  | cons h t ih => exact .cons h ih
section
variable {X : Cx} {c : Cw} {Γ Γ' : List Slot} {τ υ ζ : Type} [Py τ] [Py υ] [Py ζ] {a b d e : Expr} {es : List Expr} {x : τ} {y : υ} {z : ζ} {pos : Pos} {t : OT}
variable {α ρ : Type} {D0 : α → List ArgD} {pre : α → Prop} {D1 : ρ → List (Option OT)} {RS : ρ → Slot} {xn : ρ → Option Str} {m : α → ρ} {n : Str} {ps : List Str} {lv lj : Nat} {r : α} {as : List CA} {pf : Pos} {dvs : List V}
theorem xe_callZ (G : Fk X.prog X.w X.K X.mg X.base (L2.CX X.prog X.w) n ps [] lv (SpG X.K X.mg D0 pre D1 RS xn m)) (hr : Room lj X.A) (hj : lv ≤ lj) (ha : XAr X c Γ (e :: es) as) (hp : pre r) (hR : RS (m r) = .fz x := by rfl) (hD : as.map CA.d = D0 r := by rfl) (hz : caFz as = true := by rfl) (hsh : (D1 (m r)).map Option.isSome = (D0 r).map ArgD.isOw := by rfl) (hx : xn (m r) = none := by rfl)
    (hgl : Gl X n := by rfl) (hdb : (n == ("__debug__" : Str)) = false := by decide) (hs : starEach (e :: es) X.env = (false, eval e X.env) :: starEach es X.env := by rfl) (hb : ((backTo pos (starEach es X.env)).any fun x => x.fst) = false := by rfl) :
    XE X c Γ (.Call (.Name n pf) (e :: es) [] pos) x := xe_call G hr hj ha hp hR hD (caFz_ix hz) (caFz_ok hz) hsh hx hgl hdb hs hb
theorem xn_callZ (G : Fk X.prog X.w X.K X.mg X.base (L2.CX X.prog X.w) n ps [] lv (SpG X.K X.mg D0 pre D1 RS xn m)) (hr : Room lj X.A) (hj : lv ≤ lj) (ha : XAr X c Γ (e :: es) as) (hp : pre r) (hR : RS (m r) = .ow none t := by rfl) (hD : as.map CA.d = D0 r := by rfl) (hz : caFz as = true := by rfl) (hsh : (D1 (m r)).map Option.isSome = (D0 r).map ArgD.isOw := by rfl) (hx : xn (m r) = none := by rfl)
    (hgl : Gl X n := by rfl) (hdb : (n == ("__debug__" : Str)) = false := by decide) (hs : starEach (e :: es) X.env = (false, eval e X.env) :: starEach es X.env := by rfl) (hb : ((backTo pos (starEach es X.env)).any fun x => x.fst) = false := by rfl) :
    XN X c Γ (.Call (.Name n pf) (e :: es) [] pos) t := xn_call G hr hj ha hp hR hD (caFz_ix hz) (caFz_ok hz) hsh hx hgl hdb hs hb
/-- .. some defaults left out -/
theorem xn_callD {as0 bs : List CA} (G : FkD X.prog X.w X.K X.mg X.base (L2.CX X.prog X.w) n ps dvs lv (SpG X.K X.mg D0 pre D1 RS xn m)) (hdv : ∀ F H σ vs, Pd (CAok X.K F H σ) vs as0 → Pd (CAok X.K F H σ) (vs ++ dvs) (as0 ++ bs)) (hr : Room lj X.A) (hj : lv ≤ lj) (ha : XAr X c Γ (e :: es) as0) (hp : pre r) (hR : RS (m r) = .ow none t := by rfl) (hD : (as0 ++ bs).map CA.d = D0 r := by rfl) (hz : caFz (as0 ++ bs) = true := by rfl) (hsh : (D1 (m r)).map Option.isSome = (D0 r).map ArgD.isOw := by rfl) (hx : xn (m r) = none := by rfl)
    (hgl : Gl X n := by rfl) (hdb : (n == ("__debug__" : Str)) = false := by decide) (hs : starEach (e :: es) X.env = (false, eval e X.env) :: starEach es X.env := by rfl) (hb : ((backTo pos (starEach es X.env)).any fun x => x.fst) = false := by rfl) :
    XN X c Γ (.Call (.Name n pf) (e :: es) [] pos) t := by
  obtain ⟨te, h1, h2⟩ := xn_callG G hdv hr hj ha hp hD (caFz_ix hz) (caFz_ok hz) hsh hx hgl hdb hs hb
  refine ⟨te, h1, fun F H σ fp E Q q => h2 F H σ fp E Q fun v F' H' l y1 y2 y3 y4 y5 => ?_⟩
  rw [hR] at y4
  obtain ⟨u, hu, y4, _⟩ := y4
  cases hu
  exact q v F' H' l y1 y2 y3 y4 y5
theorem xe_lenP {β : Type} {g : β → OT} {xs : List β} {i : Nat} {p : List Nat} {oa : Option Addr} {p1 : Pos} (hm : X.mg "len" = none) (h : XPl X c Γ a i p) (hs : Γ[i]? = some (.ow oa t)) (hg : t.get? p = some (OT.li g xs)) (hgl : Gl X "len" := by rfl) (hst : starEach [a] X.env = [(false, eval a X.env)] := by rfl) :
    XE X c Γ (.Call (.Name "len" p1) [a] [] pos) ((xs.length : Nat) : Int) := by
  obtain ⟨te, h1, h2⟩ := h
  refine ⟨_, pe_callB call_len_seq hgl hm PySem.boot_len (pa_cons h1 pa_nil hst) (by decide) (by decide) hst rfl, fun F H σ fp E Q q => h2 F H σ fp E _ fun v v0 F1 H1 E1 e1 n1 g1 g2 => ?_⟩
  obtain ⟨v0', ad, o, vs, fps, k1, k2, k3, k4, k5, k6, _⟩ := E1.node hs hg
  rw [g1] at k1; cases k1
  rw [g2] at k2; cases k2
  cases (show o = _ from k5)
  refine ⟨ad, vs, rfl, .inl (sq_of k4), q _ F1 H1 E1 e1 n1 ?_⟩
  have := k6.1
  rw [List.length_map] at this
  rw [this]; rfl
end
section
variable {X : Cx} {w : Wx} {c : Cw} {Γ Γ' : List Slot} {S B τ υ : Type} [Py υ] {R : Rc} {GB : B → List Slot} {pos : Pos}
theorem li_map {g : τ → OT} {h : υ → τ} {xs : List υ} : OT.li (fun y => g (h y)) xs = OT.li g (xs.map h) := by
  unfold OT.li
  rw [List.map_map]; rfl
theorem xn_lcT {elt tg it : Expr} {scope : Scope} {ws : List Nat} {xs : List υ} {up : List Slot → υ → List Slot} {h : υ → τ} {e : τ → OT} (own : List (Str × Nat)) (hN : X.N.Nodup) (hi : XI X c Γ tg it xs) (hl : xs.length ≤ 100000)
    (hg : ∀ q : Bq, XG (Bk X scope q) c tg ws up)
    (he : ∀ y ∈ xs, ∀ q : Bq, XN (Bk X scope q) c (up (wipeS Γ (own.map (·.2))) y) elt (e (h y)))
    (ok : blkC X.N X.env.scope scope own = true := by decide +kernel) (hws : ∀ w ∈ ws, w ∈ own.map (·.2) := by decide) (hc : X.calm = true := by rfl) (hs : ∀ x, foldedSetIterable it X.env x = pure x := by intro _; rfl) :
    XN X c Γ (.ListComp elt [⟨tg, it, [], 0⟩] scope pos) (OT.li e (xs.map h)) := (xn_lc (g := fun y => e (h y)) own hN hi hl hg he ok hws hc hs).eq li_map
theorem xn_lcifT {elt tg it cond : Expr} {scope : Scope} {ws : List Nat} {xs : List υ} {up : List Slot → υ → List Slot} {h : υ → τ} {e : τ → OT} {p : υ → Bool} (own : List (Str × Nat)) (hN : X.N.Nodup) (hi : XI X c Γ tg it xs) (hl : xs.length ≤ 100000)
    (hg : ∀ q : Bq, XG (Bk X scope q) c tg ws up)
    (hp : ∀ y ∈ xs, ∀ q : Bq, XT (Bk X scope q) c (up (wipeS Γ (own.map (·.2))) y) cond (p y))
    (he : ∀ y ∈ xs, p y = true → ∀ q : Bq, XN (Bk X scope q) c (up (wipeS Γ (own.map (·.2))) y) elt (e (h y)))
    (ok : blkC X.N X.env.scope scope own = true := by decide +kernel) (hws : ∀ w ∈ ws, w ∈ own.map (·.2) := by decide) (hc : X.calm = true := by rfl) (hs : ∀ x, foldedSetIterable it X.env x = pure x := by intro _; rfl) :
    XN X c Γ (.ListComp elt [⟨tg, it, [cond], 0⟩] scope pos) (OT.li e ((xs.filter p).map h)) := (xn_lcif (g := fun y => e (h y)) own hN hi hl hg hp he ok hws hc hs).eq li_map
theorem xs_lcT {elt tg it : Expr} {scope : Scope} {spos : Pos} {ws : List Nat} {xs : List υ} {up : List Slot → υ → List Slot} {h : υ → τ} {e : τ → OT} (i : Nat) {y : Str} {py : Pos} {Γt : List Slot} (own : List (Str × Nat)) (hN : X.N.Nodup) (hi : XI X c Γt tg it xs) (hl : xs.length ≤ 100000)
    (hg : ∀ q : Bq, XG (Bk X scope q) c tg ws up)
    (he : ∀ y ∈ xs, ∀ q : Bq, XN (Bk X scope q) c (up (wipeS Γt (own.map (·.2))) y) elt (e (h y))) (th : Thaw X.K c Γ Γt (OT.li e (xs.map h)) := by exact Thaw.id) (hil : i < Γ.length := by exact Nat.le_of_ble_eq_true rfl)
    (hy : X.N[i]? = some y := by rfl) (hyl : X.env.scope.names.lookup y = some .local := by rfl) (hsw : swapsWith (.ListComp elt [⟨tg, it, [], 0⟩] scope pos) (some (.Name y py)) spos.line X.env = pure true := by exact sw_true rfl rfl rfl (by decide +kernel))
    (ok : blkC X.N X.env.scope scope own = true := by decide +kernel) (hws : ∀ w ∈ ws, w ∈ own.map (·.2) := by decide) (hc : X.calm = true := by rfl) (hs : ∀ x, foldedSetIterable it X.env x = pure x := by intro _; rfl) :
    XS X w c Γ (.Assign [.Name y py] (.ListComp elt [⟨tg, it, [], 0⟩] scope pos) spos) (fun x : List τ => Γ.set i (.ow none (OT.li e x))) GB (Out.nx (xs.map h) : Out (List τ) B R.ρ) :=
  xs_lcN (g := fun y => e (h y)) (OT.li e) i own hN hi hl hg he li_map th hil hy hyl hsw ok hws hc hs
end
end Fw
namespace Fw
open PySem L2 Py PyProof.Rows
/-- a text's signs, each with its place in a new pair -/
def ItES (x : Str) : It :=
  ⟨fun i _ => i < x.cps.size, fun i H v H' => ∃ (T : Addr) (cc : Nat), v = V.ref T ∧ H T = none ∧ H' = upd H T (.tup [V.int (i : Nat), V.str ⟨#[cc]⟩]) ∧ x.cps[i]? = some cc, fun i _ => x.cps.size ≤ i⟩
theorem turn_enumS {P : Program} {w : World} {K : Fg} {elts : List Expr} {kk : Nat} {tpos : Pos} (x : Str) (t : Tok) (en si : Addr) :
    Turn P w K (.Tuple elts kk tpos) (ItES x) [en, si] en (fun i h => (∃ old, IsEnum h en si ((i : Nat) : Int) old) ∧ h.IsStrIter si (strIterType x) x t i ∧ en ≠ si ∧ i ≤ x.cps.size) where
  mem := List.mem_cons_self ..
  obj := by
    rintro i h ⟨⟨z, h1⟩, ⟨o, h2, _, h3⟩, _⟩ b hb
    rcases List.mem_cons.mp hb with rfl | hb
    · exact ⟨_, h1, fun v q => nomatch q⟩
    · cases List.mem_singleton.mp hb
      exact ⟨o, h2, fun v q => by rw [h3] at q; cases q⟩
  keep := by
    rintro i h h' ⟨⟨z, h1⟩, ⟨o, h2, h3⟩, h4⟩ k
    exact ⟨⟨z, k _ (List.mem_cons_self ..) _ h1⟩, ⟨o, k _ (by simp) _ h2, h3⟩, h4⟩
  item := by
    rintro X rfl rfl rfl hc i pins s σ H E I hf ⟨⟨z, h1⟩, h2, h4, h7⟩ hg
    have hel : en < s.heap.objs.size := Heap.lt_size h1
    have hil : si < s.heap.objs.size := by
      obtain ⟨o, q, _⟩ := h2
      exact Heap.lt_size q
    have hh : X.A.handled = none := I.ok.hd hc
    have hne : en ∉ [si] := by simpa using h4
    refine wpAny_pyNext_enum_itemC (Draws.text (A := X.A.in1) hh si x t) h1 h2 hg h4 hne fun v h' tk hP ho hs hT hz hk => ?_
    obtain ⟨cc, u, hx, rfl⟩ := hP
    refine ⟨_, rfl, wpAny_letOwnedTupleGo_enum (s := { s with heap := h', toks := tk + 1 }) ho fun g he sb => ?_⟩
    have hT2 : g.get? s.heap.objs.size = some { cls := .type "tuple", data := .seq #[.int i tk, .str ⟨#[cc]⟩ u] } := by rw [sb.2 _ (Nat.ne_of_gt hel)]; exact hT
    have hO : ObjOk X.prog X.w (upd H s.heap.objs.size (.tup [V.int (i : Nat), V.str ⟨#[cc]⟩])) g s.heap.objs.size (.tup [V.int (i : Nat), V.str ⟨#[cc]⟩]) :=
      ⟨by show 2 ≤ sizeLine; decide, [.int i tk, .str ⟨#[cc]⟩ u], .cons ⟨_, rfl⟩ (.cons ⟨_, rfl⟩ .nil), ⟨_, hT2, rfl, _, rfl⟩⟩
    have I1 : L2.Inv X pins σ (upd H s.heap.objs.size (.tup [V.int (i : Nat), V.str ⟨#[cc]⟩])) { s with heap := g, toks := tk + 1 } :=
      I.turnedNew (ch := [en, si]) (fun b o nb hb => by
        have n1 : b ≠ en := fun e => nb (by rw [e]; simp)
        have n2 : b ≠ si := fun e => nb (by rw [e]; simp)
        rw [sb.2 b n1]; exact hk b o n1 n2 hb) hf (Nat.le_refl _) hO
    refine ⟨.ref s.heap.objs.size, _, I1, rfl, ⟨_, cc, rfl, I.hok.fresh (Nat.le_refl _), rfl, hx⟩, ⟨⟨_, by rw [show ((i + 1 : Nat) : Int) = (i : Int) + 1 by omega]; exact he⟩, ?_, h4, hg⟩, fun b hb => ?_⟩
    · obtain ⟨o, q1, q2⟩ := hs
      exact ⟨o, by rw [sb.2 si (Ne.symm h4)]; exact q1, q2⟩
    · have lb : b < s.heap.objs.size := by
        rcases List.mem_cons.mp hb with rfl | hb
        · exact hel
        · cases List.mem_singleton.mp hb; exact hil
      rw [upd_ne (Nat.ne_of_lt lb)]
      exact (hf b hb).1
  done := by
    rintro X rfl rfl rfl hc i pins s σ H E I hf ⟨⟨z, h1⟩, h2, h4, h7⟩ hg
    obtain ⟨f0, f1, f2, f3, f4, f5⟩ := hf si (by simp)
    have hh : X.A.handled = none := I.ok.hd hc
    have hg' : x.cps.size ≤ i := hg
    have hi : i = x.cps.size := by omega
    subst hi
    exact wpAny_pyNext_enum_endD (Draws.text (A := X.A.in1) hh si x t) h1 h2 fun h' eb => ⟨rfl, I.turned (t' := s.toks) (fun b o nb q => eb b o nb q) f0 f1 f3 f4 f5⟩
  self := fun A i s Q E st h => by obtain ⟨⟨_, he⟩, _⟩ := st; exact wpAny_pyIter_enum he h
def iEnumS (ta : TA) : TI := fun σ H R => ta σ H fun vs H1 => ∃ x, vs = [V.str x] ∧ R (ItES x) H1
theorem pi_enumS {X : Cx} {e : Expr} {ta : TA} {p pos tpos : Pos} {elts : List Expr} {kk : Nat} (gl : Gl X "enumerate") (gm : X.mg "enumerate" = none) (ga : PA X [e] ta) (gs : starEach [e] X.env = [(false, eval e X.env)] := by rfl) :
    PI X (.Tuple elts kk tpos) (.Call (.Name "enumerate" p) [e] [] pos) (iEnumS ta) := ⟨fun pins s σ H R I h => by
  refine Call_ (ld_blt I gl gm boot_enumerate (PyProof.Rows.callWith_type1 (thn (ga.run pos pins s σ H _ I h) fun us s1 ⟨vs, H1, J, r1, x, ex, q⟩ => ?_) gs rfl))
  subst ex
  cases r1 with
  | cons r rr =>
    cases rr
    obtain ⟨t, rfl⟩ := r
    refine call_enumerate_str fun g h1 h2 hsz hk => wpAny_pyIter_enum h1 ?_
    have J2 : L2.Inv X pins σ H1 { s1 with heap := g } := J.kept (t' := s1.toks) hk
    refine ⟨s1.heap.objs.size + 1, [s1.heap.objs.size + 1, s1.heap.objs.size], _, _, H1, rfl, J2, turn_enumS x t (s1.heap.objs.size + 1) s1.heap.objs.size, ⟨⟨.none, h1⟩, h2, Nat.succ_ne_self _, Nat.zero_le _⟩, fun b hb => ?_, q⟩
    have lb : s1.heap.objs.size ≤ b := by
      rcases List.mem_cons.mp hb with rfl | hb
      · exact Nat.le_succ _
      · cases List.mem_singleton.mp hb; exact Nat.le_refl _
    exact J.fpOk lb (J.hok.fresh lb)⟩
theorem walk_enumS {x : Str} : Walk (ItES x) x.cps.size (fun _ => True) (YPair (fun i => some (.int (i : Nat))) (fun i => x.cps[i]?.map fun c => V.str ⟨#[c]⟩)) :=
  ⟨fun _ _ hi _ => hi, fun _ _ => Nat.le_refl _, fun i H v H' _ _ ⟨T, cc, h1, h2, h3, h4⟩ => ⟨T, .int (i : Nat), V.str ⟨#[cc]⟩, h1, h2, h3, rfl, by simp [h4]⟩⟩
theorem xi_enumS {X : Cx} {c : Cw} {Γ : List Slot} {a : Expr} {p tpos : Pos} {pos : Pos} {elts : List Expr} {kk : Nat} {s : Str} (hm : X.mg "enumerate" = none) (h : XE X c Γ a s) (hg : Gl X "enumerate" := by rfl) (hs : starEach [a] X.env = [(false, eval a X.env)] := by rfl) :
    XI X c Γ (.Tuple elts kk tpos) (.Call (.Name "enumerate" p) [a] [] pos) (enumL (signsL s)) := by
  obtain ⟨t, h1, h2⟩ := h
  refine ⟨_, pi_enumS hg hm (pa_cons h1 pa_nil hs) hs, fun F H σ fp E R q => h2 F H σ fp E _ fun v F' H' E' e1 e2 r => ?_⟩
  refine ⟨s, by rw [show v = V.str s from r], q _ F' H' E' e1 e2 ⟨_, _, (by
    have : (enumL (signsL s)).length = s.cps.size := by rw [enumL_len]; simp [signsL]
    rw [this]; exact walk_enumS), fun _ _ _ _ => trivial, fun i F1 H1 v H2 y x1 x2 hy hx => ?_⟩⟩
  obtain ⟨T, u, w, rfl, hT, hH, e3, e4⟩ := hy
  obtain ⟨y1, y2⟩ := enumL_get hx
  cases e3
  unfold signsL at y2
  rw [List.getElem?_map, Array.getElem?_toList] at y2
  dsimp only at e4
  cases q : s.cps[i]? with
  | none => rw [q] at e4; cases e4
  | some cc =>
    rw [q] at e4 y2
    cases e4
    exact pair_new x2 hT hH (show V.int _ = V.int _ by rw [y1]) (show V.str _ = V.str _ by rw [← Option.some.inj y2])
end Fw
namespace Fw
open PySem L2 Py PyProof.Rows
section
variable {S τ R B : Type}
/-- what stands at each turn of a loop that never leaves -/
theorem fold_inv {g : S → τ → S} {vb : S → τ → Prop} : ∀ {xs : List τ} (I : Nat → S → Prop) {s : S}, I 0 s → (∀ i s y, xs[i]? = some y → I i s → vb s y ∧ I (i + 1) (g s y)) → vFold g vb s xs ∧ I xs.length (xs.foldl g s)
  | [], I, s, h0, _ => ⟨trivial, h0⟩
  | y :: r, I, s, h0, hs => by
    obtain ⟨h1, h2⟩ := hs 0 s y rfl h0
    obtain ⟨h3, h4⟩ := fold_inv (xs := r) (fun i => I (i + 1)) h2 fun i s z hz => hs (i + 1) s z hz
    exact ⟨⟨h1, h3⟩, h4⟩
theorem fold_all {g : S → τ → S} {vb : S → τ → Prop} {xs : List τ} (I : S → Prop) {s : S} (h0 : I s) (hs : ∀ s, ∀ y ∈ xs, I s → vb s y ∧ I (g s y)) : vFold g vb s xs ∧ I (xs.foldl g s) :=
  fold_inv (fun _ => I) h0 fun i s y hy h => hs s y (List.mem_of_getElem? hy) h
end
theorem izs_zero (lo : Int) : izs lo 0 = [] := rfl
theorem izs_succ (lo : Int) (n : Nat) : izs lo (n + 1) = lo :: izs (lo + 1) n := by
  unfold izs
  rw [List.range_succ_eq_map, List.map_cons, List.map_map]
  congr 1
  · show lo + 0 = lo; omega
  · exact List.map_congr_left fun a _ => by show lo + ((a + 1 : Nat) : Int) = lo + 1 + a; omega
theorem izs_mem {lo y : Int} {n : Nat} : y ∈ izs lo n ↔ lo ≤ y ∧ y < lo + n := by
  unfold izs
  rw [List.mem_map]
  constructor
  · rintro ⟨a, ha, rfl⟩
    rw [List.mem_range] at ha; omega
  · intro h
    exact ⟨(y - lo).toNat, by rw [List.mem_range]; omega, by omega⟩
theorem izs_at {lo : Int} {n i : Nat} (h : i < n) : (izs lo n)[i]? = some (lo + i) := by
  unfold izs
  rw [List.getElem?_map, List.getElem?_range h]; rfl
section
variable {τ υ : Type} [Inhabited τ]
theorem ix_of {xs : List τ} (i : Nat) : ix xs (i : Int) = (xs[i]?).getD default := by
  rw [ix_nat (Int.natCast_nonneg i)]; rfl
theorem ix_get {xs : List τ} {i : Int} {x : τ} (h0 : 0 ≤ i) (h : xs[i.toNat]? = some x) : ix xs i = x := by rw [ix_nat h0, h]; rfl
theorem ix_cons {x : τ} {xs : List τ} : ix (x :: xs) 0 = x := by rw [ix_nat (by decide)]; rfl
theorem ixN_last {n : Nat} (h : 0 < n) : ixN n (-1) = some (n - 1) := by
  unfold ixN
  rw [if_neg (by decide), if_pos (by omega)]
  congr 1; omega
theorem ix_lastA {xs : List τ} {x : τ} : ix (xs ++ [x]) (-1) = x := by
  unfold ix atI
  rw [ixN_last (by simp)]
  simp
theorem st_lastA {xs : List τ} {x y : τ} : stI (xs ++ [x]) (-1) y = xs ++ [y] := by
  unfold stI ixn
  rw [ixN_last (by simp)]
  simp
theorem st_nat {xs : List τ} {i : Int} {y : τ} (h0 : 0 ≤ i) (h1 : i < xs.length) : stI xs i y = xs.set i.toNat y := by
  unfold stI ixn ixN
  rw [if_pos h0, if_pos h1]; rfl
theorem st_len {xs : List τ} {i : Int} {y : τ} : (stI xs i y).length = xs.length := by unfold stI; rw [List.length_set]
theorem st_mem {xs : List τ} {i : Int} {y z : τ} (h : z ∈ stI xs i y) : z ∈ xs ∨ z = y := by
  unfold stI at h
  exact (List.mem_or_eq_of_mem_set h)
theorem ix_eq_get {xs : List τ} {i : Int} (h0 : 0 ≤ i) (h1 : i < xs.length) : ix xs i = xs[i.toNat]'(by omega) := by
  rw [ix_nat h0, List.getElem?_eq_getElem (by omega)]; rfl
theorem cut_nat {xs : List τ} {a b : Int} (h0 : 0 ≤ a) (h1 : a ≤ b) (h2 : b ≤ xs.length) : cutL xs (some a) (some b) = (xs.drop a.toNat).take (b - a).toNat := by
  unfold cutL HT.sIx
  dsimp only
  rw [if_neg (by omega), if_neg (by omega), Nat.min_eq_left (by omega), Nat.min_eq_left (by omega)]
  congr 1; omega
theorem ix_st {xs : List τ} {i j : Int} {y : τ} (h0 : 0 ≤ i) (h1 : i < xs.length) (k0 : 0 ≤ j) (k1 : j < xs.length) : ix (stI xs i y) j = if j = i then y else ix xs j := by
  rw [st_nat h0 h1, ix_nat k0, ix_nat k0, List.getElem?_set]
  by_cases e : j = i
  · subst e
    rw [if_pos rfl, if_pos rfl, if_pos (by omega)]; rfl
  · rw [if_neg (by omega), if_neg e]
theorem ext_ix {xs ys : List τ} (h : xs.length = ys.length) (k : ∀ j : Int, 0 ≤ j → j < xs.length → ix xs j = ix ys j) : xs = ys := by
  refine List.ext_getElem h fun i h1 h2 => ?_
  have := k i (by omega) (by omega)
  rw [ix_eq_get (by omega) (by omega), ix_eq_get (by omega) (by omega)] at this
  exact this
theorem take_izs {xs : List τ} {a : Int} {m : Nat} (h0 : 0 ≤ a) (h1 : a + m ≤ xs.length) : (xs.drop a.toNat).take m = (izs a m).map (ix xs) := by
  refine List.ext_getElem? fun i => ?_
  by_cases hi : i < m
  · rw [List.getElem?_take, if_pos hi, List.getElem?_drop, List.getElem?_map, izs_at hi]
    show _ = some (ix xs (a + i))
    rw [ix_eq_get (by omega) (by omega), List.getElem?_eq_getElem (by omega)]
    congr 2; omega
  · rw [List.getElem?_take, if_neg hi, List.getElem?_eq_none (by rw [List.length_map, izs_len]; omega)]
theorem ix_mapz {f : Int → τ} {a j : Int} {m : Nat} (h0 : 0 ≤ j) (h1 : j < m) : ix ((izs a m).map f) j = f (a + j) := by
  rw [ix_nat h0, List.getElem?_map, izs_at (by omega)]
  show f (a + ((j.toNat : Nat) : Int)) = _
  congr 1; omega
end
theorem izs_pw (lo : Int) (n : Nat) : (izs lo n).Pairwise (· < ·) := by
  unfold izs
  rw [List.pairwise_map]
  exact List.Pairwise.imp (fun h => by omega) List.pairwise_lt_range
/-- first and last of a rising list -/
theorem pw_ends {xs : List Int} (h : xs.Pairwise (· < ·)) (hn : xs ≠ []) : InB xs 0 ∧ InB xs (-1) ∧ ix xs 0 ∈ xs ∧ ix xs (-1) ∈ xs ∧ ∀ x ∈ xs, ix xs 0 ≤ x ∧ x ≤ ix xs (-1) := by
  have hl : 0 < xs.length := List.length_pos_iff.mpr hn
  have b0 : InB xs 0 := by unfold InB; omega
  have b1 : InB xs (-1) := by unfold InB; omega
  refine ⟨b0, b1, ix_mem b0, ix_mem b1, fun x hx => ⟨?_, ?_⟩⟩
  · cases xs with
    | nil => exact absurd rfl hn
    | cons y r =>
      rw [ix_cons]
      rcases List.mem_cons.mp hx with rfl | hx
      · exact Int.le_refl _
      · exact Int.le_of_lt ((List.pairwise_cons.mp h).1 x hx)
  · obtain ⟨ys, y, rfl⟩ : ∃ ys y, xs = ys ++ [y] := ⟨xs.dropLast, xs.getLast hn, (List.dropLast_concat_getLast hn).symm⟩
    rw [ix_lastA]
    rcases List.mem_append.mp hx with hx | hx
    · exact Int.le_of_lt ((List.pairwise_append.mp h).2.2 x hx y (by simp))
    · rw [List.mem_singleton] at hx; rw [hx]; exact Int.le_refl _
theorem sg_of {s : Str} (h : s.length = 1) : ∃ c, s = ⟨#[c]⟩ := by
  obtain ⟨⟨l⟩⟩ := s
  have h' : l.length = 1 := h
  match l, h' with
  | [c], _ => exact ⟨c, rfl⟩
theorem joinL_nil : ∀ ps : List (List Nat), TL.joinL [] ps = ps.flatten
  | [] => rfl
  | [p] => by simp [TL.joinL]
  | p :: q :: r => by
    show p ++ ([] ++ TL.joinL [] (q :: r)) = _
    rw [joinL_nil (q :: r)]; simp
theorem signs_join {ys : List Str} (h : ∀ y ∈ ys, y.length = 1) : signsL (Txt.join ("" : Str) ys) = ys := by
  unfold signsL
  show (tl (Txt.join ("" : Str) ys)).map _ = ys
  rw [tl_joinL, show tl ("" : Str) = [] from rfl, joinL_nil]
  induction ys with
  | nil => rfl
  | cons y r ih =>
    obtain ⟨c, rfl⟩ := sg_of (h y (List.mem_cons_self ..))
    rw [List.map_cons, List.flatten_cons, List.map_append, ih fun z hz => h z (List.mem_cons_of_mem _ hz)]
    rfl
theorem strOk_iff {s : Str} : PyData.strOk s = true ↔ ∀ c ∈ tl s, c < 0x110000 := by
  show (s.cps.all (· < 0x110000)) = true ↔ _
  rw [Array.all_eq_true']
  exact ⟨fun h c hc => by simpa using h c (by simpa using hc), fun h c hc => by simpa using h c (by simpa using hc)⟩
theorem join_strOk {s : Str} {ys : List Str} (hs : PyData.strOk s = true) (h : ∀ y ∈ ys, PyData.strOk y = true) : PyData.strOk (Txt.join s ys) = true := by
  rw [strOk_iff, tl_joinL]
  intro c hc
  rcases joinL_mem hc with hc | ⟨p, hp, hc⟩
  · exact strOk_iff.mp hs c hc
  · obtain ⟨y, hy, rfl⟩ := List.mem_map.mp hp
    exact strOk_iff.mp (h y hy) c hc
end Fw
namespace Fw
open PySem L2 Py PyProof.Rows
end Fw
namespace Fw
open PySem L2 Py PyProof.Rows
/-- a dict of numbers, each with True -/
structure Ks where
  l : List Int
deriving Inhabited, DecidableEq
def Ks.ot (s : Ks) : OT := .nd (.dK (s.l.map Sum.inl)) (s.l.map fun _ => OT.fz true)
instance : Py Ks := pyOf Ks.ot
def Ks.put (s : Ks) (k : Int) : Ks := if k ∈ s.l then s else ⟨s.l ++ [k]⟩
def Ks.drop (s : Ks) (k : Int) : Ks := ⟨s.l.filter (· ≠ k)⟩
end Fw
namespace Fw
open PySem L2 Py PyProof.Rows
theorem fzt_ot {τ : Type} {g : τ → OT} {x : τ} : @FzT (g x) τ (pyOf g) x := fun {K F v} h => h
mutual
def Dy.nice : Dy → Bool
  | .emp => false
  | .lst l => Dy.nices l
  | .tup l => Dy.nices l
  | _ => true
def Dy.nices : List Dy → Bool
  | [] => true
  | d :: r => Dy.nice d && Dy.nices r
end
mutual
def Dy.toD : Dy → PyData
  | .non => .none
  | .bl b => .bool b
  | .int i => .int i
  | .str s => .str s
  | .lst l => .list (Dy.toDs l)
  | .tup l => .tuple (Dy.toDs l)
  | .emp => .none
def Dy.toDs : List Dy → List PyData
  | [] => []
  | d :: r => Dy.toD d :: Dy.toDs r
end
mutual
theorem Dy.dp {K : Fg} {F : Hp} : ∀ (d : Dy) (v : V), d.nice = true → Dy.rep K F d v → Dp K F v d.toD
  | .non, v, _, h => by unfold Dy.rep at h; subst h; unfold Dy.toD; exact .non
  | .bl b, v, _, h => by unfold Dy.rep at h; subst h; unfold Dy.toD; exact .bl b
  | .int b, v, _, h => by unfold Dy.rep at h; subst h; unfold Dy.toD; exact .int b
  | .str b, v, _, h => by unfold Dy.rep at h; subst h; unfold Dy.toD; exact .str b
  | .lst l, v, n, h => by
    unfold Dy.rep at h
    obtain ⟨a, vs, rfl, h2, h3⟩ := h
    unfold Dy.toD
    unfold Dy.nice at n
    exact .lst (sq_of h2) (Dy.dps l vs n h3)
  | .tup l, v, n, h => by
    unfold Dy.rep at h
    obtain ⟨a, vs, rfl, h2, h3⟩ := h
    unfold Dy.toD
    unfold Dy.nice at n
    exact .tup h2 (Dy.dps l vs n h3)
  | .emp, v, n, h => by unfold Dy.nice at n; cases n
theorem Dy.dps {K : Fg} {F : Hp} : ∀ (l : List Dy) (vs : List V), Dy.nices l = true → Dy.reps K F l vs → DpAll K F vs (Dy.toDs l)
  | [], vs, _, h => by unfold Dy.reps at h; subst h; unfold Dy.toDs; exact .nil
  | d :: r, vs, n, h => by
    unfold Dy.reps at h
    obtain ⟨u, us, rfl, h1, h2⟩ := h
    unfold Dy.toDs
    unfold Dy.nices at n
    rw [Bool.and_eq_true] at n
    exact .cons (Dy.dp d u n.1 h1) (Dy.dps r us n.2 h2)
end
section
variable {X : Cx} {w : Wx} {c : Cw} {Γ Γ' : List Slot} {S S' B τ υ ζ α : Type} [Py τ] [Py υ] [Py ζ] {R : Rc} {G : S → List Slot} {GB : B → List Slot} {o : Out S B R.ρ} {pos : Pos} {rest : List Stmt} {e d a b ep ei : Expr} {k : Bool} {t u : OT} {ts us : List OT} {i : Nat} {p : List Nat} {oa : Option Addr}
theorem hu_of {n : Nat} (h : n + 64 < cLine) : n + 1 < cLine := by omega
theorem XM.to {s s' : Slot} {Γ'' : List Slot} (h : XM X c Γ Γ' e s) (q : Γ' = Γ'') (r : s = s') : XM X c Γ Γ'' e s' := q ▸ r ▸ h
theorem xi_listL {it tg : Expr} {xs : List υ} (h : XE X c Γ it xs) : XI X c Γ tg it xs := xi_list h
section
variable {ρ α : Type} {D0 : α → List ArgD} {pre : α → Prop} {D1 : ρ → List (Option OT)} {RS : ρ → Slot} {xn : ρ → Option Str} {m : α → ρ} {n : Str} {ps : List Str} {lv lj : Nat} {r : α} {as : List CA} {es : List Expr} {pf : Pos} {C : Addr}
theorem xn_makeZ (G : Fc' X.prog X.w X.K X.mg X.base (L2.CX X.prog X.w) n C ps lv (SpG X.K X.mg D0 pre D1 RS xn m)) (cl : Cls X.K C) (hr : Room lj X.A) (hj : lv + 1 ≤ lj) (ha : XAr X c Γ (e :: es) as) (hp : pre r) {ds : List (Option OT)} (hd1 : D1 (m r) = some t :: ds := by rfl) (hD : ArgD.ow (.nd (.ins C []) []) :: as.map CA.d = D0 r := by rfl) (hz : caFz as = true := by rfl) (hRS : RS (m r) = .fz () := by rfl) (hx : xn (m r) = none := by rfl)
    (hgl : Gl X n := by rfl) (hdb : (n == ("__debug__" : Str)) = false := by decide) (he : starEach (e :: es) X.env = (false, eval e X.env) :: starEach es X.env := by rfl) (hpl : (backTo pos (starEach es X.env)).any (·.1) = false := by rfl) :
    XN X c Γ (.Call (.Name n pf) (e :: es) [] pos) t := xn_make G cl hr hj ha (caFz_ix hz) hp hD hd1 hRS hx hgl hdb he hpl
end
end
def inL {τ : Type} [Py τ] [f : PyFl τ] (x : τ) (xs : List τ) : Bool := @decide (x ∈ xs) (@List.instDecidableMemOfLawfulBEq τ (@instBEqOfDecidableEq τ f.dec) (by infer_instance) x xs)
section
variable {X : Cx} {c : Cw} {Γ : List Slot} {τ : Type} [Py τ] [PyFl τ] {a b : Expr} {es : List Expr} {x : τ}
theorem xc_ninG {υ : Type} [Py υ] [PyS υ τ] {s : υ} (ha : XE X c Γ a x) (hb : XE X c Γ b s) (hm : behindInMarks .NotIn b = false) : XC X c Γ .NotIn a b (!inL x (PyS.li s)) :=
  @xc_ninSq X c Γ τ _ a b x υ _ _ PyFl.dec s (fun h1 h2 => by have := PyFl.fl h1 h2; refine ⟨this.1, this.2.trans ?_⟩; congr) ha hb hm
theorem xc_ninLs {s : List τ} (ha : XE X c Γ a x) (hb : XE X c Γ b s) (hm : behindInMarks .NotIn b = false := by rfl) : XC X c Γ .NotIn a b (!inL x s) := xc_ninG ha hb hm
end
end Fw
namespace Fw
open PySem L2 Py PyProof.Rows
theorem str_app (a b : Str) : (a ++ b).length = a.length + b.length := by
  have := congrArg List.length (tl_cat a b)
  rwa [List.length_append, tl_len, tl_len, tl_len] at this
theorem textFrom_le {b : Nat} : ∀ (ts : List Str) (k : Nat) (acc : Str), (∀ t ∈ ts, t.length ≤ b) → (textFrom k acc ts).length ≤ acc.length + ts.length * (b + 2)
  | [], k, acc, _ => by show acc.length ≤ _; omega
  | t :: r, k, acc, h => by
    have h1 := h t (List.mem_cons_self ..)
    have h2 := textFrom_le r (k + 1) (acc ++ (if k > 0 then ", " else "" : String) ++ t) fun z hz => h z (List.mem_cons_of_mem _ hz)
    show (textFrom (k + 1) (acc ++ (if k > 0 then ", " else "" : String) ++ t) r).length ≤ _
    rw [str_app, str_app] at h2
    have h3 : (Str.ofString (if k > 0 then ", " else "" : String)).length ≤ 2 := by split <;> decide
    have : (t :: r).length * (b + 2) = r.length * (b + 2) + (b + 2) := by rw [List.length_cons, Nat.succ_mul]
    omega
theorem listText_le {b : Nat} {ts : List Str} (h : ∀ t ∈ ts, t.length ≤ b) : (listText ts).length ≤ ts.length * (b + 2) + 2 := by
  have := textFrom_le ts 0 "[" h
  unfold listText
  rw [str_app]
  have e1 : (Str.ofString "[").length = 1 := by decide
  have e2 : (Str.ofString "]").length = 1 := by decide
  omega
theorem ofString_len (s : String) : (Str.ofString s).length = s.length := PySem.ofString_length s
/-- a number, a truth, None -/
def Dy.tiny : Dy → Prop
  | .int i => i.natAbs < 10 ^ 10
  | .bl _ => True
  | .non => True
  | _ => False
def Dy.small : Dy → Prop
  | .lst l => l.length ≤ 100 ∧ ∀ d ∈ l, d.tiny
  | d => d.tiny
theorem log_of {n : Nat} (h : n < 10 ^ 10) : n.log2 < 1920 := by
  by_cases h0 : n = 0
  · subst h0; decide
  · rw [Nat.log2_lt h0]
    exact Nat.lt_of_lt_of_le h (Nat.le_trans (show 10 ^ 10 ≤ 2 ^ 34 by decide) (Nat.pow_le_pow_right (by decide) (by decide)))
theorem tiny_ok {d : Dy} (h : d.tiny) : d.nice = true ∧ d.toD.showable = true ∧ d.toD.hasDict = false ∧ d.toD.depth = 0 ∧ d.toD.shown.length ≤ 11 := by
  cases d with
  | int i =>
    have h' : i.natAbs < 10 ^ 10 := h
    refine ⟨by unfold Dy.nice; rfl, ?_, by unfold Dy.toD PyData.hasDict; rfl, by unfold Dy.toD PyData.depth; rfl, ?_⟩
    · unfold Dy.toD PyData.showable; exact decide_eq_true (log_of h')
    · unfold Dy.toD PyData.shown
      rw [ofString_len]
      exact int_text_length_le10 (by decide) h'
  | bl b => cases b <;> exact ⟨by unfold Dy.nice; rfl, by unfold Dy.toD PyData.showable; rfl, by unfold Dy.toD PyData.hasDict; rfl, by unfold Dy.toD PyData.depth; rfl, by unfold Dy.toD PyData.shown; decide⟩
  | non => exact ⟨by unfold Dy.nice; rfl, by unfold Dy.toD PyData.showable; rfl, by unfold Dy.toD PyData.hasDict; rfl, by unfold Dy.toD PyData.depth; rfl, by unfold Dy.toD PyData.shown; decide⟩
  | str s => exact h.elim
  | lst l => exact h.elim
  | tup l => exact h.elim
  | emp => exact h.elim
theorem list_ok {n b : Nat} : ∀ {l : List Dy}, (∀ d ∈ l, d.nice = true ∧ d.toD.showable = true ∧ d.toD.hasDict = false ∧ d.toD.depth ≤ n ∧ d.toD.shown.length ≤ b) →
    Dy.nices l = true ∧ PyData.showableAll (Dy.toDs l) = true ∧ PyData.hasDictAll (Dy.toDs l) = false ∧ PyData.depthAll (Dy.toDs l) ≤ n ∧ (PyData.shownAll (Dy.toDs l)).length = l.length ∧ ∀ t ∈ PyData.shownAll (Dy.toDs l), t.length ≤ b
  | [], _ => ⟨by unfold Dy.nices; rfl, by unfold Dy.toDs PyData.showableAll; rfl, by unfold Dy.toDs PyData.hasDictAll; rfl, by unfold Dy.toDs PyData.depthAll; exact Nat.zero_le _, by unfold Dy.toDs PyData.shownAll; rfl, by unfold Dy.toDs PyData.shownAll; intro t ht; cases ht⟩
  | d :: r, h => by
    obtain ⟨a1, a2, a3, a4, a5⟩ := h d (List.mem_cons_self ..)
    obtain ⟨b1, b2, b3, b4, b5, b6⟩ := list_ok (l := r) fun z hz => h z (List.mem_cons_of_mem _ hz)
    refine ⟨by unfold Dy.nices; rw [a1, b1]; rfl, by unfold Dy.toDs PyData.showableAll; rw [a2, b2]; rfl, by unfold Dy.toDs PyData.hasDictAll; rw [a3, b3]; rfl, by unfold Dy.toDs PyData.depthAll; omega, by unfold Dy.toDs PyData.shownAll; rw [List.length_cons, b5]; rfl, ?_⟩
    unfold Dy.toDs PyData.shownAll
    intro t ht
    rcases List.mem_cons.mp ht with rfl | ht
    · exact a5
    · exact b6 t ht
theorem small_ok {d : Dy} (h : d.small) : d.nice = true ∧ d.toD.showable = true ∧ d.toD.hasDict = false ∧ d.toD.depth ≤ 1 ∧ d.toD.shown.length ≤ 1400 := by
  have tiny : ∀ d : Dy, d.tiny → d.nice = true ∧ d.toD.showable = true ∧ d.toD.hasDict = false ∧ d.toD.depth ≤ 1 ∧ d.toD.shown.length ≤ 1400 := fun d h => by
    obtain ⟨a1, a2, a3, a4, a5⟩ := tiny_ok h
    exact ⟨a1, a2, a3, by omega, by omega⟩
  cases d with
  | lst l =>
    obtain ⟨h1, h2⟩ := h
    obtain ⟨b1, b2, b3, b4, b5, b6⟩ := list_ok (n := 0) (b := 11) (l := l) fun z hz => by
      obtain ⟨a1, a2, a3, a4, a5⟩ := tiny_ok (h2 z hz)
      exact ⟨a1, a2, a3, by omega, a5⟩
    refine ⟨by unfold Dy.nice; exact b1, by unfold Dy.toD PyData.showable; exact b2, by unfold Dy.toD PyData.hasDict; exact b3, by unfold Dy.toD PyData.depth; omega, ?_⟩
    unfold Dy.toD PyData.shown
    have := listText_le b6
    rw [b5] at this
    have : l.length * (11 + 2) ≤ 100 * 13 := Nat.mul_le_mul_right _ h1
    omega
  | int i => exact tiny _ h
  | bl b => exact tiny _ h
  | non => exact tiny _ h
  | str s => exact h.elim
  | tup l => exact h.elim
  | emp => exact h.elim
end Fw
namespace Fw
open PySem L2 Py PyProof.Rows
structure LKs where
  l : List Int
deriving Inhabited
def kvB (l : List Int) : List (Key × V) := l.map fun k => (Sum.inl k, V.bl true)
instance : Py LKs := ⟨fun _ F v x => ∃ a o, v = .ref a ∧ F a = some (.frz o (.dK (kvB x.l))), fun e ⟨a, o, h1, h2⟩ => ⟨a, o, h1, e _ _ h2⟩⟩
def minDf (xs : List Int) (d : Int) : Int := match xs with
  | [] => d
  | n :: r => r.foldl min n
theorem readsInts {h : Heap} : ∀ {vs : List Value} {ns : List Int}, IntsAre vs ns → ReadsAll h vs (ns.map PyData.int) []
  | _, _, .nil => .nil
  | _, _, .cons i t r => .cons (as := []) (.int _ _) (readsInts (h := h) r)
theorem alikeInts (ns : List Int) : PySem.W.AlikeAll (ns.map PyData.int) := by
  refine ⟨fun x hx y hy => ?_, fun x hx => ?_⟩
  · obtain ⟨a, _, rfl⟩ := List.mem_map.mp hx
    obtain ⟨b, _, rfl⟩ := List.mem_map.mp hy
    rfl
  · obtain ⟨a, _, rfl⟩ := List.mem_map.mp hx
    intro h; cases h
theorem depthInts : ∀ ns : List Int, PyData.depthAll (ns.map PyData.int) = 0
  | [] => rfl
  | n :: r => by
    show max (PyData.int n).depth (PyData.depthAll (r.map PyData.int)) = 0
    rw [depthInts r]; rfl
section
variable {X : Cx} {c : Cw} {Γ : List Slot} {a b : Expr} {pos p kp : Pos}
theorem cr_minDf (hc : X.calm = true) (hu : X.A.units + 64 < cLine) : CallRK X (.builtin "min") ["default"] (fun vs zs H Q => ∃ (a : Addr) (ns : List Int) (d : Int), vs = [V.ref a] ∧ zs = [.int d] ∧ SqL X.K H a (ns.map V.int) ∧ Q (.int (minDf ns d)) H) := by
  intro pins s σ H xs zs us ws Q I r r2 h
  obtain ⟨a, ns, d, rfl, rfl, hs, q⟩ := h
  obtain ⟨its, rv, hl, _⟩ := I.list hs
  rw [Vals.ref1 r]
  obtain ⟨u, rfl, ru⟩ := vals1 r2
  obtain ⟨t, rfl⟩ := ru
  refine PySem.W.min_list_default (I.ok.hd hc) hl.isList (readsInts rv.ints) (alikeInts ns) (by rw [depthInts]; omega) (fun h0 h' tk hk => ?_) (fun y ys i v h' tk bs he hv hr hk => ?_)
  · cases ns with
    | nil => exact ⟨.int d, H, I.kept hk, ⟨t, rfl⟩, q⟩
    | cons => cases h0
  · cases ns with
    | nil => cases he
    | cons n r =>
      rw [List.map_cons] at he
      cases he
      rw [PySem.W.minD_ints] at hr
      cases hr with
      | int i t => exact ⟨.int _, H, I.kept hk, ⟨t, rfl⟩, q⟩
theorem xe_minDf {xs : List Int} {d : Int} (hm : X.mg "min" = none) (hu : X.A.units + 64 < cLine) (ha : XE X c Γ a xs) (hb : XE X c Γ b d) (hc : X.calm = true := by rfl) (hg : Gl X "min" := by rfl) (hs : starEach [a] X.env = [(false, eval a X.env)] := by rfl)
    (he : backTo pos (starEach [a] X.env) = (false, eval a X.env) :: backTo pos (starEach [] X.env) := by rfl) (hpl : (backTo pos (starEach [a] X.env)).any (·.1) = false := by rfl)
    (hall : (backToKw pos (keywordEach [⟨some "default", b, kp⟩] X.env)).all (·.1.isSome) = true := by rfl) (hnone : (backToKw pos (keywordEach [⟨some "default", b, kp⟩] X.env)).any (·.1.isNone) = false := by rfl) (hks : (backToKw pos (keywordEach [⟨some "default", b, kp⟩] X.env)).filterMap (·.1) = [("default" : Str)] := by rfl) :
    XE X c Γ (.Call (.Name "min" p) [a] [⟨some "default", b, kp⟩] pos) (minDf xs d) := by
  obtain ⟨ta, h1, h2⟩ := ha
  obtain ⟨tb, h3, h4⟩ := hb
  refine ⟨_, pe_callBK (cr_minDf hc hu) hg hm (by decide +kernel) (pa_cons h1 pa_nil hs) (pk_cons h3 pk_nil) (by decide) (by decide) he hpl hall hnone hks, fun F H σ fp E Q q => h2 F H σ fp E _ fun v F1 H1 E1 e1 n1 r1 => h4 F1 H1 σ fp E1 _ fun u F2 H2 E2 e2 n2 r2 => ?_⟩
  obtain ⟨ad, vs, rfl, r3, r4⟩ := r1
  exact ⟨ad, xs, d, rfl, by rw [show u = V.int d from r2], sq_of (by rw [← ints_of r4]; exact E2.wd.fh _ _ (e2 _ _ r3)), q _ _ _ E2 (e1.trans e2) (n1.trans n2) rfl⟩
end
theorem fa_kvB {K : Fg} {F : Hp} {v : V} {s : Ks} (h : rep K F v s) : ∃ a, v = .ref a ∧ F a = some (.dK (kvB s.l)) := by
  obtain ⟨a, vs, rfl, hF, hl, hc⟩ := FA.dK (show FA K F v (.nd (.dK (s.l.map Sum.inl)) (s.l.map fun _ => OT.fz true)) from h)
  refine ⟨a, rfl, ?_⟩
  have hv : vs = s.l.map fun _ => V.bl true := by
    refine List.ext_getElem? fun i => ?_
    rw [List.length_map] at hl
    by_cases hi : i < vs.length
    · have h1 := hc.2 i _ (OT.fz true) (List.getElem?_eq_getElem hi) (by rw [List.getElem?_map, List.getElem?_eq_getElem (by omega)]; rfl)
      rw [List.getElem?_eq_getElem hi, List.getElem?_map, List.getElem?_eq_getElem (show i < s.l.length by omega)]
      exact congrArg some h1.ofz
    · rw [List.getElem?_eq_none (by omega), List.getElem?_eq_none (by rw [List.length_map]; omega)]
  rw [hF, hv]
  unfold kvB
  rw [List.zip_map']
section
variable {X : Cx} {c : Cw} {Γ : List Slot} {a b : Expr} {pos p kp : Pos}
instance : PyTy Ks := ⟨fun _ => "dict", fun {K F v x} h => by
  obtain ⟨a, rfl, r⟩ := fa_kvB h
  exact .base (.dK r)⟩
end
def minl (xs : List Int) : Int := xs.foldl min (xs.headD 0)
theorem foldl_min (xs : List Int) : ∀ z : Int, (xs.foldl min z = z ∨ xs.foldl min z ∈ xs) ∧ xs.foldl min z ≤ z ∧ ∀ y ∈ xs, xs.foldl min z ≤ y := by
  induction xs with
  | nil => intro z; exact ⟨.inl rfl, Int.le_refl _, fun _ h => nomatch h⟩
  | cons x r ih =>
    intro z
    rw [List.foldl_cons]
    obtain ⟨h1, h2, h3⟩ := ih (min z x)
    refine ⟨?_, by omega, fun y hy => ?_⟩
    · rcases h1 with h | h
      · rw [h]
        by_cases hz : z ≤ x
        · left; exact Int.min_eq_left hz
        · right; rw [Int.min_eq_right (by omega)]; exact List.mem_cons_self ..
      · exact .inr (List.mem_cons_of_mem _ h)
    · rcases List.mem_cons.mp hy with rfl | hy
      · omega
      · exact h3 y hy
theorem minl_spec {xs : List Int} (h : 0 < xs.length) : minl xs ∈ xs ∧ ∀ y ∈ xs, minl xs ≤ y := by
  unfold minl
  obtain ⟨h1, h2, h3⟩ := foldl_min xs (xs.headD 0)
  refine ⟨?_, h3⟩
  rcases h1 with e | e
  · rw [e]
    cases xs with
    | nil => cases h
    | cons x r => exact List.mem_cons_self ..
  · exact e
theorem minDf_spec (xs : List Int) (d : Int) : (xs = [] ∧ minDf xs d = d) ∨ (minDf xs d ∈ xs ∧ ∀ y ∈ xs, minDf xs d ≤ y) := by
  cases xs with
  | nil => exact .inl ⟨rfl, rfl⟩
  | cons n r =>
    refine .inr ?_
    have e : minDf (n :: r) d = minl (n :: r) := by
      unfold minDf minl
      rw [List.headD_cons, List.foldl_cons, Int.min_self]
    rw [e]; exact minl_spec (by simp)
end Fw
namespace Fw
open PySem L2 Py PyProof.Rows
section
variable {X : Cx} {w : Wx} {c : Cw} {Γ Γ' : List Slot} {S B τ υ α : Type} [Py τ] [Py υ] {R : Rc} {G : S → List Slot} {GB : B → List Slot} {o : Out S B R.ρ} {e ep ei : Expr} {t u : OT} {x : τ} {y : α} {pos : Pos} {i j : Nat} {p : List Nat} {oa oa' : Option Addr} {k : Kind} {ts : List OT} {a : Addr} {rest : List Stmt}
theorem put_consN {i : Nat} {p : List Nat} {k : Kind} {ts : List OT} {u : OT} : (OT.nd k ts).put (i :: p) u = match ts[i]? with
  | some t => .nd k (ts.set i (t.put p u))
  | none => .nd k ts := by
  first | (rw [OT.put]; done) | (rw [OT.put]; rfl)
theorem put_put : ∀ {p : List Nat} {t u v : OT}, (t.put p u).put p v = t.put p v
  | [], t, u, v => rfl
  | i :: p, t, u, v => by
    cases t with
    | fz x => rfl
    | hole a => rfl
    | nd k ts =>
      rw [put_consN, put_consN]
      cases q : ts[i]? with
      | none => dsimp only; rw [put_consN, q]
      | some t =>
        have hi : i < ts.length := (List.getElem?_eq_some_iff.mp q).1
        dsimp only
        rw [put_consN, List.getElem?_set_self hi]
        dsimp only
        rw [List.set_set, put_put]
theorem OA.fz_nil {K : Fg} {F H : Hp} {v : V} {l : List Addr} {x : τ} (h : OA K F H v l (.fz x)) : l = [] := by
  cases h; rfl
/-- a list in a place, its items frozen -/
theorem xq_pl {xs : List υ} (hp : XPl X c Γ e i p) (hs : Γ[i]? = some (.ow oa t)) (hg : t.get? p = some (ol xs)) : XQ X c Γ .l e (fun z : υ => OT.fz z) xs := by
  obtain ⟨te, h1, h2⟩ := hp
  refine ⟨te, h1, fun F H σ fp E Q q => h2 F H σ fp E Q fun v v0 F1 H1 E1 e1 n1 g1 g2 => ?_⟩
  obtain ⟨v0', b, o, vs, fps, k1, k2, k3, k4, k5, k6, k7, k8, k9⟩ := E1.node hs hg
  rw [g1] at k1; cases k1
  rw [g2] at k2; cases k2
  cases (show o = _ from k5)
  have nil : ∀ l ∈ fps, l = [] := fun l hl => by
    obtain ⟨m, hm⟩ := List.getElem?_of_mem hl
    have hm2 : m < xs.length := by
      have := (List.getElem?_eq_some_iff.mp hm).1
      have := k6.2.1
      simp at this; omega
    have hv : m < vs.length := by have := k6.1; simp at this; omega
    have := k6.2.2 m _ l (.fz xs[m]) (List.getElem?_eq_getElem hv) hm (by rw [List.getElem?_map, List.getElem?_eq_getElem hm2]; rfl)
    exact this.fz_nil
  have fl : fps.flatten = [] := List.flatten_eq_nil_iff.mpr nil
  exact q b vs fps F1 H1 E1 e1 n1 k4 k6 (by rw [fl]; exact List.nodup_nil) (by rw [fl]; intro b hb; cases hb)
end
end Fw
namespace Fw
open PySem L2 Py PyProof.Rows
section
variable {X : Cx} {w : Wx} {c : Cw} {Γ : List Slot} {S S' B : Type} {R : Rc} {GB : B → List Slot} {G : S → List Slot} {G' : S' → List Slot} {st : Stmt} {rest : List Stmt} {s : S'} {kV : S' → Prop} {n : S → R.ρ}
/-- .. with what is asked of the rest -/
theorem xo_nxtv {k : S' → Out S B R.ρ} (h : XS X w c Γ st G' GB (Out.nx s : Out S' B R.ρ)) (hv : bnd s kV) (hr : ∀ s', s' = s → kV s' → XO X w c (G' s') rest G GB (k s')) : XO X w c Γ (st :: rest) G GB (bnd s k) := xo_nxt h fun s' e => hr s' e (bnd_at hv e)
theorem xn_nxtv {kx : S' → S} (h : XS X w c Γ st G' GB (Out.nx s : Out S' B R.ρ)) (hv : bnd s kV) (hr : ∀ s', s' = s → kV s' → XO X w c (G' s') rest G GB (Out.nx (kx s') : Out S B R.ρ)) : XO X w c Γ (st :: rest) G GB (Out.nx (bnd s kx) : Out S B R.ρ) := xn_nxt h fun s' e => hr s' e (bnd_at hv e)
theorem xf_nxtv {k : S' → R.ρ} (h : XS X w c Γ st G' (fun e : Empty => e.elim) (Out.nx s : Out S' Empty R.ρ)) (hv : bnd s kV) (hr : ∀ s', s' = s → kV s' → XF X w c (G' s') rest n G (k s')) : XF X w c Γ (st :: rest) n G (bnd s k) := xf_nxt h fun s' e => hr s' e (bnd_at hv e)
end
end Fw
namespace Fw
open PySem L2 Py PyProof.Rows
/-- a dict from whole numbers to frozen data, its pairs in order -/
structure Di (τ : Type) where
  l : List (Int × τ)
instance {τ : Type} : Inhabited (Di τ) := ⟨⟨[]⟩⟩
@[reducible] def Di.ot {τ : Type} [Py τ] (d : Di τ) : OT := .nd (.dK (d.l.map fun z => Sum.inl z.1)) (d.l.map fun z => .fz z.2)
instance {τ : Type} [Py τ] : Py (Di τ) := pyOf Di.ot
end Fw
namespace Fw
open PySem L2 Py PyProof.Rows
/-- an error that was caught: where it lies -/
structure Exn where
  a : Addr
instance : Py Exn := ⟨fun _ _ v x => v = .ref x.a, fun _ h => h⟩
theorem PSs.imp {X : Cx} {sts : List Stmt} {t u : TS} (h : PSs X sts t) (k : ∀ D σ H, u D σ H → t D σ H) : PSs X sts u := ⟨fun pins s σ H D I q => h.run pins s σ H D I (k D σ H q)⟩
end Fw
namespace Fw
open PySem L2 Py PyProof.Rows
section
variable {α β γ δ : Type} [Py α] [Py β] [Py γ] [Py δ] [i1 : PyD α] [i2 : PyD β] [i3 : PyD γ] [i4 : PyD δ]
instance : PyD (T4 α β γ δ) where
  dec := @instDecidableEqT4 _ _ _ _ i1.dec i2.dec i3.dec i4.dec
  toD := fun x => .tuple [PyD.toD x.a, PyD.toD x.b, PyD.toD x.c, PyD.toD x.d]
  dok := fun x => PyD.dok x.a ∧ PyD.dok x.b ∧ PyD.dok x.c ∧ PyD.dok x.d
  dep := max (PyD.dep α) (max (PyD.dep β) (max (PyD.dep γ) (PyD.dep δ))) + 1
  nn := true
  dp := fun ⟨p, a, b, c, d, h1, h2, h3, h4, h5, h6⟩ => h1 ▸ .tup h2 (.cons (PyD.dp h3) (.cons (PyD.dp h4) (.cons (PyD.dp h5) (.cons (PyD.dp h6) .nil))))
  eqv := fun x y => by
    obtain ⟨a, b, c, d⟩ := x
    obtain ⟨a', b', c', d'⟩ := y
    show (PyData.eqv (PyD.toD a) (PyD.toD a') && (PyData.eqv (PyD.toD b) (PyD.toD b') && (PyData.eqv (PyD.toD c) (PyD.toD c') && (PyData.eqv (PyD.toD d) (PyD.toD d') && true)))) = _
    rw [PyD.eqv, PyD.eqv, PyD.eqv, PyD.eqv, Bool.and_true, Bool.eq_iff_iff, Bool.and_eq_true, Bool.and_eq_true, Bool.and_eq_true]
    simp only [@decide_eq_true_iff _ (_), T4.mk.injEq]
  lay := fun x h => by
    show ((PyD.toD x.a).canLay0 && ((PyD.toD x.b).canLay0 && ((PyD.toD x.c).canLay0 && ((PyD.toD x.d).canLay0 && true)))) = true
    rw [PyD.lay _ h.1, PyD.lay _ h.2.1, PyD.lay _ h.2.2.1, PyD.lay _ h.2.2.2]; rfl
  dle := fun x => by
    have h1 := PyD.dle x.a
    have h2 := PyD.dle x.b
    have h3 := PyD.dle x.c
    have h4 := PyD.dle x.d
    show max (PyD.toD x.a).depth (max (PyD.toD x.b).depth (max (PyD.toD x.c).depth (max (PyD.toD x.d).depth 0))) + 1 ≤ _
    omega
  nno := fun _ x h => by cases h
instance [PyDn α] [PyDn β] [PyDn γ] [PyDn δ] : PyDn (T4 α β γ δ) := ⟨fun x => ⟨PyDn.all _, PyDn.all _, PyDn.all _, PyDn.all _⟩⟩
instance : PyNN (T4 α β γ δ) := ⟨rfl⟩
end
end Fw
namespace Fw
open PySem L2 Py PyProof.Rows
def runWh {S B R : Type} (k : S → Bool) (f : S → Out S S R) : Nat → S → Out S B R
  | 0, s => .nx s
  | n + 1, s => if k s then (match f s with
    | .nx s' => runWh k f n s'
    | .ct s' => runWh k f n s'
    | .bk s' => .nx s'
    | .rt x => .rt x) else .nx s
/-- what a while asks of its turns, its end among it -/
def vWh {S R : Type} (k : S → Bool) (f : S → Out S S R) (vk vb : S → Prop) : Nat → S → Prop
  | 0, s => vk s ∧ k s = false
  | n + 1, s => vk s ∧ (k s = true → vb s ∧ match f s with
    | .nx s' => vWh k f vk vb n s'
    | .ct s' => vWh k f vk vb n s'
    | _ => True)
section
variable {X : Cx} {w : Wx} {c : Cw} {Γ : List Slot} {S B : Type} {R : Rc} {GB : B → List Slot} {pos : Pos}
theorem xs_whileV {tst : Expr} {body : List Stmt} {L : S → List Slot} {s0 : S} {k : S → Bool} {f : S → Out S S R.ρ} {vk vb : S → Prop} {n : Nat} (hw : Weak Γ (L s0)) (hv : vWh k f vk vb n s0)
    (ht : ∀ s, vk s → XT X c (L s) tst (k s)) (hb : ∀ s, k s = true → vb s → XO X w c (L s) body L L (f s))
    (hp : PassesOwn (model X.prog X.w) X.A X.env X.xe := by first | exact PassesOwn.never | exact passes_of rfl | assumption) :
    XS X w c Γ (.While tst body [] pos) L GB (runWh k f n s0 : Out S B R.ρ) := by
  classical
  have kt : ∃ tt, PT X tst tt ∧ ∀ s, vk s → ETr X.K c tt (L s) (k s) := by
    refine ⟨fun σ H Q => ∃ t, PT X tst t ∧ t σ H Q, ⟨fun pins s σ H Q I h => ?_⟩, fun s hs F H σ fp E Q q => ?_⟩
    · obtain ⟨t, h1, h2⟩ := h
      exact h1.run pins s σ H Q I h2
    · obtain ⟨t, h1, h2⟩ := ht s hs
      exact ⟨t, h1, h2 F H σ fp E Q q⟩
  obtain ⟨tt, t1, t2⟩ := kt
  have key : ∃ tb, PSs X body tb ∧ ∀ s, k s = true → vb s → ∀ F H σ, Env X.K c F H σ (L s) → ∀ D : Ends, OutOk X w c D F L L (f s) → tb D σ H := by
    refine ⟨fun D σ H => ∃ (t : TS), PSs X body t ∧ t D σ H, ⟨fun pins s σ H D I h => ?_⟩, fun s hk hs F H σ E D q => ?_⟩
    · obtain ⟨t, p, q⟩ := h
      exact p.run pins s σ H D I q
    · obtain ⟨t, p, q'⟩ := hb s hk hs
      exact ⟨t, p, q' F H σ E D q⟩
  obtain ⟨tb, b1, b2⟩ := key
  refine ⟨_, ps_while hp t1 b1, fun F H σ E D q => ?_⟩
  obtain ⟨fin, hfin⟩ : ∃ fin, runWh (B := B) k f n s0 = fin := ⟨_, rfl⟩
  rw [hfin] at q
  refine ⟨fun m σ' H' => ∃ s F', Ex F F' ∧ vWh k f vk vb m s ∧ Env X.K c F' H' σ' (L s) ∧ runWh (B := B) k f m s = fin, ⟨n, s0, F, Ex.refl _, hv, Env.weak E hw, hfin⟩, ?_⟩
  rintro m σ' H' ⟨s, F', x1, hV, ⟨fpE, E'⟩, hr⟩
  have hvk : vk s := by cases m <;> exact hV.1
  refine t2 s hvk F' H' σ' fpE E' _ fun F2 H2 E2 e2 n2 => ?_
  cases hk : k s with
  | false =>
    rw [if_neg Bool.false_ne_true]
    have hf : fin = .nx s := by
      rw [← hr]
      cases m with
      | zero => rfl
      | succ m => unfold runWh; rw [hk]; rfl
    rw [hf] at q
    exact q σ' F2 H2 ⟨fpE, E2⟩ (x1.trans e2)
  | true =>
    rw [if_pos rfl]
    cases m with
    | zero => have := hV.2; rw [hk] at this; cases this
    | succ m =>
      obtain ⟨v1, v2⟩ := hV.2 hk
      refine ⟨fun σ' H' => ∃ s F', Ex F F' ∧ vWh k f vk vb m s ∧ Env X.K c F' H' σ' (L s) ∧ runWh (B := B) k f m s = fin, fun σ3 H3 h => ⟨m, Nat.lt_succ_self _, h⟩, ?_⟩
      refine b2 s hk v1 F2 H2 σ' ⟨fpE, E2⟩ _ ?_
      unfold runWh at hr
      rw [hk, if_pos rfl] at hr
      cases hf : f s with
      | nx s' =>
        rw [hf] at hr v2
        exact fun σ3 F3 H3 E3 x3 => ⟨s', F3, (x1.trans e2).trans x3, v2, E3, hr⟩
      | ct s' =>
        rw [hf] at hr v2
        exact fun σ3 F3 H3 E3 x3 => ⟨s', F3, (x1.trans e2).trans x3, v2, E3, hr⟩
      | bk s' =>
        rw [hf] at hr
        rw [← hr] at q
        exact fun σ3 F3 H3 E3 x3 => q σ3 F3 H3 E3 ((x1.trans e2).trans x3)
      | rt r =>
        rw [hf] at hr
        rw [← hr] at q
        exact ⟨fun hn v σ3 F3 H3 Γ' fp' l E3 x3 => q.1 hn v σ3 F3 H3 Γ' fp' l E3 ((x1.trans e2).trans x3), fun nn hn C σ3 F3 H3 hC E3 x3 => q.2 nn hn C σ3 F3 H3 hC E3 ((x1.trans e2).trans x3)⟩
end
end Fw
namespace Fw
open PySem L2 Py PyProof.Rows
end Fw
namespace Fw
open PySem L2 Py PyProof.Rows
section
variable {X : Cx} {c : Cw} {Γ : List Slot} {e : Expr} {τ : Type} [Py τ]
def Dy.isT : Dy → Bool | .tup _ => true | _ => false
def Dy.isI : Dy → Bool | .int _ => true | _ => false
def Dy.asI : Dy → Int | .int i => i | _ => 0
end
end Fw
namespace Fw
open PySem L2 Py PyProof.Rows PySem.Spec
structure LitI (k : Int) where
deriving Inhabited
instance {k : Int} : Py (LitI k) := ⟨fun _ _ v _ => v = .int k, fun _ h => h⟩
end Fw
namespace Fw
open PySem L2 Py PyProof.Rows PySem.Spec
end Fw
namespace PySem
open Sem (wp)
end PySem
namespace PySem
open Sem (wp)
end PySem
namespace Fw
open PySem L2 Py PyProof.Rows
end Fw
namespace Fw
open PySem L2 Py PyProof.Rows PySem.Spec
instance : PyFl Bool := ⟨inferInstance, fun {K F u v x y} h1 h2 => by
  cases (show _ = _ from h1); cases (show _ = _ from h2)
  exact ⟨rfl, by show (y == x) = _; by_cases h : y = x <;> simp [h]⟩⟩
end Fw
namespace Fw
open PySem L2 Py PyProof.Rows PySem.Spec
theorem repsS : ∀ {K : Fg} {F : Hp} {vs : List V} {xs : List Str}, Reps K F vs xs → vs = xs.map V.str
  | _, _, _, _, .nil => rfl
  | _, _, _, _, .cons (b := x) r t => by
    cases (show _ = V.str _ from r)
    rw [repsS t]; rfl
def idxS (xs : List Str) (s : Str) : Int := ((xs.findIdx fun z => z == s : Nat) : Int)
end Fw
namespace Fw
open PySem L2 Py PyProof.Rows PySem.Spec
end Fw
namespace PySem
open Sem (wp)
end PySem
namespace Fw
open PySem L2 Py PyProof.Rows
end Fw
namespace PySem
open Sem (wp)
end PySem
namespace Fw
open PySem L2 Py PyProof.Rows
end Fw
namespace Fw
open PySem L2 Py PyProof.Rows
end Fw
namespace Fw
open PySem L2 Py PyProof.Rows
theorem dropLast_er.{u} {β : Type u} (zs : List β) : zs.dropLast = zs.eraseIdx (zs.length - 1) := by
  cases zs with
  | nil => rfl
  | cons z r => exact (List.eraseIdx_eq_dropLast (by simp)).symm
theorem li_drop {α : Type} (g : α → OT) (xs : List α) : (OT.nd .lst ((xs.map g).dropLast)) = OT.li g xs.dropLast := by
  unfold OT.li
  rw [List.map_dropLast]
end Fw
namespace Fw
open PySem L2 Py PyProof.Rows
end Fw
namespace Fw
open PySem L2 Py PyProof.Rows
def Dy.isB : Dy → Bool | .bl _ => true | _ => false
def Dy.asB : Dy → Bool | .bl b => b | _ => false
instance : Inhabited Dy := ⟨.non⟩
/-- the parts of a row, from one on, each as of its kind -/
inductive DU (ds : List Dy) : Nat → List OT → Prop where
  | nil {n : Nat} (h : ds.length = n) : DU ds n []
  | I {n : Nat} {us : List OT} (h : (ix ds (n : Int)).isI = true) (r : DU ds (n + 1) us) : DU ds n (.fz (ix ds (n : Int)).asI :: us)
  | B {n : Nat} {us : List OT} (h : (ix ds (n : Int)).isB = true) (r : DU ds (n + 1) us) : DU ds n (.fz (ix ds (n : Int)).asB :: us)
theorem DU.len {ds : List Dy} {n : Nat} {us : List OT} (h : DU ds n us) : ds.length = n + us.length := by
  induction h with
  | nil h => simpa using h
  | I _ _ ih => simp only [List.length_cons]; omega
  | B _ _ ih => simp only [List.length_cons]; omega
end Fw
namespace Fw
open PySem L2 Py PyProof.Rows
theorem FzT.dy {τ : Type} [Py τ] [ToDy τ] {x : τ} : FzT (.fz x) (ToDy.dy x) := fun h => ToDy.ok h.ofz
end Fw
namespace Fw
open PySem L2 Py PyProof.Rows
/-- a part that is frozen, as a thing of any kind -/
def Lz (o : Option OT) (y : Dy) : Prop := ∃ (τ : Type) (_ : Py τ) (_ : ToDy τ) (x : τ), o = some (.fz x) ∧ y = ToDy.dy x
theorem Lz.mk {τ : Type} [Py τ] [ToDy τ] {x : τ} : Lz (some (.fz x)) (ToDy.dy x) := ⟨τ, _, _, x, rfl, rfl⟩
end Fw
namespace Fw
open PySem L2 Py PyProof.Rows
instance {α β γ δ ε : Type} [Py α] [Py β] [Py γ] [Py δ] [Py ε] [PyD α] [PyD β] [PyD γ] [PyD δ] [PyD ε] [PyDn α] [PyDn β] [PyDn γ] [PyDn δ] [PyDn ε] : PyDn (T5 α β γ δ ε) := ⟨fun x => ⟨PyDn.all _, PyDn.all _, PyDn.all _, PyDn.all _, PyDn.all _⟩⟩
end Fw
namespace Fw
open PySem L2 Py PyProof.Rows
end Fw
namespace Fw
open PySem L2 Py PyProof.Rows
/-- any value -/
structure Any where
deriving Inhabited, DecidableEq
instance : Py Any := ⟨fun _ _ _ _ => True, fun _ h => h⟩
instance : PyTl Any := ⟨fun _ h => h⟩
end Fw
namespace L2
open PySem PySem.Spec PyProof.Rows PyProof
section
variable {X : Cx} {pins : List (Addr × Obj)} {σ : St} {H : Hp} {s : Shared} {a b : Addr} {v : V} {u r : Value} {o : Option V} {A : Around} {E : Value → Shared → Prop}
/-- a tuple of ints and texts, however it stands, is a key -/
theorem key_ofT {ks : List Key} (I : Inv X pins σ H s) (e : SqT X.K H b (ks.map kV)) : (tupleKind (mixKind X.prog X.w)).is s.heap ks b := by
  rcases e with e | ⟨ob, its, n, h1, h2, h3, h4, h5⟩
  · obtain ⟨_, its, r, o, h1, h2, n, h3⟩ := (show ObjOk X.prog X.w H s.heap b (.tup (ks.map kV)) from e.ok I.hok)
    exact ⟨o, its.toArray, n, h1, h2, h3, by simpa using items_are r⟩
  · exact ⟨ob, its, n, I.kIn _ _ h1, h2, h3, items_are h5⟩
/-- what the dict at a holds at the tuple at b -/
def DGetT (K : PySem.W.Frag) (H : Hp) (a b : Addr) (r : Option V) : Prop := ∃ kvs k, Rd H a (.dT kvs) ∧ SqT K H b (k.map kV) ∧ r = valV kvs k
theorem d_getItemT {Q : Value → Shared → Prop} (hu : A.units + 1 < cLine) (I : Inv X pins σ H s) (g : DGetT X.K H a b (some v)) (h : ∀ w' s', Inv X pins σ H s' → RelV v w' → Q w' s') :
    wpAny (model X.prog X.w) A (getItem (.ref a) (.ref b)) Q E s := by
  obtain ⟨kvs, k, e, eb, l⟩ := g
  obtain ⟨z, hd, xs, rel, dd⟩ := dt_rd I.hok e
  obtain ⟨w', hw, rw'⟩ := RelO.some_of (v := v) (o := (atKey xs k).map (·.2)) (by rw [l]; exact rel.val k)
  obtain ⟨p, hp, hp2⟩ := Option.map_eq_some_iff.mp hw
  refine wpAny_getItem_heap (tupleKind_room_in1 hu) (key_ofT I eb) dd hp ?_
  rw [hp2]
  exact h w' _ (I.tok _) rw'
theorem dict_typeIsT (I : Inv X pins σ H s) (g : DGetT X.K H a b o) : s.TypeIs (.ref a) "dict" := by
  obtain ⟨kvs, k, e, _, _⟩ := g
  obtain ⟨_, _, xs, _, dd⟩ := dt_rd I.hok e
  exact dd.typeIs
end
def tDGetT (K : PySem.W.Frag) (td ty : TE) : TE := fun σ H Q => td σ H fun x H1 => ty σ H1 fun y H2 => ∃ a b v, x = .ref a ∧ y = .ref b ∧ DGetT K H2 a b (some v) ∧ Q v H2
section
variable {X : Cx} {o i e value : Expr} {pos pos' tpos : Pos} {td ty tv : TE}
theorem pe_dgetT (hu : X.A.units + 1 < cLine) (ho : PE X o td) (hi : PE X i ty) (hs : NoSl i) : PE X (.Subscript o i pos) (tDGetT X.K td ty) := by
  refine ⟨fun pins s σ H Q I h => ?_⟩
  refine subD_of PySem.F.slot_dict_getitem.lookup hs (thn (ho.run pins s σ H _ I h) fun u s1 ⟨x, H1, I1, rx, q1⟩ => thn (hi.run pins s1 σ H1 _ I1 q1) fun iv s2 ⟨y, H2, I2, ry, a, b, v, ex, ey, g, q2⟩ => ?_)
  subst ex
  subst ey
  obtain rfl : u = Value.ref a := rx
  obtain rfl : iv = Value.ref b := ry
  exact ⟨dict_typeIsT I2 g, d_getItemT hu I2 g fun w' s3 I3 rw' => ⟨v, H2, I3, rw', q2⟩⟩
end
end L2
namespace Fw
open PySem L2 Py PyProof.Rows
/-- whole numbers and texts, as keys -/
class PyK (τ : Type) extends PySc τ where
  key : τ → Key
  kv : ∀ x, PySc.v x = kV (key x)
  inj : ∀ x y, key x = key y → x = y
instance : PyK Int := { key := Sum.inl, kv := fun _ => rfl, inj := fun _ _ h => Sum.inl.inj h }
instance : PyK Str := { key := Sum.inr, kv := fun _ => rfl, inj := fun _ _ h => Sum.inr.inj h }
/-- tuples of these -/
class TKey (υ : Type) [Py υ] where
  keys : υ → List Key
  inj : ∀ x y, keys x = keys y → x = y
  sq : ∀ {K : Fg} {F : Hp} {v : V} {x : υ}, rep K F v x → ∃ p, v = .ref p ∧ SqT K F p ((keys x).map kV)
class TKeyA (υ α : Type) [Py υ] [PyA α] [TKey υ] [PyT υ α] where
  of : ∀ {K : Fg} {F : Hp} {vs : List V} {x : α}, PyA.reps K F vs x → vs = (TKey.keys (PyT.ofA x : υ)).map kV
section
variable {α β γ : Type} [PyK α] [PyK β] [PyK γ]
instance : TKey (α × β) where
  keys x := [PyK.key x.1, PyK.key x.2]
  inj := fun x y h => by
    injection h with h1 h2
    injection h2 with h2 _
    exact Prod.ext (PyK.inj _ _ h1) (PyK.inj _ _ h2)
  sq := fun {K F v x} ⟨p, a, b, h1, h2, h3, h4⟩ => by
    have e1 := PySc.sc.mp h3
    have e2 := PySc.sc.mp h4
    subst e1; subst e2
    refine ⟨p, h1, ?_⟩
    rw [PyK.kv, PyK.kv] at h2
    exact h2
instance : TKey (T3 α β γ) where
  keys x := [PyK.key x.a, PyK.key x.b, PyK.key x.c]
  inj := fun x y h => by
    injection h with h1 h2
    injection h2 with h2 h3
    injection h3 with h3 _
    obtain ⟨a, b, c⟩ := x
    obtain ⟨a', b', c'⟩ := y
    rw [show a = a' from PyK.inj _ _ h1, show b = b' from PyK.inj _ _ h2, show c = c' from PyK.inj _ _ h3]
  sq := fun {K F v x} ⟨p, a, b, c, h1, h2, h3, h4, h5⟩ => by
    have e1 := PySc.sc.mp h3
    have e2 := PySc.sc.mp h4
    have e3 := PySc.sc.mp h5
    subst e1; subst e2; subst e3
    refine ⟨p, h1, ?_⟩
    rw [PyK.kv, PyK.kv, PyK.kv] at h2
    exact h2
instance : TKeyA (α × β) (α × β × Unit) where
  of := by
    rintro K F vs x ⟨u1, _, rfl, r1, u2, _, rfl, r2, rfl⟩
    have e1 := PySc.sc.mp r1
    have e2 := PySc.sc.mp r2
    subst e1; subst e2
    show [PySc.v x.1, PySc.v x.2.1] = [kV (PyK.key x.1), kV (PyK.key x.2.1)]
    rw [PyK.kv, PyK.kv]
instance : TKeyA (T3 α β γ) (α × β × γ × Unit) where
  of := by
    rintro K F vs x ⟨u1, _, rfl, r1, u2, _, rfl, r2, u3, _, rfl, r3, rfl⟩
    have e1 := PySc.sc.mp r1
    have e2 := PySc.sc.mp r2
    have e3 := PySc.sc.mp r3
    subst e1; subst e2; subst e3
    show [PySc.v x.1, PySc.v x.2.1, PySc.v x.2.2.1] = [kV (PyK.key x.1), kV (PyK.key x.2.1), kV (PyK.key x.2.2.1)]
    rw [PyK.kv, PyK.kv, PyK.kv]
end
/-- a dict from tuples to frozen data, its pairs in order -/
structure Td (υ τ : Type) where
  l : List (υ × τ)
instance {υ τ : Type} : Inhabited (Td υ τ) := ⟨⟨[]⟩⟩
@[reducible] def Td.ot {υ τ : Type} [Py υ] [TKey υ] [Py τ] (d : Td υ τ) : OT := .nd (.dT (d.l.map fun z => TKey.keys z.1)) (d.l.map fun z => .fz z.2)
instance {υ τ : Type} [Py υ] [TKey υ] [Py τ] : Py (Td υ τ) := pyOf Td.ot
def tdOpt {υ τ : Type} [Py υ] [TKey υ] (k : υ) : List (υ × τ) → Option τ
  | [] => none
  | x :: r => if TKey.keys x.1 = TKey.keys k then some x.2 else tdOpt k r
def tdGet {υ τ : Type} [Py υ] [TKey υ] [Inhabited τ] (d : Td υ τ) (k : υ) : τ := (tdOpt k d.l).getD default
def tdPut {υ τ : Type} [Py υ] [TKey υ] (d : Td υ τ) (k : υ) (y : τ) : Td υ τ := ⟨if (tdOpt k d.l).isSome then d.l.map (fun z => if TKey.keys z.1 = TKey.keys k then (z.1, y) else z) else d.l ++ [(k, y)]⟩
section
variable {X : Cx} {w : Wx} {c : Cw} {Γ Γ' : List Slot} {S S' B τ υ ζ α : Type} [Py τ] [Py υ] [TKey υ] [Py ζ] {R : Rc} {G : S → List Slot} {GB : B → List Slot} {o : Out S B R.ρ} {pos : Pos} {rest : List Stmt} {e d a b ep ei : Expr} {k : Bool} {t u : OT} {ts us : List OT} {i : Nat} {p : List Nat} {oa : Option Addr}
theorem FA.dT {ks : List (List Key)} {K : Fg} {F : Hp} {v : V} (h : FA K F v (.nd (.dT ks) ts)) : ∃ a vs, v = .ref a ∧ F a = some (.dT (ks.zip vs)) ∧ ks.length = vs.length ∧ vs.length = ts.length ∧ ∀ (i : Nat) v t, vs[i]? = some v → ts[i]? = some t → FA K F v t := by
  cases h with
  | nd hF ko l1 hc => obtain ⟨h1, rfl⟩ := ko; exact ⟨_, _, rfl, hF, h1, l1, hc⟩
theorem fa_reps {K : Fg} {F : Hp} : ∀ {l : List τ} {vs : List V}, vs.length = (l.map fun z => OT.fz z).length → (∀ (i : Nat) v t, vs[i]? = some v → (l.map fun z => OT.fz z)[i]? = some t → FA K F v t) → Reps K F vs l
  | [], vs, h, _ => by
    cases vs with
    | nil => exact .nil
    | cons => simp at h
  | z :: l, vs, h, q => by
    cases vs with
    | nil => simp at h
    | cons v vs => exact .cons (q 0 v (.fz z) rfl rfl).ofz (fa_reps (by simpa using h) fun i v t h1 h2 => q (i + 1) v t (by simpa using h1) (by simpa using h2))
theorem td_val {K : Fg} {F : Hp} (n : υ) : ∀ {vs : List V} {l : List (υ × τ)}, Reps K F vs (l.map (·.2)) → match tdOpt n l with | some y => ∃ z, valV ((l.map fun z => TKey.keys z.1).zip vs) (TKey.keys n) = some z ∧ rep K F z y | none => valV ((l.map fun z => TKey.keys z.1).zip vs) (TKey.keys n) = none
  | [], [], _ => rfl
  | v :: vs, x :: l, .cons r t => by
    have ih := td_val n t
    unfold tdOpt
    have hz : (List.map (fun z : υ × τ => TKey.keys z.1) (x :: l)).zip (v :: vs) = (TKey.keys x.1, v) :: ((l.map fun z => TKey.keys z.1).zip vs) := rfl
    rw [hz]
    by_cases h : TKey.keys x.1 = TKey.keys n
    · rw [if_pos h]
      exact ⟨v, valV_pos h, r⟩
    · rw [if_neg h, valV_neg h]
      exact ih
/-- d[k], d frozen -/
theorem xe_tdget [Inhabited τ] {s : Td υ τ} {n : υ} (hu : X.A.units + 1 < cLine) (he : XE X c Γ e s) (hk : XE X c Γ ei n) (hm : (tdOpt n s.l).isSome = true) (hns : NoSl ei := by exact fun _ _ => rfl) : XE X c Γ (.Subscript e ei pos) (tdGet s n) := by
  obtain ⟨te, h1, h2⟩ := he
  obtain ⟨tk, h3, h4⟩ := hk
  refine ⟨_, pe_dgetT hu h1 h3 hns, fun F H σ fp E Q q => h2 F H σ fp E _ fun v F1 H1 E1 e1 n1 r => h4 F1 H1 σ fp E1 _ fun y F2 H2 E2 e2 n2 r2 => ?_⟩
  obtain ⟨a, vs, rfl, k1, k3, k4, k5⟩ := (show FA _ _ _ s.ot from Py.mono e2 r).dT
  obtain ⟨b, rfl, kb⟩ := TKey.sq r2
  have rs : Reps X.K F2 vs (s.l.map (·.2)) := fa_reps (by rw [k4]; simp) (fun i v t g1 g2 => k5 i v t g1 (by simpa using g2))
  have := td_val n rs
  cases hq : tdOpt n s.l with
  | none => rw [hq] at hm; cases hm
  | some z =>
    rw [hq] at this
    obtain ⟨z', g1, g2⟩ := this
    refine ⟨a, b, z', rfl, rfl, ⟨_, _, .inl (E2.wd.fh _ _ k1), E2.wd.fh.t kb, g1.symm⟩, q _ F2 H2 E2 (e1.trans e2) (n1.trans n2) ?_⟩
    unfold tdGet
    rw [hq]; exact g2
theorem l3_td {K : Fg} {F H : Hp} {vs : List V} {fps : List (List Addr)} : ∀ {l : List (υ × τ)}, L3 (OA K F H) vs fps (l.map fun z => OT.fz z.2) → Reps K F vs (l.map (·.2)) := by
  induction vs generalizing fps with
  | nil =>
    intro l r
    have h1 := r.1
    cases l with
    | nil => exact .nil
    | cons => simp at h1
  | cons v vs ih =>
    intro l r
    have h1 := r.1; have h2 := r.2.1
    cases l with
    | nil => simp at h1
    | cons x l =>
      cases fps with
      | nil => simp at h2
      | cons f fps =>
        rw [List.map_cons] at r
        refine .cons ?_ (ih r.tail)
        have := r.head
        cases this with
        | fz q => exact q
/-- a key that is made where it stands -/
def XKy (X : Cx) (c : Cw) (Γ : List Slot) (e : Expr) (n : υ) : Prop := ∃ te, PE X e te ∧
  ∀ F H σ fp, EnvD X.K c F H σ Γ fp → ∀ Q : VK, (∀ b F' H', EnvD X.K c F' H' σ Γ fp → Ex F F' → Nw F H F' H' → F' b = some (.tup ((TKey.keys n).map kV)) → Q (.ref b) H') → te σ H Q
theorem xky_tup {β : Type} [PyA β] [PyT υ β] [TKeyA υ β] {es : List Expr} {k} {r : β} (h : XA X c Γ es r) : XKy X c Γ (.Tuple es k pos) (PyT.ofA r : υ) := by
  obtain ⟨t, h1, h2⟩ := h
  refine ⟨_, pe_tup h1, fun F H σ fp E Q q => h2 F H σ fp E _ fun vs F1 H1 E1 e1 g1 r1 => ⟨sz _ (by rw [PyT.len (υ := υ) r1]; exact Nat.le_trans (PyT.small (υ := υ)) (show 100 ≤ 100000 by decide)), fun p hp => ?_⟩⟩
  have ef : Ex F1 (upd F1 p (.tup vs)) := Ex.new (E1.ff hp)
  refine q p _ _ (E1.lay hp) (e1.trans ef) (g1.trans (Nw.lay hp)) ?_
  rw [upd_same, TKeyA.of (υ := υ) r1]
theorem repl_zip (n : List Key) (z : V) : ∀ {ks : List (List Key)} {vs : List V}, ((ks.zip vs).map fun kv => if kv.1 = n then (kv.1, z) else kv) = ks.zip ((ks.zip vs).map fun kv => if kv.1 = n then z else kv.2)
  | [], _ => by simp
  | _ :: _, [] => by simp
  | k :: ks, v :: vs => by
    rw [List.zip_cons_cons, List.map_cons, List.map_cons, List.zip_cons_cons, repl_zip n z]
    congr 1
    by_cases e : k = n
    · simp [e]
    · simp [e]
theorem putK_zip {ks : List (List Key)} {vs : List V} (n : List Key) (z : V) (h : ks.length = vs.length) : putK (ks.zip vs) n z = if (valV (ks.zip vs) n).isSome then ks.zip ((ks.zip vs).map fun kv => if kv.1 = n then z else kv.2) else (ks ++ [n]).zip (vs ++ [z]) := by
  unfold putK
  rw [valV_any]
  split
  · exact repl_zip n z
  · rw [List.zip_append h]; rfl
theorem reps_put {K : Fg} {F : Hp} (n : υ) {z : V} {y : τ} (hz : rep K F z y) : ∀ {vs : List V} {l : List (υ × τ)}, Reps K F vs (l.map (·.2)) → Reps K F (((l.map fun z => TKey.keys z.1).zip vs).map fun kv => if kv.1 = TKey.keys n then z else kv.2) ((l.map (fun z => if TKey.keys z.1 = TKey.keys n then (z.1, y) else z)).map (·.2))
  | [], [], _ => .nil
  | v :: vs, x :: l, .cons r t => by
    have ih := reps_put n hz t
    have hz2 : (List.map (fun z : υ × τ => TKey.keys z.1) (x :: l)).zip (v :: vs) = (TKey.keys x.1, v) :: ((l.map fun z => TKey.keys z.1).zip vs) := rfl
    rw [hz2, List.map_cons, List.map_cons, List.map_cons]
    by_cases h : TKey.keys x.1 = TKey.keys n
    · dsimp only
      rw [if_pos h, if_pos h]
      exact .cons hz ih
    · dsimp only
      rw [if_neg h, if_neg h]
      exact .cons r ih
theorem keys_put (n : υ) (y : τ) (l : List (υ × τ)) : ((l.map (fun z => if TKey.keys z.1 = TKey.keys n then (z.1, y) else z)).map fun z => TKey.keys z.1) = l.map fun z => TKey.keys z.1 := by
  rw [List.map_map]
  refine List.map_congr_left fun z _ => ?_
  show TKey.keys (if _ then _ else _ : υ × τ).1 = _
  split <;> rfl
theorem map_fz2 (l : List (υ × τ)) : (l.map fun z => OT.fz z.2) = (l.map (·.2)).map fun z => OT.fz z := by rw [List.map_map]; rfl
theorem flat_rep {β : Type} (l : List β) : (l.map fun _ => ([] : List Addr)).flatten = [] := flat_nil l
/-- P[k] = e -/
theorem xs_tdset {s : Td υ τ} {n : υ} {y : τ} {q1 : Pos} (g : α → OT) {z : α} (hu : X.A.units + 1 < cLine) (he : XE X c Γ e y) (hp : XPl X c Γ ep i p) (hk : XKy X c Γ ei n) (hs : Γ[i]? = some (.ow oa t)) (hg : t.get? p = some s.ot) (hl : s.l.length < 100000) (hy : t.put p (tdPut s n y).ot = g z)
    (hsw : swapsWith e (some (.Subscript ep ei q1)) pos.line X.env = pure false := by rfl) :
    XS X w c Γ (.Assign [.Subscript ep ei q1] e pos) (fun z : α => Γ.set i (.ow oa (g z))) GB (Out.nx z : Out α B R.ρ) := by
  obtain ⟨tv, v1, v2⟩ := he
  obtain ⟨tp, h1, h2⟩ := hp
  obtain ⟨tk, h3, h4⟩ := hk
  refine ⟨_, ps_dput hu h1 h3 v1 hsw, fun F H σ ⟨fp, E⟩ D q => v2 F H σ fp E _ fun v F0 H0 E0 e0 n0 r0 => h2 F0 H0 σ fp E0 _ fun vp v0 F1 H1 E1 e1 n1 g1 g2 => h4 F1 H1 σ fp E1 _ fun b F2 H2 E2 e2 n2 r2 => ?_⟩
  obtain ⟨v0', a, o, vs, fps, k1, k2, k3, k4, k5, k6, k7, k8, k9⟩ := E2.node hs hg
  have g2' := follow_ex n2.h g2
  rw [g1] at k1; cases k1
  rw [g2'] at k2; cases k2
  obtain ⟨hlen, rfl⟩ := k5
  have rs := l3_td k6
  have rv : rep X.K F2 v y := Py.mono (e1.trans e2) r0
  have hl2 : vs.length = s.l.length := by rw [k6.1, List.length_map]
  have tv := td_val n rs
  have hz : (((s.l.map fun z => TKey.keys z.1).zip vs).length) < sizeLine := by
    have : (100000 : Nat) ≤ sizeLine := by decide
    rw [List.length_zip]; omega
  refine ⟨a, _, rfl, DPut.t k4 (E2.wd.fh _ _ r2) hz, ?_⟩
  rw [putK_zip _ _ hlen]
  have nd1 := (List.nodup_cons.mp k7).1
  cases hq : tdOpt n s.l with
  | none =>
    rw [hq] at tv
    rw [tv]
    have es : tdPut s n y = ⟨s.l ++ [(n, y)]⟩ := by unfold tdPut; rw [hq]; rfl
    rw [es] at hy
    obtain ⟨fp', E3, _, _⟩ := k9 (.dT (((s.l.map fun z => TKey.keys z.1) ++ [TKey.keys n]).zip (vs ++ [v]))) (.dT ((s.l.map fun z => TKey.keys z.1) ++ [TKey.keys n])) (vs ++ [v]) ((s.l ++ [(n, y)]).map fun _ => []) ((s.l ++ [(n, y)]).map fun z => OT.fz z.2) ⟨by rw [List.length_append, List.length_append, hlen]; rfl, rfl⟩ (by
      have := l3_fz (H := H2) (rs.app (Reps.one rv))
      have e6 : (s.l ++ [(n, y)]).map (·.2) = s.l.map (·.2) ++ [y] := by rw [List.map_append]; rfl
      have e3 : ((s.l ++ [(n, y)]).map fun _ => ([] : List Addr)) = ((s.l.map (·.2) ++ [y]).map fun _ => []) := by simp
      rw [map_fz2, e6, e3]
      exact this) (by rw [flat_rep]; simp) (by rw [flat_rep]; intro b hb; cases hb)
    have e4 : ((s.l ++ [(n, y)]).map fun z => TKey.keys z.1) = (s.l.map fun z => TKey.keys z.1) ++ [TKey.keys n] := by rw [List.map_append]; rfl
    rw [← e4] at E3 ⊢
    rw [hy] at E3
    exact q σ F2 _ ⟨fp', E3⟩ ((e0.trans e1).trans e2)
  | some y0 =>
    rw [hq] at tv
    obtain ⟨z', tv, _⟩ := tv
    rw [tv]
    have es : tdPut s n y = ⟨s.l.map (fun z : υ × τ => if TKey.keys z.1 = TKey.keys n then (z.1, y) else z)⟩ := by unfold tdPut; rw [hq]; rfl
    rw [es] at hy
    have rp := reps_put n rv rs
    obtain ⟨fp', E3, _, _⟩ := k9 (.dT ((s.l.map fun z : υ × τ => TKey.keys z.1).zip (((s.l.map fun z : υ × τ => TKey.keys z.1).zip vs).map fun kv : List Key × V => if kv.1 = TKey.keys n then v else kv.2))) (.dT (s.l.map fun z : υ × τ => TKey.keys z.1)) _ ((s.l.map (fun z : υ × τ => if TKey.keys z.1 = TKey.keys n then (z.1, y) else z)).map fun _ : υ × τ => []) ((s.l.map (fun z : υ × τ => if TKey.keys z.1 = TKey.keys n then (z.1, y) else z)).map fun z : υ × τ => OT.fz z.2) ⟨by rw [List.length_map, List.length_map, List.length_zip, List.length_map]; omega, rfl⟩ (by
      have := l3_fz (H := H2) rp
      rw [map_fz2]
      have e3 : ((s.l.map (fun z : υ × τ => if TKey.keys z.1 = TKey.keys n then (z.1, y) else z)).map fun _ => ([] : List Addr)) = (((s.l.map (fun z : υ × τ => if TKey.keys z.1 = TKey.keys n then (z.1, y) else z)).map (·.2)).map fun _ : τ => []) := by simp
      rw [e3]
      exact this) (by rw [flat_rep]; simp) (by rw [flat_rep]; intro b hb; cases hb)
    rw [← keys_put n y s.l] at E3
    have e5 := keys_put n y s.l
    rw [hy] at E3
    rw [if_pos (show (some z').isSome = true from rfl)]
    rw [e5] at E3
    exact q σ F2 _ ⟨fp', E3⟩ ((e0.trans e1).trans e2)
/-- {} -/
theorem xn_td0 : XN X c Γ (.Dict [] [] pos) (Td.ot (⟨[]⟩ : Td υ τ)) := by
  refine ⟨_, pe_dnewT, fun F H σ fp E Q q p hp => ?_⟩
  have hf := E.ff hp
  have E0 : EnvD X.K c F (upd H p (.dT [])) σ Γ fp := E.grow (Ex.refl _) (E.wd.fh.upd hf) (Ex.new hp) fun b h => .inl h
  refine q _ _ _ [p] E0 (Ex.refl _) ⟨Ex.new hp, fun b h => .inl h⟩ ?_ fun b hb => ?_
  · exact OA.mk (fps := []) hf upd_same ⟨rfl, rfl⟩ .nil (by simp)
  · rw [List.mem_singleton] at hb; subst hb; exact hp
end
end Fw
namespace L2
open PySem PySem.Spec PyProof.Rows PyProof
end L2
namespace Fw
open PySem L2 Py PyProof.Rows PyProof
/-- a tuple that is a key and stands as it was made -/
structure Kk (υ : Type) where
  x : υ
instance {υ : Type} [Inhabited υ] : Inhabited (Kk υ) := ⟨⟨default⟩⟩
instance {υ : Type} [Py υ] [TKey υ] : Py (Kk υ) := ⟨fun K F v k => rep K F v k.x ∧ ∃ p, v = .ref p ∧ F p = some (.tup ((TKey.keys k.x).map kV)), fun e ⟨r, p, h1, h2⟩ => ⟨Py.mono e r, p, h1, e _ _ h2⟩⟩
end Fw
namespace Fw
open PySem L2 Py PyProof.Rows
theorem flatSs (xs : List Str) : (xs.map V.str).all flatV = true := by
  induction xs with
  | nil => rfl
  | cons x r ih => rw [List.map_cons, List.all_cons, ih]; rfl
section
variable {X : Cx} {c : Cw} {Γ : List Slot} {a o e : Expr} {pos ap : Pos}
theorem xe_lidxS {xs : List Str} {b : Str} (ho : XE X c Γ o xs) (he : XE X c Γ e b) (hm : b ∈ xs) (hst : starEach [e] X.env = [(false, eval e X.env)] := by rfl) (hab : attributeBase o "index" X.env (eval o X.env) = eval o X.env := by rfl) (hln : (ap.endLine == pos.line) = true := by rfl)
    (hfew : ((backTo pos (starEach [e] X.env)).all (fun x => !x.1) && (backToKw pos (keywordEach [] X.env)).all (fun x => x.1.isSome) && decide (([e] : List Expr).length + ([] : List Keyword).length + (if ([] : List Keyword).isEmpty then 0 else 1) < 30)) = true := by rfl) :
    XE X c Γ (.Call (.Attribute o "index" ap) [e] [] pos) (idxS xs b) := by
  obtain ⟨t1, a1, a2⟩ := ho
  obtain ⟨t2, b1, b2⟩ := he
  refine ⟨_, pe_bm PySem.F.plainAttrs_list PySem.F.slot_list_index PySem.F.type_list_index mt_index a1 (pa_cons b1 pa_nil hst) hab hfew hln hst rfl, fun F H σ fp E Q q => a2 F H σ fp E _ fun v F1 H1 E1 e1 g1 r1 => ?_⟩
  obtain ⟨a, vs, rfl, r2, r3⟩ := r1
  refine ⟨.inl ⟨rfl, _, sq_of (E1.wd.fh _ _ r2)⟩, b2 F1 H1 σ fp E1 _ fun u F2 H2 E2 e2 g2 ru => ?_⟩
  cases (show u = V.str b from ru)
  have hvs := repsS r3
  subst hvs
  have hj : xs.findIdx (fun z => z == b) < xs.length := List.findIdx_lt_length_of_exists ⟨b, hm, by simp⟩
  have hz := List.findIdx_getElem (p := fun z => z == b) (w := hj)
  refine ⟨a, _, _, xs.findIdx (fun z => z == b), V.str b, rfl, rfl, sq_of (E2.wd.fh _ _ (e2 _ _ r2)), rfl, flatSs xs, ?_, by show (b == b) = true; simp, fun m z' hm' hz' => ?_, q _ F2 H2 E2 (e1.trans e2) (g1.trans g2) rfl⟩
  · rw [List.getElem?_map, List.getElem?_eq_getElem hj]
    have : xs[xs.findIdx fun z => z == b] = b := by simpa using hz
    rw [this]; rfl
  · have hml : m < xs.length := by omega
    rw [List.getElem?_map, List.getElem?_eq_getElem hml] at hz'
    cases hz'
    have := List.not_of_lt_findIdx hm'
    show (xs[m] == b) = false
    simpa using this
end
end Fw
namespace Fw
open PySem L2 Py PyProof.Rows
end Fw
namespace Fw
open PySem L2 Py PyProof.Rows
instance {α β γ δ : Type} [Py α] [Py β] [Py γ] [Py δ] : PyNv (T4 α β γ δ) := ⟨fun ⟨a, _, _, _, _, h1, _⟩ z => by rw [h1] at z; cases z⟩
instance {α β γ δ ε : Type} [Py α] [Py β] [Py γ] [Py δ] [Py ε] : PyNv (T5 α β γ δ ε) := ⟨fun ⟨a, _, _, _, _, _, h1, _⟩ z => by rw [h1] at z; cases z⟩
section
variable {X : Cx} {c : Cw} {Γ : List Slot} {α β γ δ ε : Type} [Py α] [Py β] [Py γ] [Py δ] [Py ε] {a : Expr} {pos : Pos} {p5 : T5 α β γ δ ε}
theorem xe_t5a (ha : XE X c Γ a p5) {j q} (hs : PlainIx (.Constant (.int 0) j q) := by exact fun _ _ => rfl) : XE X c Γ (.Subscript a (.Constant (.int 0) j q) pos) p5.a :=
  xe_bin (t := fun a _ => a) (y := (0 : Int)) (fun h1 h2 => pe_ix ix_tup h1 h2 hs) (fun F H u v e h1 h2 Q q => by
    obtain ⟨p, v1, v2, v3, v4, v5, rfl, r1, r2, r3, r4, r5, r6⟩ := h1
    exact ⟨p, [v1, v2, v3, v4, v5], 0, v1, rfl, h2, e.t r1, rfl, q _ F H (Ex.refl _) e (Ex.refl _) (fun _ h => .inl h) r2⟩) ha xe_int
theorem xe_t5b (ha : XE X c Γ a p5) {j q} (hs : PlainIx (.Constant (.int 1) j q) := by exact fun _ _ => rfl) : XE X c Γ (.Subscript a (.Constant (.int 1) j q) pos) p5.b :=
  xe_bin (t := fun a _ => a) (y := (1 : Int)) (fun h1 h2 => pe_ix ix_tup h1 h2 hs) (fun F H u v e h1 h2 Q q => by
    obtain ⟨p, v1, v2, v3, v4, v5, rfl, r1, r2, r3, r4, r5, r6⟩ := h1
    exact ⟨p, [v1, v2, v3, v4, v5], 1, v2, rfl, h2, e.t r1, rfl, q _ F H (Ex.refl _) e (Ex.refl _) (fun _ h => .inl h) r3⟩) ha xe_int
theorem xe_t5c (ha : XE X c Γ a p5) {j q} (hs : PlainIx (.Constant (.int 2) j q) := by exact fun _ _ => rfl) : XE X c Γ (.Subscript a (.Constant (.int 2) j q) pos) p5.c :=
  xe_bin (t := fun a _ => a) (y := (2 : Int)) (fun h1 h2 => pe_ix ix_tup h1 h2 hs) (fun F H u v e h1 h2 Q q => by
    obtain ⟨p, v1, v2, v3, v4, v5, rfl, r1, r2, r3, r4, r5, r6⟩ := h1
    exact ⟨p, [v1, v2, v3, v4, v5], 2, v3, rfl, h2, e.t r1, rfl, q _ F H (Ex.refl _) e (Ex.refl _) (fun _ h => .inl h) r4⟩) ha xe_int
theorem xe_t5d (ha : XE X c Γ a p5) {j q} (hs : PlainIx (.Constant (.int 3) j q) := by exact fun _ _ => rfl) : XE X c Γ (.Subscript a (.Constant (.int 3) j q) pos) p5.d :=
  xe_bin (t := fun a _ => a) (y := (3 : Int)) (fun h1 h2 => pe_ix ix_tup h1 h2 hs) (fun F H u v e h1 h2 Q q => by
    obtain ⟨p, v1, v2, v3, v4, v5, rfl, r1, r2, r3, r4, r5, r6⟩ := h1
    exact ⟨p, [v1, v2, v3, v4, v5], 3, v4, rfl, h2, e.t r1, rfl, q _ F H (Ex.refl _) e (Ex.refl _) (fun _ h => .inl h) r5⟩) ha xe_int
theorem xe_t5e (ha : XE X c Γ a p5) {j q} (hs : PlainIx (.Constant (.int 4) j q) := by exact fun _ _ => rfl) : XE X c Γ (.Subscript a (.Constant (.int 4) j q) pos) p5.e :=
  xe_bin (t := fun a _ => a) (y := (4 : Int)) (fun h1 h2 => pe_ix ix_tup h1 h2 hs) (fun F H u v e h1 h2 Q q => by
    obtain ⟨p, v1, v2, v3, v4, v5, rfl, r1, r2, r3, r4, r5, r6⟩ := h1
    exact ⟨p, [v1, v2, v3, v4, v5], 4, v5, rfl, h2, e.t r1, rfl, q _ F H (Ex.refl _) e (Ex.refl _) (fun _ h => .inl h) r6⟩) ha xe_int
end
end Fw
namespace Fw
open PySem L2 Py PyProof.Rows
section
variable {X : Cx} {c : Cw} {Γ Γ' : List Slot} {τ υ : Type} [Py τ] [Py υ] {t u : OT} {x : τ} {pos apos : Pos} {ts : List OT}
variable {α ρ : Type} {D0 : α → List ArgD} {pre : α → Prop} {D1 : ρ → List (Option OT)} {RS : ρ → Slot} {xn : ρ → Option Str} {m : α → ρ} {n : Str} {ps : List Str} {lv lj : Nat} {r : α} {C : Addr} {ns : List Str} {o : Expr}
/-- o.m(), o frozen, the answer new -/
theorem xn_meth0 {pl : Sem Bool} (G : Fm X.prog X.w X.K X.mg X.base (L2.CX X.prog X.w) C n ps lv (SpG X.K X.mg D0 pre D1 RS xn m)) (cl : Cls X.K C) (hr : Room lj X.A) (hj : lv ≤ lj) (ho : XE X c Γ o x) (ht1 : IsT τ x (.nd (.ins C ns) ts)) (hf : fIx ns n = none)
    (hp : pre r) (hR : RS (m r) = .ow none t) (hD : [CA.fz x].map CA.d = D0 r) (hsh : (D1 (m r)).map Option.isSome = (D0 r).map ArgD.isOw) (hx : xn (m r) = none := by rfl)
    (ht : eval (.Call (.Attribute o n apos) [] [] pos) X.env = (do
      let ov ← eval o X.env
      standAt apos.atName
      let (f, first) ← holding [ov] (getMethod ov n pl)
      callWith pos f first (backTo pos (starEach [] X.env)) (backToKw pos (keywordEach [] X.env))) := by rfl) :
    XN X c Γ (.Call (.Attribute o n apos) [] [] pos) t := by
  obtain ⟨f, fd, g1, g3, g4⟩ := G.ex
  obtain ⟨to, o1, o2⟩ := ho
  refine ⟨_, pe_meth0 (E := E0) o1 cl g1 g4 (hr.mono hj) g3 .nil passL ht, fun F H σ fp E Q q => o2 F H σ fp E _ fun v F1 H1 E1 e1 x1 r1 => ?_⟩
  obtain ⟨ad, dx, vs, rfl, k1, _, k3, k4, k5⟩ := (ht1 r1).ins
  refine ⟨ad, dx, _, rfl, E1.wd.fh _ _ k1, lookup_zip_none hf, ?_⟩
  show SpG X.K X.mg D0 pre D1 RS xn m (V.ref ad :: ([] ++ [])) H1 Q E0
  refine call_resN (CX := L2.CX X.prog X.w) hD (fun a ha => by cases List.mem_singleton.mp ha; rfl) trivial hp hx hsh E1 (.cons r1 .nil) fun v F' H' l y1 y2 y3 y4 y5 => ?_
  rw [hR] at y4
  obtain ⟨u, hu, y4, _⟩ := y4
  cases hu
  exact q _ F' H' l y1 (e1.trans y2) (x1.trans y3) y4 fun b hb => by
    cases z : H b with
    | none => rfl
    | some o =>
      have := y5 b hb
      rw [x1.h _ _ z] at this
      cases this
end
end Fw
namespace Fw
open PySem L2 Py PyProof.Rows
instance {α β γ : Type} [Py α] [Py β] [Py γ] [ToDy α] [ToDy β] [ToDy γ] : ToDy (T3 α β γ) := ⟨fun x => .tup [ToDy.dy x.a, ToDy.dy x.b, ToDy.dy x.c], fun ⟨p, a, b, c, h1, h2, h3, h4, h5⟩ => by
  unfold Dy.rep
  refine ⟨p, [a, b, c], h1, h2, ?_⟩
  unfold Dy.reps Dy.reps Dy.reps Dy.reps
  exact ⟨a, _, rfl, ToDy.ok h3, b, _, rfl, ToDy.ok h4, c, _, rfl, ToDy.ok h5, rfl⟩⟩
instance {α β γ δ : Type} [Py α] [Py β] [Py γ] [Py δ] [ToDy α] [ToDy β] [ToDy γ] [ToDy δ] : ToDy (T4 α β γ δ) := ⟨fun x => .tup [ToDy.dy x.a, ToDy.dy x.b, ToDy.dy x.c, ToDy.dy x.d], fun ⟨p, a, b, c, d, h1, h2, h3, h4, h5, h6⟩ => by
  unfold Dy.rep
  refine ⟨p, [a, b, c, d], h1, h2, ?_⟩
  unfold Dy.reps Dy.reps Dy.reps Dy.reps Dy.reps
  exact ⟨a, _, rfl, ToDy.ok h3, b, _, rfl, ToDy.ok h4, c, _, rfl, ToDy.ok h5, d, _, rfl, ToDy.ok h6, rfl⟩⟩
class DyD (τ : Type) [Py τ] [ToDy τ] [PyD τ] : Prop where
  eq : ∀ x : τ, Dy.toD (ToDy.dy x) = PyD.toD x
  ni : ∀ x : τ, (ToDy.dy x).nice = true
instance : DyD Int := ⟨fun _ => rfl, fun _ => rfl⟩
instance : DyD Bool := ⟨fun _ => rfl, fun _ => rfl⟩
instance : DyD Str := ⟨fun _ => rfl, fun _ => rfl⟩
section
variable {τ : Type} [Py τ] [ToDy τ] [PyD τ] [DyD τ]
theorem dy_toDs : ∀ xs : List τ, Dy.toDs (xs.map ToDy.dy) = dAll xs
  | [] => rfl
  | x :: r => by
    show Dy.toD (ToDy.dy x) :: Dy.toDs (r.map ToDy.dy) = PyD.toD x :: dAll r
    rw [DyD.eq, dy_toDs r]
theorem dy_nices : ∀ xs : List τ, Dy.nices (xs.map (ToDy.dy (τ := τ))) = true
  | [] => rfl
  | x :: r => by
    show (Dy.nice (ToDy.dy x) && Dy.nices (r.map ToDy.dy)) = true
    rw [DyD.ni, dy_nices r]; rfl
instance : DyD (List τ) := ⟨fun xs => by
  show PyData.list (Dy.toDs (xs.map ToDy.dy)) = .list (dAll xs)
  rw [dy_toDs], fun xs => dy_nices xs⟩
end
section
variable {α β γ δ : Type} [Py α] [Py β] [Py γ] [Py δ] [ToDy α] [ToDy β] [ToDy γ] [ToDy δ] [PyD α] [PyD β] [PyD γ] [PyD δ] [DyD α] [DyD β] [DyD γ] [DyD δ]
instance : DyD (α × β) := ⟨fun x => by
  show PyData.tuple [Dy.toD (ToDy.dy x.1), Dy.toD (ToDy.dy x.2)] = .tuple [PyD.toD x.1, PyD.toD x.2]
  rw [DyD.eq, DyD.eq], fun x => by
  show (Dy.nice (ToDy.dy x.1) && (Dy.nice (ToDy.dy x.2) && true)) = true
  rw [DyD.ni, DyD.ni]; rfl⟩
instance : DyD (T3 α β γ) := ⟨fun x => by
  show PyData.tuple [Dy.toD (ToDy.dy x.a), Dy.toD (ToDy.dy x.b), Dy.toD (ToDy.dy x.c)] = .tuple [PyD.toD x.a, PyD.toD x.b, PyD.toD x.c]
  rw [DyD.eq, DyD.eq, DyD.eq], fun x => by
  show (Dy.nice (ToDy.dy x.a) && (Dy.nice (ToDy.dy x.b) && (Dy.nice (ToDy.dy x.c) && true))) = true
  rw [DyD.ni, DyD.ni, DyD.ni]; rfl⟩
instance : DyD (T4 α β γ δ) := ⟨fun x => by
  show PyData.tuple [Dy.toD (ToDy.dy x.a), Dy.toD (ToDy.dy x.b), Dy.toD (ToDy.dy x.c), Dy.toD (ToDy.dy x.d)] = .tuple [PyD.toD x.a, PyD.toD x.b, PyD.toD x.c, PyD.toD x.d]
  rw [DyD.eq, DyD.eq, DyD.eq, DyD.eq], fun x => by
  show (Dy.nice (ToDy.dy x.a) && (Dy.nice (ToDy.dy x.b) && (Dy.nice (ToDy.dy x.c) && (Dy.nice (ToDy.dy x.d) && true)))) = true
  rw [DyD.ni, DyD.ni, DyD.ni, DyD.ni]; rfl⟩
end
end Fw
namespace Fw
open PySem L2 Py PyProof.Rows
end Fw
namespace Fw
open PySem L2 Py PyProof.Rows
end Fw
namespace Fw
open PySem L2 Py PyProof.Rows
structure Lp2 (τ : Type) where
  a : τ
  b : τ
instance {τ : Type} [Inhabited τ] : Inhabited (Lp2 τ) := ⟨⟨default, default⟩⟩
instance {τ : Type} [Py τ] : Py (Lp2 τ) := ⟨fun K F v x => rep K F v [x.a, x.b], fun e h => Py.mono (x := [_, _]) e h⟩
end Fw
namespace Fw
open PySem L2 Py PyProof.Rows
structure Lt3 (α β γ : Type) where
  a : α
  b : β
  c : γ
instance {α β γ : Type} [Inhabited α] [Inhabited β] [Inhabited γ] : Inhabited (Lt3 α β γ) := ⟨⟨default, default, default⟩⟩
section
variable {α β γ : Type} [Py α] [Py β] [Py γ]
instance : Py (Lt3 α β γ) := ⟨fun K F v x => ∃ p a b c, v = .ref p ∧ (SqT K F p [a, b, c] ∨ SqL K F p [a, b, c]) ∧ rep K F a x.a ∧ rep K F b x.b ∧ rep K F c x.c,
  fun e ⟨p, a, b, c, h1, h2, h3, h4, h5⟩ => ⟨p, a, b, c, h1, h2.imp e.t e.l, Py.mono e h3, Py.mono e h4, Py.mono e h5⟩⟩
variable {X : Cx} {c : Cw} {Γ : List Slot} {e : Expr} {pos : Pos}
end
end Fw
namespace Fw
open PySem L2 Py PyProof.Rows
end Fw
namespace Fw
open PySem L2 Py PyProof.Rows
section
variable {X : Cx} {w : Wx} {c : Cw} {Γ Γ' : List Slot} {S B τ υ : Type} [Py τ] [Py υ] {R : Rc} {n : S → R.ρ} {G : S → List Slot} {GB : B → List Slot} {pos : Pos} {e a b o : Expr}
/-- a def's body where a token is out -/
def XFT (X : Cx) (w : Wx) (c : Cw) (Γ : List Slot) (sts : List Stmt) {S : Type} {R : Rc} (n : S → R.ρ) (G : S → List Slot) (r : R.ρ) : Prop :=
  ∃ t, PSsT X sts t ∧ ∀ F H σ, Env X.K c F H σ Γ → ∀ D : Ends, OutOk X w c D F G (fun e : Empty => e.elim) (Out.rt r : Out S Empty R.ρ) → t D σ H
theorem XFT.eq {r r' : R.ρ} (h : XFT X w c Γ sts n G r) (q : r = r') : XFT X w c Γ sts n G r' := q ▸ h
end
instance {τ : Type} [Py τ] [ToDy τ] : ToDy (Option τ) := ⟨fun x => match x with | none => .non | some y => ToDy.dy y, fun {K F v x} h => by
  cases x with
  | none => unfold Dy.rep; exact h
  | some y => exact ToDy.ok (x := y) h⟩
end Fw
namespace Fw
open PySem L2 Py PyProof.Rows
end Fw
namespace Fw
open PySem L2 Py PyProof.Rows
end Fw
namespace Fw
open PySem L2 Py PyProof.Rows
structure Ds (τ : Type) where
  l : List (Str × τ)
instance {τ : Type} : Inhabited (Ds τ) := ⟨⟨[]⟩⟩
@[reducible] def Ds.ot {τ : Type} [Py τ] (d : Ds τ) : OT := .nd (.dK (d.l.map fun z => Sum.inr z.1)) (d.l.map fun z => .fz z.2)
instance {τ : Type} [Py τ] : Py (Ds τ) := pyOf Ds.ot
end Fw
namespace Fw
open PySem L2 Py PyProof.Rows
section
variable {X : Cx} {c : Cw} {Γ Γ' : List Slot} {τ υ : Type} [Py τ] [Py υ] {t u : OT} {x : τ} {pos apos : Pos} {ts : List OT}
variable {α ρ : Type} {D0 : α → List ArgD} {pre : α → Prop} {D1 : ρ → List (Option OT)} {RS : ρ → Slot} {xn : ρ → Option Str} {m : α → ρ} {n : Str} {ps : List Str} {lv lj : Nat} {r : α} {C : Addr} {ns : List Str} {o e : Expr} {es : List Expr} {as : List CA}
/-- o.m(..), o frozen, the arguments and the answer frozen -/
theorem xe_methA {pl : Sem Bool} {y : υ} (G : Fm X.prog X.w X.K X.mg X.base (L2.CX X.prog X.w) C n ps lv (SpG X.K X.mg D0 pre D1 RS xn m)) (cl : Cls X.K C) (hr : Room lj X.A) (hj : lv ≤ lj) (ho : XE X c Γ o x) (ht1 : IsT τ x (.nd (.ins C ns) ts)) (hf : fIx ns n = none) (ha : XAr X c Γ (e :: es) as)
    (hp : pre r) (hR : RS (m r) = .fz y := by rfl) (hD : (CA.fz x :: as).map CA.d = D0 r := by rfl) (hz : caFz as = true := by rfl) (hsh : (D1 (m r)).map Option.isSome = (D0 r).map ArgD.isOw := by rfl) (hx : xn (m r) = none := by rfl)
    (hst : starEach (e :: es) X.env = (false, eval e X.env) :: starEach es X.env := by rfl) (hpl : (backTo pos (starEach es X.env)).any (·.1) = false := by rfl)
    (ht : eval (.Call (.Attribute o n apos) (e :: es) [] pos) X.env = (do
      let ov ← eval o X.env
      standAt apos.atName
      let (f, first) ← holding [ov] (getMethod ov n pl)
      callWith pos f first (backTo pos (starEach (e :: es) X.env)) (backToKw pos (keywordEach [] X.env))) := by rfl) :
    XE X c Γ (.Call (.Attribute o n apos) (e :: es) [] pos) y := by
  obtain ⟨f, fd, g1, g3, g4⟩ := G.ex
  obtain ⟨to, o1, o2⟩ := ho
  obtain ⟨ta, h1, h2⟩ := ha
  refine ⟨_, pe_meth (E := E0) o1 cl g1 g4 (hr.mono hj) g3 .nil passL h1 hst hpl ht, fun F H σ fp E Q q => o2 F H σ fp E _ fun v F1 H1 E1 e1 x1 r1 => ?_⟩
  obtain ⟨ad, dx, vs, rfl, k1, _, k3, k4, k5⟩ := (ht1 r1).ins
  refine ⟨ad, dx, _, rfl, E1.wd.fh _ _ k1, lookup_zip_none hf, h2 F1 H1 σ fp E1 _ fun vs F2 H2 E2 e2 x2 k => ?_⟩
  rw [List.append_nil]
  have hn : ∀ a ∈ (CA.fz x :: as), a.ix = none := fun a ha => by
    rcases List.mem_cons.mp ha with rfl | ha
    · rfl
    · exact caFz_ix hz a ha
  have hg : caOk Γ (CA.fz x :: as) := caFz_ok (as := CA.fz x :: as) (by exact hz)
  refine call_resN (CX := L2.CX X.prog X.w) hD hn hg hp hx hsh E2 (.cons (Py.mono e2 r1) k) fun v F' H' l y1 y2 y3 y4 y5 => ?_
  rw [hR] at y4
  obtain ⟨_, u, hu, y4⟩ := y4
  cases hu
  exact q v F' H' y1 ((e1.trans e2).trans y2) ((x1.trans x2).trans y3) y4
/-- .. the answer new -/
theorem xn_methA {pl : Sem Bool} (G : Fm X.prog X.w X.K X.mg X.base (L2.CX X.prog X.w) C n ps lv (SpG X.K X.mg D0 pre D1 RS xn m)) (cl : Cls X.K C) (hr : Room lj X.A) (hj : lv ≤ lj) (ho : XE X c Γ o x) (ht1 : IsT τ x (.nd (.ins C ns) ts)) (hf : fIx ns n = none) (ha : XAr X c Γ (e :: es) as)
    (hp : pre r) (hR : RS (m r) = .ow none t := by rfl) (hD : (CA.fz x :: as).map CA.d = D0 r := by rfl) (hz : caFz as = true := by rfl) (hsh : (D1 (m r)).map Option.isSome = (D0 r).map ArgD.isOw := by rfl) (hx : xn (m r) = none := by rfl)
    (hst : starEach (e :: es) X.env = (false, eval e X.env) :: starEach es X.env := by rfl) (hpl : (backTo pos (starEach es X.env)).any (·.1) = false := by rfl)
    (ht : eval (.Call (.Attribute o n apos) (e :: es) [] pos) X.env = (do
      let ov ← eval o X.env
      standAt apos.atName
      let (f, first) ← holding [ov] (getMethod ov n pl)
      callWith pos f first (backTo pos (starEach (e :: es) X.env)) (backToKw pos (keywordEach [] X.env))) := by rfl) :
    XN X c Γ (.Call (.Attribute o n apos) (e :: es) [] pos) t := by
  obtain ⟨f, fd, g1, g3, g4⟩ := G.ex
  obtain ⟨to, o1, o2⟩ := ho
  obtain ⟨ta, h1, h2⟩ := ha
  refine ⟨_, pe_meth (E := E0) o1 cl g1 g4 (hr.mono hj) g3 .nil passL h1 hst hpl ht, fun F H σ fp E Q q => o2 F H σ fp E _ fun v F1 H1 E1 e1 x1 r1 => ?_⟩
  obtain ⟨ad, dx, vs, rfl, k1, _, k3, k4, k5⟩ := (ht1 r1).ins
  refine ⟨ad, dx, _, rfl, E1.wd.fh _ _ k1, lookup_zip_none hf, h2 F1 H1 σ fp E1 _ fun vs F2 H2 E2 e2 x2 k => ?_⟩
  rw [List.append_nil]
  have hn : ∀ a ∈ (CA.fz x :: as), a.ix = none := fun a ha => by
    rcases List.mem_cons.mp ha with rfl | ha
    · rfl
    · exact caFz_ix hz a ha
  have hg : caOk Γ (CA.fz x :: as) := caFz_ok (as := CA.fz x :: as) (by exact hz)
  refine call_resN (CX := L2.CX X.prog X.w) hD hn hg hp hx hsh E2 (.cons (Py.mono e2 r1) k) fun v F' H' l y1 y2 y3 y4 y5 => ?_
  rw [hR] at y4
  obtain ⟨u, hu, y4, _⟩ := y4
  cases hu
  exact q _ F' H' l y1 ((e1.trans e2).trans y2) ((x1.trans x2).trans y3) y4 fun b hb => by
    cases z : H b with
    | none => rfl
    | some o =>
      have := y5 b hb
      rw [(x1.trans x2).h _ _ z] at this
      cases this
end
section
variable {X : Cx} {w : Wx} {c : Cw} {Γ Γ' : List Slot} {S B α : Type} {R : Rc} {GB : B → List Slot} {ep : Expr} {pos : Pos} {i : Nat} {p : List Nat} {oa : Option Addr} {t : OT} {ts : List OT}
/-- P.pop(), its value passed over -/
theorem xs_pop0 {q1 q2 : Pos} (g : α → OT) {y : α} (hp : XPl X c Γ ep i p) (hs : Γ[i]? = some (.ow oa t)) (hg : t.get? p = some (.nd .lst ts)) (hpos : 0 < ts.length) (hy : t.put p (.nd .lst ts.dropLast) = g y)
    (hsw : swapsWith (.Call (.Attribute ep "pop" q1) [] [] q2) none pos.line X.env = pure false := by rfl) (hab : attributeBase ep "pop" X.env (eval ep X.env) = eval ep X.env := by rfl) (hln : (q1.endLine == q2.line) = true := by rfl) :
    XS X w c Γ (.Expr (.Call (.Attribute ep "pop" q1) [] [] q2) pos) (fun y : α => Γ.set i (.ow oa (g y))) GB (Out.nx y : Out α B R.ρ) := by
  obtain ⟨tp, h3, h4⟩ := hp
  refine ⟨_, ps_expr (pe_bm0 PySem.F.plainAttrs_list PySem.F.slot_list_pop PySem.F.type_list_pop mt_pop h3 hab hln) hsw, fun F H σ ⟨fp, E⟩ D q => h4 F H σ fp E _ fun vp v0 F1 H1 E1 e1 n1 g1 g2 => ?_⟩
  obtain ⟨v0', ad, o, vs, fps, k1, k2, k3, k4, k5, k6, k7, k8, k9⟩ := E1.node hs hg
  rw [g1] at k1; cases k1
  rw [g2] at k2; cases k2
  cases (show o = _ from k5)
  have hl := k6.1
  have hlt : vs.length - 1 < vs.length := by omega
  obtain ⟨m1, m2⟩ := nd_sub k7 (List.eraseIdx_sublist fps (ts.length - 1))
  have d1 : vs.dropLast = vs.eraseIdx (ts.length - 1) := by rw [← hl]; exact dropLast_er vs
  have d2 : ts.dropLast = ts.eraseIdx (ts.length - 1) := dropLast_er ts
  obtain ⟨fp', E4, _, _⟩ := k9 (.lst vs.dropLast) .lst _ (fps.eraseIdx (ts.length - 1)) (ts.eraseIdx (ts.length - 1)) rfl (by rw [d1]; exact k6.erase _) m1 (fun b hb => .inl (m2 b hb))
  rw [← d2, hy] at E4
  exact ⟨.inl ⟨rfl, _, sq_of k4⟩, ad, vs, vs[vs.length - 1], rfl, rfl, k4, List.getElem?_eq_getElem hlt, q σ F1 _ ⟨fp', E4⟩ e1⟩
end
section
variable {X : Cx} {c : Cw} {Γ Γ' : List Slot} {τ υ : Type} [Py τ] [Py υ] {a b : Expr} {x : τ} {y : υ}
/-- things of two kinds are compared -/
theorem xc_eqHet [i : PyD τ] [j : PyD υ] {r : Bool} (hu : X.A.units + 64 < cLine) (ha : XE X c Γ a x) (hb : XE X c Γ b y) (hx : PyD.dok x) (hy : PyD.dok y) (hv : PyData.eqv (PyD.toD x) (PyD.toD y) = r) (hd : PyD.dep τ ≤ 64 := by decide) (he : PyD.dep υ ≤ 64 := by decide) : XC X c Γ .Eq a b r :=
  xc_ofB (op_eqD hu) (fun H u v h1 h2 Q q => by
    refine ⟨_, _, PyD.dp h1, PyD.dp h2, shaped_of hx hd, shaped_of hy he, ?_⟩
    rw [hv]; exact q _ rfl) (xb_of ha) (xb_of hb) (nomark _)
end
end Fw
namespace L2
open PySem PySem.Spec PyProof.Rows
section
variable {X : Cx}
def tLenSetP (K : PySem.W.Frag) (ta : TE) : TE := fun σ H Q => ta σ H fun x H1 => ∃ (l : Addr) (ks : List (Addr × List Int)), x = V.ref l ∧ SqL K H1 l (ks.map fun p => V.ref p.1) ∧ (∀ p ∈ ks, SqT K H1 p.1 (p.2.map V.int)) ∧ ks.length < 64 ∧ (ks.map (·.2)).Nodup ∧ Q (.int ks.length) H1
theorem pe_lenSetP {a : Expr} {ta : TE} {p p2 q pos : Pos} (hc : X.calm = true) (hu : X.A.units + 64 < cLine) (hg : Gl X "len") (hm : X.mg "len" = none) (hg2 : Gl X "set") (hm2 : X.mg "set" = none) (ha : PE X a ta)
    (na : starEach [a] X.env = (false, eval a X.env) :: starEach [] X.env := by rfl) : PE X (.Call (.Name "len" p) [.Call (.Name "set" p2) [a] [] q] [] pos) (tLenSetP X.K ta) := by
  refine ⟨fun pins s σ H Q I h => ?_⟩
  refine Call_ (ld_blt I hg hm PySem.boot_len ?_)
  refine PyProof.Rows.callWith_builtin1 (PyProof.Rows.args_cons ?_ rfl) rfl rfl
  refine Call_ (ld_blt I hg2 hm2 PyProof.Rows.boot_set ?_)
  refine PyProof.Rows.callWith_type1 (PyProof.Rows.args_cons (thn (ha.run pins s σ H _ I h) fun v s1 ⟨x, H1, I1, r1, q1⟩ => PyProof.Rows.args_nil ?_) na) na rfl
  obtain ⟨l, ks, rfl, hq, hk, h1, hnd, q1⟩ := q1
  cases r1
  obtain ⟨its, rv, pl, hz⟩ := I1.list hq
  refine call_set_tups (P := X.prog) (w := X.w) ks (I1.ok.hd hc) pl.isList (by simpa using refs_of_vals rv) (fun p hp => I1.isT (hk p hp)) h1 (by omega) fun h' tk L es ep t R g k => ?_
  refine PyProof.Rows.args_nil ?_
  have el : L.length = ks.length := by
    have s1 : ∀ z ∈ L.map (·.2), z ∈ ks.map (·.2) := fun z hz => by
      obtain ⟨p, hp, rfl⟩ := List.mem_map.mp hz
      exact List.mem_map.mpr ⟨p, List.mem_of_mem_take (g.sub p hp), rfl⟩
    have s2 : ∀ z ∈ ks.map (·.2), z ∈ L.map (·.2) := fun z hz => by
      obtain ⟨p, hp, rfl⟩ := List.mem_map.mp hz
      exact g.all p (by rw [List.take_length]; exact hp)
    have p1 := (List.perm_ext_iff_of_nodup R.nd hnd).mpr fun z => ⟨s1 z, s2 z⟩
    have := p1.length_eq
    rwa [List.length_map, List.length_map] at this
  have ez := SetTR.size (s := { s1 with heap := h', toks := tk }) R
  have ef := SetTR.fits (s := { s1 with heap := h', toks := tk }) R
  obtain ⟨o, ho, hex, hd⟩ := R.ob
  have I2 : Inv X pins σ H1 { s1 with heap := h', toks := tk } := I1.kept fun b o e => k b o e
  refine call_len_set ho hex hd ef (by rw [ez] <;> omega) ⟨.int ks.length, H1, I2.tok _, ⟨_, by rw [ez, el]⟩, q1⟩
end
end L2
namespace Fw
open PySem L2 Py PyProof.Rows
section
variable {X : Cx} {c : Cw} {Γ Γ' : List Slot} {a : Expr}
theorem pairs_of {K : Fg} {F : Hp} : ∀ {vs : List V} {xs : List (Int × Int)}, Reps K F vs xs → ∃ ks : List (Addr × List Int), vs = ks.map (fun p => V.ref p.1) ∧ (∀ p ∈ ks, SqT K F p.1 (p.2.map V.int)) ∧ ks.map (·.2) = xs.map fun x => [x.1, x.2]
  | _, [], .nil => ⟨[], rfl, (fun _ h => nomatch h), rfl⟩
  | _, x :: _, .cons h t => by
    obtain ⟨ks, e, k1, k2⟩ := pairs_of t
    obtain ⟨p, a, b, h1, h2, h3, h4⟩ := h
    cases (show a = V.int x.1 from h3)
    cases (show b = V.int x.2 from h4)
    refine ⟨(p, [x.1, x.2]) :: ks, by rw [h1, e]; rfl, fun z hz => ?_, by rw [List.map_cons, List.map_cons, k2]⟩
    rcases List.mem_cons.mp hz with rfl | hz
    · exact h2
    · exact k1 z hz
/-- len(set(xs)) -/
theorem xe_lenSetP {xs : List (Int × Int)} {p p2 q pos : Pos} (hm : X.mg "len" = none) (hm2 : X.mg "set" = none) (hu : X.A.units + 64 < cLine) (ha : XE X c Γ a xs) (hk : xs.Nodup ∧ xs.length < 64) (hc : X.calm = true := by rfl) (hg : Gl X "len" := by rfl) (hg2 : Gl X "set" := by rfl)
    (na : starEach [a] X.env = (false, eval a X.env) :: starEach [] X.env := by rfl) : XE X c Γ (.Call (.Name "len" p) [.Call (.Name "set" p2) [a] [] q] [] pos) ((xs.length : Nat) : Int) := by
  obtain ⟨ta, h1, h2⟩ := ha
  refine ⟨_, pe_lenSetP hc hu hg hm hg2 hm2 h1 na, fun F H σ fp E Q q => h2 F H σ fp E _ fun v F' H' E' e1 e2 r => ?_⟩
  obtain ⟨l, vs, rfl, h3, h4⟩ := r
  obtain ⟨ks, e, k1, k2⟩ := pairs_of h4
  have ll : ks.length = xs.length := by
    have := congrArg List.length k2
    rwa [List.length_map, List.length_map] at this
  refine ⟨l, ks, rfl, by rw [← e]; exact E'.wd.fh.l (sq_of h3), fun p hp => ?_, by omega, ?_, ?_⟩
  · exact E'.wd.fh.t (k1 p hp)
  · rw [k2]
    exact List.Pairwise.map _ (fun x y hne e => hne (by injection e with e1 e2; injection e2 with e2 _; exact Prod.ext e1 e2)) hk.1
  · rw [ll]
    exact q _ F' H' E' e1 e2 rfl
theorem ints_rep {K : Fg} {F : Hp} : ∀ {vs : List V} {xs : List Int}, Reps K F vs xs → vs = xs.map V.int
  | _, [], .nil => rfl
  | _, x :: _, .cons h t => by
    cases (show _ = V.int x from h)
    rw [ints_rep t]; rfl
/-- sum(xs) -/
theorem xe_sum {xs : List Int} {p pos : Pos} (hm : X.mg "sum" = none) (ha : XE X c Γ a xs) (hc : X.calm = true := by rfl) (hg : Gl X "sum" := by rfl) (hs : starEach [a] X.env = [(false, eval a X.env)] := by rfl) :
    XE X c Γ (.Call (.Name "sum" p) [a] [] pos) xs.sum :=
  xe_b1 (cr_sum hc) (by decide +kernel) (fun F H v e r Q q => by
    obtain ⟨l, vs, rfl, h1, h2⟩ := r
    exact ⟨l, xs, rfl, by rw [← ints_rep h2]; exact e.l (sq_of h1), q⟩) hg hm ha (by decide) (by decide) hs
theorem rev_izs (n : Nat) (i : Nat) (y : Int) (h : (izs 0 n).reverse[i]? = some y) : i < n ∧ y = (0 : Int) + ((n : Nat) : Int) - 1 + ((i : Nat) : Int) * (-1) := by
  have hl : i < n := by
    have := (List.getElem?_eq_some_iff.mp h).1
    rwa [List.length_reverse, izs_len] at this
  refine ⟨hl, ?_⟩
  rw [List.getElem?_reverse (by rw [izs_len]; exact hl), izs_len] at h
  have := (izs_get h).2
  omega
theorem wk_revrange {K : Fg} {n : Nat} {F : Hp} : Wk K (Itc ((0 : Int) + ((n : Nat) : Int) - 1) (-1) n) (izs 0 n).reverse F := by
  refine ⟨fun _ => True, YFn fun i => .int ((0 : Int) + ((n : Nat) : Int) - 1 + ((i : Nat) : Int) * (-1)), by rw [List.length_reverse, izs_len]; exact walk_rangeC, fun _ _ _ _ => trivial, fun i F1 H1 v H2 y x1 x2 hy hx => ?_⟩
  obtain ⟨rfl, rfl⟩ := hy
  obtain ⟨_, rfl⟩ := rev_izs n i y hx
  exact ⟨F1, Ex.refl _, x2, Ex.refl _, fun b h => .inl h, rfl⟩
/-- reversed(range(n)) -/
theorem xi_revrange {tg : Expr} {p p2 q pos : Pos} {j : Int} (hm2 : X.mg "reversed" = none) (hm : X.mg "range" = none) (ha : XE X c Γ a j) (hj : -(2 ^ 62) ≤ j ∧ j < 2 ^ 62) (hg : Gl X "range" := by rfl) (hg2 : Gl X "reversed" := by rfl) (na : starEach [a] X.env = (false, eval a X.env) :: starEach [] X.env := by rfl)
    (hs : starEach [.Call (.Name "range" p2) [a] [] q] X.env = (false, eval (.Call (.Name "range" p2) [a] [] q) X.env) :: starEach [] X.env := by rfl) :
    XI X c Γ tg (.Call (.Name "reversed" p) [.Call (.Name "range" p2) [a] [] q] [] pos) (izs 0 j.toNat).reverse := by
  obtain ⟨t, h1, h2⟩ := ha
  refine ⟨_, pi_revR hg2 hm2 (prg_1 hg hm h1 na) hs, fun F H σ fp E R q => h2 F H σ fp E _ fun v F' H' E' e1 e2 r => ?_⟩
  refine ⟨j, show v = V.int j from r, ?_⟩
  have e : (j - 0).toNat = j.toNat := by rw [Int.sub_zero]
  refine ⟨by decide, by decide, hj.1, hj.2, ?_⟩
  rw [e]
  exact q _ F' H' E' e1 e2 wk_revrange
end
end Fw
namespace Fw
namespace Me
open PySem L2 Fw
noncomputable section
def top (i : Nat) : Stmt := PySem.Challenge.pw_signscreen_k28_whole_least_tried.main.body.getD i (.Pass ⟨0, 0, 0, 0⟩)
class Ads where
  cWalk : Addr
variable [Ads]
inductive Dd where
  | cp (w : Str) (row : Int) (many : Int)
  | wr (w : Str) (row : Int) (col : Int) (text : Str) (ink : Int)
deriving DecidableEq, Inhabited
instance : Py Dd := ⟨fun K F v x => match x with
  | .cp w row many => Py.rep K F v ((T3.mk w row many) : T3 Str Int Int)
  | .wr w row col text ink => Py.rep K F v ((T5.mk w row col text ink) : T5 Str Int Int Str Int), fun {K F F' v x} e h => by
    cases x with
    | cp w row many => exact Py.mono (x := ((T3.mk w row many) : T3 Str Int Int)) e h
    | wr w row col text ink => exact Py.mono (x := ((T5.mk w row col text ink) : T5 Str Int Int Str Int)) e h⟩
instance : PyTl Dd := ⟨fun {K F F' v x} h r => by
    cases x with
    | cp w row many => exact PyTl.tl (x := ((T3.mk w row many) : T3 Str Int Int)) h r
    | wr w row col text ink => exact PyTl.tl (x := ((T5.mk w row col text ink) : T5 Str Int Int Str Int)) h r⟩
instance : PyTy Dd := ⟨fun _ => "tuple", fun {K F v x} h => by
    cases x with
    | cp w row many => exact PyTy.ok (x := ((T3.mk w row many) : T3 Str Int Int)) h
    | wr w row col text ink => exact PyTy.ok (x := ((T5.mk w row col text ink) : T5 Str Int Int Str Int)) h⟩
instance : PyNv Dd := ⟨fun {K F v x} h => by
    cases x with
    | cp w row many => exact PyNv.nv (x := ((T3.mk w row many) : T3 Str Int Int)) h
    | wr w row col text ink => exact PyNv.nv (x := ((T5.mk w row col text ink) : T5 Str Int Int Str Int)) h⟩
theorem Dd.mk_cp {X : Cx} {c : Cw} {Γ : List Slot} {e : Expr} {w : Str} {row : Int} {many : Int} (h : XE X c Γ e ((T3.mk w row many) : T3 Str Int Int)) : XE X c Γ e (Dd.cp w row many) := h
theorem Dd.mk_wr {X : Cx} {c : Cw} {Γ : List Slot} {e : Expr} {w : Str} {row : Int} {col : Int} {text : Str} {ink : Int} (h : XE X c Γ e ((T5.mk w row col text ink) : T5 Str Int Int Str Int)) : XE X c Γ e (Dd.wr w row col text ink) := h
instance : PyD Dd where
  dec := inferInstance
  toD := fun x => match x with
    | .cp w row many => PyD.toD ((T3.mk w row many) : T3 Str Int Int)
    | .wr w row col text ink => PyD.toD ((T5.mk w row col text ink) : T5 Str Int Int Str Int)
  dok := fun x => match x with
    | .cp w row many => PyD.dok ((T3.mk w row many) : T3 Str Int Int)
    | .wr w row col text ink => PyD.dok ((T5.mk w row col text ink) : T5 Str Int Int Str Int)
  dep := 8
  nn := true
  dp := fun {K F v x} h => by
    cases x with
    | cp w row many => exact PyD.dp (x := ((T3.mk w row many) : T3 Str Int Int)) h
    | wr w row col text ink => exact PyD.dp (x := ((T5.mk w row col text ink) : T5 Str Int Int Str Int)) h
  eqv := fun x y => by
    cases x with
    | cp w row many =>
      cases y with
      | cp w' row' many' =>
        refine (PyD.eqv ((T3.mk w row many) : T3 Str Int Int) (T3.mk w' row' many')).trans ?_
        rw [Bool.eq_iff_iff, @decide_eq_true_iff _ (_), @decide_eq_true_iff _ (_)]
        simp
      | wr w' row' col' text' ink' =>
        refine Eq.trans (b := false) (by show (_ && (_ && (_ && (false)))) = false; simp) (@decide_eq_false _ (_) (by simp)).symm
    | wr w row col text ink =>
      cases y with
      | cp w' row' many' =>
        refine Eq.trans (b := false) (by show (_ && (_ && (_ && (false)))) = false; simp) (@decide_eq_false _ (_) (by simp)).symm
      | wr w' row' col' text' ink' =>
        refine (PyD.eqv ((T5.mk w row col text ink) : T5 Str Int Int Str Int) (T5.mk w' row' col' text' ink')).trans ?_
        rw [Bool.eq_iff_iff, @decide_eq_true_iff _ (_), @decide_eq_true_iff _ (_)]
        simp
  lay := fun x h => by
    cases x with
    | cp w row many => exact PyD.lay ((T3.mk w row many) : T3 Str Int Int) h
    | wr w row col text ink => exact PyD.lay ((T5.mk w row col text ink) : T5 Str Int Int Str Int) h
  dle := fun x => by
    cases x with
    | cp w row many => exact Nat.le_trans (PyD.dle ((T3.mk w row many) : T3 Str Int Int)) (by decide)
    | wr w row col text ink => exact Nat.le_trans (PyD.dle ((T5.mk w row col text ink) : T5 Str Int Int Str Int)) (by decide)
  nno := fun _ x => by
    cases x with
    | cp w row many => exact PyD.nno rfl ((T3.mk w row many) : T3 Str Int Int)
    | wr w row col text ink => exact PyD.nno rfl ((T5.mk w row col text ink) : T5 Str Int Int Str Int)
def Dd.tag (x : Dd) : Str := match x with
  | .cp w row many => w
  | .wr w row col text ink => w
theorem Dd.xe_0 {X : Cx} {c : Cw} {Γ : List Slot} {e : Expr} {x : Dd} {pos q : Pos} {j : Nat} (h : XE X c Γ e x) : XE X c Γ (.Subscript e (.Constant (.int 0) j q) pos) x.tag := by
  cases x with
  | cp w row many => exact (xe_t3a (show XE X c Γ e ((T3.mk w row many) : T3 Str Int Int) from h))
  | wr w row col text ink => exact (xe_t5a (show XE X c Γ e ((T5.mk w row col text ink) : T5 Str Int Int Str Int) from h))
def Dd.at1 (x : Dd) : Int := match x with
  | .cp w row many => row
  | .wr w row col text ink => row
def Dd.has1 (x : Dd) : Bool := match x with
  | .cp _ _ _ => true
  | .wr _ _ _ _ _ => true
theorem Dd.xe_1 {X : Cx} {c : Cw} {Γ : List Slot} {e : Expr} {x : Dd} {pos q : Pos} {j : Nat} (h : XE X c Γ e x) (hk : x.has1 = true) : XE X c Γ (.Subscript e (.Constant (.int 1) j q) pos) x.at1 := by
  cases x with
  | cp w row many => exact (xe_t3b (show XE X c Γ e ((T3.mk w row many) : T3 Str Int Int) from h))
  | wr w row col text ink => exact (xe_t5b (show XE X c Γ e ((T5.mk w row col text ink) : T5 Str Int Int Str Int) from h))
def Dd.at2 (x : Dd) : Int := match x with
  | .cp w row many => many
  | .wr w row col text ink => col
def Dd.has2 (x : Dd) : Bool := match x with
  | .cp _ _ _ => true
  | .wr _ _ _ _ _ => true
theorem Dd.xe_2 {X : Cx} {c : Cw} {Γ : List Slot} {e : Expr} {x : Dd} {pos q : Pos} {j : Nat} (h : XE X c Γ e x) (hk : x.has2 = true) : XE X c Γ (.Subscript e (.Constant (.int 2) j q) pos) x.at2 := by
  cases x with
  | cp w row many => exact (xe_t3c (show XE X c Γ e ((T3.mk w row many) : T3 Str Int Int) from h))
  | wr w row col text ink => exact (xe_t5c (show XE X c Γ e ((T5.mk w row col text ink) : T5 Str Int Int Str Int) from h))
def Dd.at3 (x : Dd) : Str := match x with
  | .cp w row many => default
  | .wr w row col text ink => text
def Dd.has3 (x : Dd) : Bool := match x with
  | .cp _ _ _ => false
  | .wr _ _ _ _ _ => true
theorem Dd.xe_3 {X : Cx} {c : Cw} {Γ : List Slot} {e : Expr} {x : Dd} {pos q : Pos} {j : Nat} (h : XE X c Γ e x) (hk : x.has3 = true) : XE X c Γ (.Subscript e (.Constant (.int 3) j q) pos) x.at3 := by
  cases x with
  | cp w row many => cases hk
  | wr w row col text ink => exact (xe_t5d (show XE X c Γ e ((T5.mk w row col text ink) : T5 Str Int Int Str Int) from h))
def Dd.at4 (x : Dd) : Int := match x with
  | .cp w row many => default
  | .wr w row col text ink => ink
def Dd.has4 (x : Dd) : Bool := match x with
  | .cp _ _ _ => false
  | .wr _ _ _ _ _ => true
theorem Dd.xe_4 {X : Cx} {c : Cw} {Γ : List Slot} {e : Expr} {x : Dd} {pos q : Pos} {j : Nat} (h : XE X c Γ e x) (hk : x.has4 = true) : XE X c Γ (.Subscript e (.Constant (.int 4) j q) pos) x.at4 := by
  cases x with
  | cp w row many => cases hk
  | wr w row col text ink => exact (xe_t5e (show XE X c Γ e ((T5.mk w row col text ink) : T5 Str Int Int Str Int) from h))
structure Wk where
  high : Int
  rows : List (List (Str × Int))
  costs : List (List Int)
  prices : Td (T3 Int Int Int) Int
deriving Inhabited
def Wk.ns : List Str := ["high", "rows", "costs", "prices"]
@[reducible] def Wk.ot (s : Wk) : OT := .nd (.ins Ads.cWalk Wk.ns) [(OT.fz (s.high : Int)), (ol s.rows), ((OT.li ol) s.costs), (Td.ot s.prices)]
instance : Py Wk := pyOf Wk.ot
theorem Wk.isT (s : Wk) : IsT Wk s (.nd (.ins Ads.cWalk Wk.ns) [(OT.fz (s.high : Int)), (ol s.rows), ((OT.li ol) s.costs), (Td.ot s.prices)]) := fun h => h
theorem Wk.i_high : fIx Wk.ns "high" = some 0 := by decide +kernel
theorem Wk.i_rows : fIx Wk.ns "rows" = some 1 := by decide +kernel
theorem Wk.i_costs : fIx Wk.ns "costs" = some 2 := by decide +kernel
theorem Wk.i_prices : fIx Wk.ns "prices" = some 3 := by decide +kernel
structure Wp where
  high : Int
  rows : List (List (Str × Int))
deriving Inhabited
def Wp.ns : List Str := ["high", "rows"]
@[reducible] def Wp.ot (s : Wp) : OT := .nd (.ins Ads.cWalk Wp.ns) [(OT.fz (s.high : Int)), (ol s.rows)]
instance : Py Wp := pyOf Wp.ot
theorem Wp.isT (s : Wp) : IsT Wp s (.nd (.ins Ads.cWalk Wp.ns) [(OT.fz (s.high : Int)), (ol s.rows)]) := fun h => h
theorem Wp.i_rows : fIx Wp.ns "rows" = some 1 := by decide +kernel
def m_size_of (picture : List (List (Str × Int))) : (Int × Int) :=
  ((((ix picture 0).length : Nat) : Int), ((picture.length : Nat) : Int))
def v_size_of (picture : List (List (Str × Int))) : Prop :=
  (InB picture 0)
def m_blank_row (wide : Int) (ink : Int) : (List (Str × Int)) :=
  (List.replicate (wide : Int).toNat ([((" " : Str), ink)] : List (Str × Int))).flatten
def v_blank_row (wide : Int) (ink : Int) : Prop :=
  ((wide ≤ 100000 ∧ ([((" " : Str), ink)] : List (Str × Int)).length * (wide : Int).toNat ≤ 100000) ∧ (-100000 ≤ wide))
def m_stretches_f1 (row : List (Str × Int)) (s1 : Int × (List (T3 Int Int Int))) (place : Int) : Int × (List (T3 Int Int Int)) :=
  bnd (if ((decide (place = ((row.length : Nat) : Int))) || (!decide ((ix row place).2 = (ix row s1.1).2))) then (
  bnd ((s1.2 ++ [(T3.mk s1.1 place (ix row s1.1).2)])) fun (found' : List (T3 Int Int Int)) =>
  bnd (place) fun (first' : Int) =>
  (found', first'))
  else (
  (s1.2, s1.1))) fun (j : (List (T3 Int Int Int)) × Int) =>
  (j.2, j.1)
def v_stretches_f1 (row : List (Str × Int)) (s1 : Int × (List (T3 Int Int Int))) (place : Int) : Prop :=
  (((decide (place = ((row.length : Nat) : Int))) = false → ((InB row place) ∧ (InB row s1.1))) ∧ (((decide (place = ((row.length : Nat) : Int))) || (!decide ((ix row place).2 = (ix row s1.1).2))) = true → ((InB row s1.1) ∧ (s1.2.length < 100000))))
def m_stretches (row : List (Str × Int)) : (List (T3 Int Int Int)) :=
  bnd (([] : List (T3 Int Int Int))) fun (found : List (T3 Int Int Int)) =>
  bnd (0) fun (first : Int) =>
  bnd (((izs 1 ((((row.length : Nat) : Int) + 1) - 1).toNat).foldl (m_stretches_f1 row) (first, found))) fun (r1 : Int × (List (T3 Int Int Int))) =>
  r1.2
def v_stretches (row : List (Str × Int)) : Prop :=
  (bnd (([] : List (T3 Int Int Int))) fun (found : List (T3 Int Int Int)) =>
  (bnd (0) fun (first : Int) =>
  ((-(2 ^ 62) ≤ (1 : Int) ∧ (1 : Int) < 2 ^ 62 ∧ -(2 ^ 62) ≤ ((((row.length : Nat) : Int) + 1) : Int) ∧ ((((row.length : Nat) : Int) + 1) : Int) < 2 ^ 62) ∧ (vFold (m_stretches_f1 row) (v_stretches_f1 row) (first, found) (izs 1 ((((row.length : Nat) : Int) + 1) - 1).toNat)))))
def m_unlike_in (one : List (Str × Int)) (other : List (Str × Int)) (stretch : T3 Int Int Int) : (List Int) :=
  bnd (stretch) fun (first_t : T3 Int Int Int) =>
  (((izs first_t.a (first_t.b - first_t.a).toNat).filter (fun place : Int => (!eqb (ix one place) (ix other place)))).map (fun place : Int => place))
def v_unlike_in (one : List (Str × Int)) (other : List (Str × Int)) (stretch : T3 Int Int Int) : Prop :=
  (bnd (stretch) fun (first_t : T3 Int Int Int) =>
  ((-(2 ^ 62) ≤ (first_t.a : Int) ∧ (first_t.a : Int) < 2 ^ 62 ∧ -(2 ^ 62) ≤ (first_t.b : Int) ∧ (first_t.b : Int) < 2 ^ 62) ∧ ((izs first_t.a (first_t.b - first_t.a).toNat).length ≤ 100000) ∧ (∀ place ∈ ((izs first_t.a (first_t.b - first_t.a).toNat) : List Int), ((InB one place) ∧ (InB other place) ∧ (PyD.dok (ix one place)) ∧ (PyD.dok (ix other place))))))
def m_writings_f1 (row : Int) (one : List (Str × Int)) (other : List (Str × Int)) (s1 : (List Dd)) (stretch : T3 Int Int Int) : Out ((List Dd)) ((List Dd)) ((List Dd)) :=
  bnd ((m_unlike_in one other stretch)) fun (places : List Int) =>
  if (eqb places ([] : List Int)) then (.ct s1)
  else
  bnd ((Txt.join ("" : Str) ((cutL other (some (ix places 0)) (some ((ix places (-1)) + 1))).map (fun cell : Str × Int => cell.1)))) fun (text : Str) =>
  bnd ((s1 ++ [(Dd.wr ("write" : Str) row (ix places 0) text stretch.c)])) fun (found' : List Dd) =>
  .nx found'
def v_writings_f1 (row : Int) (one : List (Str × Int)) (other : List (Str × Int)) (s1 : (List Dd)) (stretch : T3 Int Int Int) : Prop :=
  ((v_unlike_in one other stretch) ∧ (bnd ((m_unlike_in one other stretch)) fun (places : List Int) =>
  ((eqb places ([] : List Int)) = false → (((InB places 0) ∧ (InB places (-1)) ∧ ((cutL other (some (ix places 0)) (some ((ix places (-1)) + 1))).length ≤ 100000) ∧ ((((cutL other (some (ix places 0)) (some ((ix places (-1)) + 1))).map (fun cell : Str × Int => cell.1)).map (·.length)).sum + ((cutL other (some (ix places 0)) (some ((ix places (-1)) + 1))).map (fun cell : Str × Int => cell.1)).length * ("" : Str).length ≤ 16777216)) ∧ (bnd ((Txt.join ("" : Str) ((cutL other (some (ix places 0)) (some ((ix places (-1)) + 1))).map (fun cell : Str × Int => cell.1)))) fun (text : Str) =>
  ((InB places 0) ∧ (s1.length < 100000)))))))
def m_writings (row : Int) (one : List (Str × Int)) (other : List (Str × Int)) : (List Dd) :=
  bnd (([] : List Dd)) fun (found : List Dd) =>
  Out.thn (runFor (m_writings_f1 row one other) found (m_stretches other) : Out ((List Dd)) (Empty) ((List Dd))) fun (r1 : (List Dd)) =>
  r1
def v_writings (row : Int) (one : List (Str × Int)) (other : List (Str × Int)) : Prop :=
  (bnd (([] : List Dd)) fun (found : List Dd) =>
  ((v_stretches other) ∧ (vRun (m_writings_f1 row one other) (v_writings_f1 row one other) found (m_stretches other))))
def m_worth_of_line (one : List (Str × Int)) (other : List (Str × Int)) : Int :=
  (((m_writings 0 one other).length : Nat) : Int)
def v_worth_of_line (one : List (Str × Int)) (other : List (Str × Int)) : Prop :=
  (v_writings 0 one other)
def m_Walk_steps (self : Wk) (gone : Int) (ahead : Int) (word : Int) : (List (Int × (T3 Int Int Int))) :=
  if (decide (ahead = self.high)) then (
  ([] : List (Int × (T3 Int Int Int))))
  else
  bnd ((min (gone + 1) self.high)) fun (later : Int) =>
  bnd (([((ix (ix self.costs gone) ahead), (T3.mk later (ahead + 1) 0))] : List (Int × (T3 Int Int Int)))) fun (found : List (Int × (T3 Int Int Int))) =>
  bnd (if ((decide (gone < self.high)) && (!decide (word = 2))) then (
  bnd ((found ++ [((if (!decide (word = 1)) then (1 : Int) else 0), (T3.mk later ahead 1))])) fun (found' : List (Int × (T3 Int Int Int))) =>
  found')
  else (
  found)) fun (j : (List (Int × (T3 Int Int Int)))) =>
  bnd ((j ++ [(((if (!decide (word = 2)) then (1 : Int) else 0) + (ix (ix self.costs self.high) ahead)), (T3.mk gone (ahead + 1) 2))])) fun (found'' : List (Int × (T3 Int Int Int))) =>
  found''
def v_Walk_steps (self : Wk) (gone : Int) (ahead : Int) (word : Int) : Prop :=
  ((decide (ahead = self.high)) = false → (bnd ((min (gone + 1) self.high)) fun (later : Int) =>
  (((InB self.costs gone) ∧ (InB (ix self.costs gone) ahead)) ∧ (bnd (([((ix (ix self.costs gone) ahead), (T3.mk later (ahead + 1) 0))] : List (Int × (T3 Int Int Int)))) fun (found : List (Int × (T3 Int Int Int))) =>
  (((((decide (gone < self.high)) && (!decide (word = 2))) = true → (found.length < 100000))) ∧ (bnd (if ((decide (gone < self.high)) && (!decide (word = 2))) then (
  bnd ((found ++ [((if (!decide (word = 1)) then (1 : Int) else 0), (T3.mk later ahead 1))])) fun (found' : List (Int × (T3 Int Int Int))) =>
  found')
  else (
  found)) fun (j : (List (Int × (T3 Int Int Int)))) =>
  ((InB self.costs self.high) ∧ (InB (ix self.costs self.high) ahead) ∧ (j.length < 100000))))))))
def m_Walk_price (self : Wk) (gone : Int) (ahead : Int) (word : Int) : Int :=
  (minDf ((m_Walk_steps self gone ahead word).map (fun pair : Int × (T3 Int Int Int) => (pair.1 + (tdGet self.prices pair.2)))) 0)
def v_Walk_price (self : Wk) (gone : Int) (ahead : Int) (word : Int) : Prop :=
  ((v_Walk_steps self gone ahead word) ∧ ((m_Walk_steps self gone ahead word).length ≤ 100000) ∧ (∀ pair ∈ ((m_Walk_steps self gone ahead word) : List (Int × (T3 Int Int Int))), ((tdOpt pair.2 self.prices.l).isSome = true)))
def m_Walk_init_f3 (ahead : Int) (gone : Int) (s3 : Wk) (word : Int) : Wk :=
  bnd ({ s3 with prices := (tdPut s3.prices (T3.mk gone ahead word) (m_Walk_price s3 gone ahead word)) }) fun (self'' : Wk) =>
  self''
def v_Walk_init_f3 (ahead : Int) (gone : Int) (s3 : Wk) (word : Int) : Prop :=
  ((v_Walk_price s3 gone ahead word) ∧ (s3.prices.l.length < 100000))
def m_Walk_init_f2 (ahead : Int) (s2 : Wk) (gone : Int) : Wk :=
  bnd (((Tup.mk ([2, 1, 0] : List Int)).l.foldl (m_Walk_init_f3 ahead gone) s2)) fun (r3 : Wk) =>
  r3
def v_Walk_init_f2 (ahead : Int) (s2 : Wk) (gone : Int) : Prop :=
  (vFold (m_Walk_init_f3 ahead gone) (v_Walk_init_f3 ahead gone) s2 (Tup.mk ([2, 1, 0] : List Int)).l)
def m_Walk_init_f1 (s1 : Wk) (ahead : Int) : Wk :=
  bnd (((izs 0 ((s1.high + 1) : Int).toNat).reverse.foldl (m_Walk_init_f2 ahead) s1)) fun (r2 : Wk) =>
  r2
def v_Walk_init_f1 (s1 : Wk) (ahead : Int) : Prop :=
  ((-(2 ^ 62) ≤ ((s1.high + 1) : Int) ∧ ((s1.high + 1) : Int) < 2 ^ 62) ∧ (vFold (m_Walk_init_f2 ahead) (v_Walk_init_f2 ahead) s1 (izs 0 ((s1.high + 1) : Int).toNat).reverse))
def m_Walk_init (self : Unit) (one : List (List (Str × Int))) (other : List (List (Str × Int))) : Wk :=
  bnd (((one.length : Nat) : Int)) fun (high : Int) =>
  bnd ((one ++ ([(m_blank_row (((ix one 0).length : Nat) : Int) 0)] : List (List (Str × Int))))) fun (rows : List (List (Str × Int))) =>
  bnd (((⟨high, rows⟩ : Wp).rows.map (fun row : List (Str × Int) => (other.map (fun goal : List (Str × Int) => (m_worth_of_line row goal)))))) fun (costs : List (List Int)) =>
  bnd ((⟨high, rows, costs, (⟨[]⟩ : Td (T3 Int Int Int) Int)⟩ : Wk)) fun (self' : Wk) =>
  bnd (((izs 0 ((self'.high + 1) : Int).toNat).reverse.foldl (m_Walk_init_f1) self')) fun (r1 : Wk) =>
  r1
def v_Walk_init (self : Unit) (one : List (List (Str × Int))) (other : List (List (Str × Int))) : Prop :=
  (bnd (((one.length : Nat) : Int)) fun (high : Int) =>
  (((InB one 0) ∧ (v_blank_row (((ix one 0).length : Nat) : Int) 0) ∧ (one.length + ([(m_blank_row (((ix one 0).length : Nat) : Int) 0)] : List (List (Str × Int))).length ≤ 100000)) ∧ (bnd ((one ++ ([(m_blank_row (((ix one 0).length : Nat) : Int) 0)] : List (List (Str × Int))))) fun (rows : List (List (Str × Int))) =>
  ((((⟨high, rows⟩ : Wp).rows.length ≤ 100000) ∧ (∀ row ∈ ((⟨high, rows⟩ : Wp).rows : List (List (Str × Int))), ((other.length ≤ 100000) ∧ (∀ goal ∈ (other : List (List (Str × Int))), (v_worth_of_line row goal))))) ∧ (bnd (((⟨high, rows⟩ : Wp).rows.map (fun row : List (Str × Int) => (other.map (fun goal : List (Str × Int) => (m_worth_of_line row goal)))))) fun (costs : List (List Int)) =>
  (bnd ((⟨high, rows, costs, (⟨[]⟩ : Td (T3 Int Int Int) Int)⟩ : Wk)) fun (self' : Wk) =>
  ((-(2 ^ 62) ≤ ((self'.high + 1) : Int) ∧ ((self'.high + 1) : Int) < 2 ^ 62) ∧ (vFold (m_Walk_init_f1) (v_Walk_init_f1) self' (izs 0 ((self'.high + 1) : Int).toNat).reverse))))))))
def m_Walk_knots_f2 (self : Wk) (hereV : T3 Int Int Int) (s2 : (List (T3 Int Int Int))) (y2 : Int × (T3 Int Int Int)) : Out ((List (T3 Int Int Int))) ((List (T3 Int Int Int))) ((List (T3 Int Int Int))) :=
  if (decide ((y2.1 + (tdGet self.prices y2.2)) = (tdGet self.prices hereV))) then (Out.up (bnd ((s2 ++ [y2.2])) fun (found' : List (T3 Int Int Int)) =>
  .bk found' : Out Empty ((List (T3 Int Int Int))) ((List (T3 Int Int Int)))))
  else
  .nx s2
def v_Walk_knots_f2 (self : Wk) (hereV : T3 Int Int Int) (s2 : (List (T3 Int Int Int))) (y2 : Int × (T3 Int Int Int)) : Prop :=
  ((((tdOpt y2.2 self.prices.l).isSome = true) ∧ ((tdOpt hereV self.prices.l).isSome = true)) ∧ ((decide ((y2.1 + (tdGet self.prices y2.2)) = (tdGet self.prices hereV))) = true → (s2.length < 100000)))
def m_Walk_knots_k1 (self : Wk) (s1 : (List (T3 Int Int Int))) : Bool :=
  (decide ((ix s1 (-1)).b < self.high))
def m_Walk_knots_f1 (self : Wk) (s1 : (List (T3 Int Int Int))) : Out ((List (T3 Int Int Int))) ((List (T3 Int Int Int))) ((List (T3 Int Int Int))) :=
  bnd ((ix s1 (-1))) fun (hereV : T3 Int Int Int) =>
  Out.bind (runFor (m_Walk_knots_f2 self hereV) s1 (m_Walk_steps self hereV.a hereV.b hereV.c) : Out ((List (T3 Int Int Int))) ((List (T3 Int Int Int))) ((List (T3 Int Int Int)))) fun (r2 : (List (T3 Int Int Int))) =>
  .nx r2
def v_Walk_knots_f1 (self : Wk) (s1 : (List (T3 Int Int Int))) : Prop :=
  ((InB s1 (-1)) ∧ (bnd ((ix s1 (-1))) fun (hereV : T3 Int Int Int) =>
  ((v_Walk_steps self hereV.a hereV.b hereV.c) ∧ (vRun (m_Walk_knots_f2 self hereV) (v_Walk_knots_f2 self hereV) s1 (m_Walk_steps self hereV.a hereV.b hereV.c)))))
def v_Walk_knots_k1 (self : Wk) (s1 : (List (T3 Int Int Int))) : Prop :=
  (InB s1 (-1))
def m_Walk_knots (self : Wk) : (List (T3 Int Int Int)) :=
  bnd (([(T3.mk 0 0 0)] : List (T3 Int Int Int))) fun (found : List (T3 Int Int Int)) =>
  Out.thn (runWh (m_Walk_knots_k1 self) (m_Walk_knots_f1 self) 100000 found : Out ((List (T3 Int Int Int))) (Empty) ((List (T3 Int Int Int)))) fun (r1 : (List (T3 Int Int Int))) =>
  r1
def v_Walk_knots (self : Wk) : Prop :=
  (bnd (([(T3.mk 0 0 0)] : List (T3 Int Int Int))) fun (found : List (T3 Int Int Int)) =>
  (vWh (m_Walk_knots_k1 self) (m_Walk_knots_f1 self) (v_Walk_knots_k1 self) (v_Walk_knots_f1 self) 100000 found))
def m_need_alike (one : List (List (Str × Int))) (other : List (List (Str × Int))) : Unit :=
  if (!eqb (m_size_of one) (m_size_of other)) then (
  (default : Unit))
  else
  ()
def v_need_alike (one : List (List (Str × Int))) (other : List (List (Str × Int))) : Prop :=
  (((v_size_of one) ∧ (v_size_of other)) ∧ ((!eqb (m_size_of one) (m_size_of other)) = true → (False)))
def m_least_worth (one : List (List (Str × Int))) (other : List (List (Str × Int))) : Int :=
  (tdGet (m_Walk_init () one other).prices (T3.mk 0 0 0))
def v_least_worth (one : List (List (Str × Int))) (other : List (List (Str × Int))) : Prop :=
  ((v_need_alike one other) ∧ (((v_Walk_init () one other) ∧ ((tdOpt (T3.mk 0 0 0) (m_Walk_init () one other).prices.l).isSome = true))))
def m_grown (rows : List Dd) (sort : Str) (row : Int) : (List Dd) :=
  bnd (((!eqb rows ([] : List Dd)) && (decide (((ix rows (-1)).at1 + ((ix rows (-1)).at2 * (if (decide (sort = ("put" : Str))) then (1 : Int) else 0))) = row)))) fun (side : Bool) =>
  if side then (
  bnd ((stI rows (-1) (Dd.cp sort (ix rows (-1)).at1 ((ix rows (-1)).at2 + 1)))) fun (rows' : List Dd) =>
  rows')
  else (
  bnd ((rows ++ [(Dd.cp sort row 1)])) fun (rows'' : List Dd) =>
  rows'')
def v_grown (rows : List Dd) (sort : Str) (row : Int) : Prop :=
  (((PyD.dok rows) ∧ (PyD.dok ([] : List Dd)) ∧ ((!eqb rows ([] : List Dd)) = true → ((InB rows (-1)) ∧ ((ix rows (-1)).has1 = true) ∧ (InB rows (-1)) ∧ ((ix rows (-1)).has2 = true) ∧ (IntMulOk (ix rows (-1)).at2 (if (decide (sort = ("put" : Str))) then (1 : Int) else 0))))) ∧ (bnd (((!eqb rows ([] : List Dd)) && (decide (((ix rows (-1)).at1 + ((ix rows (-1)).at2 * (if (decide (sort = ("put" : Str))) then (1 : Int) else 0))) = row)))) fun (side : Bool) =>
  ((side = true → ((InB rows (-1)) ∧ ((ix rows (-1)).has1 = true) ∧ (InB rows (-1)) ∧ ((ix rows (-1)).has2 = true) ∧ (InB rows (-1)))) ∧ (side = false → (rows.length < 100000)))))
def m_least_way_f1 (other : List (List (Str × Int))) (walk : Wk) (s1 : (List Dd) × (List Dd) × (List Dd)) (y1 : (T3 Int Int Int) × (T3 Int Int Int)) : Out ((List Dd) × (List Dd) × (List Dd)) ((List Dd) × (List Dd) × (List Dd)) ((List Dd)) :=
  if (decide (y1.2.c = 1)) then (Out.up (bnd ((m_grown s1.1 ("cut" : Str) (y1.1.a - (s1.1.map (fun deed : Dd => deed.at2)).sum))) fun (u : (List Dd)) =>
  .ct (u, s1.2.1, s1.2.2) : Out Empty ((List Dd) × (List Dd) × (List Dd)) ((List Dd))))
  else
  bnd ((ix walk.rows y1.1.a)) fun (row : List (Str × Int)) =>
  bnd (if (decide (y1.2.c = 2)) then (
  bnd ((m_grown s1.2.1 ("put" : Str) y1.1.b)) fun (u' : (List Dd)) =>
  bnd ((ix walk.rows walk.high)) fun (row' : List (Str × Int)) =>
  (u', row'))
  else (
  (s1.2.1, row))) fun (j : (List Dd) × (List (Str × Int))) =>
  bnd ((s1.2.2 ++ (m_writings y1.1.b j.2 (ix other y1.1.b)))) fun (found' : List Dd) =>
  .nx (s1.1, j.1, found')
def v_least_way_f1 (other : List (List (Str × Int))) (walk : Wk) (s1 : (List Dd) × (List Dd) × (List Dd)) (y1 : (T3 Int Int Int) × (T3 Int Int Int)) : Prop :=
  (((decide (y1.2.c = 1)) = true → ((s1.1.length ≤ 100000) ∧ (∀ deed ∈ (s1.1 : List Dd), (deed.has2 = true)) ∧ (v_grown s1.1 ("cut" : Str) (y1.1.a - (s1.1.map (fun deed : Dd => deed.at2)).sum)))) ∧ ((decide (y1.2.c = 1)) = false → ((InB walk.rows y1.1.a) ∧ (bnd ((ix walk.rows y1.1.a)) fun (row : List (Str × Int)) =>
  ((((decide (y1.2.c = 2)) = true → ((v_grown s1.2.1 ("put" : Str) y1.1.b) ∧ (bnd ((m_grown s1.2.1 ("put" : Str) y1.1.b)) fun (u' : (List Dd)) =>
  (InB walk.rows walk.high))))) ∧ (bnd (if (decide (y1.2.c = 2)) then (
  bnd ((m_grown s1.2.1 ("put" : Str) y1.1.b)) fun (u' : (List Dd)) =>
  bnd ((ix walk.rows walk.high)) fun (row' : List (Str × Int)) =>
  (u', row'))
  else (
  (s1.2.1, row))) fun (j : (List Dd) × (List (Str × Int))) =>
  ((InB other y1.1.b) ∧ (v_writings y1.1.b j.2 (ix other y1.1.b)) ∧ (s1.2.2.length + (m_writings y1.1.b j.2 (ix other y1.1.b)).length ≤ 100000))))))))
def m_least_way (one : List (List (Str × Int))) (other : List (List (Str × Int))) : (List Dd) :=
  bnd ((m_Walk_init () one other)) fun (walk : Wk) =>
  bnd ((m_Walk_knots walk)) fun (knots : List (T3 Int Int Int)) =>
  bnd (([] : List Dd)) fun (cuts : List Dd) =>
  bnd (([] : List Dd)) fun (puts : List Dd) =>
  bnd (([] : List Dd)) fun (found : List Dd) =>
  Out.thn (runFor (m_least_way_f1 other walk) (cuts, puts, found) (knots.zip (cutL knots (some 1) none)) : Out ((List Dd) × (List Dd) × (List Dd)) (Empty) ((List Dd))) fun (r1 : (List Dd) × (List Dd) × (List Dd)) =>
  ((r1.1 ++ r1.2.1) ++ r1.2.2)
def v_least_way (one : List (List (Str × Int))) (other : List (List (Str × Int))) : Prop :=
  ((v_need_alike one other) ∧ (((v_Walk_init () one other) ∧ (bnd ((m_Walk_init () one other)) fun (walk : Wk) =>
  ((v_Walk_knots walk) ∧ (bnd ((m_Walk_knots walk)) fun (knots : List (T3 Int Int Int)) =>
  (bnd (([] : List Dd)) fun (cuts : List Dd) =>
  (bnd (([] : List Dd)) fun (puts : List Dd) =>
  (bnd (([] : List Dd)) fun (found : List Dd) =>
  (((vRun (m_least_way_f1 other walk) (v_least_way_f1 other walk) (cuts, puts, found) (knots.zip (cutL knots (some 1) none)))) ∧ (∀ (r1 : (List Dd) × (List Dd) × (List Dd)), (runFor (m_least_way_f1 other walk) (cuts, puts, found) (knots.zip (cutL knots (some 1) none)) : Out ((List Dd) × (List Dd) × (List Dd)) (Empty) ((List Dd))) = .nx r1 →
  ((r1.1.length + r1.2.1.length ≤ 100000) ∧ ((r1.1 ++ r1.2.1).length + r1.2.2.length ≤ 100000)))))))))))))
def m_l_cell_at (script : Scr Int) (k : Int) : Int :=
  if (decide (k < ((script.l.length : Nat) : Int))) then (
  (ix script.l k))
  else
  0
def v_l_cell_at (script : Scr Int) (k : Int) : Prop :=
  ((decide (k < ((script.l.length : Nat) : Int))) = true → (InB script.l k))
def m_l_mixed (script : Scr Int) (k : Int) : Int :=
  bnd ((((((m_l_cell_at script k) * 48271) + (7919 * k)) + 12345) % 2147483647)) fun (number : Int) =>
  ((number * (number + (69621 * k))) % 2147483629)
def v_l_mixed (script : Scr Int) (k : Int) : Prop :=
  ((v_l_cell_at script k) ∧ (bnd ((((((m_l_cell_at script k) * 48271) + (7919 * k)) + 12345) % 2147483647)) fun (number : Int) =>
  (IntMulOk number (number + (69621 * k)))))
def m_l_ink (number : Int) : Int :=
  if (decide ((number % 5) = 1)) then (
  ((number / 5) % 512))
  else
  (ix ([0, 0, 64, 3, 40, 259] : List Int) ((number / 5) % 6))
def m_l_sign (number : Int) : Str :=
  bnd ((" !\"#$&'()*+,-./0123456789:;<=>?@ABCDEFGHIJKLMNOPQRSTUVWXYZ[\\]^_`" : Str)) fun (someV : Str) =>
  bnd ((someV ++ ("abcdefghijklmnopqrstuvwxyz{|}~" : Str))) fun (someV' : Str) =>
  (ix ([(" " : Str), (ixS ("ab~ " : Str) ((number / 4) % 4)), (ixS someV' ((number / 4) % 94)), ("a" : Str)] : List Str) (number % 4))
def v_l_sign (number : Int) : Prop :=
  (bnd ((" !\"#$&'()*+,-./0123456789:;<=>?@ABCDEFGHIJKLMNOPQRSTUVWXYZ[\\]^_`" : Str)) fun (someV : Str) =>
  ((someV.length + ("abcdefghijklmnopqrstuvwxyz{|}~" : Str).length ≤ sizeLine) ∧ (bnd ((someV ++ ("abcdefghijklmnopqrstuvwxyz{|}~" : Str))) fun (someV' : Str) =>
  ((InB someV'.cps.toList ((number / 4) % 94)) ∧ (someV'.length ≤ 100000)))))
def m_l_row_f1 (s1 : Int × Int × (List (Str × Int))) (place : Int) : Int × Int × (List (Str × Int)) :=
  bnd ((((s1.1 * 16807) % 998244353) + place)) fun (number' : Int) =>
  bnd (if (decide ((number' % 4) = 1)) then (
  bnd ((m_l_ink (number' / 4))) fun (ink_here' : Int) =>
  ink_here')
  else (
  s1.2.1)) fun (j : Int) =>
  bnd ((s1.2.2 ++ [((m_l_sign (number' / 32)), j)])) fun (row_here' : List (Str × Int)) =>
  (number', j, row_here')
def v_l_row_f1 (s1 : Int × Int × (List (Str × Int))) (place : Int) : Prop :=
  (bnd ((((s1.1 * 16807) % 998244353) + place)) fun (number' : Int) =>
  (bnd (if (decide ((number' % 4) = 1)) then (
  bnd ((m_l_ink (number' / 4))) fun (ink_here' : Int) =>
  ink_here')
  else (
  s1.2.1)) fun (j : Int) =>
  ((v_l_sign (number' / 32)) ∧ (s1.2.2.length < 100000))))
def m_l_row (number : Int) (wide : Int) : (List (Str × Int)) :=
  bnd (([] : List (Str × Int))) fun (row_here : List (Str × Int)) =>
  bnd ((m_l_ink number)) fun (ink_here : Int) =>
  bnd (((izs 0 (wide : Int).toNat).foldl (m_l_row_f1) (number, ink_here, row_here))) fun (r1 : Int × Int × (List (Str × Int))) =>
  r1.2.2
def v_l_row (number : Int) (wide : Int) : Prop :=
  (bnd (([] : List (Str × Int))) fun (row_here : List (Str × Int)) =>
  (bnd ((m_l_ink number)) fun (ink_here : Int) =>
  ((-(2 ^ 62) ≤ (wide : Int) ∧ (wide : Int) < 2 ^ 62) ∧ (vFold (m_l_row_f1) (v_l_row_f1) (number, ink_here, row_here) (izs 0 (wide : Int).toNat)))))
def m_l_turned_f1 (script : Scr Int) (wide : Int) (s1 : (List (List (Str × Int)))) (k : Int) : (List (List (Str × Int))) :=
  bnd ((m_l_mixed script k)) fun (number : Int) =>
  bnd (((number / 16) % ((s1.length : Nat) : Int))) fun (atV : Int) =>
  bnd (if (decide ((number % 16) < 4)) then (
  bnd (((number / 192) % wide)) fun (place : Int) =>
  bnd ((ix ([(ix (ix s1 atV) place).2, (m_l_ink (number / 7))] : List Int) ((number / 3) % 2))) fun (ink_here : Int) =>
  bnd ((stI s1 atV (stI (ix s1 atV) place ((m_l_sign (number / 4608)), ink_here)))) fun (rows' : List (List (Str × Int))) =>
  rows')
  else (
  bnd (if (decide ((number % 16) = 4)) then (
  bnd ((delI s1 atV)) fun (rows'' : List (List (Str × Int))) =>
  bnd ((rows'' ++ [(List.replicate (wide : Int).toNat ([((" " : Str), 0)] : List (Str × Int))).flatten])) fun (rows''' : List (List (Str × Int))) =>
  rows''')
  else (
  bnd (if (decide ((number % 16) = 5)) then (
  bnd ((insI s1 atV (m_l_row (number / 192) wide))) fun (rows_4 : List (List (Str × Int))) =>
  bnd ((rows_4.dropLast)) fun (rows_5 : List (List (Str × Int))) =>
  rows_5)
  else (
  bnd (if (decide ((number % 16) = 6)) then (
  bnd ((stI s1 atV (m_l_row (number / 192) wide))) fun (rows_6 : List (List (Str × Int))) =>
  rows_6)
  else (
  s1)) fun (j''' : (List (List (Str × Int)))) =>
  j''')) fun (j'' : (List (List (Str × Int)))) =>
  j'')) fun (j' : (List (List (Str × Int)))) =>
  j')) fun (j : (List (List (Str × Int)))) =>
  j
def v_l_turned_f1 (script : Scr Int) (wide : Int) (s1 : (List (List (Str × Int)))) (k : Int) : Prop :=
  ((v_l_mixed script k) ∧ (bnd ((m_l_mixed script k)) fun (number : Int) =>
  ((0 < ((s1.length : Nat) : Int)) ∧ (bnd (((number / 16) % ((s1.length : Nat) : Int))) fun (atV : Int) =>
  (((decide ((number % 16) < 4)) = true → ((0 < wide) ∧ (bnd (((number / 192) % wide)) fun (place : Int) =>
  (((InB s1 atV) ∧ (InB (ix s1 atV) place)) ∧ (bnd ((ix ([(ix (ix s1 atV) place).2, (m_l_ink (number / 7))] : List Int) ((number / 3) % 2))) fun (ink_here : Int) =>
  ((v_l_sign (number / 4608)) ∧ (InB s1 atV) ∧ (InB (ix s1 atV) place))))))) ∧ ((decide ((number % 16) < 4)) = false → (((decide ((number % 16) = 4)) = true → (((0 ≤ (atV : Int) ∧ (atV : Int) < 2 ^ 63) ∧ ((atV : Int).toNat < s1.length)) ∧ (bnd ((delI s1 atV)) fun (rows'' : List (List (Str × Int))) =>
  ((wide ≤ 100000 ∧ ([((" " : Str), 0)] : List (Str × Int)).length * (wide : Int).toNat ≤ 100000) ∧ (-100000 ≤ wide) ∧ (rows''.length < 100000))))) ∧ ((decide ((number % 16) = 4)) = false → (((decide ((number % 16) = 5)) = true → (((v_l_row (number / 192) wide) ∧ (0 ≤ atV ∧ atV < 2 ^ 63) ∧ (s1.length < 100000)) ∧ (bnd ((insI s1 atV (m_l_row (number / 192) wide))) fun (rows_4 : List (List (Str × Int))) =>
  (0 < rows_4.length)))) ∧ ((decide ((number % 16) = 5)) = false → ((decide ((number % 16) = 6)) = true → ((v_l_row (number / 192) wide) ∧ (InB s1 atV)))))))))))))
def m_l_turned (script : Scr Int) (first : Int) (picture_here : List (List (Str × Int))) : (List (List (Str × Int))) :=
  bnd ((((ix picture_here 0).length : Nat) : Int)) fun (wide : Int) =>
  bnd ((picture_here.map (fun row_here : List (Str × Int) => row_here))) fun (rows : List (List (Str × Int))) =>
  bnd (((izs first ((min 63 ((script.l.length : Nat) : Int)) - first).toNat).foldl (m_l_turned_f1 script wide) rows)) fun (r1 : (List (List (Str × Int)))) =>
  r1
def v_l_turned (script : Scr Int) (first : Int) (picture_here : List (List (Str × Int))) : Prop :=
  ((InB picture_here 0) ∧ (bnd ((((ix picture_here 0).length : Nat) : Int)) fun (wide : Int) =>
  ((picture_here.length ≤ 100000) ∧ (bnd ((picture_here.map (fun row_here : List (Str × Int) => row_here))) fun (rows : List (List (Str × Int))) =>
  ((-(2 ^ 62) ≤ (first : Int) ∧ (first : Int) < 2 ^ 62 ∧ -(2 ^ 62) ≤ ((min 63 ((script.l.length : Nat) : Int)) : Int) ∧ ((min 63 ((script.l.length : Nat) : Int)) : Int) < 2 ^ 62) ∧ (vFold (m_l_turned_f1 script wide) (v_l_turned_f1 script wide) rows (izs first ((min 63 ((script.l.length : Nat) : Int)) - first).toNat)))))))
def m_l_copied (picture_here : List (List (Str × Int))) : (List (List (Str × Int))) :=
  (picture_here.map (fun row_here : List (Str × Int) => row_here))
def v_l_copied (picture_here : List (List (Str × Int))) : Prop :=
  (picture_here.length ≤ 100000)
def m_l_cut (picture_here : List (List (Str × Int))) (row_here : Int) (many : Int) : (List (List (Str × Int))) :=
  bnd ((((ix picture_here 0).length : Nat) : Int)) fun (wide : Int) =>
  bnd (((cutL picture_here none (some row_here)) ++ (cutL picture_here (some (row_here + many)) none))) fun (rows : List (List (Str × Int))) =>
  (rows ++ ((izs 0 (many : Int).toNat).map (fun turn' : Int => (List.replicate (wide : Int).toNat ([((" " : Str), 0)] : List (Str × Int))).flatten)))
def v_l_cut (picture_here : List (List (Str × Int))) (row_here : Int) (many : Int) : Prop :=
  ((InB picture_here 0) ∧ (bnd ((((ix picture_here 0).length : Nat) : Int)) fun (wide : Int) =>
  (((cutL picture_here none (some row_here)).length + (cutL picture_here (some (row_here + many)) none).length ≤ 100000) ∧ (bnd (((cutL picture_here none (some row_here)) ++ (cutL picture_here (some (row_here + many)) none))) fun (rows : List (List (Str × Int))) =>
  ((-(2 ^ 62) ≤ (many : Int) ∧ (many : Int) < 2 ^ 62) ∧ ((izs 0 (many : Int).toNat).length ≤ 100000) ∧ (∀ turn' ∈ ((izs 0 (many : Int).toNat) : List Int), ((wide ≤ 100000 ∧ ([((" " : Str), 0)] : List (Str × Int)).length * (wide : Int).toNat ≤ 100000) ∧ (-100000 ≤ wide))) ∧ (rows.length + ((izs 0 (many : Int).toNat).map (fun turn' : Int => (List.replicate (wide : Int).toNat ([((" " : Str), 0)] : List (Str × Int))).flatten)).length ≤ 100000))))))
def m_l_put (picture_here : List (List (Str × Int))) (row_here : Int) (many : Int) : (List (List (Str × Int))) :=
  bnd ((((ix picture_here 0).length : Nat) : Int)) fun (wide : Int) =>
  bnd (((izs 0 (many : Int).toNat).map (fun turn : Int => (List.replicate (wide : Int).toNat ([((" " : Str), 0)] : List (Str × Int))).flatten))) fun (fresh : List (List (Str × Int))) =>
  (cutL (((cutL picture_here none (some row_here)) ++ fresh) ++ (cutL picture_here (some row_here) none)) none (some ((picture_here.length : Nat) : Int)))
def v_l_put (picture_here : List (List (Str × Int))) (row_here : Int) (many : Int) : Prop :=
  ((InB picture_here 0) ∧ (bnd ((((ix picture_here 0).length : Nat) : Int)) fun (wide : Int) =>
  (((-(2 ^ 62) ≤ (many : Int) ∧ (many : Int) < 2 ^ 62) ∧ ((izs 0 (many : Int).toNat).length ≤ 100000) ∧ (∀ turn ∈ ((izs 0 (many : Int).toNat) : List Int), ((wide ≤ 100000 ∧ ([((" " : Str), 0)] : List (Str × Int)).length * (wide : Int).toNat ≤ 100000) ∧ (-100000 ≤ wide)))) ∧ (bnd (((izs 0 (many : Int).toNat).map (fun turn : Int => (List.replicate (wide : Int).toNat ([((" " : Str), 0)] : List (Str × Int))).flatten))) fun (fresh : List (List (Str × Int))) =>
  (((cutL picture_here none (some row_here)).length + fresh.length ≤ 100000) ∧ (((cutL picture_here none (some row_here)) ++ fresh).length + (cutL picture_here (some row_here) none).length ≤ 100000))))))
def m_l_deed_f1 (deed_here : Dd) (s1 : (List (List (Str × Int)))) (y1 : Int × Str) : (List (List (Str × Int))) :=
  bnd ((stI s1 deed_here.at1 (stI (ix s1 deed_here.at1) (deed_here.at2 + y1.1) (y1.2, deed_here.at4)))) fun (rows' : List (List (Str × Int))) =>
  rows'
def v_l_deed_f1 (deed_here : Dd) (s1 : (List (List (Str × Int)))) (y1 : Int × Str) : Prop :=
  ((deed_here.has4 = true) ∧ (deed_here.has1 = true) ∧ (InB s1 deed_here.at1) ∧ (deed_here.has2 = true) ∧ (InB (ix s1 deed_here.at1) (deed_here.at2 + y1.1)))
def m_l_deed (picture_here : List (List (Str × Int))) (deed_here : Dd) : (List (List (Str × Int))) :=
  bnd ((m_l_copied picture_here)) fun (rows : List (List (Str × Int))) =>
  if (decide (deed_here.tag = ("cut" : Str))) then (
  (m_l_cut rows deed_here.at1 deed_here.at2))
  else
  if (decide (deed_here.tag = ("put" : Str))) then (
  (m_l_put rows deed_here.at1 deed_here.at2))
  else
  bnd (((enumL (signsL deed_here.at3)).foldl (m_l_deed_f1 deed_here) rows)) fun (r1 : (List (List (Str × Int)))) =>
  r1
def v_l_deed (picture_here : List (List (Str × Int))) (deed_here : Dd) : Prop :=
  ((v_l_copied picture_here) ∧ (bnd ((m_l_copied picture_here)) fun (rows : List (List (Str × Int))) =>
  (((decide (deed_here.tag = ("cut" : Str))) = true → ((deed_here.has1 = true) ∧ (deed_here.has2 = true) ∧ (v_l_cut rows deed_here.at1 deed_here.at2))) ∧ ((decide (deed_here.tag = ("cut" : Str))) = false → (((decide (deed_here.tag = ("put" : Str))) = true → ((deed_here.has1 = true) ∧ (deed_here.has2 = true) ∧ (v_l_put rows deed_here.at1 deed_here.at2))) ∧ ((decide (deed_here.tag = ("put" : Str))) = false → ((deed_here.has3 = true) ∧ (vFold (m_l_deed_f1 deed_here) (v_l_deed_f1 deed_here) rows (enumL (signsL deed_here.at3))))))))))
def m_l_whole (found : Int) : Bool :=
  (true && (!false))
def m_l_formed_f1 (wide : Int) (high : Int) (s1 : Int × (List (Int × Int)) × Int) (deed_here : Dd) : Out (Int × (List (Int × Int)) × Int) (Int × (List (Int × Int)) × Int) (Bool) :=
  if ((!true) || (false || (!inL deed_here.tag ([("cut" : Str), ("put" : Str), ("write" : Str)] : List Str)))) then (.rt false)
  else
  bnd ((idxS ([("cut" : Str), ("put" : Str), ("write" : Str)] : List Str) deed_here.tag)) fun (sort : Int) =>
  bnd ((ix ([s1.1, (-1)] : List Int) (if (decide (sort > s1.2.2)) then (1 : Int) else 0))) fun (row_here' : Int) =>
  if ((decide (sort < s1.2.2)) || ((!(m_l_whole deed_here.at1)) || (!(m_l_whole deed_here.at2)))) then (.rt false)
  else
  if (!(decide (0 ≤ deed_here.at1) && decide (deed_here.at1 < high))) then (.rt false)
  else
  if ((decide (sort < 2)) && ((decide (deed_here.at2 < 1)) || (decide ((deed_here.at1 + deed_here.at2) > high)))) then (.rt false)
  else
  if ((decide (sort < 2)) && (decide (deed_here.at1 < (row_here' + sort)))) then (.rt false)
  else
  Out.bind (if (decide (sort = 2)) then (
  bnd (deed_here.at3) fun (text : Str) =>
  if ((!true) || ((decide (text = ("" : Str))) || (!(m_l_whole deed_here.at4)))) then (.rt false)
  else
  if ((decide (deed_here.at2 < 0)) || (decide ((deed_here.at2 + ((text.length : Nat) : Int)) > wide))) then (.rt false)
  else
  bnd ((s1.2.1 ++ ((izs 0 (((text.length : Nat) : Int) : Int).toNat).map (fun k : Int => (deed_here.at1, (deed_here.at2 + k)))))) fun (met' : List (Int × Int)) =>
  .nx met')
  else (
  .nx s1.2.1) : Out ((List (Int × Int))) (Int × (List (Int × Int)) × Int) (Bool)) fun (j : (List (Int × Int))) =>
  bnd ((max row_here' deed_here.at1)) fun (row_here'' : Int) =>
  bnd (sort) fun (last' : Int) =>
  .nx (row_here'', j, last')
def v_l_formed_f1 (wide : Int) (high : Int) (s1 : Int × (List (Int × Int)) × Int) (deed_here : Dd) : Prop :=
  (((!true) = false → (PyD.dok deed_here)) ∧ (((!true) || (false || (!inL deed_here.tag ([("cut" : Str), ("put" : Str), ("write" : Str)] : List Str)))) = false → ((deed_here.tag ∈ ([("cut" : Str), ("put" : Str), ("write" : Str)] : List Str)) ∧ (bnd ((idxS ([("cut" : Str), ("put" : Str), ("write" : Str)] : List Str) deed_here.tag)) fun (sort : Int) =>
  ((InB ([s1.1, (-1)] : List Int) (if (decide (sort > s1.2.2)) then (1 : Int) else 0)) ∧ (bnd ((ix ([s1.1, (-1)] : List Int) (if (decide (sort > s1.2.2)) then (1 : Int) else 0))) fun (row_here' : Int) =>
  (((decide (sort < s1.2.2)) = false → ((deed_here.has1 = true) ∧ ((!(m_l_whole deed_here.at1)) = false → (deed_here.has2 = true)))) ∧ (((decide (sort < s1.2.2)) || ((!(m_l_whole deed_here.at1)) || (!(m_l_whole deed_here.at2)))) = false → ((deed_here.has1 = true) ∧ ((!(decide (0 ≤ deed_here.at1) && decide (deed_here.at1 < high))) = false → (((decide (sort < 2)) = true → ((deed_here.has2 = true) ∧ ((decide (deed_here.at2 < 1)) = false → ((deed_here.has1 = true) ∧ (deed_here.has2 = true))))) ∧ (((decide (sort < 2)) && ((decide (deed_here.at2 < 1)) || (decide ((deed_here.at1 + deed_here.at2) > high)))) = false → (((decide (sort < 2)) = true → (deed_here.has1 = true)) ∧ (((decide (sort < 2)) && (decide (deed_here.at1 < (row_here' + sort)))) = false → ((((decide (sort = 2)) = true → ((deed_here.has3 = true) ∧ (bnd (deed_here.at3) fun (text : Str) =>
  (((!true) = false → ((decide (text = ("" : Str))) = false → (deed_here.has4 = true))) ∧ (((!true) || ((decide (text = ("" : Str))) || (!(m_l_whole deed_here.at4)))) = false → (((deed_here.has2 = true) ∧ ((decide (deed_here.at2 < 0)) = false → ((deed_here.has2 = true) ∧ (text.length ≤ sizeLine)))) ∧ (((decide (deed_here.at2 < 0)) || (decide ((deed_here.at2 + ((text.length : Nat) : Int)) > wide))) = false → ((text.length ≤ sizeLine) ∧ (-(2 ^ 62) ≤ (((text.length : Nat) : Int) : Int) ∧ (((text.length : Nat) : Int) : Int) < 2 ^ 62) ∧ ((izs 0 (((text.length : Nat) : Int) : Int).toNat).length ≤ 100000) ∧ (∀ k ∈ ((izs 0 (((text.length : Nat) : Int) : Int).toNat) : List Int), ((deed_here.has1 = true) ∧ (deed_here.has2 = true))) ∧ (s1.2.1.length + ((izs 0 (((text.length : Nat) : Int) : Int).toNat).map (fun k : Int => (deed_here.at1, (deed_here.at2 + k)))).length ≤ 100000)))))))))) ∧ (∀ (j : (List (Int × Int))), (if (decide (sort = 2)) then (
  bnd (deed_here.at3) fun (text : Str) =>
  if ((!true) || ((decide (text = ("" : Str))) || (!(m_l_whole deed_here.at4)))) then (.rt false)
  else
  if ((decide (deed_here.at2 < 0)) || (decide ((deed_here.at2 + ((text.length : Nat) : Int)) > wide))) then (.rt false)
  else
  bnd ((s1.2.1 ++ ((izs 0 (((text.length : Nat) : Int) : Int).toNat).map (fun k : Int => (deed_here.at1, (deed_here.at2 + k)))))) fun (met' : List (Int × Int)) =>
  .nx met')
  else (
  .nx s1.2.1) : Out ((List (Int × Int))) (Int × (List (Int × Int)) × Int) (Bool)) = .nx j →
  (deed_here.has1 = true)))))))))))))))))
def m_l_formed (way : List Dd) (wide : Int) (high : Int) : Bool :=
  if (!true) then (
  false)
  else
  bnd (0) fun (last : Int) =>
  bnd ((-1)) fun (row_here : Int) =>
  bnd (([] : List (Int × Int))) fun (met : List (Int × Int)) =>
  Out.thn (runFor (m_l_formed_f1 wide high) (row_here, met, last) way : Out (Int × (List (Int × Int)) × Int) (Empty) (Bool)) fun (r1 : Int × (List (Int × Int)) × Int) =>
  (decide (((r1.2.1.length : Nat) : Int) = ((r1.2.1.length : Nat) : Int)))
def v_l_formed (way : List Dd) (wide : Int) (high : Int) : Prop :=
  ((!true) = false → (bnd (0) fun (last : Int) =>
  (bnd ((-1)) fun (row_here : Int) =>
  (bnd (([] : List (Int × Int))) fun (met : List (Int × Int)) =>
  (((vRun (m_l_formed_f1 wide high) (v_l_formed_f1 wide high) (row_here, met, last) way)) ∧ (∀ (r1 : Int × (List (Int × Int)) × Int), (runFor (m_l_formed_f1 wide high) (row_here, met, last) way : Out (Int × (List (Int × Int)) × Int) (Empty) (Bool)) = .nx r1 →
  (r1.2.1.Nodup ∧ r1.2.1.length < 64)))))))
def m_l_cost_f1 (one : List (Str × Int)) (other : List (Str × Int)) (s1 : Int × Bool) (k : Int) : Int × Bool :=
  bnd (if ((decide (k > 0)) && (!decide ((ix other k).2 = (ix other (k - 1)).2))) then (
  bnd ((s1.1 + (if s1.2 then (1 : Int) else 0))) fun (found' : Int) =>
  bnd (false) fun (unlike' : Bool) =>
  (found', unlike'))
  else (
  (s1.1, s1.2))) fun (j : Int × Bool) =>
  bnd ((j.2 || (!eqb (ix one k) (ix other k)))) fun (unlike'' : Bool) =>
  (j.1, unlike'')
def v_l_cost_f1 (one : List (Str × Int)) (other : List (Str × Int)) (s1 : Int × Bool) (k : Int) : Prop :=
  ((((decide (k > 0)) = true → ((InB other k) ∧ (InB other (k - 1))))) ∧ (bnd (if ((decide (k > 0)) && (!decide ((ix other k).2 = (ix other (k - 1)).2))) then (
  bnd ((s1.1 + (if s1.2 then (1 : Int) else 0))) fun (found' : Int) =>
  bnd (false) fun (unlike' : Bool) =>
  (found', unlike'))
  else (
  (s1.1, s1.2))) fun (j : Int × Bool) =>
  (j.2 = false → ((InB one k) ∧ (InB other k) ∧ (PyD.dok (ix one k)) ∧ (PyD.dok (ix other k))))))
def m_l_cost (one : List (Str × Int)) (other : List (Str × Int)) : Int :=
  bnd (0) fun (found : Int) =>
  bnd (false) fun (unlike : Bool) =>
  bnd (((izs 0 (((other.length : Nat) : Int) : Int).toNat).foldl (m_l_cost_f1 one other) (found, unlike))) fun (r1 : Int × Bool) =>
  (r1.1 + (if r1.2 then (1 : Int) else 0))
def v_l_cost (one : List (Str × Int)) (other : List (Str × Int)) : Prop :=
  (bnd (0) fun (found : Int) =>
  (bnd (false) fun (unlike : Bool) =>
  ((-(2 ^ 62) ≤ (((other.length : Nat) : Int) : Int) ∧ (((other.length : Nat) : Int) : Int) < 2 ^ 62) ∧ (vFold (m_l_cost_f1 one other) (v_l_cost_f1 one other) (found, unlike) (izs 0 (((other.length : Nat) : Int) : Int).toNat)))))
def m_l_small_f2 (number : Int) (s2 : (List (Str × Int))) (place : Int) : (List (Str × Int)) :=
  bnd ((s2 ++ [((ixS ("abc de" : Str) ((number / (5 + (9 * place))) % 6)), (ix ([0, 0, 64] : List Int) ((number / (45 + (9 * place))) % 3)))])) fun (row_here' : List (Str × Int)) =>
  row_here'
def v_l_small_f2 (number : Int) (s2 : (List (Str × Int))) (place : Int) : Prop :=
  ((CDiv number (5 + (9 * place))) ∧ (CDiv number (45 + (9 * place))) ∧ (s2.length < 100000))
def m_l_small_f1 (script : Scr Int) (first : Int) (wide : Int) (s1 : (List (List (Str × Int)))) (k : Int) : (List (List (Str × Int))) :=
  bnd ((m_l_mixed script (first + k))) fun (number : Int) =>
  bnd (([] : List (Str × Int))) fun (row_here : List (Str × Int)) =>
  bnd (((izs 0 (wide : Int).toNat).foldl (m_l_small_f2 number) row_here)) fun (r2 : (List (Str × Int))) =>
  bnd ((s1 ++ [r2])) fun (rows' : List (List (Str × Int))) =>
  rows'
def v_l_small_f1 (script : Scr Int) (first : Int) (wide : Int) (s1 : (List (List (Str × Int)))) (k : Int) : Prop :=
  ((v_l_mixed script (first + k)) ∧ (bnd ((m_l_mixed script (first + k))) fun (number : Int) =>
  (bnd (([] : List (Str × Int))) fun (row_here : List (Str × Int)) =>
  ((((-(2 ^ 62) ≤ (wide : Int) ∧ (wide : Int) < 2 ^ 62) ∧ (vFold (m_l_small_f2 number) (v_l_small_f2 number) row_here (izs 0 (wide : Int).toNat)))) ∧ (bnd (((izs 0 (wide : Int).toNat).foldl (m_l_small_f2 number) row_here)) fun (r2 : (List (Str × Int))) =>
  (s1.length < 100000))))))
def m_l_small (script : Scr Int) (first : Int) (wide : Int) (high : Int) : (List (List (Str × Int))) :=
  bnd (([] : List (List (Str × Int)))) fun (rows : List (List (Str × Int))) =>
  bnd (((izs 0 (high : Int).toNat).foldl (m_l_small_f1 script first wide) rows)) fun (r1 : (List (List (Str × Int)))) =>
  r1
def v_l_small (script : Scr Int) (first : Int) (wide : Int) (high : Int) : Prop :=
  (bnd (([] : List (List (Str × Int)))) fun (rows : List (List (Str × Int))) =>
  ((-(2 ^ 62) ≤ (high : Int) ∧ (high : Int) < 2 ^ 62) ∧ (vFold (m_l_small_f1 script first wide) (v_l_small_f1 script first wide) rows (izs 0 (high : Int).toNat))))
def m_l_rows_of_deeds_f4 (word : Str) (deeds : List Dd) (row_here : Int) (s4 : (List (List Dd))) (many : Int) : (List (List Dd)) :=
  bnd ((s4 ++ [(deeds ++ ([(Dd.cp word row_here many)] : List Dd))])) fun (more' : List (List Dd)) =>
  more'
def v_l_rows_of_deeds_f4 (word : Str) (deeds : List Dd) (row_here : Int) (s4 : (List (List Dd))) (many : Int) : Prop :=
  ((deeds.length + ([(Dd.cp word row_here many)] : List Dd).length ≤ 100000) ∧ (s4.length < 100000))
def m_l_rows_of_deeds_f3 (word : Str) (high : Int) (deeds : List Dd) (s3 : (List (List Dd))) (row_here : Int) : (List (List Dd)) :=
  bnd (((izs 1 (((high - row_here) + 1) - 1).toNat).foldl (m_l_rows_of_deeds_f4 word deeds row_here) s3)) fun (r4 : (List (List Dd))) =>
  r4
def v_l_rows_of_deeds_f3 (word : Str) (high : Int) (deeds : List Dd) (s3 : (List (List Dd))) (row_here : Int) : Prop :=
  ((-(2 ^ 62) ≤ (1 : Int) ∧ (1 : Int) < 2 ^ 62 ∧ -(2 ^ 62) ≤ (((high - row_here) + 1) : Int) ∧ (((high - row_here) + 1) : Int) < 2 ^ 62) ∧ (vFold (m_l_rows_of_deeds_f4 word deeds row_here) (v_l_rows_of_deeds_f4 word deeds row_here) s3 (izs 1 (((high - row_here) + 1) - 1).toNat)))
def m_l_rows_of_deeds_f2 (word : Str) (high : Int) (s2 : (List (List Dd))) (deeds : List Dd) : (List (List Dd)) :=
  bnd (0) fun (first : Int) =>
  bnd (if (!eqb deeds ([] : List Dd)) then (
  bnd (((ix deeds (-1)).at1 + (if (decide (word = ("put" : Str))) then (1 : Int) else 0))) fun (first' : Int) =>
  first')
  else (
  first)) fun (j : Int) =>
  bnd (((izs j (high - j).toNat).foldl (m_l_rows_of_deeds_f3 word high deeds) s2)) fun (r3 : (List (List Dd))) =>
  r3
def v_l_rows_of_deeds_f2 (word : Str) (high : Int) (s2 : (List (List Dd))) (deeds : List Dd) : Prop :=
  (bnd (0) fun (first : Int) =>
  (((((PyD.dok deeds) ∧ (PyD.dok ([] : List Dd))) ∧ ((!eqb deeds ([] : List Dd)) = true → ((InB deeds (-1)) ∧ ((ix deeds (-1)).has1 = true))))) ∧ (bnd (if (!eqb deeds ([] : List Dd)) then (
  bnd (((ix deeds (-1)).at1 + (if (decide (word = ("put" : Str))) then (1 : Int) else 0))) fun (first' : Int) =>
  first')
  else (
  first)) fun (j : Int) =>
  ((-(2 ^ 62) ≤ (j : Int) ∧ (j : Int) < 2 ^ 62 ∧ -(2 ^ 62) ≤ (high : Int) ∧ (high : Int) < 2 ^ 62) ∧ (vFold (m_l_rows_of_deeds_f3 word high deeds) (v_l_rows_of_deeds_f3 word high deeds) s2 (izs j (high - j).toNat))))))
def m_l_rows_of_deeds_f1 (word : Str) (high : Int) (s1 : (List (List Dd)) × (List (List Dd))) (turn : Int) : (List (List Dd)) × (List (List Dd)) :=
  bnd (([] : List (List Dd))) fun (more : List (List Dd)) =>
  bnd ((s1.1.foldl (m_l_rows_of_deeds_f2 word high) more)) fun (r2 : (List (List Dd))) =>
  bnd (r2) fun (longest' : List (List Dd)) =>
  bnd ((s1.2 ++ r2)) fun (found' : List (List Dd)) =>
  (longest', found')
def v_l_rows_of_deeds_f1 (word : Str) (high : Int) (s1 : (List (List Dd)) × (List (List Dd))) (turn : Int) : Prop :=
  (bnd (([] : List (List Dd))) fun (more : List (List Dd)) =>
  (((vFold (m_l_rows_of_deeds_f2 word high) (v_l_rows_of_deeds_f2 word high) more s1.1)) ∧ (bnd ((s1.1.foldl (m_l_rows_of_deeds_f2 word high) more)) fun (r2 : (List (List Dd))) =>
  (bnd (r2) fun (longest' : List (List Dd)) =>
  (s1.2.length + r2.length ≤ 100000)))))
def m_l_rows_of_deeds (word : Str) (high : Int) : (List (List Dd)) :=
  bnd (([([] : List Dd)] : List (List Dd))) fun (found : List (List Dd)) =>
  bnd (([([] : List Dd)] : List (List Dd))) fun (longest : List (List Dd)) =>
  bnd (((izs 0 (high : Int).toNat).foldl (m_l_rows_of_deeds_f1 word high) (longest, found))) fun (r1 : (List (List Dd)) × (List (List Dd))) =>
  r1.2
def v_l_rows_of_deeds (word : Str) (high : Int) : Prop :=
  (bnd (([([] : List Dd)] : List (List Dd))) fun (found : List (List Dd)) =>
  (bnd (([([] : List Dd)] : List (List Dd))) fun (longest : List (List Dd)) =>
  ((-(2 ^ 62) ≤ (high : Int) ∧ (high : Int) < 2 ^ 62) ∧ (vFold (m_l_rows_of_deeds_f1 word high) (v_l_rows_of_deeds_f1 word high) (longest, found) (izs 0 (high : Int).toNat)))))
def m_l_behind_f1 (s1 : (List (List (Str × Int)))) (deed_here : Dd) : (List (List (Str × Int))) :=
  bnd ((m_l_deed s1 deed_here)) fun (picture_here' : List (List (Str × Int))) =>
  picture_here'
def v_l_behind_f1 (s1 : (List (List (Str × Int)))) (deed_here : Dd) : Prop :=
  (v_l_deed s1 deed_here)
def m_l_behind (picture_here : List (List (Str × Int))) (deeds : List Dd) : (List (List (Str × Int))) :=
  bnd ((deeds.foldl (m_l_behind_f1) picture_here)) fun (r1 : (List (List (Str × Int)))) =>
  r1
def v_l_behind (picture_here : List (List (Str × Int))) (deeds : List Dd) : Prop :=
  (vFold (m_l_behind_f1) (v_l_behind_f1) picture_here deeds)
def m_l_least_f3 (s3 : Int) (y3 : (List (Str × Int)) × (List (Str × Int))) : Int :=
  bnd ((s3 + (m_l_cost y3.1 y3.2))) fun (cost_here' : Int) =>
  cost_here'
def v_l_least_f3 (s3 : Int) (y3 : (List (Str × Int)) × (List (Str × Int))) : Prop :=
  (v_l_cost y3.1 y3.2)
def m_l_least_f2 (other : List (List (Str × Int))) (cuts : List Dd) (between : List (List (Str × Int))) (s2 : (Option Int)) (deeds : List Dd) : (Option Int) :=
  bnd (if (s2.isNone || (decide ((((cuts.length : Nat) : Int) + ((deeds.length : Nat) : Int)) < (s2.getD default)))) then (
  bnd ((m_l_behind between deeds)) fun (last : List (List (Str × Int))) =>
  bnd ((((cuts.length : Nat) : Int) + ((deeds.length : Nat) : Int))) fun (cost_here : Int) =>
  bnd (((last.zip other).foldl (m_l_least_f3) cost_here)) fun (r3 : Int) =>
  bnd (if (s2.isNone || (decide (r3 < (s2.getD default)))) then (
  bnd ((some r3)) fun (best' : Option Int) =>
  best')
  else (
  s2)) fun (j' : (Option Int)) =>
  j')
  else (
  s2)) fun (j : (Option Int)) =>
  j
def v_l_least_f2 (other : List (List (Str × Int))) (cuts : List Dd) (between : List (List (Str × Int))) (s2 : (Option Int)) (deeds : List Dd) : Prop :=
  ((s2.isNone = false → (s2.isSome = true)) ∧ ((s2.isNone || (decide ((((cuts.length : Nat) : Int) + ((deeds.length : Nat) : Int)) < (s2.getD default)))) = true → ((v_l_behind between deeds) ∧ (bnd ((m_l_behind between deeds)) fun (last : List (List (Str × Int))) =>
  (bnd ((((cuts.length : Nat) : Int) + ((deeds.length : Nat) : Int))) fun (cost_here : Int) =>
  (((vFold (m_l_least_f3) (v_l_least_f3) cost_here (last.zip other))) ∧ (bnd (((last.zip other).foldl (m_l_least_f3) cost_here)) fun (r3 : Int) =>
  (s2.isNone = false → (s2.isSome = true)))))))))
def m_l_least_f1 (one : List (List (Str × Int))) (other : List (List (Str × Int))) (puts : List (List Dd)) (s1 : (Option Int)) (cuts : List Dd) : Out ((Option Int)) ((Option Int)) ((Option Int)) :=
  if (s1.isSome && (decide (((cuts.length : Nat) : Int) ≥ (s1.getD default)))) then (.ct s1)
  else
  bnd ((m_l_behind one cuts)) fun (between : List (List (Str × Int))) =>
  bnd ((puts.foldl (m_l_least_f2 other cuts between) s1)) fun (r2 : (Option Int)) =>
  .nx r2
def v_l_least_f1 (one : List (List (Str × Int))) (other : List (List (Str × Int))) (puts : List (List Dd)) (s1 : (Option Int)) (cuts : List Dd) : Prop :=
  ((s1.isSome = true → (s1.isSome = true)) ∧ ((s1.isSome && (decide (((cuts.length : Nat) : Int) ≥ (s1.getD default)))) = false → ((v_l_behind one cuts) ∧ (bnd ((m_l_behind one cuts)) fun (between : List (List (Str × Int))) =>
  (vFold (m_l_least_f2 other cuts between) (v_l_least_f2 other cuts between) s1 puts)))))
def m_l_least (one : List (List (Str × Int))) (other : List (List (Str × Int))) : (Option Int) :=
  bnd (((one.length : Nat) : Int)) fun (high : Int) =>
  bnd ((m_l_rows_of_deeds ("put" : Str) high)) fun (puts : List (List Dd)) =>
  bnd ((none : Option Int)) fun (best : Option Int) =>
  Out.thn (runFor (m_l_least_f1 one other puts) best (m_l_rows_of_deeds ("cut" : Str) high) : Out ((Option Int)) (Empty) ((Option Int))) fun (r1 : (Option Int)) =>
  r1
def v_l_least (one : List (List (Str × Int))) (other : List (List (Str × Int))) : Prop :=
  (bnd (((one.length : Nat) : Int)) fun (high : Int) =>
  ((v_l_rows_of_deeds ("put" : Str) high) ∧ (bnd ((m_l_rows_of_deeds ("put" : Str) high)) fun (puts : List (List Dd)) =>
  (bnd ((none : Option Int)) fun (best : Option Int) =>
  ((v_l_rows_of_deeds ("cut" : Str) high) ∧ (vRun (m_l_least_f1 one other puts) (v_l_least_f1 one other puts) best (m_l_rows_of_deeds ("cut" : Str) high)))))))
def m_law (script : Scr Int) : Bool :=
  bnd ((ix ([1, 1, 1, 2] : List Int) ((m_l_mixed script 0) % 4))) fun (wide : Int) =>
  bnd ((ix ([3, 3, 2, 1, 3, 3] : List Int) (((m_l_mixed script 0) / 4) % 6))) fun (high : Int) =>
  bnd (if (decide (wide = 2)) then (
  bnd ((min high 2)) fun (high' : Int) =>
  high')
  else (
  high)) fun (j : Int) =>
  bnd ((m_l_small script 1 wide j)) fun (one : List (List (Str × Int))) =>
  bnd ((m_l_small script 4 wide j)) fun (other : List (List (Str × Int))) =>
  bnd ((m_l_mixed script 7)) fun (number : Int) =>
  bnd (if (decide ((number % 4) = 1)) then (
  bnd ((m_l_turned script 8 one)) fun (other' : List (List (Str × Int))) =>
  other')
  else (
  other)) fun (j' : (List (List (Str × Int)))) =>
  bnd (if (decide ((number % 4) > 1)) then (
  bnd ((m_l_rows_of_deeds ("cut" : Str) j)) fun (cuts : List (List Dd)) =>
  bnd ((m_l_rows_of_deeds ("put" : Str) j)) fun (puts : List (List Dd)) =>
  bnd ((m_l_behind one (ix cuts ((number / 4) % (min ((cuts.length : Nat) : Int) 7))))) fun (between : List (List (Str × Int))) =>
  bnd ((m_l_behind between (ix puts ((number / 32) % (min ((puts.length : Nat) : Int) 7))))) fun (other'' : List (List (Str × Int))) =>
  other'')
  else (
  j')) fun (j'' : (List (List (Str × Int)))) =>
  bnd (if (decide ((number % 8) = 7)) then (
  bnd ((m_l_turned script 8 j'')) fun (other''' : List (List (Str × Int))) =>
  other''')
  else (
  j'')) fun (j''' : (List (List (Str × Int)))) =>
  bnd ((m_l_least one j''')) fun (best : Option Int) =>
  bnd ((m_least_worth (m_l_copied one) (m_l_copied j'''))) fun (found : Int) =>
  if ((!(m_l_whole found)) || (!decide (found = (best.getD default)))) then (
  false)
  else
  bnd ((m_least_way (m_l_copied one) (m_l_copied j'''))) fun (way : List Dd) =>
  if ((!(m_l_formed way wide j)) || (!decide (((way.length : Nat) : Int) = (best.getD default)))) then (
  false)
  else
  (eqb (m_l_behind one way) j''')
def v_law (script : Scr Int) : Prop :=
  ((v_l_mixed script 0) ∧ (bnd ((ix ([1, 1, 1, 2] : List Int) ((m_l_mixed script 0) % 4))) fun (wide : Int) =>
  ((v_l_mixed script 0) ∧ (bnd ((ix ([3, 3, 2, 1, 3, 3] : List Int) (((m_l_mixed script 0) / 4) % 6))) fun (high : Int) =>
  (bnd (if (decide (wide = 2)) then (
  bnd ((min high 2)) fun (high' : Int) =>
  high')
  else (
  high)) fun (j : Int) =>
  ((v_l_small script 1 wide j) ∧ (bnd ((m_l_small script 1 wide j)) fun (one : List (List (Str × Int))) =>
  ((v_l_small script 4 wide j) ∧ (bnd ((m_l_small script 4 wide j)) fun (other : List (List (Str × Int))) =>
  ((v_l_mixed script 7) ∧ (bnd ((m_l_mixed script 7)) fun (number : Int) =>
  ((((decide ((number % 4) = 1)) = true → (v_l_turned script 8 one))) ∧ (bnd (if (decide ((number % 4) = 1)) then (
  bnd ((m_l_turned script 8 one)) fun (other' : List (List (Str × Int))) =>
  other')
  else (
  other)) fun (j' : (List (List (Str × Int)))) =>
  ((((decide ((number % 4) > 1)) = true → ((v_l_rows_of_deeds ("cut" : Str) j) ∧ (bnd ((m_l_rows_of_deeds ("cut" : Str) j)) fun (cuts : List (List Dd)) =>
  ((v_l_rows_of_deeds ("put" : Str) j) ∧ (bnd ((m_l_rows_of_deeds ("put" : Str) j)) fun (puts : List (List Dd)) =>
  (((0 < (min ((cuts.length : Nat) : Int) 7)) ∧ (InB cuts ((number / 4) % (min ((cuts.length : Nat) : Int) 7))) ∧ (v_l_behind one (ix cuts ((number / 4) % (min ((cuts.length : Nat) : Int) 7))))) ∧ (bnd ((m_l_behind one (ix cuts ((number / 4) % (min ((cuts.length : Nat) : Int) 7))))) fun (between : List (List (Str × Int))) =>
  ((0 < (min ((puts.length : Nat) : Int) 7)) ∧ (InB puts ((number / 32) % (min ((puts.length : Nat) : Int) 7))) ∧ (v_l_behind between (ix puts ((number / 32) % (min ((puts.length : Nat) : Int) 7))))))))))))) ∧ (bnd (if (decide ((number % 4) > 1)) then (
  bnd ((m_l_rows_of_deeds ("cut" : Str) j)) fun (cuts : List (List Dd)) =>
  bnd ((m_l_rows_of_deeds ("put" : Str) j)) fun (puts : List (List Dd)) =>
  bnd ((m_l_behind one (ix cuts ((number / 4) % (min ((cuts.length : Nat) : Int) 7))))) fun (between : List (List (Str × Int))) =>
  bnd ((m_l_behind between (ix puts ((number / 32) % (min ((puts.length : Nat) : Int) 7))))) fun (other'' : List (List (Str × Int))) =>
  other'')
  else (
  j')) fun (j'' : (List (List (Str × Int)))) =>
  ((((decide ((number % 8) = 7)) = true → (v_l_turned script 8 j''))) ∧ (bnd (if (decide ((number % 8) = 7)) then (
  bnd ((m_l_turned script 8 j'')) fun (other''' : List (List (Str × Int))) =>
  other''')
  else (
  j'')) fun (j''' : (List (List (Str × Int)))) =>
  ((v_l_least one j''') ∧ (bnd ((m_l_least one j''')) fun (best : Option Int) =>
  (((v_l_copied one) ∧ (v_l_copied j''') ∧ (v_least_worth (m_l_copied one) (m_l_copied j'''))) ∧ (bnd ((m_least_worth (m_l_copied one) (m_l_copied j'''))) fun (found : Int) =>
  (((!(m_l_whole found)) = false → (best.isSome = true)) ∧ (((!(m_l_whole found)) || (!decide (found = (best.getD default)))) = false → (((v_l_copied one) ∧ (v_l_copied j''') ∧ (v_least_way (m_l_copied one) (m_l_copied j'''))) ∧ (bnd ((m_least_way (m_l_copied one) (m_l_copied j'''))) fun (way : List Dd) =>
  (((v_l_formed way wide j) ∧ ((!(m_l_formed way wide j)) = false → (best.isSome = true))) ∧ (((!(m_l_formed way wide j)) || (!decide (((way.length : Nat) : Int) = (best.getD default)))) = false → ((v_l_behind one way) ∧ (PyD.dok (m_l_behind one way)) ∧ (PyD.dok j''')))))))))))))))))))))))))))))
theorem cell_ok (s : Scr Int) (h : Pre s) (k : Int) (h0 : 0 ≤ k) : v_l_cell_at s k ∧ Bit 1048576 (m_l_cell_at s k) := by
  refine ⟨fun e => ?_, ?_⟩
  · rw [decide_eq_true_eq] at e; unfold InB; omega
  · unfold m_l_cell_at
    split
    · next e =>
      rw [decide_eq_true_eq] at e
      exact Bit.scr h (ix_mem (by unfold InB; omega))
    · exact Bit.sm ⟨by decide, by decide⟩ (by decide)
theorem mixed_ok (s : Scr Int) (h : Pre s) (k : Int) (h0 : 0 ≤ k) (h1 : k ≤ 10000) : v_l_mixed s k ∧ 0 ≤ m_l_mixed s k ∧ m_l_mixed s k < 2147483648 := by
  unfold v_l_mixed m_l_mixed bnd
  dsimp only
  refine ⟨⟨(cell_ok s h k h0).1, ?_⟩, by omega, by omega⟩
  exact Bit.ok (n := 64) (m := 64) (Bit.sm ⟨by omega, by omega⟩ (by decide)) (Bit.sm ⟨by omega, by omega⟩ (by decide)) (by decide)
/-- a row of n cells, each of one sign -/
def RowN (n : Nat) (r : List (Str × Int)) : Prop := r.length = n ∧ ∀ c ∈ r, PyData.strOk c.1 = true ∧ c.1.length = 1
theorem lsign_ok (n : Int) : v_l_sign n ∧ PyData.strOk (m_l_sign n) = true ∧ (m_l_sign n).length = 1 := by
  have hs : ∀ i : Fin 94, InB ((" !\"#$&'()*+,-./0123456789:;<=>?@ABCDEFGHIJKLMNOPQRSTUVWXYZ[\\]^_`" : Str) ++ ("abcdefghijklmnopqrstuvwxyz{|}~" : Str)).cps.toList (i.val : Int) ∧ PyData.strOk (ixS ((" !\"#$&'()*+,-./0123456789:;<=>?@ABCDEFGHIJKLMNOPQRSTUVWXYZ[\\]^_`" : Str) ++ ("abcdefghijklmnopqrstuvwxyz{|}~" : Str)) (i.val : Int)) = true ∧ (ixS ((" !\"#$&'()*+,-./0123456789:;<=>?@ABCDEFGHIJKLMNOPQRSTUVWXYZ[\\]^_`" : Str) ++ ("abcdefghijklmnopqrstuvwxyz{|}~" : Str)) (i.val : Int)).length = 1 := by decide +kernel
  have ha : ∀ i : Fin 4, PyData.strOk (ixS ("ab~ " : Str) (i.val : Int)) = true ∧ (ixS ("ab~ " : Str) (i.val : Int)).length = 1 := by decide +kernel
  have h1 := hs ⟨(n / 4 % 94).toNat, by omega⟩
  have h2 := ha ⟨(n / 4 % 4).toNat, by omega⟩
  have e1 : (((n / 4 % 94).toNat : Nat) : Int) = n / 4 % 94 := by omega
  have e2 : (((n / 4 % 4).toNat : Nat) : Int) = n / 4 % 4 := by omega
  dsimp only at h1 h2
  rw [e1] at h1
  rw [e2] at h2
  refine ⟨⟨by decide +kernel, h1.1, by decide +kernel⟩, ?_⟩
  unfold m_l_sign bnd
  refine ix_all (p := fun z : Str => PyData.strOk z = true ∧ z.length = 1) (fun x hx => ?_) (inB_mod 4 rfl (by decide))
  simp only [List.mem_cons, List.not_mem_nil, or_false] at hx
  rcases hx with rfl | rfl | rfl | rfl
  · decide +kernel
  · exact h2
  · exact h1.2
  · decide +kernel
theorem lrow_ok (number wide : Int) (h0 : 0 ≤ wide) (h1 : wide ≤ 1000) : v_l_row number wide ∧ RowN wide.toNat (m_l_row number wide) := by
  have k := fold_inv (g := m_l_row_f1) (vb := v_l_row_f1) (xs := izs 0 (wide : Int).toNat) (s := (number, m_l_ink number, ([] : List (Str × Int)))) (fun i s => RowN i s.2.2) ⟨rfl, fun c hc => nomatch hc⟩ fun i s y hy h => ?_
  · refine ⟨⟨⟨by omega, by omega⟩, k.1⟩, ?_⟩
    have := k.2
    rw [izs_len] at this
    exact this
  · have hi := (izs_get hy).1
    obtain ⟨q1, q2⟩ := h
    refine ⟨⟨(lsign_ok _).1, by omega⟩, ?_⟩
    unfold m_l_row_f1 bnd
    refine ⟨by simp [q1], fun c hc => ?_⟩
    dsimp only at hc
    rcases List.mem_append.mp hc with hc | hc
    · exact q2 c hc
    · rw [List.mem_singleton] at hc
      subst hc
      exact (lsign_ok _).2
def Pg (n m : Nat) (p : List (List (Str × Int))) : Prop := p.length = m ∧ ∀ r ∈ p, RowN n r
theorem row_dok {n : Nat} {r : List (Str × Int)} (h : RowN n r) : PyD.dok r := fun c hc => ⟨(h.2 c hc).1, trivial⟩
theorem wblank_is (n : Nat) : RowN n (List.replicate n ([((" " : Str), 0)] : List (Str × Int))).flatten := by
  refine ⟨by simp, fun c hc => ?_⟩
  obtain ⟨l, hl, hc⟩ := List.mem_flatten.mp hc
  rw [(List.mem_replicate.mp hl).2, List.mem_singleton] at hc
  subst hc
  exact ⟨by decide +kernel, by decide +kernel⟩
theorem Pg.at {n m : Nat} {p : List (List (Str × Int))} (h : Pg n m p) {i : Int} (h0 : 0 ≤ i) (h1 : i < m) : InB p i ∧ RowN n (ix p i) := by
  have hb : InB p i := by have := h.1; unfold InB; omega
  exact ⟨hb, h.2 _ (ix_mem hb)⟩
theorem Pg.dok {n m : Nat} {p : List (List (Str × Int))} (h : Pg n m p) : PyD.dok p := fun r hr => row_dok (h.2 r hr)
theorem cut_a {τ : Type} {xs : List τ} {a : Int} (h0 : 0 ≤ a) (h1 : a ≤ xs.length) : cutL xs none (some a) = xs.take a.toNat := by
  unfold cutL HT.sIx
  dsimp only
  rw [if_neg (by omega), Nat.min_eq_left (by omega), List.drop_zero, Nat.sub_zero]
theorem cut_b {τ : Type} {xs : List τ} {a : Int} (h0 : 0 ≤ a) (h1 : a ≤ xs.length) : cutL xs (some a) none = xs.drop a.toNat := by
  unfold cutL HT.sIx
  dsimp only
  rw [if_neg (by omega), Nat.min_eq_left (by omega)]
  rw [List.take_of_length_le (by rw [List.length_drop]; omega)]
theorem signsL_len {s : Str} : (signsL s).length = s.length := by
  rw [← tl_len]; unfold signsL; rw [List.length_map]
theorem signsL_ok {s y : Str} (h : PyData.strOk s = true) (hy : y ∈ signsL s) : PyData.strOk y = true ∧ y.length = 1 := by
  unfold signsL at hy
  obtain ⟨c, hc, rfl⟩ := List.mem_map.mp hy
  refine ⟨strOk_iff.mpr fun d hd => ?_, rfl⟩
  rw [show tl (⟨#[c]⟩ : Str) = [c] from rfl, List.mem_singleton] at hd
  subst hd
  exact strOk_iff.mp h _ hc
theorem lcopied_is (p : List (List (Str × Int))) : m_l_copied p = p := List.map_id _
/-- a cut or put within the picture -/
def GoodC (m : Nat) : Dd → Prop
  | .cp w row many => (w = ("cut" : Str) ∨ w = ("put" : Str)) ∧ 0 ≤ row ∧ 1 ≤ many ∧ row + many ≤ m
  | .wr .. => False
/-- signs that can be told -/
def Asc (t : Str) : Prop := ∀ c ∈ tl t, 32 ≤ c ∧ c < 127
/-- a writing within the picture -/
def GoodW (n m : Nat) : Dd → Prop
  | .cp .. => False
  | .wr w row col text ink => w = ("write" : Str) ∧ 0 ≤ row ∧ row < m ∧ 0 ≤ col ∧ col + text.length ≤ n ∧ PyData.strOk text = true ∧ 0 ≤ ink ∧ ink < 512 ∧ Asc text ∧ col < n
def Good (n m : Nat) (d : Dd) : Prop := GoodC m d ∨ GoodW n m d
theorem good_dok {n m : Nat} {d : Dd} (h : Good n m d) : PyD.dok d := by
  cases d with
  | cp w row many =>
    rcases h with h | h
    · exact ⟨by
        show PyData.strOk w = true
        rcases h.1 with rfl | rfl <;> decide +kernel, trivial, trivial⟩
    · exact h.elim
  | wr w row col text ink =>
    rcases h with h | h
    · exact h.elim
    · exact ⟨by
        show PyData.strOk w = true
        rw [h.1]; decide +kernel, trivial, trivial, h.2.2.2.2.2.1, trivial⟩
def ascB (t : Str) : Bool := (tl t).all fun c => decide (32 ≤ c) && decide (c < 127)
theorem ascB_ok {t : Str} (h : ascB t = true) : Asc t := fun c hc => by
  have := List.all_eq_true.mp h c hc
  rw [Bool.and_eq_true, decide_eq_true_eq, decide_eq_true_eq] at this
  exact this
theorem sign_asc (n : Int) : Asc (m_l_sign n) := by
  have hs : ∀ i : Fin 94, ascB (ixS ((" !\"#$&'()*+,-./0123456789:;<=>?@ABCDEFGHIJKLMNOPQRSTUVWXYZ[\\]^_`" : Str) ++ ("abcdefghijklmnopqrstuvwxyz{|}~" : Str)) (i.val : Int)) = true := by decide +kernel
  have ha : ∀ i : Fin 4, ascB (ixS ("ab~ " : Str) (i.val : Int)) = true := by decide +kernel
  have h1 := hs ⟨(n / 4 % 94).toNat, by omega⟩
  have h2 := ha ⟨(n / 4 % 4).toNat, by omega⟩
  have e1 : (((n / 4 % 94).toNat : Nat) : Int) = n / 4 % 94 := by omega
  have e2 : (((n / 4 % 4).toNat : Nat) : Int) = n / 4 % 4 := by omega
  dsimp only at h1 h2
  rw [e1] at h1
  rw [e2] at h2
  refine ascB_ok ?_
  unfold m_l_sign bnd
  refine ix_all (p := fun z : Str => ascB z = true) (fun x hx => ?_) (inB_mod 4 rfl (by decide))
  simp only [List.mem_cons, List.not_mem_nil, or_false] at hx
  rcases hx with rfl | rfl | rfl | rfl
  · decide +kernel
  · exact h2
  · exact h1
  · decide +kernel
theorem ink_in (x : Int) : 0 ≤ m_l_ink x ∧ m_l_ink x < 512 := by
  unfold m_l_ink
  split
  · omega
  · refine ix_all (p := fun z : Int => 0 ≤ z ∧ z < 512) (fun x hx => ?_) (inB_mod 6 rfl (by decide))
    simp only [List.mem_cons, List.not_mem_nil, or_false] at hx
    rcases hx with rfl | rfl | rfl | rfl | rfl | rfl <;> omega
theorem frb (n : Nat) (many : Int) : ∀ r ∈ (izs 0 many.toNat).map (fun _ : Int => (List.replicate n ([((" " : Str), 0)] : List (Str × Int))).flatten), RowN n r := fun r hr => by
  obtain ⟨_, _, rfl⟩ := List.mem_map.mp hr
  exact wblank_is n
theorem lines_v (n : Nat) (hn : n ≤ 1000) (many : Int) (m1 : many ≤ 1000) (m0 : 1 ≤ many) : (-(2 ^ 62) ≤ (many : Int) ∧ (many : Int) < 2 ^ 62) ∧ ((izs 0 (many : Int).toNat).length ≤ 100000) ∧ (∀ turn ∈ ((izs 0 (many : Int).toNat) : List Int), ((((n : Nat) : Int) ≤ 100000 ∧ ([((" " : Str), 0)] : List (Str × Int)).length * (((n : Nat) : Int) : Int).toNat ≤ 100000) ∧ (-100000 ≤ ((n : Nat) : Int)))) :=
  ⟨⟨by omega, by omega⟩, by rw [izs_len]; omega, fun _ _ => ⟨⟨by omega, by simp; omega⟩, by omega⟩⟩
section
variable {n m : Nat} {p : List (List (Str × Int))}
def freshR (n : Nat) (many : Int) : List (List (Str × Int)) := (izs 0 many.toNat).map (fun _ : Int => (List.replicate n ([((" " : Str), 0)] : List (Str × Int))).flatten)
theorem lcut_is (hp : Pg n m p) (hn : n ≤ 1000) (hm : m ≤ 1000) {row many : Int} (r0 : 0 ≤ row) (r1 : 1 ≤ many) (r2 : row + many ≤ m) : v_l_cut p row many ∧ m_l_cut p row many = (p.take row.toNat ++ p.drop (row + many).toNat) ++ freshR n many ∧ Pg n m (m_l_cut p row many) := by
  have h0 := hp.at (i := 0) (by decide) (by omega)
  have lv := lines_v n hn many (by omega) r1
  have fb := frb n many
  have pl := hp.1
  have e1 : cutL p none (some row) = p.take row.toNat := cut_a r0 (by omega)
  have e2 : cutL p (some (row + many)) none = p.drop (row + many).toNat := cut_b (by omega) (by omega)
  unfold v_l_cut m_l_cut bnd
  dsimp only
  rw [h0.2.1, e1, e2]
  have fl : ((izs 0 (many : Int).toNat).map (fun turn' : Int => (List.replicate ((n : Nat) : Int).toNat ([((" " : Str), 0)] : List (Str × Int))).flatten)).length = many.toNat := by rw [List.length_map, izs_len]
  refine ⟨⟨h0.1, by simp; omega, lv.1, lv.2.1, lv.2.2, by rw [fl]; simp; omega⟩, rfl, ?_, fun r hr => ?_⟩
  · rw [List.length_append, List.length_append, fl]; simp; omega
  · rcases List.mem_append.mp hr with hr | hr
    · rcases List.mem_append.mp hr with hr | hr
      · exact hp.2 r (List.mem_of_mem_take hr)
      · exact hp.2 r (List.mem_of_mem_drop hr)
    · exact fb r hr
theorem lput_is (hp : Pg n m p) (hn : n ≤ 1000) (hm : m ≤ 1000) {row many : Int} (r0 : 0 ≤ row) (r1 : 1 ≤ many) (r2 : row + many ≤ m) : v_l_put p row many ∧ m_l_put p row many = ((p.take row.toNat ++ freshR n many) ++ p.drop row.toNat).take p.length ∧ Pg n m (m_l_put p row many) := by
  have h0 := hp.at (i := 0) (by decide) (by omega)
  have lv := lines_v n hn many (by omega) r1
  have fb := frb n many
  have pl := hp.1
  have e1 : cutL p none (some row) = p.take row.toNat := cut_a r0 (by omega)
  have e2 : cutL p (some row) none = p.drop row.toNat := cut_b (by omega) (by omega)
  unfold v_l_put m_l_put bnd
  dsimp only
  rw [h0.2.1, e1, e2]
  have fl : ((izs 0 (many : Int).toNat).map (fun turn : Int => (List.replicate ((n : Nat) : Int).toNat ([((" " : Str), 0)] : List (Str × Int))).flatten)).length = many.toNat := by rw [List.length_map, izs_len]
  have e3 : cutL ((p.take row.toNat ++ ((izs 0 (many : Int).toNat).map (fun turn : Int => (List.replicate ((n : Nat) : Int).toNat ([((" " : Str), 0)] : List (Str × Int))).flatten))) ++ p.drop row.toNat) none (some ((p.length : Nat) : Int)) = ((p.take row.toNat ++ ((izs 0 (many : Int).toNat).map (fun turn : Int => (List.replicate ((n : Nat) : Int).toNat ([((" " : Str), 0)] : List (Str × Int))).flatten))) ++ p.drop row.toNat).take p.length :=
    cut_a (by omega) (by rw [List.length_append, List.length_append, fl]; simp; omega)
  rw [e3]
  refine ⟨⟨h0.1, lv, by rw [fl]; simp; omega, by rw [List.length_append, fl]; simp; omega⟩, rfl, ?_, fun r hr => ?_⟩
  · rw [List.length_take, List.length_append, List.length_append, fl]; simp; omega
  · have hr := List.mem_of_mem_take hr
    rcases List.mem_append.mp hr with hr | hr
    · rcases List.mem_append.mp hr with hr | hr
      · exact hp.2 r (List.mem_of_mem_take hr)
      · exact fb r hr
    · exact hp.2 r (List.mem_of_mem_drop hr)
theorem lwrite_is (hp : Pg n m p) {w : Str} {row col ink : Int} {text : Str} (r0 : 0 ≤ row) (r1 : row < m) (c0 : 0 ≤ col) (c1 : col + text.length ≤ n) (ht : PyData.strOk text = true) :
    vFold (m_l_deed_f1 (.wr w row col text ink)) (v_l_deed_f1 (.wr w row col text ink)) p (enumL (signsL text)) ∧ Pg n m ((enumL (signsL text)).foldl (m_l_deed_f1 (.wr w row col text ink)) p) := by
  have step : ∀ s : List (List (Str × Int)), ∀ y ∈ enumL (signsL text), Pg n m s → (InB s row ∧ InB (ix s row) (col + y.1)) ∧ Pg n m (m_l_deed_f1 (.wr w row col text ink) s y) := fun s y hy hs => by
    obtain ⟨i, hi⟩ := List.mem_iff_getElem?.mp hy
    obtain ⟨y1, y2⟩ := enumL_get hi
    have hlt : i < text.length := by
      rw [← signsL_len]; exact (List.getElem?_eq_some_iff.mp y2).1
    have sg := signsL_ok ht (List.mem_of_getElem? y2)
    obtain ⟨b1, b2⟩ := hs.at r0 r1
    refine ⟨⟨b1, by unfold InB; rw [b2.1, y1]; omega⟩, ?_⟩
    refine ⟨by show (stI _ _ _).length = m; rw [st_len]; exact hs.1, fun r hr => ?_⟩
    rcases st_mem (show r ∈ stI s row (stI (ix s row) (col + y.1) (y.2, ink)) from hr) with hr | hr
    · exact hs.2 r hr
    · subst hr
      refine ⟨by rw [st_len]; exact b2.1, fun c hc => ?_⟩
      rcases st_mem hc with hc | hc
      · exact b2.2 c hc
      · subst hc; exact sg
  have k2 := fold_all (g := m_l_deed_f1 (.wr w row col text ink)) (vb := v_l_deed_f1 (.wr w row col text ink)) (xs := enumL (signsL text)) (s := p) (Pg n m) hp fun s y hy hs => ⟨⟨rfl, rfl, (step s y hy hs).1.1, rfl, (step s y hy hs).1.2⟩, (step s y hy hs).2⟩
  exact ⟨k2.1, k2.2⟩
theorem ldeed_cut (hp : Pg n m p) (row many : Int) : m_l_deed p (.cp ("cut" : Str) row many) = m_l_cut p row many := by
  unfold m_l_deed bnd
  dsimp only
  rw [lcopied_is, if_pos (show decide ((Dd.cp ("cut" : Str) row many).tag = ("cut" : Str)) = true from decide_eq_true rfl)]; rfl
theorem ldeed_put (hp : Pg n m p) (row many : Int) : m_l_deed p (.cp ("put" : Str) row many) = m_l_put p row many := by
  unfold m_l_deed bnd
  dsimp only
  rw [lcopied_is, if_neg (show ¬ decide ((Dd.cp ("put" : Str) row many).tag = ("cut" : Str)) = true by rw [decide_eq_true_eq]; show ¬ ("put" : Str) = ("cut" : Str); decide), if_pos (show decide ((Dd.cp ("put" : Str) row many).tag = ("put" : Str)) = true from decide_eq_true rfl)]; rfl
theorem ldeed_wr (p : List (List (Str × Int))) (row col : Int) (text : Str) (ink : Int) : m_l_deed p (.wr ("write" : Str) row col text ink) = (enumL (signsL text)).foldl (m_l_deed_f1 (.wr ("write" : Str) row col text ink)) p := by
  unfold m_l_deed bnd
  dsimp only
  rw [lcopied_is, if_neg (show ¬ decide ((Dd.wr ("write" : Str) row col text ink).tag = ("cut" : Str)) = true by rw [decide_eq_true_eq]; show ¬ ("write" : Str) = ("cut" : Str); decide), if_neg (show ¬ decide ((Dd.wr ("write" : Str) row col text ink).tag = ("put" : Str)) = true by rw [decide_eq_true_eq]; show ¬ ("write" : Str) = ("put" : Str); decide)]; rfl
theorem ldeed_ok (hp : Pg n m p) (hn : n ≤ 1000) (hm : m ≤ 1000) {d : Dd} (hd : Good n m d) : v_l_deed p d ∧ Pg n m (m_l_deed p d) := by
  have pl := hp.1
  cases d with
  | cp w row many =>
    have hd := hd.resolve_right (fun z => z)
    obtain ⟨h1, h2, h3, h4⟩ := hd
    rcases h1 with rfl | rfl
    · obtain ⟨q2, _, q4⟩ := lcut_is hp hn hm h2 h3 h4
      have e : decide ((Dd.cp ("cut" : Str) row many).tag = ("cut" : Str)) = true := decide_eq_true rfl
      rw [ldeed_cut hp]
      refine ⟨?_, q4⟩
      unfold v_l_deed bnd v_l_copied
      dsimp only
      rw [lcopied_is]
      exact ⟨by omega, fun _ => ⟨rfl, rfl, q2⟩, fun z => absurd (e.symm.trans z) (by decide)⟩
    · obtain ⟨q2, _, q4⟩ := lput_is hp hn hm h2 h3 h4
      have e : decide ((Dd.cp ("put" : Str) row many).tag = ("put" : Str)) = true := decide_eq_true rfl
      have e0 : ¬ decide ((Dd.cp ("put" : Str) row many).tag = ("cut" : Str)) = true := by rw [decide_eq_true_eq]; show ¬ ("put" : Str) = ("cut" : Str); decide
      rw [ldeed_put hp]
      refine ⟨?_, q4⟩
      unfold v_l_deed bnd v_l_copied
      dsimp only
      rw [lcopied_is]
      exact ⟨by omega, fun z => absurd z e0, fun _ => ⟨fun _ => ⟨rfl, rfl, q2⟩, fun z => absurd (e.symm.trans z) (by decide)⟩⟩
  | wr w row col text ink =>
    have hd := hd.resolve_left (fun z => z)
    obtain ⟨rfl, h1, h2, h3, h4, h5, _⟩ := hd
    obtain ⟨q2, q4⟩ := lwrite_is (w := ("write" : Str)) (ink := ink) hp h1 h2 h3 h4 h5
    have e0 : ¬ decide ((Dd.wr ("write" : Str) row col text ink).tag = ("cut" : Str)) = true := by rw [decide_eq_true_eq]; show ¬ ("write" : Str) = ("cut" : Str); decide
    have e1 : ¬ decide ((Dd.wr ("write" : Str) row col text ink).tag = ("put" : Str)) = true := by rw [decide_eq_true_eq]; show ¬ ("write" : Str) = ("put" : Str); decide
    rw [ldeed_wr]
    refine ⟨?_, q4⟩
    unfold v_l_deed bnd v_l_copied
    dsimp only
    rw [lcopied_is]
    exact ⟨by omega, fun z => absurd z e0, fun _ => ⟨fun z => absurd z e1, fun _ => ⟨rfl, q2⟩⟩⟩
end
/-- the stretches behind a place i, the open one begun at a with the ink k -/
def runs (a k : Int) : Int → List Int → List (T3 Int Int Int)
  | i, [] => [⟨a, i, k⟩]
  | i, z :: r => if z = k then runs a k (i + 1) r else ⟨a, i, k⟩ :: runs i z (i + 1) r
def ink (row : List (Str × Int)) (i : Int) : Int := (ix row i).2
theorem ink_drop {row : List (Str × Int)} {i : Nat} {z : Int} {r : List Int} (h : (row.drop i).map (·.2) = z :: r) : i < row.length ∧ ink row i = z ∧ (row.drop (i + 1)).map (·.2) = r := by
  have hl : i < row.length := by
    have := congrArg List.length h
    rw [List.length_map, List.length_drop, List.length_cons] at this
    omega
  rw [List.drop_eq_getElem_cons hl, List.map_cons] at h
  refine ⟨hl, ?_, (List.cons.inj h).2⟩
  unfold ink
  rw [ix_of, List.getElem?_eq_getElem hl]
  exact (List.cons.inj h).1
theorem str_fold (row : List (Str × Int)) (hn : row.length ≤ 1000) : ∀ (zs : List Int) (i : Nat) (a : Int) (acc : List (T3 Int Int Int)), (row.drop i).map (·.2) = zs → 0 ≤ a → a < i → acc.length ≤ i → i ≤ row.length →
    vFold (m_stretches_f1 row) (v_stretches_f1 row) (a, acc) (izs i (zs.length + 1)) ∧ ((izs i (zs.length + 1)).foldl (m_stretches_f1 row) (a, acc)).2 = acc ++ runs a (ink row a) i zs
  | [], i, a, acc, h, h0, h1, h2, h3 => by
    have hi : i = row.length := by
      have := congrArg List.length h
      rw [List.length_map, List.length_drop] at this
      simp only [List.length_nil] at this
      omega
    rw [izs_succ]
    subst hi
    have hd : (decide (((row.length : Nat) : Int) = ((row.length : Nat) : Int))) = true := decide_eq_true rfl
    refine ⟨⟨⟨fun e => (by rw [hd] at e; cases e), fun _ => ⟨by unfold InB; dsimp only; omega, by dsimp only; omega⟩⟩, trivial⟩, ?_⟩
    rw [List.length_nil, izs_zero, List.foldl_cons, List.foldl_nil]
    unfold m_stretches_f1 bnd
    rw [if_pos (by rw [hd]; rfl)]
    rfl
  | z :: r, i, a, acc, h, h0, h1, h2, h3 => by
    obtain ⟨q1, q2, q3⟩ := ink_drop h
    have hd : (decide ((i : Int) = ((row.length : Nat) : Int))) = false := decide_eq_false (by omega)
    rw [List.length_cons, izs_succ]
    have hI : InB row (i : Int) := by unfold InB; omega
    have hA : InB row a := by unfold InB; omega
    have q2' : (ix row (i : Int)).2 = z := q2
    by_cases e : z = ink row a
    · have st : m_stretches_f1 row (a, acc) i = (a, acc) := by
        unfold m_stretches_f1 bnd
        dsimp only
        rw [if_neg]
        rw [hd, q2', e]
        show ¬ (false || !decide ((ix row a).2 = (ix row a).2)) = true
        simp
      obtain ⟨k1, k2⟩ := str_fold row hn r (i + 1) a acc q3 h0 (by omega) (by omega) q1
      rw [List.foldl_cons]
      refine ⟨⟨⟨fun _ => ⟨hI, hA⟩, fun _ => ⟨hA, by dsimp only; omega⟩⟩, ?_⟩, ?_⟩
      · rw [st]; exact k1
      · rw [st]
        refine k2.trans ?_
        conv => rhs; unfold runs
        rw [if_pos e]; rfl
    · have st : m_stretches_f1 row (a, acc) i = ((i : Int), acc ++ [⟨a, i, ink row a⟩]) := by
        unfold m_stretches_f1 bnd
        dsimp only
        rw [if_pos]
        · rfl
        rw [hd, q2']
        show (false || !decide (z = ink row a)) = true
        rw [decide_eq_false e]; rfl
      obtain ⟨k1, k2⟩ := str_fold row hn r (i + 1) i (acc ++ [⟨a, i, ink row a⟩]) q3 (by omega) (by omega) (by simp; omega) q1
      rw [List.foldl_cons]
      refine ⟨⟨⟨fun _ => ⟨hI, hA⟩, fun _ => ⟨hA, by dsimp only; omega⟩⟩, ?_⟩, ?_⟩
      · rw [st]; exact k1
      · rw [st]
        refine k2.trans ?_
        conv => rhs; unfold runs
        rw [if_neg e, q2, List.append_assoc]; rfl
def stS (row : List (Str × Int)) : List (T3 Int Int Int) := runs 0 (ink row 0) 1 ((row.drop 1).map (·.2))
theorem stretches_is (row : List (Str × Int)) (h0 : 0 < row.length) (hn : row.length ≤ 1000) : v_stretches row ∧ m_stretches row = stS row := by
  have hz : ((row.drop 1).map (·.2)).length + 1 = row.length := by rw [List.length_map, List.length_drop]; omega
  obtain ⟨a1, a2⟩ := str_fold row hn _ 1 0 [] rfl (by decide) (by decide) (by simp) h0
  have e1 : ((((row.length : Nat) : Int) + 1) - 1).toNat = ((row.drop 1).map (·.2)).length + 1 := by omega
  refine ⟨⟨⟨by decide, by decide, by omega, by omega⟩, ?_⟩, ?_⟩
  · rw [e1]; exact a1
  · unfold m_stretches bnd
    rw [e1]; exact a2
/-- stretches of one ink each, side by side from lo to the end -/
def Tiles (row : List (Str × Int)) : Int → List (T3 Int Int Int) → Prop
  | lo, [] => lo = row.length
  | lo, t :: r => t.a = lo ∧ lo < t.b ∧ t.b ≤ row.length ∧ (∀ p, lo ≤ p → p < t.b → ink row p = t.c) ∧ Tiles row t.b r
theorem runs_tiles (row : List (Str × Int)) : ∀ (zs : List Int) (i : Nat) (a k : Int), (row.drop i).map (·.2) = zs → 0 ≤ a → a < i → i ≤ row.length → (∀ p, a ≤ p → p < i → ink row p = k) → Tiles row a (runs a k i zs)
  | [], i, a, k, h, h0, h1, h2, hk => by
    have hi : i = row.length := by
      have := congrArg List.length h
      rw [List.length_map, List.length_drop] at this
      simp only [List.length_nil] at this
      omega
    subst hi
    exact ⟨rfl, h1, Int.le_refl _, hk, rfl⟩
  | z :: r, i, a, k, h, h0, h1, h2, hk => by
    obtain ⟨q1, q2, q3⟩ := ink_drop h
    unfold runs
    by_cases e : z = k
    · rw [if_pos e]
      exact runs_tiles row r (i + 1) a k q3 h0 (by omega) q1 fun p p0 p1 => by
        by_cases hp : p < i
        · exact hk p p0 hp
        · rw [show p = i by omega, q2, e]
    · rw [if_neg e]
      exact ⟨rfl, h1, by show (i : Int) ≤ _; omega, hk, runs_tiles row r (i + 1) i z q3 (by omega) (by omega) q1 fun p p0 p1 => by rw [show p = i by omega, q2]⟩
theorem stS_tiles {row : List (Str × Int)} (h0 : 0 < row.length) : Tiles row 0 (stS row) :=
  runs_tiles row _ 1 0 _ rfl (by decide) (by decide) h0 fun p p0 p1 => by rw [show p = 0 by omega]
section
variable (row : Int) (one other : List (Str × Int))
def pls (t : T3 Int Int Int) : List Int := ((izs t.a (t.b - t.a).toNat).filter (fun p : Int => (!eqb (ix one p) (ix other p)))).map (fun p : Int => p)
def sgs (a : Int) (m : Nat) : List Str := (izs a m).map fun p => (ix other p).1
def wrc (t : T3 Int Int Int) : Int := ix (pls one other t) 0
def wrt (t : T3 Int Int Int) : Str := Txt.join ("" : Str) (sgs other (ix (pls one other t) 0) (ix (pls one other t) (-1) + 1 - ix (pls one other t) 0).toNat)
def wr (t : T3 Int Int Int) : Dd := .wr ("write" : Str) row (wrc one other t) (wrt one other t) t.c
def wrs (t : T3 Int Int Int) : List Dd := if pls one other t = [] then [] else [wr row one other t]
end
section
variable {n : Nat} {row : Int} {one other : List (Str × Int)} {t : T3 Int Int Int}
theorem pls_mem {p : Int} : p ∈ pls one other t ↔ (t.a ≤ p ∧ p < t.b) ∧ ix one p ≠ ix other p := by
  unfold pls
  rw [List.map_id', List.mem_filter, izs_mem]
  constructor
  · rintro ⟨h1, h2⟩
    refine ⟨by omega, fun e => ?_⟩
    rw [e, eqb_refl] at h2; cases h2
  · rintro ⟨h1, h2⟩
    refine ⟨by omega, ?_⟩
    cases q : eqb (ix one p) (ix other p) with
    | false => rfl
    | true => exact absurd (eqb_iff.mp q) h2
theorem pls_ends (h : pls one other t ≠ []) : InB (pls one other t) 0 ∧ InB (pls one other t) (-1) ∧ ix (pls one other t) 0 ∈ pls one other t ∧ ix (pls one other t) (-1) ∈ pls one other t ∧ ∀ x ∈ pls one other t, ix (pls one other t) 0 ≤ x ∧ x ≤ ix (pls one other t) (-1) :=
  pw_ends (by unfold pls; rw [List.map_id']; exact (izs_pw _ _).filter _) h
theorem sgs_ok {a : Int} {m : Nat} (ho : RowN n other) (h0 : 0 ≤ a) (h1 : a + m ≤ n) : ∀ y ∈ sgs other a m, PyData.strOk y = true ∧ y.length = 1 := by
  intro y hy
  obtain ⟨p, hp, rfl⟩ := List.mem_map.mp hy
  have := izs_mem.mp hp
  exact ho.2 _ (ix_mem (by unfold InB; rw [ho.1]; omega))
theorem good5 {xs : List (Str × Int)} (h : RowN n xs) {i : Int} (h0 : 0 ≤ i) (h1 : i < n) : InB xs i ∧ PyD.dok (ix xs i) := by
  have hb : InB xs i := by unfold InB; rw [h.1]; omega
  exact ⟨hb, (h.2 _ (ix_mem hb)).1, trivial⟩
theorem wr_step (hn : n ≤ 1000) (h1 : RowN n one) (h2 : RowN n other) (ha : 0 ≤ t.a) (hab : t.a ≤ t.b) (hb : t.b ≤ n) {acc : List Dd} (hl : acc.length < 100000) :
    v_writings_f1 row one other acc t ∧ (m_writings_f1 row one other acc t = .nx (acc ++ wrs row one other t) ∨ m_writings_f1 row one other acc t = .ct (acc ++ wrs row one other t)) := by
  have hB : ∀ p ∈ izs t.a (t.b - t.a).toNat, InB one p ∧ InB other p ∧ PyD.dok (ix one p) ∧ PyD.dok (ix other p) := fun p hp => by
    have := izs_mem.mp hp
    have g1 := good5 h1 (i := p) (by omega) (by omega)
    have g2 := good5 h2 (i := p) (by omega) (by omega)
    exact ⟨g1.1, g2.1, g1.2, g2.2⟩
  have hR : (-(2 ^ 62) ≤ (t.a : Int) ∧ (t.a : Int) < 2 ^ 62 ∧ -(2 ^ 62) ≤ (t.b : Int) ∧ (t.b : Int) < 2 ^ 62) := by omega
  have hL : (izs t.a (t.b - t.a).toNat).length ≤ 100000 := by rw [izs_len]; omega
  have hU : v_unlike_in one other t := ⟨hR, hL, hB⟩
  have eU : m_unlike_in one other t = pls one other t := rfl
  by_cases hp : pls one other t = []
  · have e1 : eqb (pls one other t) [] = true := eqb_iff.mpr hp
    have ew : wrs row one other t = [] := by unfold wrs; rw [if_pos hp]
    refine ⟨⟨hU, fun e => ?_⟩, .inr ?_⟩
    · rw [eU, e1] at e; cases e
    · unfold m_writings_f1 bnd
      dsimp only
      rw [eU, if_pos e1, ew, List.append_nil]
  · have e1 : eqb (pls one other t) [] = false := by
      cases q : eqb (pls one other t) [] with
      | false => rfl
      | true => exact absurd (eqb_iff.mp q) hp
    have ew : wrs row one other t = [wr row one other t] := by unfold wrs; rw [if_neg hp]
    obtain ⟨b0, b1, m0, m1, hin⟩ := pls_ends hp
    have q0 := (pls_mem.mp m0).1
    have q1 := (pls_mem.mp m1).1
    have q2 := (hin _ m0).2
    have e0 : (0 : Int) ≤ ix (pls one other t) 0 := by omega
    have e3 : ix (pls one other t) (-1) + 1 ≤ (other.length : Int) := by rw [h2.1]; omega
    have ec : (cutL other (some (ix (pls one other t) 0)) (some (ix (pls one other t) (-1) + 1))).map (fun cell : Str × Int => cell.1) = sgs other (ix (pls one other t) 0) (ix (pls one other t) (-1) + 1 - ix (pls one other t) 0).toNat := by
      rw [cut_nat e0 (by omega) e3, take_izs e0 (by omega)]
      unfold sgs
      rw [List.map_map]; rfl
    have es := sgs_ok (a := ix (pls one other t) 0) (m := (ix (pls one other t) (-1) + 1 - ix (pls one other t) 0).toNat) h2 e0 (by omega)
    have el : (sgs other (ix (pls one other t) 0) (ix (pls one other t) (-1) + 1 - ix (pls one other t) 0).toNat).length ≤ 1000 := by unfold sgs; rw [List.length_map, izs_len]; omega
    have ej : ((sgs other (ix (pls one other t) 0) (ix (pls one other t) (-1) + 1 - ix (pls one other t) 0).toNat).map (·.length)).sum + (sgs other (ix (pls one other t) 0) (ix (pls one other t) (-1) + 1 - ix (pls one other t) 0).toNat).length * ("" : Str).length ≤ 16777216 :=
      join_le 1 1000 0 (fun y hy => by rw [(es y hy).2]; exact Nat.le_refl _) el (Nat.le_refl _) (by decide)
    refine ⟨⟨hU, fun _ => ⟨⟨b0, b1, ?_, ?_⟩, b0, hl⟩⟩, .inl ?_⟩
    · show (cutL other (some (ix (pls one other t) 0)) (some (ix (pls one other t) (-1) + 1))).length ≤ 100000
      rw [← List.length_map (fun cell : Str × Int => cell.1), ec]; omega
    · show (((cutL other (some (ix (pls one other t) 0)) (some (ix (pls one other t) (-1) + 1))).map (fun cell : Str × Int => cell.1)).map (·.length)).sum + ((cutL other (some (ix (pls one other t) 0)) (some (ix (pls one other t) (-1) + 1))).map (fun cell : Str × Int => cell.1)).length * ("" : Str).length ≤ 16777216
      rw [ec]; exact ej
    · unfold m_writings_f1 bnd
      dsimp only
      rw [eU, if_neg (by rw [e1]; decide), ec, ew]; rfl
theorem tiles_all {other : List (Str × Int)} : ∀ {ts : List (T3 Int Int Int)} {lo : Int}, Tiles other lo ts → ∀ t ∈ ts, lo ≤ t.a ∧ t.a ≤ t.b ∧ t.b ≤ other.length
  | [], _, _, t, ht => nomatch ht
  | u :: r, lo, ⟨h1, h2, h3, _, h5⟩, t, ht => by
    rcases List.mem_cons.mp ht with rfl | ht
    · exact ⟨by omega, by omega, h3⟩
    · have := tiles_all h5 t ht
      exact ⟨by omega, this.2.1, this.2.2⟩
theorem tiles_len {other : List (Str × Int)} : ∀ {ts : List (T3 Int Int Int)} {lo : Int}, Tiles other lo ts → lo + ts.length ≤ other.length
  | [], lo, h => by show lo + 0 ≤ _; rw [show lo = other.length from h]; omega
  | u :: r, lo, ⟨h1, h2, h3, _, h5⟩ => by
    have := tiles_len h5
    rw [List.length_cons]; omega
theorem wrs_len {row : Int} {t : T3 Int Int Int} : (wrs row one other t).length ≤ 1 := by unfold wrs; split <;> simp
theorem wr_all (hn : n ≤ 1000) (h1 : RowN n one) (h2 : RowN n other) : ∀ (ts : List (T3 Int Int Int)) (acc : List Dd), (∀ t ∈ ts, 0 ≤ t.a ∧ t.a ≤ t.b ∧ t.b ≤ n) → acc.length + ts.length < 100000 →
    vRun (m_writings_f1 row one other) (v_writings_f1 row one other) acc ts ∧ (runFor (m_writings_f1 row one other) acc ts : Out (List Dd) Empty (List Dd)) = .nx (acc ++ ts.flatMap (wrs row one other))
  | [], acc, _, _ => ⟨trivial, by simp [runFor]⟩
  | t :: r, acc, ht, hl => by
    obtain ⟨a1, a2, a3⟩ := ht t (List.mem_cons_self ..)
    rw [List.length_cons] at hl
    obtain ⟨s1, s4⟩ := wr_step (row := row) hn h1 h2 a1 a2 a3 (acc := acc) (by omega)
    have := wrs_len (one := one) (other := other) (row := row) (t := t)
    obtain ⟨k1, k4⟩ := wr_all hn h1 h2 r (acc ++ wrs row one other t) (fun u hu => ht u (List.mem_cons_of_mem _ hu)) (by rw [List.length_append]; omega)
    rw [List.append_assoc] at k4
    refine ⟨⟨s1, ?_⟩, ?_⟩
    · rcases s4 with s4 | s4 <;> rw [s4] <;> exact k1
    · unfold runFor
      rw [List.flatMap_cons]
      rcases s4 with s4 | s4 <;> rw [s4] <;> exact k4
def wrL (row : Int) (one other : List (Str × Int)) : List Dd := (stS other).flatMap (wrs row one other)
theorem writings_is (row : Int) (hn : n ≤ 1000) (h0 : 0 < n) (h1 : RowN n one) (h2 : RowN n other) : v_writings row one other ∧ m_writings row one other = wrL row one other := by
  have hl : 0 < other.length := by rw [h2.1]; exact h0
  obtain ⟨s1, s2⟩ := stretches_is other hl (by rw [h2.1]; exact hn)
  have ti := stS_tiles hl
  have tl := tiles_len ti
  obtain ⟨k1, k4⟩ := wr_all (row := row) hn h1 h2 (stS other) [] (fun t ht => by have := tiles_all ti t ht; rw [h2.1] at this; exact this) (by rw [h2.1] at tl; simp; omega)
  refine ⟨⟨s1, by rw [s2]; exact k1⟩, ?_⟩
  unfold m_writings bnd
  dsimp only
  rw [s2, k4]; rfl
theorem wrL_few (h0 : 0 < n) (h2 : RowN n other) : (wrL row one other).length ≤ n := by
  have tl := tiles_len (stS_tiles (row := other) (by rw [h2.1]; exact h0))
  rw [h2.1] at tl
  refine Nat.le_trans ?_ (show (stS other).length ≤ n by omega)
  unfold wrL
  generalize stS other = ts
  induction ts with
  | nil => exact Nat.le_refl _
  | cons t r ih =>
    rw [List.flatMap_cons, List.length_append, List.length_cons]
    have := wrs_len (one := one) (other := other) (row := row) (t := t)
    omega
theorem wrL_num (r1 r2 : Int) : (wrL r1 one other).length = (wrL r2 one other).length := by
  unfold wrL
  generalize stS other = ts
  induction ts with
  | nil => rfl
  | cons t r ih =>
    rw [List.flatMap_cons, List.flatMap_cons, List.length_append, List.length_append, ih]
    congr 1
    unfold wrs
    split <;> rfl
end
section
variable {n : Nat} {one other : List (Str × Int)}
def lw (col ink : Int) (s : List (Str × Int)) (z : Int × Str) : List (Str × Int) := stI s (col + z.1) (z.2, ink)
theorem lay_text (col ink : Int) (ys : List Str) (r : List (Str × Int)) (hr : r.length = n) (h0 : 0 ≤ col) (h1 : col + ys.length ≤ n) :
    ((enumL ys).foldl (lw col ink) r).length = n ∧ ∀ j : Int, 0 ≤ j → j < n → ix ((enumL ys).foldl (lw col ink) r) j = if col ≤ j ∧ j < col + ys.length then (ix ys (j - col), ink) else ix r j := by
  have k := fold_inv (g := lw col ink) (vb := fun _ _ => True) (xs := enumL ys) (s := r) (fun i s => s.length = n ∧ ∀ j : Int, 0 ≤ j → j < n → ix s j = if col ≤ j ∧ j < col + i then (ix ys (j - col), ink) else ix r j) ⟨hr, fun j _ _ => by rw [if_neg (by omega)]⟩ fun i s z hz ⟨q1, q2⟩ => ?_
  · rw [enumL_len] at k
    exact k.2
  · obtain ⟨e1, e2⟩ := enumL_get hz
    have hi : i < ys.length := (List.getElem?_eq_some_iff.mp e2).1
    refine ⟨trivial, ?_⟩
    unfold lw
    refine ⟨st_len.trans q1, fun j j0 j1 => ?_⟩
    rw [ix_st (by omega) (by omega) j0 (by omega), e1]
    by_cases ej : j = col + i
    · rw [if_pos ej, if_pos (by omega)]
      congr 1
      rw [ej, show col + (i : Int) - col = i by omega, ix_of, e2]; rfl
    · rw [if_neg ej, q2 j j0 j1]
      by_cases h : col ≤ j ∧ j < col + i
      · rw [if_pos h, if_pos (by omega)]
      · rw [if_neg h, if_neg (by omega)]
/-- a row behind a writing in it -/
def lay (r : List (Str × Int)) : Dd → List (Str × Int)
  | .cp .. => r
  | .wr _ _ col text ink => (enumL (signsL text)).foldl (lw col ink) r
/-- rows that are the other's ahead of lo and the one's from there on -/
def Half (n : Nat) (one other : List (Str × Int)) (lo : Int) (r : List (Str × Int)) : Prop := r.length = n ∧ ∀ j : Int, 0 ≤ j → j < n → ix r j = if j < lo then ix other j else ix one j
/-- a writing as it is told -/
structure WrOk (n : Nat) (one other : List (Str × Int)) (t : T3 Int Int Int) : Prop where
  c0 : t.a ≤ wrc one other t
  l0 : 1 ≤ (wrt one other t).length
  l1 : wrc one other t + (wrt one other t).length ≤ t.b
  s : signsL (wrt one other t) = sgs other (wrc one other t) (wrt one other t).length
  ok : PyData.strOk (wrt one other t) = true
  inn : ∀ x ∈ pls one other t, wrc one other t ≤ x ∧ x < wrc one other t + (wrt one other t).length
  ln : (wrt one other t).length = (ix (pls one other t) (-1) + 1 - ix (pls one other t) 0).toNat
theorem wr_ok {t : T3 Int Int Int} (h2 : RowN n other) (h0 : 0 ≤ t.a) (hb : t.b ≤ n) (hp : pls one other t ≠ []) : WrOk n one other t := by
  obtain ⟨b0, b1, m0, m1, hin⟩ := pls_ends hp
  have q0 := (pls_mem.mp m0).1
  have q1 := (pls_mem.mp m1).1
  have q2 := (hin _ m0).2
  have es := sgs_ok (a := ix (pls one other t) 0) (m := (ix (pls one other t) (-1) + 1 - ix (pls one other t) 0).toNat) h2 (by omega) (by omega)
  have el : (sgs other (ix (pls one other t) 0) (ix (pls one other t) (-1) + 1 - ix (pls one other t) 0).toNat).length = (ix (pls one other t) (-1) + 1 - ix (pls one other t) 0).toNat := by unfold sgs; rw [List.length_map, izs_len]
  have ee : signsL (wrt one other t) = sgs other (ix (pls one other t) 0) (ix (pls one other t) (-1) + 1 - ix (pls one other t) 0).toNat := signs_join fun y hy => (es y hy).2
  have ln : (wrt one other t).length = (ix (pls one other t) (-1) + 1 - ix (pls one other t) 0).toNat := by rw [← signsL_len, ee, el]
  refine ⟨q0.1, by omega, ?_, ?_, ?_, fun x hx => ?_, ln⟩
  · show ix (pls one other t) 0 + _ ≤ t.b
    rw [ln]; omega
  · rw [ee, ln]; rfl
  · exact join_strOk (by decide +kernel) fun y hy => (es y hy).1
  · have := hin x hx
    show ix (pls one other t) 0 ≤ x ∧ x < ix (pls one other t) 0 + _
    rw [ln]; omega
theorem lay_one {row : Int} {t : T3 Int Int Int} {r : List (Str × Int)} (h2 : RowN n other) (hr : Half n one other t.a r) (h0 : 0 ≤ t.a) (hb : t.b ≤ n) (hab : t.a < t.b) (hk : ∀ p, t.a ≤ p → p < t.b → ink other p = t.c) :
    Half n one other t.b ((wrs row one other t).foldl lay r) := by
  obtain ⟨r1, r2⟩ := hr
  by_cases hp : pls one other t = []
  · unfold wrs
    rw [if_pos hp]
    refine ⟨r1, fun j j0 j1 => ?_⟩
    rw [List.foldl_nil, r2 j j0 j1]
    by_cases q : j < t.a
    · rw [if_pos q, if_pos (by omega)]
    · rw [if_neg q]
      by_cases q2 : j < t.b
      · rw [if_pos q2]
        by_cases e : ix one j = ix other j
        · exact e
        · have : j ∈ pls one other t := pls_mem.mpr ⟨⟨by omega, q2⟩, e⟩
          rw [hp] at this; cases this
      · rw [if_neg q2]
  · unfold wrs
    rw [if_neg hp]
    have W := wr_ok h2 h0 hb hp
    have w0 := W.c0
    have w1 := W.l1
    have sl : (sgs other (wrc one other t) (wrt one other t).length).length = (wrt one other t).length := by unfold sgs; rw [List.length_map, izs_len]
    obtain ⟨k2, k3⟩ := lay_text (n := n) (wrc one other t) t.c (sgs other (wrc one other t) (wrt one other t).length) r r1 (by omega) (by rw [sl]; omega)
    rw [List.foldl_cons, List.foldl_nil]
    have st : lay r (wr row one other t) = (enumL (sgs other (wrc one other t) (wrt one other t).length)).foldl (lw (wrc one other t) t.c) r := by
      show (enumL (signsL (wrt one other t))).foldl _ r = _
      rw [W.s]
    rw [st]
    refine ⟨k2, fun j j0 j1 => ?_⟩
    rw [k3 j j0 j1, sl]
    by_cases q : wrc one other t ≤ j ∧ j < wrc one other t + (wrt one other t).length
    · rw [if_pos q, if_pos (by omega)]
      have e1 := ix_mapz (f := fun p => (ix other p).1) (a := wrc one other t) (j := j - wrc one other t) (m := (wrt one other t).length) (by omega) (by omega)
      rw [show wrc one other t + (j - wrc one other t) = j by omega] at e1
      unfold sgs
      rw [e1, ← hk j (by omega) (by omega)]; rfl
    · rw [if_neg q, r2 j j0 j1]
      by_cases q3 : j < t.a
      · rw [if_pos q3, if_pos (by omega)]
      · rw [if_neg q3]
        by_cases q4 : j < t.b
        · rw [if_pos q4]
          by_cases e : ix one j = ix other j
          · exact e
          · have := W.inn j (pls_mem.mpr ⟨⟨by omega, q4⟩, e⟩)
            omega
        · rw [if_neg q4]
theorem lay_all {row : Int} (h2 : RowN n other) : ∀ (ts : List (T3 Int Int Int)) (lo : Int) (r : List (Str × Int)), 0 ≤ lo → Tiles other lo ts → Half n one other lo r → Half n one other n ((ts.flatMap (wrs row one other)).foldl lay r)
  | [], lo, r, h0, ht, hr => by
    have e : lo = (n : Int) := by rw [← h2.1]; exact ht
    subst e; exact hr
  | t :: ts, lo, r, h0, ⟨e1, e2, e3, e4, e5⟩, hr => by
    subst e1
    have k2 := lay_one (row := row) h2 hr h0 (by rw [← h2.1]; exact e3) e2 e4
    have k4 := lay_all (row := row) h2 ts t.b _ (by omega) e5 k2
    rw [List.flatMap_cons, List.foldl_append]
    exact k4
theorem lay_is {row : Int} (h0 : 0 < n) (h1 : RowN n one) (h2 : RowN n other) : (wrL row one other).foldl lay one = other := by
  have ti := stS_tiles (row := other) (by rw [h2.1]; exact h0)
  obtain ⟨k2, k3⟩ := lay_all (row := row) (one := one) h2 (stS other) 0 one (Int.le_refl _) ti ⟨h1.1, fun j j0 j1 => by rw [if_neg (by omega)]⟩
  unfold wrL
  exact ext_ix (by rw [k2, h2.1]) fun j j0 j1 => by rw [k3 j j0 (by omega), if_pos (by omega)]
/-- what is known of each writing of a row -/
theorem wrL_mem {row : Int} (h0 : 0 < n) (h2 : RowN n other) {d : Dd} (hd : d ∈ wrL row one other) : ∃ t ∈ stS other, d = wr row one other t ∧ 0 ≤ t.a ∧ t.b ≤ n ∧ WrOk n one other t ∧ ∀ p, t.a ≤ p → p < t.b → ink other p = t.c := by
  obtain ⟨t, ht, hz⟩ := List.mem_flatMap.mp hd
  have T := stS_tiles (row := other) (by rw [h2.1]; exact h0)
  have ti := tiles_all T t ht
  rw [h2.1] at ti
  unfold wrs at hz
  split at hz
  · cases hz
  · next hp =>
    rw [List.mem_singleton] at hz
    refine ⟨t, ht, hz, ti.1, ti.2.2, wr_ok h2 ti.1 ti.2.2 hp, ?_⟩
    have : ∀ (ts : List (T3 Int Int Int)) (lo : Int), Tiles other lo ts → t ∈ ts → ∀ p, t.a ≤ p → p < t.b → ink other p = t.c := fun ts => by
      induction ts with
      | nil => exact fun _ _ h => nomatch h
      | cons u us ih =>
        intro lo T h
        obtain ⟨e1, e2, e3, e4, e5⟩ := T
        rcases List.mem_cons.mp h with rfl | h
        · rw [e1]; exact e4
        · exact ih _ e5 h
    exact this _ _ T ht
end
theorem td_app {υ τ : Type} [Py υ] [TKey υ] {k k0 : υ} {y : τ} : ∀ {l : List (υ × τ)}, tdOpt k (l ++ [(k0, y)]) = match tdOpt k l with | some v => some v | none => if TKey.keys k0 = TKey.keys k then some y else none
  | [] => rfl
  | x :: r => by
    rw [List.cons_append]
    unfold tdOpt
    split
    · rfl
    · exact td_app (l := r)
abbrev K3 := T3 Int Int Int
/-- the knots that are priced so far -/
def Dn (h a g w : Int) (k : K3) : Prop := (0 ≤ k.a ∧ k.a ≤ h) ∧ (0 ≤ k.b ∧ k.b ≤ h) ∧ (0 ≤ k.c ∧ k.c ≤ 2) ∧ (a < k.b ∨ (k.b = a ∧ (g < k.a ∨ (k.a = g ∧ w < k.c))))
/-- the steps from a knot, with all costs -/
def stp3 (h : Int) (cs : List (List Int)) (g a w : Int) : List (Int × K3) :=
  if a = h then [] else ((ix (ix cs g) a, T3.mk (min (g + 1) h) (a + 1) 0) :: (if g < h ∧ w ≠ 2 then [((if w = 1 then (0 : Int) else 1), T3.mk (min (g + 1) h) a 1)] else [])) ++ [((if w = 2 then (0 : Int) else 1) + ix (ix cs h) a, T3.mk g (a + 1) 2)]
theorem steps_is {s : Wk} {h : Int} {cs : List (List Int)} (e1 : s.high = h) (e2 : s.costs = cs) (g a w : Int) : m_Walk_steps s g a w = stp3 h cs g a w := by
  have b1 : ∀ z : Int, (if (!decide (w = z)) = true then (1 : Int) else 0) = if w = z then 0 else 1 := fun z => by
    by_cases e : w = z
    · rw [if_pos e, decide_eq_true e]; rfl
    · rw [if_neg e, decide_eq_false e]; rfl
  unfold m_Walk_steps stp3 bnd
  dsimp only
  rw [e1, e2]
  by_cases c1 : a = h
  · rw [if_pos (decide_eq_true c1), if_pos c1]
  · rw [if_neg (by rw [decide_eq_true_eq]; exact c1), if_neg c1, b1, b1]
    by_cases c2 : g < h ∧ w ≠ 2
    · rw [if_pos (by rw [Bool.and_eq_true, decide_eq_true_eq, decide_eq_false c2.2]; exact ⟨c2.1, rfl⟩), if_pos c2]; rfl
    · rw [if_neg (by rw [Bool.and_eq_true, decide_eq_true_eq]; intro z; exact c2 ⟨z.1, fun e => by rw [decide_eq_true e] at z; exact absurd z.2 (by decide)⟩), if_neg c2]
structure CsOk (h : Int) (cs : List (List Int)) : Prop where
  h0 : 1 ≤ h ∧ h ≤ 12
  n : (cs.length : Int) = h + 1
  r : ∀ r ∈ cs, (r.length : Int) = h
theorem CsOk.at {h : Int} {cs : List (List Int)} (c : CsOk h cs) {g a : Int} (g0 : 0 ≤ g ∧ g ≤ h) (a0 : 0 ≤ a ∧ a < h) : InB cs g ∧ InB (ix cs g) a := by
  have n := c.n
  have i : InB cs g := by unfold InB; omega
  have r := c.r _ (ix_mem i)
  exact ⟨i, by unfold InB; omega⟩
theorem steps_v {s : Wk} {h : Int} {cs : List (List Int)} (e1 : s.high = h) (e2 : s.costs = cs) (c : CsOk h cs) {g a w : Int} (g0 : 0 ≤ g ∧ g ≤ h) (a0 : 0 ≤ a ∧ a ≤ h) : v_Walk_steps s g a w := by
  unfold v_Walk_steps bnd
  rw [e1, e2]
  intro e
  have e := of_decide_eq_false e
  have i1 := c.at g0 (a := a) (by omega)
  have i2 := c.at (g := h) (a := a) (by have := c.h0; omega) (by omega)
  refine ⟨i1, fun _ => (by decide : 1 < 100000), i2.1, i2.2, ?_⟩
  split
  · exact (by decide : 2 < 100000)
  · exact (by decide : 1 < 100000)
/-- where steps lead -/
theorem stp_to {h : Int} {cs : List (List Int)} {g a w : Int} (g0 : 0 ≤ g ∧ g ≤ h) (a0 : 0 ≤ a ∧ a ≤ h) {p : Int × K3} (hp : p ∈ stp3 h cs g a w) : Dn h a g w p.2 ∧ a < h := by
  unfold stp3 at hp
  split at hp
  · cases hp
  · next e =>
    refine ⟨?_, by omega⟩
    rcases List.mem_append.mp hp with hp | hp
    · rcases List.mem_cons.mp hp with rfl | hp
      · exact ⟨by dsimp only; omega, by dsimp only; omega, by dsimp only; omega, .inl (by dsimp only; omega)⟩
      · split at hp
        · next c =>
          rw [List.mem_singleton.mp hp]
          exact ⟨by dsimp only; omega, by dsimp only; omega, by dsimp only; omega, .inr ⟨rfl, .inl (by dsimp only; omega)⟩⟩
        · cases hp
    · rw [List.mem_singleton.mp hp]
      exact ⟨by dsimp only; omega, by dsimp only; omega, by dsimp only; omega, .inl (by dsimp only; omega)⟩
theorem stp_len {h : Int} {cs : List (List Int)} {g a w : Int} : (stp3 h cs g a w).length ≤ 3 := by
  unfold stp3
  split
  · exact Nat.zero_le _
  · split
    · exact (by decide : 3 ≤ 3)
    · exact (by decide : 2 ≤ 3)
structure WkI (h : Int) (cs : List (List Int)) (rw : List (List (Str × Int))) (D : K3 → Prop) (N : Nat) (s : Wk) : Prop where
  high : s.high = h
  rows : s.rows = rw
  costs : s.costs = cs
  has : ∀ k, (tdOpt k s.prices.l).isSome = true ↔ D k
  eq : ∀ k, D k → tdGet s.prices k = minDf ((stp3 h cs k.a k.b k.c).map fun p => p.1 + tdGet s.prices p.2) 0
  to : ∀ k, D k → ∀ p ∈ stp3 h cs k.a k.b k.c, D p.2
  len : s.prices.l.length ≤ N
theorem WkI.cong {h : Int} {cs : List (List Int)} {rw : List (List (Str × Int))} {D D' : K3 → Prop} {N M : Nat} {s : Wk} (w : WkI h cs rw D N s) (e : ∀ k, D k ↔ D' k) (hN : N ≤ M) : WkI h cs rw D' M s :=
  ⟨w.high, w.rows, w.costs, fun k => (w.has k).trans (e k), fun k hk => w.eq k ((e k).mpr hk), fun k hk p hp => (e _).mp (w.to k ((e k).mpr hk) p hp), Nat.le_trans w.len hN⟩
theorem key_eq {k k0 : K3} : TKey.keys k0 = TKey.keys k ↔ k0 = k := ⟨TKey.inj _ _, fun e => by rw [e]⟩
theorem dn_next {h a g w : Int} (hw : 0 ≤ w ∧ w ≤ 2) (hg : 0 ≤ g ∧ g ≤ h) (ha : 0 ≤ a ∧ a ≤ h) (k : K3) : Dn h a g (w - 1) k ↔ Dn h a g w k ∨ k = ⟨g, a, w⟩ := by
  obtain ⟨x, y, z⟩ := k
  unfold Dn
  dsimp only
  rw [T3.mk.injEq]
  omega
theorem price_step {h : Int} {cs : List (List Int)} {rw0 : List (List (Str × Int))} {a g w : Int} {N : Nat} {s : Wk} (c : CsOk h cs) (hw : 0 ≤ w ∧ w ≤ 2) (hg : 0 ≤ g ∧ g ≤ h) (ha : 0 ≤ a ∧ a ≤ h) (hN : N < 100000) (I : WkI h cs rw0 (Dn h a g w) N s) :
    v_Walk_init_f3 a g s w ∧ WkI h cs rw0 (Dn h a g (w - 1)) (N + 1) (m_Walk_init_f3 a g s w) := by
  have es := steps_is I.high I.costs g a w
  have hv : v_Walk_price s g a w := ⟨steps_v I.high I.costs c hg ha, by rw [es]; exact Nat.le_trans stp_len (by decide), fun p hp => by rw [es] at hp; exact (I.has _).mpr (stp_to hg ha hp).1⟩
  refine ⟨⟨hv, by have := I.len; omega⟩, ?_⟩
  have hno : tdOpt (T3.mk g a w) s.prices.l = none := by
    cases q : tdOpt (T3.mk g a w) s.prices.l with
    | none => rfl
    | some v =>
      have := (I.has (T3.mk g a w)).mp (by rw [q]; rfl)
      unfold Dn at this
      dsimp only at this
      omega
  have ep : (m_Walk_init_f3 a g s w).prices.l = s.prices.l ++ [(T3.mk g a w, m_Walk_price s g a w)] := by
    show (tdPut s.prices (T3.mk g a w) (m_Walk_price s g a w)).l = _
    unfold tdPut
    rw [hno]; rfl
  have go : ∀ k : K3, tdOpt k (m_Walk_init_f3 a g s w).prices.l = if k = ⟨g, a, w⟩ then some (m_Walk_price s g a w) else tdOpt k s.prices.l := fun k => by
    rw [ep, td_app]
    by_cases e : k = ⟨g, a, w⟩
    · subst e
      rw [hno, if_pos rfl, if_pos rfl]
    · rw [if_neg e, if_neg (fun z => e (key_eq.mp z).symm)]
      cases tdOpt k s.prices.l <;> rfl
  have gg : ∀ k : K3, Dn h a g w k → tdGet (m_Walk_init_f3 a g s w).prices k = tdGet s.prices k := fun k hk => by
    unfold tdGet
    rw [go, if_neg]
    intro e
    subst e
    unfold Dn at hk
    dsimp only at hk
    omega
  refine ⟨I.high, I.rows, I.costs, fun k => ?_, fun k hk => ?_, fun k hk p hp => ?_, ?_⟩
  · rw [go, dn_next hw hg ha]
    by_cases e : k = ⟨g, a, w⟩
    · rw [if_pos e]; exact ⟨fun _ => .inr e, fun _ => rfl⟩
    · rw [if_neg e, I.has]; exact ⟨.inl, fun z => z.resolve_right e⟩
  · rcases (dn_next hw hg ha k).mp hk with hk | rfl
    · rw [gg k hk, I.eq k hk]
      congr 1
      exact List.map_congr_left fun p hp => by rw [gg _ (I.to k hk p hp)]
    · have : tdGet (m_Walk_init_f3 a g s w).prices (T3.mk g a w) = m_Walk_price s g a w := by
        unfold tdGet
        rw [go, if_pos rfl]; rfl
      rw [this]
      unfold m_Walk_price
      rw [es]
      congr 1
      exact List.map_congr_left fun p hp => by rw [gg _ (stp_to hg ha hp).1]
  · rcases (dn_next hw hg ha k).mp hk with hk | rfl
    · exact (dn_next hw hg ha _).mpr (.inl (I.to k hk p hp))
    · exact (dn_next hw hg ha _).mpr (.inl (stp_to hg ha hp).1)
  · rw [ep, List.length_append]
    have := I.len
    show _ + 1 ≤ _
    omega
theorem price_f2 {h : Int} {cs : List (List Int)} {rw0 : List (List (Str × Int))} {a g : Int} {N : Nat} {s : Wk} (c : CsOk h cs) (hg : 0 ≤ g ∧ g ≤ h) (ha : 0 ≤ a ∧ a ≤ h) (hN : N < 90000) (I : WkI h cs rw0 (Dn h a g 2) N s) :
    v_Walk_init_f2 a s g ∧ WkI h cs rw0 (Dn h a (g - 1) 2) (N + 3) (m_Walk_init_f2 a s g) := by
  obtain ⟨a1, a2⟩ := price_step c (w := 2) (by decide) hg ha (by omega) I
  obtain ⟨b1, b2⟩ := price_step c (w := 1) (by decide) hg ha (by omega) a2
  obtain ⟨c1, c2⟩ := price_step c (w := 0) (by decide) hg ha (by omega) b2
  refine ⟨⟨a1, b1, c1, trivial⟩, ?_⟩
  refine WkI.cong (N := N + 1 + 1 + 1) c2 (fun k => ?_) (by omega)
  unfold Dn
  omega
theorem rev_get {n i : Nat} {y : Int} (h : (izs 0 n).reverse[i]? = some y) : i < n ∧ y = (n : Int) - 1 - i := by
  have := rev_izs n i y h
  omega
theorem price_f1 {h : Int} {cs : List (List Int)} {rw0 : List (List (Str × Int))} {a : Int} {N : Nat} {s : Wk} (c : CsOk h cs) (ha : 0 ≤ a ∧ a ≤ h) (hN : N < 80000) (I : WkI h cs rw0 (Dn h a h 2) N s) :
    v_Walk_init_f1 s a ∧ WkI h cs rw0 (Dn h (a - 1) h 2) (N + 39) (m_Walk_init_f1 s a) := by
  have h0 := c.h0
  have k := fold_inv (g := m_Walk_init_f2 a) (vb := v_Walk_init_f2 a) (xs := (izs 0 ((s.high + 1) : Int).toNat).reverse) (s := s) (fun i z => WkI h cs rw0 (Dn h a (h - i) 2) (N + 3 * i) z) (I.cong (fun k => by unfold Dn; omega) (by omega)) fun i z y hy q => by
    obtain ⟨hi, ey⟩ := rev_get hy
    rw [I.high] at hi ey
    have r := price_f2 c (g := y) (by omega) ha (by omega) (q.cong (D' := Dn h a y 2) (fun k => by unfold Dn; omega) (Nat.le_refl _))
    exact ⟨r.1, r.2.cong (fun k => by unfold Dn; omega) (by omega)⟩
  have eh := I.high
  rw [List.length_reverse, izs_len] at k
  refine ⟨⟨by rw [I.high]; omega, k.1⟩, ?_⟩
  exact WkI.cong k.2 (fun k => by unfold Dn; omega) (by omega)
/-- all knots -/
def InK (h : Int) (k : K3) : Prop := (0 ≤ k.a ∧ k.a ≤ h) ∧ (0 ≤ k.b ∧ k.b ≤ h) ∧ 0 ≤ k.c ∧ k.c ≤ 2
def costsOf (rw : List (List (Str × Int))) (other : List (List (Str × Int))) : List (List Int) := rw.map fun r => other.map fun o => m_worth_of_line r o
def rowsOf (n : Nat) (one : List (List (Str × Int))) : List (List (Str × Int)) := one ++ [(List.replicate n ([((" " : Str), 0)] : List (Str × Int))).flatten]
structure WalkOk (n m : Nat) (one other : List (List (Str × Int))) (s : Wk) : Prop where
  c : CsOk m (costsOf (rowsOf n one) other)
  w : WkI m (costsOf (rowsOf n one) other) (rowsOf n one) (InK m) 1000 s
theorem rows_pg {n m : Nat} {one : List (List (Str × Int))} (h : Pg n m one) : Pg n (m + 1) (rowsOf n one) := by
  refine ⟨by unfold rowsOf; rw [List.length_append, h.1]; rfl, fun r hr => ?_⟩
  rcases List.mem_append.mp hr with hr | hr
  · exact h.2 r hr
  · rw [List.mem_singleton.mp hr]; exact wblank_is n
theorem worth_v {n : Nat} {a b : List (Str × Int)} (hn : 1 ≤ n ∧ n ≤ 24) (h1 : RowN n a) (h2 : RowN n b) : v_worth_of_line a b ∧ m_worth_of_line a b = ((wrL 0 a b).length : Nat) := by
  obtain ⟨k1, k2⟩ := writings_is 0 (by omega) (by omega) h1 h2
  refine ⟨k1, ?_⟩
  unfold m_worth_of_line
  rw [k2]
theorem walk_ok {n m : Nat} {one other : List (List (Str × Int))} (hn : 1 ≤ n ∧ n ≤ 24) (hm : 1 ≤ m ∧ m ≤ 12) (h1 : Pg n m one) (h2 : Pg n m other) : v_Walk_init () one other ∧ WalkOk n m one other (m_Walk_init () one other) := by
  have h0 := h1.at (i := 0) (by decide) (by omega)
  have rp := rows_pg h1
  have er : one ++ ([(m_blank_row (((ix one 0).length : Nat) : Int) 0)] : List (List (Str × Int))) = rowsOf n one := by rw [h0.2.1]; rfl
  have l1 := h1.1
  have l2 := h2.1
  have c : CsOk m (costsOf (rowsOf n one) other) := by
    refine ⟨by omega, by unfold costsOf; rw [List.length_map, rp.1]; omega, fun r hr => ?_⟩
    obtain ⟨x, _, rfl⟩ := List.mem_map.mp hr
    rw [List.length_map, l2]
  have k := fold_inv (g := m_Walk_init_f1) (vb := v_Walk_init_f1) (xs := (izs 0 (((m : Int) + 1) : Int).toNat).reverse) (s := (⟨(m : Int), rowsOf n one, costsOf (rowsOf n one) other, ⟨[]⟩⟩ : Wk)) (fun i z => WkI m (costsOf (rowsOf n one) other) (rowsOf n one) (Dn m (m - i) m 2) (39 * i) z)
    ⟨rfl, rfl, rfl, fun k => ⟨fun z => (by cases z), fun z => (by unfold Dn at z; omega)⟩, fun k z => (by unfold Dn at z; omega), fun k z => (by unfold Dn at z; omega), Nat.zero_le _⟩ fun i z y hy q => by
    obtain ⟨hi, ey⟩ := rev_get hy
    have r := price_f1 c (a := y) (by omega) (by omega) (q.cong (D' := Dn m y m 2) (fun k => by unfold Dn; omega) (Nat.le_refl _))
    exact ⟨r.1, r.2.cong (fun k => by unfold Dn; omega) (by omega)⟩
  rw [List.length_reverse, izs_len] at k
  unfold v_Walk_init m_Walk_init bnd
  dsimp only
  rw [er, l1]
  refine ⟨⟨⟨h0.1, ?_, ?_⟩, ⟨?_, fun r hr => ⟨by omega, fun g hg => (worth_v hn (rp.2 r hr) (h2.2 g hg)).1⟩⟩, ⟨by omega, by omega⟩, k.1⟩, c, k.2.cong (fun k => by unfold Dn InK; omega) (by omega)⟩
  · rw [h0.2.1]
    exact ⟨⟨by omega, by show 1 * ((n : Int)).toNat ≤ _; omega⟩, by omega⟩
  · show m + 1 ≤ 100000
    omega
  · rw [rp.1]; omega
theorem wh_inv {S B R : Type} {k : S → Bool} {f : S → Out S S R} {vk vb : S → Prop} (I : S → Prop) (μ : S → Nat) (J : S → Prop) (Q : R → Prop)
    (step : ∀ s, I s → vk s ∧ (k s = true → vb s ∧ (∀ s', f s = .nx s' → I s' ∧ μ s' < μ s) ∧ (∀ s', f s = .ct s' → I s' ∧ μ s' < μ s) ∧ (∀ s', f s = .bk s' → J s') ∧ ∀ r, f s = .rt r → Q r) ∧ (k s = false → J s)) :
    ∀ (n : Nat) (s : S), I s → μ s < n → vWh k f vk vb n s ∧ (∀ s', (runWh k f n s : Out S B R) = .nx s' → J s') ∧ (∀ r, (runWh k f n s : Out S B R) = .rt r → Q r) ∧ (∀ b, (runWh k f n s : Out S B R) ≠ .bk b) ∧ (∀ b, (runWh k f n s : Out S B R) ≠ .ct b)
  | 0, s, _, h => absurd h (Nat.not_lt_zero _)
  | n + 1, s, hI, hm => by
    obtain ⟨h1, h2, h3⟩ := step s hI
    unfold vWh runWh
    cases hk : k s with
    | false =>
      rw [if_neg Bool.false_ne_true]
      exact ⟨⟨h1, fun e => (by cases e)⟩, fun s' e => (by cases e; exact h3 hk), fun r e => (by cases e), fun b e => (by cases e), fun b e => (by cases e)⟩
    | true =>
      rw [if_pos rfl]
      obtain ⟨g1, g2, g3, g4, g5⟩ := h2 hk
      cases hf : f s with
      | nx s' =>
        obtain ⟨i1, i2⟩ := g2 s' hf
        obtain ⟨w1, w2⟩ := wh_inv (B := B) I μ J Q step n s' i1 (by omega)
        exact ⟨⟨h1, fun _ => ⟨g1, w1⟩⟩, w2⟩
      | ct s' =>
        obtain ⟨i1, i2⟩ := g3 s' hf
        obtain ⟨w1, w2⟩ := wh_inv (B := B) I μ J Q step n s' i1 (by omega)
        exact ⟨⟨h1, fun _ => ⟨g1, w1⟩⟩, w2⟩
      | bk s' => exact ⟨⟨h1, fun _ => ⟨g1, trivial⟩⟩, fun s'' e => (by cases e; exact g4 _ hf), fun r e => (by cases e), fun b e => (by cases e), fun b e => (by cases e)⟩
      | rt r => exact ⟨⟨h1, fun _ => ⟨g1, trivial⟩⟩, fun s'' e => (by cases e), fun r e => (by cases e; exact g5 _ hf), fun b e => (by cases e), fun b e => (by cases e)⟩
/-- a step that is taken -/
def Tk (h : Int) (cs : List (List Int)) (P : K3 → Int) (k k' : K3) : Prop := ∃ w, (w, k') ∈ stp3 h cs k.a k.b k.c ∧ w + P k' = P k
/-- a walk from a knot to the end -/
def Pth (h : Int) (cs : List (List Int)) (P : K3 → Int) : K3 → List K3 → Prop
  | k, [] => k.b = h
  | k, k' :: r => Tk h cs P k k' ∧ Pth h cs P k' r
def Chn (h : Int) (cs : List (List Int)) (P : K3 → Int) : List K3 → Prop
  | [] => False
  | [_] => True
  | k :: k' :: r => Tk h cs P k k' ∧ Chn h cs P (k' :: r)
theorem chn_snoc {h : Int} {cs : List (List Int)} {P : K3 → Int} {k' : K3} : ∀ {l : List K3} {k : K3}, Chn h cs P (l ++ [k]) → Tk h cs P k k' → Chn h cs P ((l ++ [k]) ++ [k'])
  | [], k, _, t => ⟨t, trivial⟩
  | [x], k, c, t => ⟨c.1, t, trivial⟩
  | x :: y :: r, k, c, t => ⟨c.1, chn_snoc (l := y :: r) c.2 t⟩
theorem chn_pth {h : Int} {cs : List (List Int)} {P : K3 → Int} : ∀ {l : List K3} {k : K3}, Chn h cs P (k :: l) → (∃ e, ix (k :: l) (-1) = e ∧ e.b = h) → Pth h cs P k l
  | [], k, _, ⟨e, h1, h2⟩ => by
    have : ix [k] (-1) = k := ix_lastA (xs := [])
    rw [this] at h1
    subst h1
    exact h2
  | x :: r, k, c, ⟨e, h1, h2⟩ => ⟨c.1, chn_pth c.2 ⟨e, by
    rw [← h1]
    rw [show ix (k :: x :: r) (-1) = ix (x :: r) (-1) from by
      have hl : x :: r = (x :: r).dropLast ++ [(x :: r).getLast (List.cons_ne_nil _ _)] := (List.dropLast_concat_getLast _).symm
      rw [hl, ← List.cons_append, ix_lastA, ix_lastA]], h2⟩⟩
theorem wk_eq {n m : Nat} {one other : List (List (Str × Int))} {s : Wk} (W : WalkOk n m one other s) {k : K3} (hk : InK m k) : (k.b = m → tdGet s.prices k = 0) ∧ (k.b < m → ∃ k', Tk m (costsOf (rowsOf n one) other) (tdGet s.prices) k k') ∧ ∀ p ∈ stp3 m (costsOf (rowsOf n one) other) k.a k.b k.c, tdGet s.prices k ≤ p.1 + tdGet s.prices p.2 := by
  have e := W.w.eq k hk
  refine ⟨fun hb => ?_, fun hb => ?_, fun p hp => ?_⟩
  · rw [e]
    unfold stp3
    rw [if_pos hb]; rfl
  · rcases minDf_spec ((stp3 m (costsOf (rowsOf n one) other) k.a k.b k.c).map fun p => p.1 + tdGet s.prices p.2) 0 with ⟨h1, _⟩ | ⟨h1, _⟩
    · rw [List.map_eq_nil_iff] at h1
      unfold stp3 at h1
      rw [if_neg (by omega)] at h1
      cases h1
    · obtain ⟨p, hp, ep⟩ := List.mem_map.mp h1
      exact ⟨p.2, p.1, hp, by rw [e]; exact ep⟩
  · rcases minDf_spec ((stp3 m (costsOf (rowsOf n one) other) k.a k.b k.c).map fun p => p.1 + tdGet s.prices p.2) 0 with ⟨h1, _⟩ | ⟨_, h2⟩
    · rw [List.map_eq_nil_iff] at h1
      rw [h1] at hp; cases hp
    · rw [e]
      exact h2 _ (List.mem_map.mpr ⟨p, hp, rfl⟩)
theorem tk_in {n m : Nat} {one other : List (List (Str × Int))} {s : Wk} (W : WalkOk n m one other s) {k k' : K3} (hk : InK m k) (t : Tk m (costsOf (rowsOf n one) other) (tdGet s.prices) k k') : InK m k' ∧ k.b < m ∧ k.a + k.b < k'.a + k'.b := by
  obtain ⟨w, h1, h2⟩ := t
  have := stp_to hk.1 hk.2.1 h1
  refine ⟨W.w.to k hk _ h1, this.2, ?_⟩
  have := this.2
  obtain ⟨g, a, c⟩ := k
  obtain ⟨q1, q2, _⟩ := hk
  unfold stp3 at h1
  dsimp only at *
  rw [if_neg (by omega)] at h1
  rcases List.mem_append.mp h1 with h1 | h1
  · rcases List.mem_cons.mp h1 with h1 | h1
    · rw [(Prod.mk.inj h1).2]; dsimp only; omega
    · split at h1
      · rw [(Prod.mk.inj (List.mem_singleton.mp h1)).2]; dsimp only; omega
      · cases h1
  · rw [(Prod.mk.inj (List.mem_singleton.mp h1)).2]; dsimp only; omega
/-- the walk as far as it is found -/
structure KnI (m : Nat) (cs : List (List Int)) (P : K3 → Int) (ks : List K3) : Prop where
  c : Chn m cs P ks
  l : ∃ xs k, ks = xs ++ [k] ∧ InK m k ∧ (xs.length : Int) ≤ k.a + k.b
  f : ∃ r, ks = ⟨0, 0, 0⟩ :: r
theorem knots_turn {n m : Nat} {one other : List (List (Str × Int))} {s : Wk} (hm : 1 ≤ m ∧ m ≤ 12) (W : WalkOk n m one other s) {xs : List K3} {k : K3} (hk : InK m k) (hl : xs.length ≤ 100) : ∀ ys : List (Int × K3), (∀ y ∈ ys, y ∈ stp3 m (costsOf (rowsOf n one) other) k.a k.b k.c) → (∃ y ∈ ys, y.1 + tdGet s.prices y.2 = tdGet s.prices k) →
    vRun (m_Walk_knots_f2 s k) (v_Walk_knots_f2 s k) (xs ++ [k]) ys ∧ ∃ k', Tk m (costsOf (rowsOf n one) other) (tdGet s.prices) k k' ∧ (runFor (m_Walk_knots_f2 s k) (xs ++ [k]) ys : Out (List K3) (List K3) (List K3)) = .nx ((xs ++ [k]) ++ [k'])
  | [], _, ⟨y, hy, _⟩ => nomatch hy
  | y :: ys, h1, h2 => by
    have hy := h1 y (List.mem_cons_self ..)
    have hv : v_Walk_knots_f2 s k (xs ++ [k]) y := ⟨⟨(W.w.has _).mpr (W.w.to k hk y hy), (W.w.has _).mpr hk⟩, fun _ => by rw [List.length_append]; show xs.length + 1 < _; omega⟩
    by_cases e : y.1 + tdGet s.prices y.2 = tdGet s.prices k
    · have st : m_Walk_knots_f2 s k (xs ++ [k]) y = .bk ((xs ++ [k]) ++ [y.2]) := by
        unfold m_Walk_knots_f2 bnd
        rw [if_pos (decide_eq_true e)]; rfl
      refine ⟨⟨hv, by rw [st]; trivial⟩, y.2, ⟨y.1, hy, e⟩, ?_⟩
      unfold runFor
      rw [st]
    · have st : m_Walk_knots_f2 s k (xs ++ [k]) y = .nx (xs ++ [k]) := by
        unfold m_Walk_knots_f2
        rw [if_neg (by rw [decide_eq_true_eq]; exact e)]
      obtain ⟨z, hz, ez⟩ := h2
      obtain ⟨k1, k2⟩ := knots_turn hm W hk hl ys (fun y hy => h1 y (List.mem_cons_of_mem _ hy)) (by
        rcases List.mem_cons.mp hz with rfl | hz
        · exact absurd ez e
        · exact ⟨z, hz, ez⟩)
      refine ⟨⟨hv, by rw [st]; exact k1⟩, ?_⟩
      unfold runFor
      rw [st]; exact k2
theorem knots_run {n m : Nat} {one other : List (List (Str × Int))} {s : Wk} (hm : 1 ≤ m ∧ m ≤ 12) (W : WalkOk n m one other s) (N : Nat) (hN : 50 ≤ N) : vWh (m_Walk_knots_k1 s) (m_Walk_knots_f1 s) (v_Walk_knots_k1 s) (v_Walk_knots_f1 s) N [⟨0, 0, 0⟩] ∧ ∃ r, (runWh (m_Walk_knots_k1 s) (m_Walk_knots_f1 s) N [⟨0, 0, 0⟩] : Out (List K3) Empty (List K3)) = .nx (⟨0, 0, 0⟩ :: r) ∧ Pth m (costsOf (rowsOf n one) other) (tdGet s.prices) ⟨0, 0, 0⟩ r ∧ r.length ≤ 24 := by
  have k := wh_inv (B := Empty) (R := List K3) (k := m_Walk_knots_k1 s) (f := m_Walk_knots_f1 s) (vk := v_Walk_knots_k1 s) (vb := v_Walk_knots_f1 s) (KnI m (costsOf (rowsOf n one) other) (tdGet s.prices)) (fun ks => (2 * m - ((ix ks (-1)).a + (ix ks (-1)).b)).toNat)
    (fun ks => KnI m (costsOf (rowsOf n one) other) (tdGet s.prices) ks ∧ (ix ks (-1)).b = m) (fun _ => False) (fun ks I => by
      obtain ⟨xs, k, rfl, hk, hl⟩ := I.l
      have el : ix (xs ++ [k]) (-1) = k := ix_lastA
      have hb : InB (xs ++ [k]) (-1) := by unfold InB; rw [List.length_append]; show -(((xs.length + 1 : Nat)) : Int) ≤ _ ∧ _; omega
      have hk1 := hk.1
      have hk2 := hk.2.1
      have hx : xs.length ≤ 100 := by omega
      refine ⟨hb, fun e => ?_, fun e => ⟨I, ?_⟩⟩
      · have e : decide ((ix (xs ++ [k]) (-1)).b < s.high) = true := e
        rw [el, W.w.high, decide_eq_true_eq] at e
        obtain ⟨k', t⟩ := (wk_eq W hk).2.1 e
        have es := steps_is W.w.high W.w.costs k.a k.b k.c
        obtain ⟨t1, t2⟩ := knots_turn hm W hk hx (stp3 m (costsOf (rowsOf n one) other) k.a k.b k.c) (fun _ h => h) (by
          obtain ⟨w, h1, h2⟩ := t
          exact ⟨_, h1, h2⟩)
        obtain ⟨k2, t3, t4⟩ := t2
        have fx : m_Walk_knots_f1 s (xs ++ [k]) = .nx ((xs ++ [k]) ++ [k2]) := by
          unfold m_Walk_knots_f1 bnd
          dsimp only
          rw [el, es, t4]; rfl
        have tin := tk_in W hk t3
        have el2 : ix ((xs ++ [k]) ++ [k2]) (-1) = k2 := ix_lastA
        have t5 := tin.1.1
        have t6 := tin.1.2.1
        refine ⟨⟨hb, ?_⟩, fun s' q => ?_, fun s' q => ?_, fun s' q => ?_, fun r q => ?_⟩
        · unfold bnd
          rw [el]
          exact ⟨steps_v W.w.high W.w.costs W.c hk1 hk2, by rw [es]; exact t1⟩
        · rw [fx] at q
          cases q
          refine ⟨⟨chn_snoc I.c t3, ⟨xs ++ [k], k2, rfl, tin.1, ?_⟩, ?_⟩, ?_⟩
          · rw [List.length_append]
            show ((xs.length + 1 : Nat) : Int) ≤ _
            omega
          · obtain ⟨r, hr⟩ := I.f
            exact ⟨r ++ [k2], by rw [hr]; rfl⟩
          · rw [el, el2]; omega
        · rw [fx] at q; cases q
        · rw [fx] at q; cases q
        · rw [fx] at q; cases q
      · have e : decide ((ix (xs ++ [k]) (-1)).b < s.high) = false := e
        rw [el, W.w.high, decide_eq_false_iff_not] at e
        rw [el]; omega) N [⟨0, 0, 0⟩] ⟨trivial, ⟨[], ⟨0, 0, 0⟩, rfl, ⟨by dsimp only; omega, by dsimp only; omega, by dsimp only; omega⟩, Int.le_refl _⟩, ⟨[], rfl⟩⟩ (by
      have el0 : ix [(⟨0, 0, 0⟩ : K3)] (-1) = ⟨0, 0, 0⟩ := ix_lastA (xs := [])
      rw [el0]
      dsimp only
      omega)
  obtain ⟨k1, k2, k3, k4, k5⟩ := k
  refine ⟨k1, ?_⟩
  cases q : (runWh (m_Walk_knots_k1 s) (m_Walk_knots_f1 s) N [(T3.mk 0 0 0)] : Out (List K3) Empty (List K3)) with
  | nx ks =>
    obtain ⟨I, hb⟩ := k2 ks q
    obtain ⟨r, hr⟩ := I.f
    obtain ⟨xs, k, e, hk, hl⟩ := I.l
    have c := I.c
    rw [hr] at c hb
    refine ⟨r, by rw [hr], chn_pth c ⟨_, rfl, hb⟩, ?_⟩
    have : (xs ++ [k]).length = r.length + 1 := by rw [← e, hr]; rfl
    rw [List.length_append] at this
    have h1 := hk.1
    have h2 := hk.2.1
    have : xs.length + 1 = r.length + 1 := this
    omega
  | rt r => exact (k3 r q).elim
  | bk e => exact e.elim
  | ct e => exact e.elim
theorem knots_ok {n m : Nat} {one other : List (List (Str × Int))} {s : Wk} (hm : 1 ≤ m ∧ m ≤ 12) (W : WalkOk n m one other s) : v_Walk_knots s ∧ ∃ r, m_Walk_knots s = ⟨0, 0, 0⟩ :: r ∧ Pth m (costsOf (rowsOf n one) other) (tdGet s.prices) ⟨0, 0, 0⟩ r ∧ r.length ≤ 24 := by
  obtain ⟨k1, r, k2, k3, k4⟩ := knots_run hm W 100000 (by decide)
  refine ⟨k1, r, ?_, k3, k4⟩
  unfold m_Walk_knots bnd
  dsimp only
  rw [k2]; rfl
section
variable {τ : Type} [Inhabited τ] {xs : List τ} {i : Int} {x y : τ}
theorem stI_self (h0 : 0 ≤ i) (h1 : i < xs.length) : stI xs i (ix xs i) = xs := ext_ix st_len fun j j0 j1 => by
  rw [st_len] at j1
  rw [ix_st h0 h1 j0 j1]
  split
  · next e => rw [e]
  · rfl
theorem ix_stI (h0 : 0 ≤ i) (h1 : i < xs.length) : ix (stI xs i x) i = x := by rw [ix_st h0 h1 h0 h1, if_pos rfl]
theorem stI_stI (h0 : 0 ≤ i) (h1 : i < xs.length) : stI (stI xs i x) i y = stI xs i y := by
  have l : (stI xs i x).length = xs.length := st_len
  refine ext_ix (by rw [st_len, st_len, st_len]) fun j j0 j1 => ?_
  rw [st_len, st_len] at j1
  rw [ix_st h0 (by rw [l]; exact h1) j0 (by rw [l]; exact j1), ix_st (y := y) h0 h1 j0 j1]
  split
  · rfl
  · next e => rw [ix_st h0 h1 j0 j1, if_neg e]
end
theorem rowfold {w : Str} {row col ink : Int} {text : Str} (h0 : 0 ≤ row) : ∀ (zs : List (Int × Str)) {p : List (List (Str × Int))}, row < p.length → zs.foldl (m_l_deed_f1 (.wr w row col text ink)) p = stI p row (zs.foldl (lw col ink) (ix p row))
  | [], p, h1 => (stI_self h0 h1).symm
  | z :: zs, p, h1 => by
    have st : m_l_deed_f1 (.wr w row col text ink) p z = stI p row (lw col ink (ix p row) z) := rfl
    rw [List.foldl_cons, st, rowfold h0 zs (by rw [st_len]; exact h1), ix_stI h0 h1, stI_stI h0 h1]; rfl
def IsW (row : Int) (d : Dd) : Prop := ∃ col text ink, d = .wr ("write" : Str) row col text ink
theorem row_lay {row : Int} (h0 : 0 ≤ row) : ∀ (ds : List Dd) {p : List (List (Str × Int))}, (∀ d ∈ ds, IsW row d) → row < p.length → ds.foldl m_l_deed p = stI p row (ds.foldl lay (ix p row))
  | [], p, _, h1 => (stI_self h0 h1).symm
  | d :: ds, p, h, h1 => by
    obtain ⟨col, text, ink, e⟩ := h d (List.mem_cons_self ..)
    have st : m_l_deed p d = stI p row (lay (ix p row) d) := by
      rw [e, ldeed_wr, rowfold h0 _ h1]; rfl
    rw [List.foldl_cons, st, row_lay h0 ds (fun z hz => h z (List.mem_cons_of_mem _ hz)) (by rw [st_len]; exact h1), ix_stI h0 h1, stI_stI h0 h1]; rfl
theorem wrL_isW {row : Int} {one other : List (Str × Int)} : ∀ d ∈ wrL row one other, IsW row d := fun d hd => by
  obtain ⟨t, _, hz⟩ := List.mem_flatMap.mp hd
  unfold wrs at hz
  split at hz
  · cases hz
  · rw [List.mem_singleton.mp hz]; exact ⟨_, _, _, rfl⟩
abbrev Rw2 := List (Str × Int) × List (Str × Int)
/-- the writings by which rows become others, from a row's number on -/
def wrP : Int → List Rw2 → List Dd
  | _, [] => []
  | a, q :: r => wrL a q.1 q.2 ++ wrP (a + 1) r
theorem wrP_snoc {q : Rw2} : ∀ (l : List Rw2) (a : Int), wrP a (l ++ [q]) = wrP a l ++ wrL (a + l.length) q.1 q.2
  | [], a => by
    show wrL a q.1 q.2 ++ [] = [] ++ wrL (a + ((0 : Nat) : Int)) q.1 q.2
    rw [List.append_nil, List.nil_append]
    congr 1; omega
  | x :: l, a => by
    show wrL a x.1 x.2 ++ wrP (a + 1) (l ++ [q]) = (wrL a x.1 x.2 ++ wrP (a + 1) l) ++ _
    rw [wrP_snoc l (a + 1), List.append_assoc, List.length_cons]
    congr 3; omega
theorem wrP_lay {n : Nat} (hn : 0 < n) : ∀ (qs : List Rw2) (pre : List (List (Str × Int))), (∀ q ∈ qs, RowN n q.1 ∧ RowN n q.2) → (wrP pre.length qs).foldl m_l_deed (pre ++ qs.map (·.1)) = pre ++ qs.map (·.2)
  | [], pre, _ => rfl
  | q :: qs, pre, h => by
    obtain ⟨h1, h2⟩ := h q (List.mem_cons_self ..)
    have hl : ((pre.length : Nat) : Int) < (pre ++ (q :: qs).map (·.1)).length := by rw [List.length_append, List.map_cons, List.length_cons]; omega
    have e0 : ix (pre ++ (q :: qs).map (·.1)) (pre.length : Int) = q.1 := ix_get (by omega) (by rw [Int.toNat_natCast, List.getElem?_append_right (Nat.le_refl _), Nat.sub_self]; rfl)
    show (wrL pre.length q.1 q.2 ++ wrP (pre.length + 1) qs).foldl m_l_deed _ = _
    rw [List.foldl_append, row_lay (by omega) _ wrL_isW hl, e0, lay_is hn h1 h2]
    have es : stI (pre ++ (q :: qs).map (·.1)) (pre.length : Int) q.2 = (pre ++ [q.2]) ++ qs.map (·.1) := by
      rw [st_nat (by omega) hl, Int.toNat_natCast, List.set_append_right _ _ (Nat.le_refl _), Nat.sub_self, List.append_assoc]; rfl
    rw [es]
    have ih := wrP_lay hn qs (pre ++ [q.2]) fun z hz => h z (List.mem_cons_of_mem _ hz)
    rw [List.length_append] at ih
    have e1 : (((pre.length + [q.2].length : Nat)) : Int) = (pre.length : Int) + 1 := by simp
    rw [e1] at ih
    rw [ih, List.append_assoc]; rfl
theorem zip_snoc {α β : Type} [Inhabited β] {x : α} : ∀ (xs : List α) (ys : List β), xs.length < ys.length → (xs ++ [x]).zip ys = xs.zip ys ++ [(x, ix ys xs.length)]
  | [], [], h => nomatch h
  | [], y :: ys, _ => by
    show (x, y) :: _ = [(x, ix (y :: ys) 0)]
    rw [ix_cons]; simp
  | z :: xs, [], h => nomatch h
  | z :: xs, y :: ys, h => by
    have ih := zip_snoc (x := x) xs ys (by simp at h; omega)
    show (z, y) :: (xs ++ [x]).zip ys = (z, y) :: (xs.zip ys ++ [(x, ix (y :: ys) ((xs.length + 1 : Nat) : Int))])
    rw [ih]
    congr 4
    rw [ix_nat (by omega), ix_nat (by omega), Int.toNat_natCast, Int.toNat_natCast]; rfl
def bl (n : Nat) : List (Str × Int) := (List.replicate n ([((" " : Str), 0)] : List (Str × Int))).flatten
theorem fresh_rep {n : Nat} {many : Int} : freshR n many = List.replicate many.toNat (bl n) := by
  unfold freshR
  refine List.ext_getElem (by rw [List.length_map, izs_len, List.length_replicate]) fun i h1 h2 => ?_
  rw [List.getElem_map, List.getElem_replicate]; rfl
section
variable {n m : Nat} {p : List (List (Str × Int))}
theorem cutN (hp : Pg n m p) (hn : n ≤ 1000) (hm : m ≤ 1000) {r c : Nat} (h1 : 1 ≤ c) (h2 : r + c ≤ m) : m_l_deed p (.cp ("cut" : Str) r c) = (p.take r ++ p.drop (r + c)) ++ List.replicate c (bl n) := by
  rw [ldeed_cut hp, (lcut_is hp hn hm (row := (r : Int)) (many := (c : Int)) (by omega) (by omega) (by omega)).2.1, fresh_rep]
  congr 3 <;> omega
theorem putN (hp : Pg n m p) (hn : n ≤ 1000) (hm : m ≤ 1000) {r c : Nat} (h1 : 1 ≤ c) (h2 : r + c ≤ m) : m_l_deed p (.cp ("put" : Str) r c) = ((p.take r ++ List.replicate c (bl n)) ++ p.drop r).take m := by
  rw [ldeed_put hp, (lput_is hp hn hm (row := (r : Int)) (many := (c : Int)) (by omega) (by omega) (by omega)).2.1, fresh_rep, hp.1]
  congr 3 <;> omega
theorem good_cut {r c : Nat} (h1 : 1 ≤ c) (h2 : r + c ≤ m) : GoodC m (.cp ("cut" : Str) r c) := ⟨.inl rfl, by omega, by omega, by omega⟩
theorem good_put {r c : Nat} (h1 : 1 ≤ c) (h2 : r + c ≤ m) : GoodC m (.cp ("put" : Str) r c) := ⟨.inr rfl, by omega, by omega, by omega⟩
theorem deed_pg (hp : Pg n m p) (hn : n ≤ 1000) (hm : m ≤ 1000) {d : Dd} (hd : GoodC m d) : Pg n m (m_l_deed p d) := (ldeed_ok hp hn hm (.inl hd)).2
theorem cut_cut (hp : Pg n m p) (hn : n ≤ 1000) (hm : m ≤ 1000) {r c : Nat} (h1 : 1 ≤ c) (h2 : r + c + 1 ≤ m) : m_l_deed (m_l_deed p (.cp ("cut" : Str) r c)) (.cp ("cut" : Str) r 1) = m_l_deed p (.cp ("cut" : Str) r ((c : Int) + 1)) := by
  have hp2 := deed_pg hp hn hm (good_cut (m := m) (r := r) h1 (by omega))
  have e1 := cutN hp hn hm (r := r) (c := c + 1) (by omega) (by omega)
  have e2 := cutN hp2 hn hm (r := r) (c := 1) (by omega) (by omega)
  have l := hp.1
  rw [show (((c + 1 : Nat)) : Int) = (c : Int) + 1 by omega] at e1
  rw [e1, show ((1 : Int)) = ((1 : Nat) : Int) from rfl, e2, cutN hp hn hm h1 (by omega)]
  have lt : (p.take r).length = r := by rw [List.length_take]; omega
  have ld : (p.drop (r + c)).length = m - (r + c) := by rw [List.length_drop, l]
  have t1 : ((p.take r ++ p.drop (r + c)) ++ List.replicate c (bl n)).take r = p.take r := by
    rw [List.take_append_of_le_length (by rw [List.length_append, lt]; omega), List.take_append_of_le_length (by omega), List.take_of_length_le (by omega)]
  have t2 : ((p.take r ++ p.drop (r + c)) ++ List.replicate c (bl n)).drop (r + 1) = p.drop (r + (c + 1)) ++ List.replicate c (bl n) := by
    rw [List.drop_append_of_le_length (by rw [List.length_append, lt, ld]; omega), List.drop_append, List.drop_of_length_le (by omega), List.nil_append, lt, List.drop_drop]
    congr 2; omega
  rw [t1, t2, List.append_assoc, List.append_assoc, List.append_assoc, List.replicate_append_replicate]
theorem put_put (hp : Pg n m p) (hn : n ≤ 1000) (hm : m ≤ 1000) {r c : Nat} (h1 : 1 ≤ c) (h2 : r + c + 1 ≤ m) : m_l_deed (m_l_deed p (.cp ("put" : Str) r c)) (.cp ("put" : Str) ((r : Int) + c) 1) = m_l_deed p (.cp ("put" : Str) r ((c : Int) + 1)) := by
  have hp2 := deed_pg hp hn hm (good_put (m := m) (r := r) h1 (by omega))
  have e1 := putN hp hn hm (r := r) (c := c + 1) (by omega) (by omega)
  have e2 := putN hp2 hn hm (r := r + c) (c := 1) (by omega) (by omega)
  have l := hp.1
  rw [show (((c + 1 : Nat)) : Int) = (c : Int) + 1 by omega] at e1
  rw [show (((r + c : Nat)) : Int) = (r : Int) + c by omega] at e2
  rw [e1, show ((1 : Int)) = ((1 : Nat) : Int) from rfl, e2, putN hp hn hm h1 (by omega)]
  have lt : (p.take r).length = r := by rw [List.length_take]; omega
  have lr : (p.take r ++ List.replicate c (bl n)).length = r + c := by rw [List.length_append, lt, List.length_replicate]
  have t1 : (((p.take r ++ List.replicate c (bl n)) ++ p.drop r).take m).take (r + c) = p.take r ++ List.replicate c (bl n) := by
    rw [List.take_take, Nat.min_eq_left (show r + c ≤ m by omega), List.take_append_of_le_length (by rw [lr]; exact Nat.le_refl _), List.take_of_length_le (by rw [lr]; exact Nat.le_refl _)]
  have t2 : (((p.take r ++ List.replicate c (bl n)) ++ p.drop r).take m).drop (r + c) = (p.drop r).take (m - (r + c)) := by
    rw [List.drop_take, List.drop_append, List.drop_of_length_le (l := p.take r ++ List.replicate c (bl n)) (by rw [lr]; exact Nat.le_refl _), List.nil_append, lr, Nat.sub_self, List.drop_zero]
  rw [t1, t2]
  have e3 : (p.take r ++ List.replicate c (bl n)) ++ List.replicate 1 (bl n) = p.take r ++ List.replicate (c + 1) (bl n) := by rw [List.append_assoc, List.replicate_append_replicate]
  have lA : (p.take r ++ List.replicate (c + 1) (bl n)).length = r + (c + 1) := by rw [List.length_append, lt, List.length_replicate]
  rw [e3]
  generalize p.take r ++ List.replicate (c + 1) (bl n) = A at lA ⊢
  rw [List.take_append, List.take_append, lA, show ((p.drop r).take (m - (r + c))).take (m - (r + (c + 1))) = (p.drop r).take (m - (r + (c + 1))) from by rw [List.take_take, Nat.min_eq_left (by omega)]]
end
structure CpD (w : Str) (d : Dd) : Prop where
  e : ∃ r c : Nat, d = .cp w r c ∧ 1 ≤ c ∧ r + c ≤ 12
theorem CpD.dok {w : Str} (hw : PyData.strOk w = true) {d : Dd} (h : CpD w d) : PyD.dok d := by
  obtain ⟨r, c, rfl, _⟩ := h.e
  exact ⟨hw, trivial, trivial⟩
theorem mul01 {x : Int} (h : 0 ≤ x ∧ x ≤ 1000) (b : Bool) : IntMulOk x (if b = true then 1 else 0) := Bit.ok (n := 64) (m := 64) (Bit.sm (by omega) (by omega)) (Bit.sm (by cases b <;> decide) (by omega)) (by omega)
theorem grown_v {w : Str} (hw : PyData.strOk w = true) {ds : List Dd} (hd : ∀ d ∈ ds, CpD w d) (hl : ds.length ≤ 1000) (row : Int) : v_grown ds w row := by
  have dk : PyD.dok ds := fun d h => (hd d h).dok hw
  have ne : (!eqb ds ([] : List Dd)) = true → InB ds (-1) ∧ ∃ r c : Nat, ix ds (-1) = .cp w r c ∧ 1 ≤ c ∧ r + c ≤ 12 := fun e => by
    have h0 : 0 < ds.length := by
      cases ds with
      | nil => rw [eqb_refl] at e; cases e
      | cons _ _ => simp
    have i : InB ds (-1) := by unfold InB; omega
    exact ⟨i, (hd _ (ix_mem i)).e⟩
  have ne2 : ∀ b : Bool, ((!eqb ds ([] : List Dd)) && b) = true → (!eqb ds ([] : List Dd)) = true := fun b e => (Bool.and_eq_true .. ▸ e).1
  refine ⟨⟨dk, fun _ h => (nomatch h), fun e => ?_⟩, fun e => ?_, fun _ => by omega⟩
  · obtain ⟨i, r, c, e, h1, h2⟩ := ne e
    rw [e]
    exact ⟨i, rfl, i, rfl, mul01 (by show 0 ≤ (c : Int) ∧ (c : Int) ≤ 1000; omega) _⟩
  · obtain ⟨i, r, c, e, h1, h2⟩ := ne (ne2 _ e)
    rw [e]
    exact ⟨i, rfl, i, rfl, i⟩
theorem grown_new {w : Str} {ds : List Dd} {row : Int} (h : ∀ xs r c, ds = xs ++ [.cp w r c] → r + c * (if decide (w = ("put" : Str)) = true then 1 else 0) ≠ row) (hd : ∀ d ∈ ds, CpD w d) : m_grown ds w row = ds ++ [.cp w row 1] := by
  have e : ((!eqb ds ([] : List Dd)) && (decide (((ix ds (-1)).at1 + ((ix ds (-1)).at2 * (if (decide (w = ("put" : Str))) then (1 : Int) else 0))) = row))) = false := by
    rcases List.eq_nil_or_concat ds with rfl | ⟨xs, d, rfl⟩
    · rw [eqb_refl]; rfl
    · rw [List.concat_eq_append] at *
      obtain ⟨r, c, rfl, _⟩ := (hd d (by simp)).e
      have := h xs r c rfl
      rw [ix_lastA]
      have q : decide ((Dd.cp w r c).at1 + (Dd.cp w r c).at2 * (if (decide (w = ("put" : Str))) then (1 : Int) else 0) = row) = false := decide_eq_false this
      rw [q, Bool.and_false]
  unfold m_grown bnd
  rw [e]; rfl
theorem grown_side {w : Str} {xs : List Dd} {r c row : Int} (h : r + c * (if decide (w = ("put" : Str)) = true then 1 else 0) = row) : m_grown (xs ++ [.cp w r c]) w row = xs ++ [.cp w r (c + 1)] := by
  have e : ((!eqb (xs ++ [Dd.cp w r c]) ([] : List Dd)) && (decide (((ix (xs ++ [Dd.cp w r c]) (-1)).at1 + ((ix (xs ++ [Dd.cp w r c]) (-1)).at2 * (if (decide (w = ("put" : Str))) then (1 : Int) else 0))) = row))) = true := by
    rw [ix_lastA, Bool.and_eq_true]
    refine ⟨?_, decide_eq_true h⟩
    cases q : eqb (xs ++ [Dd.cp w r c]) ([] : List Dd) with
    | false => rfl
    | true =>
      have := eqb_iff.mp q
      simp at this
  unfold m_grown bnd
  rw [e]
  dsimp only
  rw [if_pos rfl, ix_lastA, st_lastA]; rfl
abbrev Pc := List (List (Str × Int))
/-- rows by a pattern: rows of a picture, or blanks -/
def Zp (n : Nat) (p : Pc) (pat : List (Option Nat)) : Pc := pat.map fun o => match o with | some i => ix p (i : Int) | none => bl n
theorem zp_len {n : Nat} {p : Pc} {pat : List (Option Nat)} : (Zp n p pat).length = pat.length := by unfold Zp; rw [List.length_map]
theorem zp_snoc {n : Nat} {p : Pc} {pat : List (Option Nat)} {o : Option Nat} : Zp n p (pat ++ [o]) = Zp n p pat ++ [match o with | some i => ix p (i : Int) | none => bl n] := by unfold Zp; rw [List.map_append]; rfl
theorem zp_app {n : Nat} {p q : Pc} {pat : List (Option Nat)} (h : ∀ i, some i ∈ pat → i < p.length) : Zp n (p ++ q) pat = Zp n p pat := by
  unfold Zp
  refine List.map_congr_left fun o ho => ?_
  cases o with
  | none => rfl
  | some i =>
    have := h i ho
    show ix (p ++ q) (i : Int) = ix p (i : Int)
    rw [ix_of, ix_of, List.getElem?_append_left this]
structure WI (n m : Nat) (one other : Pc) (P : K3 → Int) (k : K3) (cuts puts found : List Dd) (K Gs : Pc) (pat : List (Option Nat)) (S : Nat) : Prop where
  ink : InK m k
  cutD : ∀ d ∈ cuts, CpD ("cut" : Str) d ∧ GoodC m d
  putD : ∀ d ∈ puts, CpD ("put" : Str) d ∧ GoodC m d
  cutE : cuts.foldl m_l_deed one = (K ++ one.drop k.a.toNat) ++ List.replicate S (bl n)
  cutL : K.length + S = k.a.toNat
  cutS : (cuts.map (·.at2)).sum = (S : Int)
  cutA : ∀ d ∈ cuts, d.at1 ≤ K.length ∧ (k.c = 0 → k.a < m → d.at1 < K.length)
  cutB : k.c = 1 → ∃ (xs : List Dd) (c : Nat), cuts = xs ++ [.cp ("cut" : Str) (K.length : Nat) c]
  cutP : cuts.Pairwise fun d e => d.at1 < e.at1
  putE : ∀ p, Pg n m p → puts.foldl m_l_deed p = (Zp n p pat ++ p.drop Gs.length).take m
  putA : ∀ d ∈ puts, d.at1 + d.at2 ≤ k.b ∧ (k.c ≠ 2 → d.at1 + d.at2 < k.b)
  putB : k.c = 2 → ∃ (xs : List Dd) (r c : Nat), puts = xs ++ [.cp ("put" : Str) r c] ∧ ((r + c : Nat) : Int) = k.b
  putP : puts.Pairwise fun d e => d.at1 < e.at1
  patL : pat.length = k.b.toNat
  patG : ∀ i, some i ∈ pat → i < Gs.length
  gsL : Gs.length ≤ k.b.toNat
  gsK : ∃ t, Gs = K ++ List.replicate t (bl n) ∧ (k.a < m → t = 0)
  gsN : ∀ r ∈ Gs, RowN n r
  fnd : found = wrP 0 ((Zp n Gs pat).zip other)
  cnt : (cuts.length : Int) + puts.length + found.length + P k = P ⟨0, 0, 0⟩
  few : cuts.length ≤ k.a.toNat ∧ puts.length ≤ k.b.toNat ∧ found.length ≤ 24 * k.b.toNat
theorem bl_rowN (n : Nat) : RowN n (bl n) := wblank_is n
section
variable {n m : Nat} {one other : Pc} {P : K3 → Int}
theorem rows_at (h1 : Pg n m one) {g : Int} (g0 : 0 ≤ g) : (g < m → ix (rowsOf n one) g = ix one g) ∧ (g = m → ix (rowsOf n one) g = bl n) := by
  have l := h1.1
  refine ⟨fun h => ?_, fun h => ?_⟩
  · unfold rowsOf
    rw [ix_nat g0, ix_nat g0, List.getElem?_append_left (by omega)]
  · unfold rowsOf
    rw [ix_nat g0, List.getElem?_append_right (by omega), show g.toNat - one.length = 0 by omega]; rfl
theorem rows_rowN (h1 : Pg n m one) {g : Int} (g0 : 0 ≤ g ∧ g ≤ m) : InB (rowsOf n one) g ∧ RowN n (ix (rowsOf n one) g) := (rows_pg h1).at g0.1 (by omega)
theorem cost_at (hn : 1 ≤ n ∧ n ≤ 24) (h1 : Pg n m one) (h2 : Pg n m other) {g a : Int} (g0 : 0 ≤ g ∧ g ≤ m) (a0 : 0 ≤ a ∧ a < m) (row : Int) : ix (ix (costsOf (rowsOf n one) other) g) a = ((wrL row (ix (rowsOf n one) g) (ix other a)).length : Nat) := by
  have r1 := rows_rowN h1 g0
  have r2 := h2.at a0.1 a0.2
  have rp := (rows_pg h1).1
  have l2 := h2.1
  have e : ix (ix (costsOf (rowsOf n one) other) g) a = m_worth_of_line (ix (rowsOf n one) g) (ix other a) := by
    unfold costsOf
    have q1 : ix ((rowsOf n one).map fun r => other.map fun o => m_worth_of_line r o) g = other.map fun o => m_worth_of_line (ix (rowsOf n one) g) o := by
      rw [ix_nat g0.1, ix_nat g0.1, List.getElem?_map, List.getElem?_eq_getElem (by rw [rp]; omega)]; rfl
    rw [q1, ix_nat a0.1, ix_nat a0.1, List.getElem?_map, List.getElem?_eq_getElem (by rw [l2]; omega)]; rfl
  rw [e, (worth_v hn r1.2 r2.2).2, wrL_num 0 row]
theorem tk_cases {h : Int} {cs : List (List Int)} {k k' : K3} (t : Tk h cs P k k') : k.b ≠ h ∧
    ((k' = ⟨min (k.a + 1) h, k.b + 1, 0⟩ ∧ P k = ix (ix cs k.a) k.b + P k') ∨
     (k.a < h ∧ k.c ≠ 2 ∧ k' = ⟨min (k.a + 1) h, k.b, 1⟩ ∧ P k = (if k.c = 1 then 0 else 1) + P k') ∨
     (k' = ⟨k.a, k.b + 1, 2⟩ ∧ P k = (if k.c = 2 then 0 else 1) + ix (ix cs h) k.b + P k')) := by
  obtain ⟨w, h1, h2⟩ := t
  unfold stp3 at h1
  split at h1
  · cases h1
  · next e =>
    refine ⟨e, ?_⟩
    rcases List.mem_append.mp h1 with h1 | h1
    · rcases List.mem_cons.mp h1 with h1 | h1
      · obtain ⟨e1, e2⟩ := Prod.mk.inj h1
        exact .inl ⟨e2, by rw [← h2, e1]⟩
      · split at h1
        · next c =>
          obtain ⟨e1, e2⟩ := Prod.mk.inj (List.mem_singleton.mp h1)
          exact .inr (.inl ⟨c.1, c.2, e2, by rw [← h2, e1]⟩)
        · cases h1
    · obtain ⟨e1, e2⟩ := Prod.mk.inj (List.mem_singleton.mp h1)
      exact .inr (.inr ⟨e2, by rw [← h2, e1]⟩)
theorem cut_sound {g S : Nat} {K : Pc} (h1 : Pg n m one) (hn : n ≤ 1000) (hm : m ≤ 1000) (hg : g < m) (hL : K.length + S = g) (hp : Pg n m ((K ++ one.drop g) ++ List.replicate S (bl n))) : m_l_deed ((K ++ one.drop g) ++ List.replicate S (bl n)) (.cp ("cut" : Str) (K.length : Nat) 1) = (K ++ one.drop (g + 1)) ++ List.replicate (S + 1) (bl n) := by
  have l := h1.1
  have ld : (one.drop g).length = m - g := by rw [List.length_drop, l]
  rw [show ((1 : Int)) = ((1 : Nat) : Int) from rfl, cutN hp hn hm (by omega) (by omega)]
  have t1 : ((K ++ one.drop g) ++ List.replicate S (bl n)).take K.length = K := by
    rw [List.append_assoc, List.take_append_of_le_length (Nat.le_refl _), List.take_of_length_le (Nat.le_refl _)]
  have t2 : ((K ++ one.drop g) ++ List.replicate S (bl n)).drop (K.length + 1) = one.drop (g + 1) ++ List.replicate S (bl n) := by
    rw [List.drop_append_of_le_length (by rw [List.length_append, ld]; omega), List.drop_append, List.drop_of_length_le (by omega), List.nil_append, Nat.add_sub_cancel_left, List.drop_drop]
  rw [t1, t2, ← List.append_assoc, List.append_assoc _ (List.replicate S _), List.replicate_append_replicate]
theorem take_lem {α : Type} {A B : List α} {b : Nat} (hl : A.length = b + 1) (hb : b < m) : (A ++ B.take (m - b)).take m = (A ++ B).take m := by
  rw [List.take_append, List.take_append, hl, List.take_take, Nat.min_eq_left (by omega)]
theorem put_sound {b : Nat} {Z R : Pc} (hn : n ≤ 1000) (hm : m ≤ 1000) (hb : b < m) (hZ : Z.length = b) (hp : Pg n m ((Z ++ R).take m)) : m_l_deed ((Z ++ R).take m) (.cp ("put" : Str) (b : Nat) 1) = ((Z ++ [bl n]) ++ R).take m := by
  rw [show ((1 : Int)) = ((1 : Nat) : Int) from rfl, putN hp hn hm (by omega) (by omega)]
  have t1 : ((Z ++ R).take m).take b = Z := by
    rw [List.take_take, Nat.min_eq_left (by omega), List.take_append_of_le_length (by omega), List.take_of_length_le (by omega)]
  have t2 : ((Z ++ R).take m).drop b = R.take (m - b) := by
    rw [List.drop_take, List.drop_append, List.drop_of_length_le (by omega), List.nil_append, hZ, Nat.sub_self, List.drop_zero]
  rw [t1, t2]
  exact take_lem (by rw [List.length_append, hZ]; rfl) hb
theorem drop_ix {p : Pc} {j : Nat} (h : j < p.length) : p.drop j = ix p (j : Int) :: p.drop (j + 1) := by
  rw [List.drop_eq_getElem_cons h, ix_of, List.getElem?_eq_getElem h]; rfl
theorem fold_pg (hn : n ≤ 1000) (hm : m ≤ 1000) : ∀ (ds : List Dd) {p : Pc}, Pg n m p → (∀ d ∈ ds, GoodC m d) → Pg n m (ds.foldl m_l_deed p)
  | [], _, h, _ => h
  | d :: ds, _, h, g => fold_pg hn hm ds (deed_pg h hn hm (g d (List.mem_cons_self ..))) fun z hz => g z (List.mem_cons_of_mem _ hz)
theorem cp_nat {w : Str} {d : Dd} (h : CpD w d) : ∃ r c : Nat, d = .cp w r c ∧ 1 ≤ c ∧ r + c ≤ 12 := h.e
theorem sum_nn {w : Str} : ∀ (ds : List Dd), (∀ d ∈ ds, CpD w d) → 0 ≤ (ds.map (·.at2)).sum
  | [], _ => Int.le_refl _
  | d :: ds, h => by
    obtain ⟨r, c, e, h1, _⟩ := cp_nat (h d (List.mem_cons_self ..))
    have ih := sum_nn ds fun z hz => h z (List.mem_cons_of_mem _ hz)
    rw [List.map_cons, List.sum_cons, e]
    show 0 ≤ (c : Int) + _
    omega
variable {k k' : K3} {cuts puts found : List Dd} {K Gs : Pc} {pat : List (Option Nat)} {S : Nat}
theorem WI.cut (hm : 1 ≤ m ∧ m ≤ 12) (hn : 1 ≤ n ∧ n ≤ 24) (h1 : Pg n m one) (I : WI n m one other P k cuts puts found K Gs pat S) (ha : k.a < m) (hc : k.c ≠ 2) (hb : k.b ≤ m) (ek : k' = ⟨min (k.a + 1) m, k.b, 1⟩) (eP : P k = (if k.c = 1 then 0 else 1) + P k') :
    ∃ cuts', m_grown cuts ("cut" : Str) (k.a - (cuts.map (·.at2)).sum) = cuts' ∧ WI n m one other P k' cuts' puts found K Gs pat (S + 1) := by
  obtain ⟨kg, kb, kc⟩ := k
  have i1 := I.ink.1
  have i2 := I.ink.2.1
  have i3 := I.ink.2.2
  have cL := I.cutL
  have cS := I.cutS
  dsimp only at *
  have row : kg - (cuts.map (·.at2)).sum = (K.length : Nat) := by rw [cS]; omega
  have c0 : decide (("cut" : Str) = ("put" : Str)) = false := by decide
  have hpg : Pg n m ((K ++ one.drop kg.toNat) ++ List.replicate S (bl n)) := by
    rw [← I.cutE]
    exact fold_pg (by omega) (by omega) _ h1 fun d hd => (I.cutD d hd).2
  have snd := cut_sound h1 (by omega) (by omega) (g := kg.toNat) (S := S) (K := K) (by omega) cL hpg
  have eg : (min (kg + 1) (m : Int)).toNat = kg.toNat + 1 := by omega
  have gsK' : ∃ t, Gs = K ++ List.replicate t (bl n) ∧ (k'.a < m → t = 0) := by
    obtain ⟨t, q1, q2⟩ := I.gsK
    exact ⟨t, q1, fun _ => q2 ha⟩
  have putA' : ∀ d ∈ puts, d.at1 + d.at2 ≤ k'.b ∧ (k'.c ≠ 2 → d.at1 + d.at2 < k'.b) := fun d hd => by
    rw [ek]
    have := I.putA d hd
    exact ⟨this.1, fun _ => this.2 hc⟩
  have few := I.few
  have cnt := I.cnt
  dsimp only at few cnt
  have inK' : InK m k' := by rw [ek]; exact ⟨by dsimp only; omega, by dsimp only; omega, by dsimp only; omega⟩
  by_cases e1 : kc = 1
  · obtain ⟨xs, c, ex⟩ := I.cutB e1
    have hd : CpD ("cut" : Str) (.cp ("cut" : Str) (K.length : Nat) c) := (I.cutD _ (by rw [ex]; simp)).1
    obtain ⟨r', c', eq, h3, h4⟩ := cp_nat hd
    have ec : c = c' := by injection eq with _ _ z; omega
    have er : K.length = r' := by injection eq with _ z _; omega
    subst ec
    have hS : c ≤ S := by
      rw [ex, List.map_append, List.sum_append] at cS
      have := sum_nn xs fun d hd => (I.cutD d (by rw [ex]; exact List.mem_append_left _ hd)).1
      have e : ([Dd.cp ("cut" : Str) (K.length : Nat) c].map (·.at2)).sum = (c : Int) := by simp [Dd.at2]
      rw [e] at cS; omega
    have hpx : Pg n m (xs.foldl m_l_deed one) := fold_pg (by omega) (by omega) _ h1 fun d hd => (I.cutD d (by rw [ex]; exact List.mem_append_left _ hd)).2
    refine ⟨xs ++ [.cp ("cut" : Str) (K.length : Nat) ((c : Int) + 1)], ?_, inK', ?_, I.putD, ?_, ?_, ?_, ?_, ?_, ?_, I.putE, putA', ?_, I.putP, ?_, I.patG, ?_, gsK', I.gsN, I.fnd, ?_, ?_⟩
    · rw [ex, grown_side (by rw [← ex, row, c0]; simp)]
    · intro d hd
      rcases List.mem_append.mp hd with hd | hd
      · exact I.cutD d (by rw [ex]; exact List.mem_append_left _ hd)
      · rw [List.mem_singleton.mp hd]
        have : ((c : Int) + 1) = ((c + 1 : Nat) : Int) := by omega
        rw [this]
        exact ⟨⟨_, _, rfl, by omega, by omega⟩, good_cut (by omega) (by omega)⟩
    · rw [List.foldl_append, List.foldl_cons, List.foldl_nil, ← cut_cut hpx (by omega) (by omega) h3 (by omega)]
      have : m_l_deed (xs.foldl m_l_deed one) (.cp ("cut" : Str) (K.length : Nat) c) = cuts.foldl m_l_deed one := by rw [ex, List.foldl_append]; rfl
      rw [this, I.cutE, snd, ek]
      dsimp only
      rw [eg]
    · rw [ek]; dsimp only; omega
    · rw [ex, List.map_append, List.sum_append] at cS
      rw [List.map_append, List.sum_append]
      have e : ([Dd.cp ("cut" : Str) (K.length : Nat) c].map (·.at2)).sum = (c : Int) := by simp [Dd.at2]
      have e2 : ([Dd.cp ("cut" : Str) (K.length : Nat) ((c : Int) + 1)].map (·.at2)).sum = (c : Int) + 1 := by simp [Dd.at2]
      rw [e] at cS
      rw [e2]; omega
    · intro d hd
      refine ⟨?_, fun z => by rw [ek] at z; cases z⟩
      rcases List.mem_append.mp hd with hd | hd
      · exact (I.cutA d (by rw [ex]; exact List.mem_append_left _ hd)).1
      · rw [List.mem_singleton.mp hd]; exact Int.le_refl _
    · exact fun _ => ⟨xs, c + 1, by rw [show (((c + 1 : Nat)) : Int) = (c : Int) + 1 by omega]⟩
    · have := I.cutP
      rw [ex] at this
      rw [List.pairwise_append] at this ⊢
      exact ⟨this.1, List.pairwise_singleton .., fun a ha b hb => by
        rw [List.mem_singleton.mp hb]
        have q := this.2.2 a ha (.cp ("cut" : Str) (K.length : Nat) c) (List.mem_singleton.mpr rfl)
        exact q⟩
    · intro z; rw [ek] at z; cases z
    · rw [ek]; exact I.patL
    · rw [ek]; exact I.gsL
    · rw [if_pos e1] at eP
      have : (xs ++ [Dd.cp ("cut" : Str) (K.length : Nat) ((c : Int) + 1)]).length = cuts.length := by rw [ex]; simp
      rw [this]; omega
    · have : (xs ++ [Dd.cp ("cut" : Str) (K.length : Nat) ((c : Int) + 1)]).length = cuts.length := by rw [ex]; simp
      rw [this, ek]
      dsimp only
      omega
  · have e0 : kc = 0 := by omega
    refine ⟨cuts ++ [.cp ("cut" : Str) (K.length : Nat) 1], ?_, inK', ?_, I.putD, ?_, ?_, ?_, ?_, ?_, ?_, I.putE, putA', ?_, I.putP, ?_, I.patG, ?_, gsK', I.gsN, I.fnd, ?_, ?_⟩
    · rw [row]
      refine grown_new (fun xs r c e => ?_) fun d hd => (I.cutD d hd).1
      have := (I.cutA _ (by rw [e]; exact List.mem_append_right _ (List.mem_singleton.mpr rfl))).2 e0 ha
      rw [c0]
      have : r < K.length := this
      simp
      omega
    · intro d hd
      rcases List.mem_append.mp hd with hd | hd
      · exact I.cutD d hd
      · rw [List.mem_singleton.mp hd]
        exact ⟨⟨K.length, 1, rfl, by omega, by omega⟩, good_cut (c := 1) (by omega) (by omega)⟩
    · rw [List.foldl_append, List.foldl_cons, List.foldl_nil, I.cutE, snd, ek]
      dsimp only
      rw [eg]
    · rw [ek]; dsimp only; omega
    · rw [List.map_append, List.sum_append, cS]
      have e : ([Dd.cp ("cut" : Str) (K.length : Nat) 1].map (·.at2)).sum = 1 := by simp [Dd.at2]
      rw [e]; omega
    · intro d hd
      refine ⟨?_, fun z => by rw [ek] at z; cases z⟩
      rcases List.mem_append.mp hd with hd | hd
      · exact (I.cutA d hd).1
      · rw [List.mem_singleton.mp hd]; exact Int.le_refl _
    · exact fun _ => ⟨cuts, 1, rfl⟩
    · rw [List.pairwise_append]
      exact ⟨I.cutP, List.pairwise_singleton .., fun a hx b hb => by
        rw [List.mem_singleton.mp hb]
        exact (I.cutA a hx).2 e0 ha⟩
    · intro z; rw [ek] at z; cases z
    · rw [ek]; exact I.patL
    · rw [ek]; exact I.gsL
    · rw [if_neg e1] at eP
      rw [List.length_append]
      have : [Dd.cp ("cut" : Str) (K.length : Nat) 1].length = 1 := rfl
      rw [this]; omega
    · rw [List.length_append, ek]
      have : [Dd.cp ("cut" : Str) (K.length : Nat) 1].length = 1 := rfl
      rw [this]
      dsimp only
      omega
theorem found_snoc {x : List (Str × Int)} {b : Nat} {B : Pc} {found : List Dd} (hB : B.length = b) (hb : b < other.length) (hf : found = wrP 0 (B.zip other)) : found ++ wrL b x (ix other b) = wrP 0 ((B ++ [x]).zip other) := by
  rw [zip_snoc B other (by omega), wrP_snoc, ← hf, List.length_zip, hB, Nat.min_eq_left (by omega)]
  dsimp only
  rw [Int.zero_add]
theorem WI.put (hm : 1 ≤ m ∧ m ≤ 12) (hn : 1 ≤ n ∧ n ≤ 24) (h1 : Pg n m one) (h2 : Pg n m other) (I : WI n m one other P k cuts puts found K Gs pat S) (hb : k.b < m) (ek : k' = ⟨k.a, k.b + 1, 2⟩) (eP : P k = (if k.c = 2 then 0 else 1) + ((wrL k.b (bl n) (ix other k.b)).length : Nat) + P k') :
    ∃ puts', m_grown puts ("put" : Str) k.b = puts' ∧ WI n m one other P k' cuts puts' (found ++ wrL k.b (bl n) (ix other k.b)) K Gs (pat ++ [none]) S := by
  obtain ⟨kg, kb, kc⟩ := k
  have i1 := I.ink.1
  have i2 := I.ink.2.1
  have i3 := I.ink.2.2
  have pL := I.patL
  have l2 := h2.1
  dsimp only at *
  obtain ⟨b, rfl⟩ : ∃ b : Nat, kb = b := ⟨kb.toNat, by omega⟩
  rw [Int.toNat_natCast] at pL
  have c0 : decide (("put" : Str) = ("put" : Str)) = true := by decide
  have few := I.few
  have cnt := I.cnt
  dsimp only at few cnt
  have inK' : InK m k' := by rw [ek]; exact ⟨by dsimp only; omega, by dsimp only; omega, by dsimp only; omega⟩
  have r2 := h2.at (i := (b : Int)) (by omega) hb
  have wf := wrL_few (row := (b : Int)) (one := bl n) (other := ix other b) (by omega) r2.2
  have fnd' : found ++ wrL b (bl n) (ix other b) = wrP 0 ((Zp n Gs (pat ++ [none])).zip other) := by
    rw [zp_snoc]
    exact found_snoc (by rw [zp_len, pL]) (by omega) I.fnd
  have patG' : ∀ i, some i ∈ pat ++ [none] → i < Gs.length := fun i hi => by
    rcases List.mem_append.mp hi with hi | hi
    · exact I.patG i hi
    · cases List.mem_singleton.mp hi
  have putE' : ∀ p, Pg n m p → m_l_deed (puts.foldl m_l_deed p) (.cp ("put" : Str) (b : Nat) 1) = (Zp n p (pat ++ [none]) ++ p.drop Gs.length).take m := fun p hp => by
    have hpg : Pg n m ((Zp n p pat ++ p.drop Gs.length).take m) := by
      rw [← I.putE p hp]
      exact fold_pg (by omega) (by omega) _ hp fun d hd => (I.putD d hd).2
    rw [I.putE p hp, put_sound (by omega) (by omega) (by omega) (by rw [zp_len, pL]) hpg, zp_snoc]
  have eL : ((found ++ wrL b (bl n) (ix other b)).length : Int) = found.length + ((wrL b (bl n) (ix other b)).length : Nat) := by rw [List.length_append]; omega
  have cutA' : ∀ d ∈ cuts, d.at1 ≤ K.length ∧ (k'.c = 0 → k'.a < m → d.at1 < K.length) := fun d hd => ⟨(I.cutA d hd).1, fun z => by rw [ek] at z; cases z⟩
  have gsK' : ∃ t, Gs = K ++ List.replicate t (bl n) ∧ (k'.a < m → t = 0) := by rw [ek]; exact I.gsK
  by_cases e2 : kc = 2
  · obtain ⟨xs, r, c, ex, er⟩ := I.putB e2
    dsimp only at er
    have hd : CpD ("put" : Str) (.cp ("put" : Str) r c) := (I.putD _ (by rw [ex]; simp)).1
    obtain ⟨r', c', eq, h3, h4⟩ := cp_nat hd
    have ec : c = c' := by injection eq with _ _ z; omega
    have er' : r = r' := by injection eq with _ z _; omega
    subst ec er'
    refine ⟨xs ++ [.cp ("put" : Str) r ((c : Int) + 1)], ?_, inK', I.cutD, ?_, ?_, ?_, I.cutS, cutA', ?_, I.cutP, ?_, ?_, ?_, ?_, ?_, patG', ?_, gsK', I.gsN, fnd', ?_, ?_⟩
    · rw [ex, grown_side (by rw [c0, if_pos rfl]; omega)]
    · intro d hd
      rcases List.mem_append.mp hd with hd | hd
      · exact I.putD d (by rw [ex]; exact List.mem_append_left _ hd)
      · rw [List.mem_singleton.mp hd]
        have : ((c : Int) + 1) = ((c + 1 : Nat) : Int) := by omega
        rw [this]
        exact ⟨⟨_, _, rfl, by omega, by omega⟩, good_put (by omega) (by omega)⟩
    · rw [ek]; exact I.cutE
    · rw [ek]; exact I.cutL
    · intro z; rw [ek] at z; cases z
    · intro p hp
      have hpx : Pg n m (xs.foldl m_l_deed p) := fold_pg (by omega) (by omega) _ hp fun d hd => (I.putD d (by rw [ex]; exact List.mem_append_left _ hd)).2
      have e3 : ((r : Int) + c) = ((b : Nat) : Int) := by omega
      rw [List.foldl_append, List.foldl_cons, List.foldl_nil, ← put_put hpx (by omega) (by omega) h3 (by omega), e3]
      have : m_l_deed (xs.foldl m_l_deed p) (.cp ("put" : Str) r c) = puts.foldl m_l_deed p := by rw [ex, List.foldl_append]; rfl
      rw [this]
      exact putE' p hp
    · intro d hd
      rw [ek]
      refine ⟨?_, fun z => absurd rfl z⟩
      rcases List.mem_append.mp hd with hd | hd
      · have := (I.putA d (by rw [ex]; exact List.mem_append_left _ hd)).1
        dsimp only at this ⊢; omega
      · rw [List.mem_singleton.mp hd]
        show (r : Int) + ((c : Int) + 1) ≤ _
        dsimp only; omega
    · exact fun _ => ⟨xs, r, c + 1, by rw [show (((c + 1 : Nat)) : Int) = (c : Int) + 1 by omega], by rw [ek]; dsimp only; omega⟩
    · have := I.putP
      rw [ex] at this
      rw [List.pairwise_append] at this ⊢
      exact ⟨this.1, List.pairwise_singleton .., fun a ha b hb => by
        rw [List.mem_singleton.mp hb]
        have q := this.2.2 a ha (.cp ("put" : Str) r c) (List.mem_singleton.mpr rfl)
        exact q⟩
    · rw [List.length_append, pL, ek]
      show b + 1 = ((b : Int) + 1).toNat
      omega
    · have := I.gsL
      rw [ek]
      dsimp only at this ⊢
      omega
    · rw [if_pos e2] at eP
      have : (xs ++ [Dd.cp ("put" : Str) r ((c : Int) + 1)]).length = puts.length := by rw [ex]; simp
      rw [this, eL]; omega
    · have : (xs ++ [Dd.cp ("put" : Str) r ((c : Int) + 1)]).length = puts.length := by rw [ex]; simp
      rw [this, ek, List.length_append]
      dsimp only
      omega
  · refine ⟨puts ++ [.cp ("put" : Str) (b : Nat) 1], ?_, inK', I.cutD, ?_, ?_, ?_, I.cutS, cutA', ?_, I.cutP, ?_, ?_, ?_, ?_, ?_, patG', ?_, gsK', I.gsN, fnd', ?_, ?_⟩
    · refine grown_new (fun xs r c e => ?_) fun d hd => (I.putD d hd).1
      have := (I.putA _ (by rw [e]; exact List.mem_append_right _ (List.mem_singleton.mpr rfl))).2 e2
      rw [c0, if_pos rfl]
      have : r + c < (b : Int) := this
      omega
    · intro d hd
      rcases List.mem_append.mp hd with hd | hd
      · exact I.putD d hd
      · rw [List.mem_singleton.mp hd]
        exact ⟨⟨b, 1, rfl, by omega, by omega⟩, good_put (c := 1) (by omega) (by omega)⟩
    · rw [ek]; exact I.cutE
    · rw [ek]; exact I.cutL
    · intro z; rw [ek] at z; cases z
    · intro p hp
      rw [List.foldl_append]
      exact putE' p hp
    · intro d hd
      rw [ek]
      refine ⟨?_, fun z => absurd rfl z⟩
      rcases List.mem_append.mp hd with hd | hd
      · have := (I.putA d hd).1
        dsimp only at this ⊢; omega
      · rw [List.mem_singleton.mp hd]; exact Int.le_refl _
    · exact fun _ => ⟨puts, b, 1, rfl, by rw [ek]; dsimp only; omega⟩
    · rw [List.pairwise_append]
      refine ⟨I.putP, List.pairwise_singleton .., fun a hx d hd => ?_⟩
      rw [List.mem_singleton.mp hd]
      have q := (I.putA a hx).2 e2
      obtain ⟨r, c, e, h3, h4⟩ := cp_nat (I.putD a hx).1
      rw [e] at q ⊢
      have q : (r : Int) + c < b := q
      show (r : Int) < b
      omega
    · rw [List.length_append, pL, ek]
      show b + 1 = ((b : Int) + 1).toNat
      omega
    · have := I.gsL
      rw [ek]
      dsimp only at this ⊢
      omega
    · rw [if_neg e2] at eP
      rw [List.length_append, eL]
      have : [Dd.cp ("put" : Str) (b : Nat) 1].length = 1 := rfl
      rw [this]; omega
    · rw [List.length_append, List.length_append, ek]
      have : [Dd.cp ("put" : Str) (b : Nat) 1].length = 1 := rfl
      rw [this]
      dsimp only
      omega
theorem WI.go (hm : 1 ≤ m ∧ m ≤ 12) (hn : 1 ≤ n ∧ n ≤ 24) (h1 : Pg n m one) (h2 : Pg n m other) (I : WI n m one other P k cuts puts found K Gs pat S) (hb : k.b < m) (ek : k' = ⟨min (k.a + 1) m, k.b + 1, 0⟩) (eP : P k = ((wrL k.b (ix (rowsOf n one) k.a) (ix other k.b)).length : Nat) + P k') :
    ∃ K', WI n m one other P k' cuts puts (found ++ wrL k.b (ix (rowsOf n one) k.a) (ix other k.b)) K' (Gs ++ [ix (rowsOf n one) k.a]) (pat ++ [some Gs.length]) S := by
  obtain ⟨kg, kb, kc⟩ := k
  have i1 := I.ink.1
  have i2 := I.ink.2.1
  have i3 := I.ink.2.2
  have pL := I.patL
  have gL := I.gsL
  have l1 := h1.1
  have l2 := h2.1
  dsimp only at *
  obtain ⟨b, rfl⟩ : ∃ b : Nat, kb = b := ⟨kb.toNat, by omega⟩
  obtain ⟨g, rfl⟩ : ∃ g : Nat, kg = g := ⟨kg.toNat, by omega⟩
  rw [Int.toNat_natCast] at pL gL
  have few := I.few
  have cnt := I.cnt
  dsimp only at few cnt
  have cL := I.cutL
  have cE := I.cutE
  rw [Int.toNat_natCast] at cL
  dsimp only at cE
  rw [Int.toNat_natCast] at cE
  have inK' : InK m k' := by rw [ek]; exact ⟨by dsimp only; omega, by dsimp only; omega, by dsimp only; omega⟩
  have rr := rows_rowN h1 (g := (g : Int)) (by omega)
  have ra := rows_at h1 (g := (g : Int)) (by omega)
  have r2 := h2.at (i := (b : Int)) (by omega) hb
  have wf := wrL_few (row := (b : Int)) (one := ix (rowsOf n one) g) (other := ix other b) (by omega) r2.2
  have zg : Zp n (Gs ++ [ix (rowsOf n one) g]) (pat ++ [some Gs.length]) = Zp n Gs pat ++ [ix (rowsOf n one) g] := by
    rw [zp_snoc, zp_app I.patG]
    congr 2
    show ix (Gs ++ [ix (rowsOf n one) g]) (Gs.length : Int) = _
    rw [ix_of, List.getElem?_append_right (Nat.le_refl _), Nat.sub_self]; rfl
  have fnd' : found ++ wrL b (ix (rowsOf n one) g) (ix other b) = wrP 0 ((Zp n (Gs ++ [ix (rowsOf n one) g]) (pat ++ [some Gs.length])).zip other) := by
    rw [zg]
    exact found_snoc (by rw [zp_len, pL]) (by omega) I.fnd
  have patG' : ∀ i, some i ∈ pat ++ [some Gs.length] → i < (Gs ++ [ix (rowsOf n one) g]).length := fun i hi => by
    rw [List.length_append]
    show i < Gs.length + 1
    rcases List.mem_append.mp hi with hi | hi
    · have := I.patG i hi; omega
    · cases List.mem_singleton.mp hi; omega
  have putE' : ∀ p, Pg n m p → puts.foldl m_l_deed p = (Zp n p (pat ++ [some Gs.length]) ++ p.drop (Gs ++ [ix (rowsOf n one) g]).length).take m := fun p hp => by
    have lp := hp.1
    rw [I.putE p hp, zp_snoc, List.length_append, drop_ix (p := p) (j := Gs.length) (by omega), List.append_assoc]; rfl
  have eL : ((found ++ wrL b (ix (rowsOf n one) g) (ix other b)).length : Int) = found.length + ((wrL b (ix (rowsOf n one) g) (ix other b)).length : Nat) := by rw [List.length_append]; omega
  have gsN' : ∀ r ∈ Gs ++ [ix (rowsOf n one) g], RowN n r := fun r hr => by
    rcases List.mem_append.mp hr with hr | hr
    · exact I.gsN r hr
    · rw [List.mem_singleton.mp hr]; exact rr.2
  have putA' : ∀ d ∈ puts, d.at1 + d.at2 ≤ k'.b ∧ (k'.c ≠ 2 → d.at1 + d.at2 < k'.b) := fun d hd => by
    have := (I.putA d hd).1
    rw [ek]
    dsimp only at this ⊢
    exact ⟨by omega, fun _ => by omega⟩
  have patL' : (pat ++ [some Gs.length]).length = k'.b.toNat := by
    rw [List.length_append, pL, ek]
    show b + 1 = ((b : Int) + 1).toNat
    omega
  have gsL' : (Gs ++ [ix (rowsOf n one) g]).length ≤ k'.b.toNat := by
    rw [List.length_append, ek]
    show Gs.length + 1 ≤ ((b : Int) + 1).toNat
    omega
  have cnt' : (cuts.length : Int) + puts.length + (found ++ wrL b (ix (rowsOf n one) g) (ix other b)).length + P k' = P ⟨0, 0, 0⟩ := by rw [eL]; omega
  have n1 : k'.c = 1 → False := fun z => by rw [ek] at z; cases z
  have n2 : k'.c = 2 → False := fun z => by rw [ek] at z; cases z
  obtain ⟨t, q1, q2⟩ := I.gsK
  by_cases c : g < m
  · have e0 := ra.1 (by omega)
    have t0 := q2 (by dsimp only; omega)
    subst t0
    rw [show List.replicate 0 (bl n) = [] from rfl, List.append_nil] at q1
    refine ⟨K ++ [ix one g], inK', I.cutD, I.putD, ?_, ?_, I.cutS, ?_, fun z => (n1 z).elim, I.cutP, putE', putA', fun z => (n2 z).elim, I.putP, patL', patG', gsL', ⟨0, ?_, fun _ => rfl⟩, gsN', fnd', cnt', ?_⟩
    · rw [cE, ek]
      dsimp only
      rw [show (min ((g : Int) + 1) (m : Int)).toNat = g + 1 by omega, drop_ix (p := one) (j := g) (by omega), List.append_assoc K [_] _]; rfl
    · rw [ek, List.length_append]
      show K.length + 1 + S = (min ((g : Int) + 1) (m : Int)).toNat
      omega
    · intro d hd
      have := (I.cutA d hd).1
      have e : (K ++ [ix one g]).length = K.length + 1 := by rw [List.length_append]; rfl
      rw [e]
      exact ⟨by omega, fun _ _ => by omega⟩
    · rw [show List.replicate 0 (bl n) = [] from rfl, List.append_nil, q1, e0]
    · rw [List.length_append, ek]
      dsimp only
      omega
  · have e0 := ra.2 (by omega)
    refine ⟨K, inK', I.cutD, I.putD, ?_, ?_, I.cutS, ?_, fun z => (n1 z).elim, I.cutP, putE', putA', fun z => (n2 z).elim, I.putP, patL', patG', gsL', ⟨t + 1, ?_, fun z => ?_⟩, gsN', fnd', cnt', ?_⟩
    · rw [cE, ek]
      dsimp only
      rw [show (min ((g : Int) + 1) (m : Int)).toNat = g by omega]
    · rw [ek]
      show K.length + S = (min ((g : Int) + 1) (m : Int)).toNat
      omega
    · intro d hd
      refine ⟨(I.cutA d hd).1, fun _ z => ?_⟩
      rw [ek] at z
      dsimp only at z
      omega
    · rw [q1, e0, List.append_assoc, List.replicate_succ']
    · rw [ek] at z
      dsimp only at z
      omega
    · rw [List.length_append, ek]
      dsimp only
      omega
end
def CellA (c : Str × Int) : Prop := Asc c.1 ∧ 0 ≤ c.2 ∧ c.2 < 512
def PgA (p : List (List (Str × Int))) : Prop := ∀ r ∈ p, ∀ c ∈ r, CellA c
theorem join_asc {ys : List Str} (h : ∀ y ∈ ys, Asc y) : Asc (Txt.join ("" : Str) ys) := by
  intro c hc
  rw [tl_joinL] at hc
  rcases joinL_mem hc with hc | ⟨p, hp, hc⟩
  · cases hc
  · obtain ⟨y, hy, rfl⟩ := List.mem_map.mp hp
    exact h y hy c hc
theorem wrP_mem : ∀ (qs : List Rw2) (a : Int) {d : Dd}, d ∈ wrP a qs → ∃ (i : Nat) (q : Rw2), qs[i]? = some q ∧ d ∈ wrL (a + i) q.1 q.2
  | [], _, _, h => nomatch h
  | q :: qs, a, d, h => by
    rcases List.mem_append.mp (show d ∈ wrL a q.1 q.2 ++ wrP (a + 1) qs from h) with h | h
    · exact ⟨0, q, rfl, by rw [show a + ((0 : Nat) : Int) = a by omega]; exact h⟩
    · obtain ⟨i, q', h1, h2⟩ := wrP_mem qs (a + 1) h
      exact ⟨i + 1, q', h1, by rw [show a + ((i + 1 : Nat) : Int) = a + 1 + i by omega]; exact h2⟩
theorem wr_good {n m : Nat} {b o : List (Str × Int)} {a : Int} (h0 : 0 < n) (h2 : RowN n o) (hA : ∀ c ∈ o, CellA c) (a0 : 0 ≤ a ∧ a < m) {d : Dd} (hd : d ∈ wrL a b o) : GoodW n m d := by
  obtain ⟨t, ht, e, t0, t1, W, hk⟩ := wrL_mem h0 h2 hd
  have w0 := W.c0
  have w1 := W.l0
  have w2 := W.l1
  have l2 := h2.1
  have at_ : ∀ p : Int, 0 ≤ p → p < n → CellA (ix o p) := fun p p0 p1 => hA _ (ix_mem (by unfold InB; omega))
  have ki := hk (wrc b o t) (by omega) (by omega)
  have ci := at_ (wrc b o t) (by omega) (by omega)
  have ck : t.c = (ix o (wrc b o t)).2 := ki.symm
  rw [e]
  refine ⟨rfl, a0.1, a0.2, by omega, by omega, W.ok, by rw [ck]; exact ci.2.1, by rw [ck]; exact ci.2.2, ?_, by omega⟩
  unfold wrt
  refine join_asc fun y hy => ?_
  unfold sgs at hy
  obtain ⟨p, hp, rfl⟩ := List.mem_map.mp hy
  have hp := izs_mem.mp hp
  have pe : wrc b o t = ix (pls b o t) 0 := rfl
  have ll := W.ln
  exact (at_ p (by omega) (by omega)).1
structure WayOk (n m : Nat) (one other : Pc) (ds : List Dd) (worth : Int) (cuts puts found : List Dd) (B : Pc) : Prop where
  e : ds = (cuts ++ puts) ++ found
  cutD : ∀ d ∈ cuts, CpD ("cut" : Str) d ∧ GoodC m d
  putD : ∀ d ∈ puts, CpD ("put" : Str) d ∧ GoodC m d
  cutP : cuts.Pairwise fun d e => d.at1 < e.at1
  putP : puts.Pairwise fun d e => d.at1 < e.at1
  fnd : found = wrP 0 (B.zip other)
  bL : B.length = m
  bN : ∀ r ∈ B, RowN n r
  base : puts.foldl m_l_deed (cuts.foldl m_l_deed one) = B
  lead : ds.foldl m_l_deed one = other
  len : (ds.length : Int) = worth
  few : cuts.length ≤ 12 ∧ puts.length ≤ 12 ∧ found.length ≤ 288
section
variable {n m : Nat} {one other : Pc}
theorem way_step (hm : 1 ≤ m ∧ m ≤ 12) (hn : 1 ≤ n ∧ n ≤ 24) (h1 : Pg n m one) (h2 : Pg n m other) {s : Wk} (W : WalkOk n m one other s) {k k' : K3} {cuts puts found : List Dd} {K Gs : Pc} {pat : List (Option Nat)} {S : Nat} (I : WI n m one other (tdGet s.prices) k cuts puts found K Gs pat S) (t : Tk m (costsOf (rowsOf n one) other) (tdGet s.prices) k k') :
    v_least_way_f1 other s (cuts, puts, found) (k, k') ∧ ∃ cuts' puts' found' K' Gs' pat' S', (m_least_way_f1 other s (cuts, puts, found) (k, k') = .nx (cuts', puts', found') ∨ m_least_way_f1 other s (cuts, puts, found) (k, k') = .ct (cuts', puts', found')) ∧ WI n m one other (tdGet s.prices) k' cuts' puts' found' K' Gs' pat' S' := by
  obtain ⟨hb, h⟩ := tk_cases t
  have i1 := I.ink.1
  have i2 := I.ink.2.1
  have i3 := I.ink.2.2
  have few := I.few
  have hb2 : k.b < m := by omega
  have r1 := rows_rowN h1 (g := k.a) i1
  have rm := rows_rowN h1 (g := (m : Int)) (by omega)
  have ro := h2.at i2.1 hb2
  have ebl := (rows_at h1 (g := (m : Int)) (by omega)).2 rfl
  obtain ⟨w1, w2⟩ := writings_is k.b (by omega) (by omega) r1.2 ro.2
  obtain ⟨u1, u2⟩ := writings_is k.b (by omega) (by omega) (bl_rowN n) ro.2
  have wf := wrL_few (row := k.b) (one := ix (rowsOf n one) k.a) (other := ix other k.b) (by omega) ro.2
  have uf := wrL_few (row := k.b) (one := bl n) (other := ix other k.b) (by omega) ro.2
  have vg := grown_v (w := ("cut" : Str)) (by decide +kernel) (ds := cuts) (fun d hd => (I.cutD d hd).1) (by omega) (k.a - (cuts.map (fun deed : Dd => deed.at2)).sum)
  have vp := grown_v (w := ("put" : Str)) (by decide +kernel) (ds := puts) (fun d hd => (I.putD d hd).1) (by omega) k.b
  rcases h with ⟨ek, eP⟩ | ⟨ha, hc, ek, eP⟩ | ⟨ek, eP⟩
  · have c1 : decide (k'.c = 1) = false := by rw [ek]; exact (by decide : decide ((0 : Int) = 1) = false)
    have c2 : decide (k'.c = 2) = false := by rw [ek]; exact (by decide : decide ((0 : Int) = 2) = false)
    rw [cost_at hn h1 h2 i1 ⟨i2.1, hb2⟩ k.b] at eP
    obtain ⟨K', I'⟩ := I.go hm hn h1 h2 hb2 ek eP
    refine ⟨⟨fun z => absurd (c1.symm.trans z) (by decide), fun _ => ?_⟩, _, _, _, _, _, _, _, .inl ?_, I'⟩
    · unfold bnd
      dsimp only
      rw [W.w.rows, c2]
      exact ⟨r1.1, fun z => (nomatch z), ro.1, w1, by rw [if_neg (by decide), w2]; omega⟩
    · unfold m_least_way_f1 bnd
      dsimp only
      rw [c1, c2, if_neg (by decide), if_neg (by decide), W.w.rows, w2]
  · have c1 : decide (k'.c = 1) = true := by rw [ek]; rfl
    obtain ⟨cuts', g, I'⟩ := I.cut hm hn h1 ha hc (by omega) ek eP
    refine ⟨⟨fun _ => ⟨by show cuts.length ≤ _; omega, fun d hd => ?_, vg⟩, fun z => absurd (c1.symm.trans z) (by decide)⟩, _, _, _, _, _, _, _, .inr ?_, I'⟩
    · obtain ⟨r, c, e, _⟩ := ((I.cutD d hd).1).e
      rw [e]; rfl
    · unfold m_least_way_f1 bnd
      dsimp only
      rw [c1, if_pos rfl, g]; rfl
  · have c1 : decide (k'.c = 1) = false := by rw [ek]; exact (by decide : decide ((2 : Int) = 1) = false)
    have c2 : decide (k'.c = 2) = true := by rw [ek]; rfl
    rw [cost_at hn h1 h2 (g := (m : Int)) (by omega) ⟨i2.1, hb2⟩ k.b, ebl] at eP
    obtain ⟨puts', g, I'⟩ := I.put hm hn h1 h2 hb2 ek eP
    refine ⟨⟨fun z => absurd (c1.symm.trans z) (by decide), fun _ => ?_⟩, _, _, _, _, _, _, _, .inl ?_, I'⟩
    · unfold bnd
      dsimp only
      rw [W.w.rows, W.w.high, c2, if_pos rfl]
      dsimp only
      rw [ebl]
      exact ⟨r1.1, fun _ => ⟨vp, rm.1⟩, ro.1, u1, by rw [u2]; omega⟩
    · unfold m_least_way_f1 bnd
      dsimp only
      rw [c1, c2, if_neg (by decide), if_pos rfl]
      dsimp only
      rw [W.w.rows, W.w.high, ebl, u2, g]
theorem way_run (hm : 1 ≤ m ∧ m ≤ 12) (hn : 1 ≤ n ∧ n ≤ 24) (h1 : Pg n m one) (h2 : Pg n m other) {s : Wk} (W : WalkOk n m one other s) : ∀ (r : List K3) {k : K3} {cuts puts found : List Dd} {K Gs : Pc} {pat : List (Option Nat)} {S : Nat}, WI n m one other (tdGet s.prices) k cuts puts found K Gs pat S → Pth m (costsOf (rowsOf n one) other) (tdGet s.prices) k r →
    vRun (m_least_way_f1 other s) (v_least_way_f1 other s) (cuts, puts, found) ((k :: r).zip r) ∧ ∃ k' cuts' puts' found' K' Gs' pat' S', (runFor (m_least_way_f1 other s) (cuts, puts, found) ((k :: r).zip r) : Out (List Dd × List Dd × List Dd) Empty (List Dd)) = .nx (cuts', puts', found') ∧ WI n m one other (tdGet s.prices) k' cuts' puts' found' K' Gs' pat' S' ∧ k'.b = m
  | [], k, cuts, puts, found, K, Gs, pat, S, I, p => ⟨trivial, k, cuts, puts, found, K, Gs, pat, S, rfl, I, p⟩
  | k1 :: r, k, cuts, puts, found, K, Gs, pat, S, I, ⟨t, p⟩ => by
    obtain ⟨v, c', p', f', K', Gs', pat', S', e, I'⟩ := way_step hm hn h1 h2 W I t
    obtain ⟨v2, k2, c2, p2, f2, K2, G2, pt2, S2, e2, I2, b2⟩ := way_run hm hn h1 h2 W r I' p
    have ez : (k :: k1 :: r).zip (k1 :: r) = (k, k1) :: (k1 :: r).zip r := rfl
    rw [ez]
    refine ⟨⟨v, ?_⟩, k2, c2, p2, f2, K2, G2, pt2, S2, ?_, I2, b2⟩
    · rcases e with e | e <;> rw [e] <;> exact v2
    · unfold runFor
      rcases e with e | e <;> rw [e] <;> exact e2
theorem way_ok (hm : 1 ≤ m ∧ m ≤ 12) (hn : 1 ≤ n ∧ n ≤ 24) (h1 : Pg n m one) (h2 : Pg n m other) : v_least_way one other ∧ v_least_worth one other ∧ ∃ cuts puts found B, WayOk n m one other (m_least_way one other) (m_least_worth one other) cuts puts found B := by
  obtain ⟨wv, W⟩ := walk_ok hn hm h1 h2
  obtain ⟨kv, r, ke, kp, kl⟩ := knots_ok hm W
  have i1 := h1.at (i := 0) (by decide) (by omega)
  have i2 := h2.at (i := 0) (by decide) (by omega)
  have l1 := h1.1
  have l2 := h2.1
  have es : m_size_of one = m_size_of other := by unfold m_size_of; rw [i1.2.1, i2.2.1, l1, l2]
  have na : v_need_alike one other := ⟨⟨i1.1, i2.1⟩, fun z => by rw [es, eqb_refl] at z; cases z⟩
  have in0 : InK m (⟨0, 0, 0⟩ : K3) := ⟨by dsimp only; omega, by dsimp only; omega, by dsimp only; omega⟩
  have I0 : WI n m one other (tdGet (m_Walk_init () one other).prices) ⟨0, 0, 0⟩ [] [] [] [] [] [] 0 :=
    ⟨in0, (fun d h => nomatch h), (fun d h => nomatch h), (by show one = ([] ++ one.drop 0) ++ []; rw [List.drop_zero, List.nil_append, List.append_nil]), rfl, rfl, (fun d h => nomatch h), (fun z => (by cases z)), List.Pairwise.nil, (fun p hp => (by
      show p = (([] : Pc) ++ p.drop 0).take m
      rw [List.drop_zero, List.nil_append, List.take_of_length_le (by rw [hp.1]; exact Nat.le_refl _)])), (fun d h => nomatch h), (fun z => (by cases z)), List.Pairwise.nil, rfl, (fun i h => nomatch h), Nat.le_refl _, ⟨0, rfl, fun _ => rfl⟩, (fun r h => nomatch h), rfl, (by show ((0 : Nat) : Int) + ((0 : Nat) : Int) + ((0 : Nat) : Int) + _ = _; omega), ⟨Nat.zero_le _, Nat.zero_le _, Nat.zero_le _⟩⟩
  obtain ⟨rv, k', cuts, puts, found, K, Gs, pat, S, re, I, kb⟩ := way_run hm hn h1 h2 W r I0 kp
  have ec : cutL (m_Walk_knots (m_Walk_init () one other)) (some 1) none = r := by
    rw [ke, cut_b (by decide) (by rw [List.length_cons]; omega)]; rfl
  have ez : (m_Walk_knots (m_Walk_init () one other)).zip (cutL (m_Walk_knots (m_Walk_init () one other)) (some 1) none) = (⟨0, 0, 0⟩ :: r).zip r := by rw [ec, ke]
  have few := I.few
  have q1 := I.ink.1
  have q2 := I.ink.2.1
  have em : m_least_way one other = (cuts ++ puts) ++ found := by
    unfold m_least_way bnd
    dsimp only
    rw [ez, re]; rfl
  have pL := I.patL
  have gL := I.gsL
  have pz := (wk_eq W I.ink).1 kb
  -- the rows behind cuts and puts
  have hQ : Pg n m (cuts.foldl m_l_deed one) := fold_pg (by omega) (by omega) _ h1 fun d hd => (I.cutD d hd).2
  have pre : ∃ rest, cuts.foldl m_l_deed one = Gs ++ rest := by
    obtain ⟨t, g1, g2⟩ := I.gsK
    have cL := I.cutL
    rw [I.cutE]
    by_cases c : k'.a < m
    · have := g2 c
      subst this
      rw [show List.replicate 0 (bl n) = [] from rfl, List.append_nil] at g1
      exact ⟨one.drop k'.a.toNat ++ List.replicate S (bl n), by rw [g1, List.append_assoc]⟩
    · have lG := congrArg List.length g1
      rw [List.length_append, List.length_replicate] at lG
      refine ⟨List.replicate (S - t) (bl n), ?_⟩
      rw [List.drop_of_length_le (by omega), List.append_nil, g1, List.append_assoc, List.replicate_append_replicate]
      congr 2; omega
  obtain ⟨rest, eQ⟩ := pre
  have eB : puts.foldl m_l_deed (cuts.foldl m_l_deed one) = Zp n Gs pat := by
    rw [I.putE _ hQ, List.take_append_of_le_length (by rw [zp_len, pL]; omega), List.take_of_length_le (by rw [zp_len, pL]; omega), eQ, zp_app I.patG]
  have bL : (Zp n Gs pat).length = m := by rw [zp_len, pL]; omega
  have bN : ∀ r ∈ Zp n Gs pat, RowN n r := fun r hr => by
    obtain ⟨o, ho, rfl⟩ := List.mem_map.mp hr
    cases o with
    | none => exact bl_rowN n
    | some i =>
      have := I.patG i ho
      exact I.gsN _ (ix_mem (by unfold InB; omega))
  have lay := wrP_lay (n := n) (by omega) ((Zp n Gs pat).zip other) [] fun q hq => ⟨bN _ (List.of_mem_zip hq).1, h2.2 _ (List.of_mem_zip hq).2⟩
  rw [List.nil_append, List.nil_append, List.map_fst_zip (by omega), List.map_snd_zip (by omega)] at lay
  have cnt := I.cnt
  refine ⟨⟨na, wv, kv, ?_⟩, ⟨na, wv, (W.w.has _).mpr in0⟩, cuts, puts, found, Zp n Gs pat, em, I.cutD, I.putD, I.cutP, I.putP, I.fnd, bL, bN, eB, ?_, ?_, by omega⟩
  · unfold bnd
    dsimp only
    rw [ez]
    refine ⟨rv, fun r1 e => ?_⟩
    rw [re] at e
    cases e
    exact ⟨by dsimp only; omega, by rw [List.length_append]; dsimp only; omega⟩
  · rw [em, List.foldl_append, List.foldl_append, eB, I.fnd]
    exact lay
  · rw [em, List.length_append, List.length_append]
    show _ = tdGet (m_Walk_init () one other).prices (T3.mk 0 0 0)
    rw [← cnt, pz]
    omega
end
theorem rowA (number wide : Int) : ∀ c ∈ m_l_row number wide, CellA c := by
  have k := fold_inv (g := m_l_row_f1) (vb := fun _ _ => True) (xs := izs 0 (wide : Int).toNat) (s := (number, m_l_ink number, ([] : List (Str × Int)))) (fun _ s => (0 ≤ s.2.1 ∧ s.2.1 < 512) ∧ ∀ c ∈ s.2.2, CellA c) ⟨ink_in _, fun c hc => nomatch hc⟩ fun i s y hy h => ?_
  · exact k.2.2
  · obtain ⟨q1, q2⟩ := h
    unfold m_l_row_f1 bnd
    dsimp only
    generalize ((s.1 * 16807) % 998244353) + y = z
    have hj : 0 ≤ (if decide (z % 4 = 1) = true then m_l_ink (z / 4) else s.2.1) ∧ (if decide (z % 4 = 1) = true then m_l_ink (z / 4) else s.2.1) < 512 := by
      split
      · exact ink_in _
      · exact q1
    generalize (if decide (z % 4 = 1) = true then m_l_ink (z / 4) else s.2.1) = j at hj
    refine ⟨trivial, hj, fun c hc => ?_⟩
    rcases List.mem_append.mp hc with hc | hc
    · exact q2 c hc
    · rw [List.mem_singleton] at hc
      subst hc
      exact ⟨sign_asc _, hj⟩
theorem blank_asc : Asc (" " : Str) := ascB_ok (by decide +kernel)
theorem blankA (n : Nat) : ∀ c ∈ (List.replicate n ([((" " : Str), 0)] : List (Str × Int))).flatten, CellA c := fun c hc => by
  obtain ⟨l, h1, h2⟩ := List.mem_flatten.mp hc
  rw [(List.mem_replicate.mp h1).2, List.mem_singleton] at h2
  subst h2
  exact ⟨blank_asc, by show (0 : Int) ≤ 0; omega, by show (0 : Int) < 512; omega⟩
theorem pg_stI {n m : Nat} {p : Pc} (hp : Pg n m p) {i : Int} {r : List (Str × Int)} (hr : RowN n r) : Pg n m (stI p i r) := ⟨by rw [st_len]; exact hp.1, fun x hx => by
  rcases st_mem hx with hx | hx
  · exact hp.2 x hx
  · rw [hx]; exact hr⟩
theorem pgA_stI {p : Pc} (hp : PgA p) {i : Int} {r : List (Str × Int)} (hr : ∀ c ∈ r, CellA c) : PgA (stI p i r) := fun x hx => by
  rcases st_mem hx with hx | hx
  · exact hp x hx
  · rw [hx]; exact hr
theorem rowN_stI {n : Nat} {r : List (Str × Int)} (hr : RowN n r) {i : Int} {c : Str × Int} (hc : PyData.strOk c.1 = true ∧ c.1.length = 1) : RowN n (stI r i c) := ⟨by rw [st_len]; exact hr.1, fun x hx => by
  rcases st_mem hx with hx | hx
  · exact hr.2 x hx
  · rw [hx]; exact hc⟩
theorem rowA_stI {r : List (Str × Int)} (hr : ∀ c ∈ r, CellA c) {i : Int} {c : Str × Int} (hc : CellA c) : ∀ x ∈ stI r i c, CellA x := fun x hx => by
  rcases st_mem hx with hx | hx
  · exact hr x hx
  · rw [hx]; exact hc
theorem turned_ok (s : Scr Int) (h : Pre s) {n m : Nat} (hn : 1 ≤ n ∧ n ≤ 24) (hm : 1 ≤ m ∧ m ≤ 12) {p : Pc} (hp : Pg n m p) (hA : PgA p) {first : Int} (f0 : 0 ≤ first ∧ first ≤ 60) : v_l_turned s first p ∧ Pg n m (m_l_turned s first p) ∧ PgA (m_l_turned s first p) := by
  have i0 := hp.at (i := 0) (by decide) (by omega)
  have l := hp.1
  have hs := h.len
  have k := fold_inv (g := m_l_turned_f1 s n) (vb := v_l_turned_f1 s n) (xs := izs first ((min 63 ((s.l.length : Nat) : Int)) - first).toNat) (s := p) (fun _ z => Pg n m z ∧ PgA z) ⟨hp, hA⟩ fun i z y hy q => by
    obtain ⟨hi, ey⟩ := izs_get hy
    obtain ⟨q1, q2⟩ := q
    have lz := q1.1
    have hx := mixed_ok s h y (by omega) (by omega)
    unfold v_l_turned_f1 m_l_turned_f1 bnd
    dsimp only
    generalize m_l_mixed s y = num at hx
    have a0 := Int.emod_nonneg (num / 16) (show ((z.length : Nat) : Int) ≠ 0 by omega)
    have a1 := Int.emod_lt_of_pos (num / 16) (show (0 : Int) < ((z.length : Nat) : Int) by omega)
    generalize (num / 16) % ((z.length : Nat) : Int) = aV at *
    have b0 := Int.emod_nonneg (num / 192) (show (n : Int) ≠ 0 by omega)
    have b1 := Int.emod_lt_of_pos (num / 192) (show (0 : Int) < (n : Int) by omega)
    generalize (num / 192) % (n : Int) = pl at *
    have iz := q1.at a0 (show aV < m by omega)
    have ip : InB (ix z aV) pl := by unfold InB; rw [iz.2.1]; omega
    have rk := lrow_ok (num / 192) n (by omega) (by omega)
    rw [Int.toNat_natCast] at rk
    have sg := lsign_ok (num / 4608)
    have ci : 0 ≤ ix ([(ix (ix z aV) pl).2, (m_l_ink (num / 7))] : List Int) ((num / 3) % 2) ∧ ix ([(ix (ix z aV) pl).2, (m_l_ink (num / 7))] : List Int) ((num / 3) % 2) < 512 := by
      refine ix_all (p := fun z : Int => 0 ≤ z ∧ z < 512) (fun x hx => ?_) (inB_mod 2 rfl (by decide))
      simp only [List.mem_cons, List.not_mem_nil, or_false] at hx
      rcases hx with rfl | rfl
      · exact (q2 _ (ix_mem iz.1) _ (ix_mem ip)).2
      · exact ink_in _
    generalize ix ([(ix (ix z aV) pl).2, (m_l_ink (num / 7))] : List Int) ((num / 3) % 2) = ik at ci
    have blr : RowN n (List.replicate ((n : Nat) : Int).toNat ([((" " : Str), 0)] : List (Str × Int))).flatten := wblank_is n
    have blA : ∀ c ∈ (List.replicate ((n : Nat) : Int).toNat ([((" " : Str), 0)] : List (Str × Int))).flatten, CellA c := blankA n
    have dl : (delI z aV).length = m - 1 := by unfold delI; rw [List.length_eraseIdx, if_pos (by omega), lz]
    have il : (insI z aV (m_l_row (num / 192) n)).length = m + 1 := by
      unfold insI
      rw [List.length_append, List.length_append, List.length_take, List.length_drop, lz]
      show min aV.toNat m + 1 + (m - aV.toNat) = m + 1
      omega
    have iin : ∀ x ∈ insI z aV (m_l_row (num / 192) n), x ∈ z ∨ x = m_l_row (num / 192) n := fun x hx => by
      unfold insI at hx
      rcases List.mem_append.mp hx with hx | hx
      · rcases List.mem_append.mp hx with hx | hx
        · exact .inl (List.mem_of_mem_take hx)
        · exact .inr (List.mem_singleton.mp hx)
      · exact .inl (List.mem_of_mem_drop hx)
    refine ⟨⟨hx.1, by omega, fun _ => ⟨by omega, ⟨iz.1, ip⟩, sg.1, iz.1, ip⟩, fun _ => ⟨fun _ => ⟨⟨⟨a0, by omega⟩, by omega⟩, ⟨by omega, by show 1 * ((n : Nat) : Int).toNat ≤ _; omega⟩, by omega, by rw [dl]; omega⟩, fun _ => ⟨fun _ => ⟨⟨rk.1, ⟨a0, by omega⟩, by omega⟩, by rw [il]; omega⟩, fun _ _ => ⟨rk.1, iz.1⟩⟩⟩⟩, ?_⟩
    split
    · exact ⟨pg_stI q1 (rowN_stI iz.2 sg.2), pgA_stI q2 (rowA_stI (q2 _ (ix_mem iz.1)) ⟨sign_asc _, ci⟩)⟩
    · split
      · refine ⟨⟨by rw [List.length_append, dl]; show m - 1 + 1 = m; omega, fun r hr => ?_⟩, fun r hr => ?_⟩
        · rcases List.mem_append.mp hr with hr | hr
          · exact q1.2 r (List.mem_of_mem_eraseIdx hr)
          · rw [List.mem_singleton.mp hr]; exact blr
        · rcases List.mem_append.mp hr with hr | hr
          · exact q2 r (List.mem_of_mem_eraseIdx hr)
          · rw [List.mem_singleton.mp hr]; exact blA
      · split
        · refine ⟨⟨by rw [List.length_dropLast, il]; omega, fun r hr => ?_⟩, fun r hr => ?_⟩
          · rcases iin r (List.dropLast_subset _ hr) with hr | hr
            · exact q1.2 r hr
            · rw [hr]; exact rk.2
          · rcases iin r (List.dropLast_subset _ hr) with hr | hr
            · exact q2 r hr
            · rw [hr]; exact rowA _ _
        · split
          · exact ⟨pg_stI q1 rk.2, pgA_stI q2 (rowA _ _)⟩
          · exact ⟨q1, q2⟩
  unfold v_l_turned m_l_turned bnd
  dsimp only
  rw [i0.2.1, show p.map (fun row_here : List (Str × Int) => row_here) = p from List.map_id _]
  exact ⟨⟨i0.1, by omega, by omega, k.1⟩, k.2⟩
theorem small_sg : ∀ i : Fin 6, PyData.strOk (ixS ("abc de" : Str) (i.val : Int)) = true ∧ (ixS ("abc de" : Str) (i.val : Int)).length = 1 ∧ ascB (ixS ("abc de" : Str) (i.val : Int)) = true := by decide +kernel
theorem small_ok (s : Scr Int) (h : Pre s) {first wide high : Int} (f0 : 0 ≤ first ∧ first ≤ 100) (w0 : 1 ≤ wide ∧ wide ≤ 24) (h0 : 1 ≤ high ∧ high ≤ 12) : v_l_small s first wide high ∧ Pg wide.toNat high.toNat (m_l_small s first wide high) ∧ PgA (m_l_small s first wide high) := by
  have k := fold_inv (g := m_l_small_f1 s first wide) (vb := v_l_small_f1 s first wide) (xs := izs 0 (high : Int).toNat) (s := ([] : Pc)) (fun i z => Pg wide.toNat i z ∧ PgA z) ⟨⟨rfl, fun c hc => nomatch hc⟩, fun c hc => nomatch hc⟩ fun i z y hy q => by
    obtain ⟨hi, ey⟩ := izs_get hy
    obtain ⟨q1, q2⟩ := q
    have l1 := q1.1
    have hx := mixed_ok s h (first + y) (by omega) (by omega)
    unfold v_l_small_f1 m_l_small_f1 bnd
    dsimp only
    generalize m_l_mixed s (first + y) = num at hx
    have k2 := fold_inv (g := m_l_small_f2 num) (vb := v_l_small_f2 num) (xs := izs 0 (wide : Int).toNat) (s := ([] : List (Str × Int))) (fun j r => RowN j r ∧ ∀ c ∈ r, CellA c) ⟨⟨rfl, fun c hc => nomatch hc⟩, fun c hc => nomatch hc⟩ fun j r x hx q => by
      obtain ⟨hj, ex⟩ := izs_get hx
      obtain ⟨r1, r2⟩ := q
      have lr := r1.1
      have s1 := small_sg ⟨((num / (5 + 9 * x)) % 6).toNat, by omega⟩
      dsimp only at s1
      rw [show ((((num / (5 + 9 * x)) % 6).toNat : Nat) : Int) = (num / (5 + 9 * x)) % 6 by omega] at s1
      have ci : 0 ≤ ix ([0, 0, 64] : List Int) ((num / (45 + 9 * x)) % 3) ∧ ix ([0, 0, 64] : List Int) ((num / (45 + 9 * x)) % 3) < 512 := by
        refine ix_all (p := fun z : Int => 0 ≤ z ∧ z < 512) (fun x hx => ?_) (inB_mod 3 rfl (by decide))
        simp only [List.mem_cons, List.not_mem_nil, or_false] at hx
        rcases hx with rfl | rfl | rfl <;> omega
      refine ⟨⟨by unfold CDiv; omega, by unfold CDiv; omega, by omega⟩, ⟨?_, fun c hc => ?_⟩, fun c hc => ?_⟩
      · show (r ++ [_]).length = j + 1
        rw [List.length_append, lr]; rfl
      · rcases List.mem_append.mp (show c ∈ r ++ [_] from hc) with hc | hc
        · exact r1.2 c hc
        · rw [List.mem_singleton.mp hc]; exact ⟨s1.1, s1.2.1⟩
      · rcases List.mem_append.mp (show c ∈ r ++ [_] from hc) with hc | hc
        · exact r2 c hc
        · rw [List.mem_singleton.mp hc]; exact ⟨ascB_ok s1.2.2, ci⟩
    rw [izs_len] at k2
    refine ⟨⟨hx.1, ⟨⟨by omega, by omega⟩, k2.1⟩, by omega⟩, ⟨by rw [List.length_append, l1]; rfl, fun r hr => ?_⟩, fun r hr => ?_⟩
    · rcases List.mem_append.mp hr with hr | hr
      · exact q1.2 r hr
      · rw [List.mem_singleton.mp hr]; exact k2.2.1
    · rcases List.mem_append.mp hr with hr | hr
      · exact q2 r hr
      · rw [List.mem_singleton.mp hr]; exact k2.2.2
  rw [izs_len] at k
  exact ⟨⟨⟨by omega, by omega⟩, k.1⟩, k.2⟩
theorem cost_close {one other : List (Str × Int)} {a i k : Int} {U : Bool} (hU : U = true ↔ ∃ p, a ≤ p ∧ p < i ∧ ix one p ≠ ix other p) : ((wrs 0 one other ⟨a, i, k⟩).length : Int) = if U = true then 1 else 0 := by
  unfold wrs
  by_cases c : pls one other ⟨a, i, k⟩ = []
  · rw [if_pos c, if_neg]
    · rfl
    · intro u
      obtain ⟨p, p0, p1, p2⟩ := hU.mp u
      have : p ∈ pls one other ⟨a, i, k⟩ := pls_mem.mpr ⟨⟨p0, p1⟩, p2⟩
      rw [c] at this; cases this
  · rw [if_neg c, if_pos]
    · rfl
    · obtain ⟨p, r, e⟩ := List.exists_cons_of_ne_nil c
      have := pls_mem.mp (show p ∈ pls one other ⟨a, i, k⟩ by rw [e]; exact List.mem_cons_self ..)
      exact hU.mpr ⟨p, this.1.1, this.1.2, this.2⟩
theorem cost_fold {n : Nat} {one other : List (Str × Int)} (h1 : RowN n one) (h2 : RowN n other) (hn : n ≤ 1000) : ∀ (zs : List Int) (i : Nat) (a : Int) (F : Int) (U : Bool), (other.drop i).map (·.2) = zs → 0 ≤ a → a < i → i ≤ n → (∀ p, a ≤ p → p < i → ink other p = ink other a) → (U = true ↔ ∃ p, a ≤ p ∧ p < i ∧ ix one p ≠ ix other p) →
    vFold (m_l_cost_f1 one other) (v_l_cost_f1 one other) (F, U) (izs i zs.length) ∧ ((izs i zs.length).foldl (m_l_cost_f1 one other) (F, U)).1 + (if ((izs i zs.length).foldl (m_l_cost_f1 one other) (F, U)).2 = true then (1 : Int) else 0) = F + (((runs a (ink other a) i zs).flatMap (wrs 0 one other)).length : Nat)
  | [], i, a, F, U, h, a0, ai, il, hk, hU => by
    refine ⟨trivial, ?_⟩
    show F + (if U = true then (1 : Int) else 0) = F + (([(⟨a, i, ink other a⟩ : T3 Int Int Int)].flatMap (wrs 0 one other)).length : Nat)
    have e : ([(⟨a, i, ink other a⟩ : T3 Int Int Int)].flatMap (wrs 0 one other)) = wrs 0 one other ⟨a, i, ink other a⟩ := by simp
    rw [e, cost_close hU]
  | z :: zs, i, a, F, U, h, a0, ai, il, hk, hU => by
    obtain ⟨q1, q2, q3⟩ := ink_drop h
    rw [h2.1] at q1
    have g1 := good5 h1 (i := (i : Int)) (by omega) (by omega)
    have g2 := good5 h2 (i := (i : Int)) (by omega) (by omega)
    have g3 := good5 h2 (i := (i : Int) - 1) (by omega) (by omega)
    have k1 : decide ((i : Int) > 0) = true := decide_eq_true (by omega)
    have ep : ink other ((i : Int) - 1) = ink other a := hk _ (by omega) (by omega)
    have eb : ∀ b : Bool, (b || (!eqb (ix one (i : Int)) (ix other (i : Int)))) = true ↔ b = true ∨ ix one (i : Int) ≠ ix other (i : Int) := fun b => by
      rw [Bool.or_eq_true]
      refine or_congr Iff.rfl ⟨fun z e => ?_, fun z => ?_⟩
      · rw [eqb_iff.mpr e] at z; cases z
      · cases q : eqb (ix one (i : Int)) (ix other (i : Int)) with
        | false => rfl
        | true => exact absurd (eqb_iff.mp q) z
    rw [List.length_cons, izs_succ]
    have hv : v_l_cost_f1 one other (F, U) (i : Int) := ⟨fun _ => ⟨g2.1, g3.1⟩, fun _ => ⟨g1.1, g2.1, g1.2, g2.2⟩⟩
    unfold runs
    by_cases e : z = ink other a
    · have st : m_l_cost_f1 one other (F, U) (i : Int) = (F, (U || (!eqb (ix one (i : Int)) (ix other (i : Int))))) := by
        unfold m_l_cost_f1 bnd
        dsimp only
        rw [if_neg]
        rw [k1, Bool.true_and]
        intro w
        have w : (!decide ((ix other (i : Int)).2 = (ix other ((i : Int) - 1)).2)) = true := w
        rw [decide_eq_true (show (ix other (i : Int)).2 = (ix other ((i : Int) - 1)).2 by
          show ink other i = ink other ((i : Int) - 1)
          rw [q2, ep, e])] at w
        cases w
      rw [if_pos e]
      obtain ⟨k2, k3⟩ := cost_fold h1 h2 hn zs (i + 1) a F (U || (!eqb (ix one (i : Int)) (ix other (i : Int)))) q3 a0 (by omega) (by omega) (fun p p0 p1 => by
        by_cases hp : p < i
        · exact hk p p0 hp
        · rw [show p = i by omega, q2, e]) (by
        rw [eb, hU]
        constructor
        · rintro (⟨p, p0, p1, p2⟩ | w)
          · exact ⟨p, p0, by omega, p2⟩
          · exact ⟨i, by omega, by omega, w⟩
        · rintro ⟨p, p0, p1, p2⟩
          by_cases hp : p < i
          · exact .inl ⟨p, p0, hp, p2⟩
          · exact .inr (by rwa [show p = i by omega] at p2))
      refine ⟨⟨hv, by rw [st]; exact k2⟩, ?_⟩
      rw [List.foldl_cons, st]
      exact k3
    · have st : m_l_cost_f1 one other (F, U) (i : Int) = (F + (if U = true then 1 else 0), (!eqb (ix one (i : Int)) (ix other (i : Int)))) := by
        unfold m_l_cost_f1 bnd
        dsimp only
        rw [if_pos]
        · rfl
        rw [k1, Bool.true_and]
        show (!decide ((ix other (i : Int)).2 = (ix other ((i : Int) - 1)).2)) = true
        rw [decide_eq_false (show ¬ (ix other (i : Int)).2 = (ix other ((i : Int) - 1)).2 from fun w => e (by
          have w : ink other i = ink other ((i : Int) - 1) := w
          rw [← q2, w, ep]))]; rfl
      rw [if_neg e]
      have z0 : z = ink other (i : Int) := q2.symm
      obtain ⟨k2, k3⟩ := cost_fold h1 h2 hn zs (i + 1) i (F + (if U = true then 1 else 0)) (!eqb (ix one (i : Int)) (ix other (i : Int))) q3 (by omega) (by omega) (by omega) (fun p p0 p1 => by rw [show p = i by omega]) (by
        have := eb false
        rw [Bool.false_or] at this
        rw [this]
        constructor
        · rintro (w | w)
          · cases w
          · exact ⟨i, by omega, by omega, w⟩
        · rintro ⟨p, p0, p1, p2⟩
          exact .inr (by rwa [show p = i by omega] at p2))
      have cl := cost_close (one := one) (other := other) (a := a) (i := (i : Int)) (k := ink other a) hU
      refine ⟨⟨hv, by rw [st]; exact k2⟩, ?_⟩
      rw [show (((i + 1 : Nat)) : Int) = (i : Int) + 1 from rfl] at k3
      rw [List.foldl_cons, st, z0, k3, List.flatMap_cons, List.length_append, Int.natCast_add, cl]
      omega
theorem cost_is {n : Nat} {one other : List (Str × Int)} (hn : 1 ≤ n ∧ n ≤ 24) (h1 : RowN n one) (h2 : RowN n other) : v_l_cost one other ∧ m_l_cost one other = ((wrL 0 one other).length : Nat) := by
  have l2 := h2.1
  have g1 := good5 h1 (i := 0) (by omega) (by omega)
  have g2 := good5 h2 (i := 0) (by omega) (by omega)
  have hz : ((other.drop 1).map (·.2)).length + 1 = other.length := by rw [List.length_map, List.length_drop]; omega
  have st : m_l_cost_f1 one other (0, false) 0 = (0, (!eqb (ix one 0) (ix other 0))) := rfl
  obtain ⟨k1, k2⟩ := cost_fold h1 h2 (by omega) ((other.drop 1).map (·.2)) 1 0 0 (!eqb (ix one 0) (ix other 0)) rfl (by omega) (by omega) (by omega) (fun p p0 p1 => by rw [show p = 0 by omega]) (by
    constructor
    · intro w
      refine ⟨0, by omega, by omega, fun e => ?_⟩
      rw [eqb_iff.mpr e] at w; cases w
    · rintro ⟨p, p0, p1, p2⟩
      rw [show p = 0 by omega] at p2
      cases q : eqb (ix one 0) (ix other 0) with
      | false => rfl
      | true => exact absurd (eqb_iff.mp q) p2)
  have e1 : (((other.length : Nat) : Int)).toNat = ((other.drop 1).map (·.2)).length + 1 := by omega
  unfold v_l_cost m_l_cost bnd
  dsimp only
  rw [e1, izs_succ]
  refine ⟨⟨⟨by omega, by omega⟩, ⟨fun z => (by cases z), fun _ => ⟨g1.1, g2.1, g1.2, g2.2⟩⟩, by rw [st]; exact k1⟩, ?_⟩
  rw [List.foldl_cons, st]
  refine k2.trans ?_
  rw [Int.zero_add]; rfl
def cells : Dd → List (Int × Int)
  | .cp .. => []
  | .wr _ row col text _ => (izs 0 (((text.length : Nat) : Int) : Int).toNat).map fun k : Int => (row, (col + k))
def clP (x y : Int × Int) : Prop := x.1 < y.1 ∨ (x.1 = y.1 ∧ x.2 < y.2)
theorem clP_ne {x y : Int × Int} (h : clP x y) : x ≠ y := fun e => by
  subst e
  rcases h with h | h
  · omega
  · omega
theorem cells_pw (w : Str) (row col ink : Int) (text : Str) : (cells (.wr w row col text ink)).Pairwise clP := by
  show ((izs 0 _).map _).Pairwise clP
  rw [List.pairwise_map]
  exact (izs_pw 0 _).imp fun h => .inr ⟨rfl, by dsimp only; omega⟩
theorem tiles_cells {n : Nat} {row : Int} {one other : List (Str × Int)} (h2 : RowN n other) : ∀ (ts : List (T3 Int Int Int)) (lo : Int), 0 ≤ lo → Tiles other lo ts → ((ts.flatMap (wrs row one other)).flatMap cells).Pairwise clP ∧ (∀ x ∈ (ts.flatMap (wrs row one other)).flatMap cells, x.1 = row ∧ lo ≤ x.2 ∧ x.2 < n) ∧ (((ts.flatMap (wrs row one other)).flatMap cells).length : Int) ≤ n - lo
  | [], lo, h0, h => by
    have : lo = (n : Int) := by rw [← h2.1]; exact h
    exact ⟨List.Pairwise.nil, (fun x hx => nomatch hx), by show ((0 : Nat) : Int) ≤ _; omega⟩
  | t :: ts, lo, h0, ⟨e1, e2, e3, e4, e5⟩ => by
    rw [h2.1] at e3
    obtain ⟨k1, k2, k3⟩ := tiles_cells (row := row) (one := one) h2 ts t.b (by omega) e5
    rw [List.flatMap_cons, List.flatMap_append]
    by_cases hp : pls one other t = []
    · have : wrs row one other t = [] := by unfold wrs; rw [if_pos hp]
      rw [this, List.flatMap_nil, List.nil_append]
      exact ⟨k1, fun x hx => by have := k2 x hx; omega, by omega⟩
    · have W := wr_ok h2 (show 0 ≤ t.a by omega) e3 hp
      have w0 := W.c0
      have w1 := W.l1
      have : wrs row one other t = [wr row one other t] := by unfold wrs; rw [if_neg hp]
      rw [this]
      have e6 : [wr row one other t].flatMap cells = cells (wr row one other t) := by simp
      have hm : ∀ x ∈ cells (wr row one other t), x.1 = row ∧ wrc one other t ≤ x.2 ∧ x.2 < wrc one other t + (wrt one other t).length := fun x hx => by
        obtain ⟨k, hk, rfl⟩ := List.mem_map.mp hx
        have := izs_mem.mp hk
        exact ⟨rfl, by dsimp only; omega, by dsimp only; omega⟩
      have hl : (cells (wr row one other t)).length = (wrt one other t).length := by
        show ((izs 0 _).map _).length = _
        rw [List.length_map, izs_len]; omega
      rw [e6]
      refine ⟨?_, fun x hx => ?_, ?_⟩
      · rw [List.pairwise_append]
        refine ⟨cells_pw _ _ _ _ _, k1, fun x hx y hy => ?_⟩
        have a := hm x hx
        have b := k2 y hy
        exact .inr ⟨by omega, by omega⟩
      · rcases List.mem_append.mp hx with hx | hx
        · have := hm x hx; omega
        · have := k2 x hx; omega
      · rw [List.length_append, hl]; omega
theorem wrL_cells {n : Nat} {row : Int} {one other : List (Str × Int)} (h0 : 0 < n) (h2 : RowN n other) : ((wrL row one other).flatMap cells).Pairwise clP ∧ (∀ x ∈ (wrL row one other).flatMap cells, x.1 = row) ∧ ((wrL row one other).flatMap cells).length ≤ n := by
  obtain ⟨a, b, c⟩ := tiles_cells (row := row) (one := one) h2 (stS other) 0 (Int.le_refl _) (stS_tiles (row := other) (by rw [h2.1]; exact h0))
  exact ⟨a, fun x hx => (b x hx).1, by
    have c : ((((wrL row one other).flatMap cells).length : Nat) : Int) ≤ n - 0 := c
    omega⟩
theorem wrP_cells {n : Nat} (h0 : 0 < n) : ∀ (qs : List Rw2) (a : Int), (∀ q ∈ qs, RowN n q.2) → ((wrP a qs).flatMap cells).Pairwise clP ∧ (∀ x ∈ (wrP a qs).flatMap cells, a ≤ x.1) ∧ ((wrP a qs).flatMap cells).length ≤ n * qs.length
  | [], a, _ => ⟨List.Pairwise.nil, (fun x hx => nomatch hx), Nat.zero_le _⟩
  | q :: qs, a, h => by
    obtain ⟨a1, a2, a3⟩ := wrL_cells (row := a) (one := q.1) h0 (h q (List.mem_cons_self ..))
    obtain ⟨b1, b2, b3⟩ := wrP_cells h0 qs (a + 1) fun z hz => h z (List.mem_cons_of_mem _ hz)
    show ((wrL a q.1 q.2 ++ wrP (a + 1) qs).flatMap cells).Pairwise clP ∧ (∀ x ∈ (wrL a q.1 q.2 ++ wrP (a + 1) qs).flatMap cells, a ≤ x.1) ∧ ((wrL a q.1 q.2 ++ wrP (a + 1) qs).flatMap cells).length ≤ _
    rw [List.flatMap_append, List.length_append, List.length_cons, Nat.mul_succ]
    refine ⟨List.pairwise_append.mpr ⟨a1, b1, fun x hx y hy => .inl ?_⟩, fun x hx => ?_, by omega⟩
    · have := a2 x hx
      have := b2 y hy
      omega
    · rcases List.mem_append.mp hx with hx | hx
      · have := a2 x hx; omega
      · have := b2 x hx; omega
def SW : List Str := [("cut" : Str), ("put" : Str), ("write" : Str)]
theorem sw_cut : inL ("cut" : Str) SW = true ∧ idxS SW ("cut" : Str) = 0 ∧ ("cut" : Str) ∈ SW := by decide +kernel
theorem sw_put : inL ("put" : Str) SW = true ∧ idxS SW ("put" : Str) = 1 ∧ ("put" : Str) ∈ SW := by decide +kernel
theorem sw_write : inL ("write" : Str) SW = true ∧ idxS SW ("write" : Str) = 2 ∧ ("write" : Str) ∈ SW := by decide +kernel
theorem pick_row {R so last : Int} : InB ([R, (-1)] : List Int) (if (decide (so > last)) then (1 : Int) else 0) ∧ ix ([R, (-1)] : List Int) (if (decide (so > last)) then (1 : Int) else 0) = if so > last then -1 else R := by
  by_cases c : so > last
  · rw [if_pos (decide_eq_true c), if_pos c]; exact ⟨by unfold InB; show -((2 : Nat) : Int) ≤ 1 ∧ (1 : Int) < ((2 : Nat) : Int); decide, rfl⟩
  · rw [if_neg (by rw [decide_eq_true_eq]; exact c), if_neg c]; exact ⟨by unfold InB; show -((2 : Nat) : Int) ≤ 0 ∧ (0 : Int) < ((2 : Nat) : Int); decide, rfl⟩
theorem fstep_cp {n m : Nat} {w : Str} {so : Int} (hw : w = ("cut" : Str) ∧ so = 0 ∨ w = ("put" : Str) ∧ so = 1) {R last : Int} {M : List (Int × Int)} (hl : last ≤ so) {r c : Nat} (h1 : 1 ≤ c) (h2 : r + c ≤ m) (hR : (if so > last then -1 else R) + so ≤ r) :
    v_l_formed_f1 n m (R, M, last) (.cp w r c) ∧ m_l_formed_f1 n m (R, M, last) (.cp w r c) = .nx ((r : Int), M, so) := by
  have sw : inL w SW = true ∧ idxS SW w = so ∧ w ∈ SW := by
    rcases hw with ⟨rfl, rfl⟩ | ⟨rfl, rfl⟩
    · exact sw_cut
    · exact sw_put
  have so2 : 0 ≤ so ∧ so ≤ 1 := by rcases hw with ⟨_, rfl⟩ | ⟨_, rfl⟩ <;> omega
  have dk : PyD.dok (Dd.cp w r c) := ⟨by
    show PyData.strOk w = true
    rcases hw with ⟨rfl, _⟩ | ⟨rfl, _⟩ <;> decide +kernel, trivial, trivial⟩
  obtain ⟨p1, p2⟩ := pick_row (R := R) (so := so) (last := last)
  have hx : max (if so > last then -1 else R) (r : Int) = r := by omega
  have t1 : (Dd.cp w r c).tag = w := rfl
  have b1 : decide (so < last) = false := decide_eq_false (by omega)
  have b2 : decide (so < 2) = true := decide_eq_true (by omega)
  have b3 : decide (so = 2) = false := decide_eq_false (by omega)
  have b4 : (decide (0 ≤ (r : Int)) && decide ((r : Int) < (m : Int))) = true := by rw [Bool.and_eq_true, decide_eq_true_eq, decide_eq_true_eq]; omega
  have b5 : decide ((c : Int) < 1) = false := decide_eq_false (by omega)
  have b6 : decide ((r : Int) + (c : Int) > (m : Int)) = false := decide_eq_false (by omega)
  have b7 : decide ((r : Int) < (if so > last then -1 else R) + so) = false := decide_eq_false (by omega)
  constructor
  · unfold v_l_formed_f1 bnd
    dsimp only
    rw [t1]
    refine ⟨fun _ => dk, fun _ => ⟨sw.2.2, ?_⟩⟩
    rw [show idxS ([("cut" : Str), ("put" : Str), ("write" : Str)] : List Str) w = so from sw.2.1]
    refine ⟨p1, ?_⟩
    rw [p2]
    exact ⟨fun _ => ⟨rfl, fun _ => rfl⟩, fun _ => ⟨rfl, fun _ => ⟨fun _ => ⟨rfl, fun _ => ⟨rfl, rfl⟩⟩, fun _ => ⟨fun _ => rfl, fun _ => ⟨fun z => absurd (b3.symm.trans z) (by decide), fun _ _ => rfl⟩⟩⟩⟩⟩
  · unfold m_l_formed_f1 bnd
    dsimp only
    rw [t1, show inL w ([("cut" : Str), ("put" : Str), ("write" : Str)] : List Str) = true from sw.1, show idxS ([("cut" : Str), ("put" : Str), ("write" : Str)] : List Str) w = so from sw.2.1, p2, b1, b2, b3]
    rw [if_neg (by decide), if_neg (by show ¬ (false || (false || false)) = true; decide)]
    rw [show (decide (0 ≤ (Dd.cp w r c).at1) && decide ((Dd.cp w r c).at1 < (m : Int))) = true from b4, show decide ((Dd.cp w r c).at2 < 1) = false from b5, show decide ((Dd.cp w r c).at1 + (Dd.cp w r c).at2 > (m : Int)) = false from b6, show decide ((Dd.cp w r c).at1 < (if so > last then -1 else R) + so) = false from b7]
    rw [if_neg (by decide), if_neg (by decide), if_neg (by decide), if_neg (by decide)]
    show Out.nx (max (if so > last then -1 else R) (r : Int), M, so) = _
    rw [hx]
theorem fstep_wr {n m : Nat} {row col ink : Int} {text : Str} {R last : Int} {M : List (Int × Int)} (hl : last ≤ 2) (h0 : 0 ≤ row ∧ row < m) (c0 : 0 ≤ col) (t0 : 1 ≤ text.length) (t1 : col + text.length ≤ n) (hn : n ≤ 1000) (ok : PyData.strOk text = true) (hM : M.length ≤ 50000) :
    v_l_formed_f1 n m (R, M, last) (.wr ("write" : Str) row col text ink) ∧ ∃ R', m_l_formed_f1 n m (R, M, last) (.wr ("write" : Str) row col text ink) = .nx (R', M ++ cells (.wr ("write" : Str) row col text ink), 2) := by
  have dk : PyD.dok (Dd.wr ("write" : Str) row col text ink) := ⟨by show PyData.strOk ("write" : Str) = true; decide +kernel, trivial, trivial, ok, trivial⟩
  obtain ⟨p1, p2⟩ := pick_row (R := R) (so := 2) (last := last)
  have tg : (Dd.wr ("write" : Str) row col text ink).tag = ("write" : Str) := rfl
  have b1 : decide ((2 : Int) < last) = false := decide_eq_false (by omega)
  have b4 : (decide (0 ≤ row) && decide (row < (m : Int))) = true := by rw [Bool.and_eq_true, decide_eq_true_eq, decide_eq_true_eq]; omega
  have tne : decide (text = ("" : Str)) = false := decide_eq_false fun e => by rw [e] at t0; exact absurd t0 (by decide)
  have b5 : decide (col < 0) = false := decide_eq_false (by omega)
  have b6 : decide (col + ((text.length : Nat) : Int) > (n : Int)) = false := decide_eq_false (by omega)
  constructor
  · unfold v_l_formed_f1 bnd
    dsimp only
    rw [tg]
    refine ⟨fun _ => dk, fun _ => ⟨sw_write.2.2, ?_⟩⟩
    rw [show idxS ([("cut" : Str), ("put" : Str), ("write" : Str)] : List Str) ("write" : Str) = 2 from sw_write.2.1]
    refine ⟨p1, ?_⟩
    rw [p2]
    refine ⟨fun _ => ⟨rfl, fun _ => rfl⟩, fun _ => ⟨rfl, fun _ => ⟨fun _ => ⟨rfl, fun _ => ⟨rfl, rfl⟩⟩, fun _ => ⟨fun _ => rfl, fun _ => ⟨fun _ => ⟨rfl, ⟨fun _ _ => rfl, fun _ => ⟨⟨rfl, fun _ => ⟨rfl, sz _ ?_⟩⟩, fun _ => ⟨sz _ ?_, ?_, ?_, fun _ _ => ⟨rfl, rfl⟩, ?_⟩⟩⟩⟩, fun _ _ => rfl⟩⟩⟩⟩⟩
    · show text.length ≤ 100000; omega
    · show text.length ≤ 100000; omega
    · show -(2 ^ 62) ≤ ((text.length : Nat) : Int) ∧ ((text.length : Nat) : Int) < 2 ^ 62
      omega
    · show (izs 0 (((text.length : Nat) : Int)).toNat).length ≤ 100000
      rw [izs_len]; omega
    · show M.length + ((izs 0 (((text.length : Nat) : Int)).toNat).map _).length ≤ 100000
      rw [List.length_map, izs_len]; omega
  · refine ⟨max (if (2 : Int) > last then -1 else R) row, ?_⟩
    unfold m_l_formed_f1 bnd
    dsimp only
    rw [tg, show inL ("write" : Str) ([("cut" : Str), ("put" : Str), ("write" : Str)] : List Str) = true from sw_write.1, show idxS ([("cut" : Str), ("put" : Str), ("write" : Str)] : List Str) ("write" : Str) = 2 from sw_write.2.1, p2, b1]
    rw [if_neg (by decide), if_neg (by show ¬ (false || (false || false)) = true; decide)]
    rw [show (decide (0 ≤ (Dd.wr ("write" : Str) row col text ink).at1) && decide ((Dd.wr ("write" : Str) row col text ink).at1 < (m : Int))) = true from b4, if_neg (by decide), if_neg (by
      rw [Bool.and_eq_true, decide_eq_true_eq]; omega), if_neg (by rw [Bool.and_eq_true, decide_eq_true_eq]; omega), if_pos (show decide ((2 : Int) = 2) = true by decide)]
    rw [show decide ((Dd.wr ("write" : Str) row col text ink).at3 = ("" : Str)) = false from tne, if_neg (by show ¬ (false || (false || false)) = true; decide)]
    rw [show decide ((Dd.wr ("write" : Str) row col text ink).at2 < 0) = false from b5, show decide ((Dd.wr ("write" : Str) row col text ink).at2 + (((Dd.wr ("write" : Str) row col text ink).at3.length : Nat) : Int) > (n : Int)) = false from b6, if_neg (by decide)]
    rfl
/-- a run over some deeds ahead of others -/
def Thru (n m : Nat) (s : Int × List (Int × Int) × Int) (ds : List Dd) (s' : Int × List (Int × Int) × Int) : Prop := ∀ ys, (vRun (m_l_formed_f1 n m) (v_l_formed_f1 n m) s' ys → vRun (m_l_formed_f1 n m) (v_l_formed_f1 n m) s (ds ++ ys)) ∧ (runFor (m_l_formed_f1 n m) s (ds ++ ys) : Out (Int × List (Int × Int) × Int) Empty Bool) = runFor (m_l_formed_f1 n m) s' ys
theorem Thru.nil {n m : Nat} {s : Int × List (Int × Int) × Int} : Thru n m s [] s := fun _ => ⟨id, rfl⟩
theorem Thru.cons {n m : Nat} {s s1 s2 : Int × List (Int × Int) × Int} {d : Dd} {ds : List Dd} (hv : v_l_formed_f1 n m s d) (he : m_l_formed_f1 n m s d = .nx s1) (h : Thru n m s1 ds s2) : Thru n m s (d :: ds) s2 := fun ys => by
  obtain ⟨a, b⟩ := h ys
  refine ⟨fun z => ⟨hv, by rw [he]; exact a z⟩, ?_⟩
  rw [List.cons_append]
  conv => lhs; unfold runFor
  rw [he]; exact b
theorem Thru.app {n m : Nat} {s s1 s2 : Int × List (Int × Int) × Int} {xs ys : List Dd} (h : Thru n m s xs s1) (k : Thru n m s1 ys s2) : Thru n m s (xs ++ ys) s2 := fun zs => by
  obtain ⟨a, b⟩ := h (ys ++ zs)
  obtain ⟨c, d⟩ := k zs
  rw [List.append_assoc]
  exact ⟨fun z => a (c z), b.trans d⟩
theorem thru_cp {n m : Nat} {w : Str} {so : Int} (hw : w = ("cut" : Str) ∧ so = 0 ∨ w = ("put" : Str) ∧ so = 1) {M : List (Int × Int)} : ∀ (ds : List Dd) {R last : Int}, last ≤ so → (∀ d ∈ ds, CpD w d ∧ GoodC m d) → ds.Pairwise (fun d e => d.at1 < e.at1) → (∀ d ∈ ds, (if so > last then -1 else R) + so ≤ d.at1) → ∃ R' l', l' ≤ so ∧ Thru n m (R, M, last) ds (R', M, l')
  | [], R, last, hl, _, _, _ => ⟨R, last, hl, Thru.nil⟩
  | d :: ds, R, last, hl, hd, hp, hR => by
    obtain ⟨r, c, e, h1, h2⟩ := ((hd d (List.mem_cons_self ..)).1).e
    have g := (hd d (List.mem_cons_self ..)).2
    subst e
    obtain ⟨_, _, g2, g3⟩ := g
    have r1 := hR _ (List.mem_cons_self ..)
    have so2 : 0 ≤ so ∧ so ≤ 1 := by rcases hw with ⟨_, rfl⟩ | ⟨_, rfl⟩ <;> omega
    obtain ⟨a, b⟩ := fstep_cp (n := n) (m := m) hw (R := R) (last := last) (M := M) hl (r := r) (c := c) h1 (by omega) r1
    obtain ⟨hp1, hp2⟩ := List.pairwise_cons.mp hp
    obtain ⟨R', l', hl', t⟩ := thru_cp (n := n) hw (M := M) ds (R := (r : Int)) (last := so) (Int.le_refl _) (fun z hz => hd z (List.mem_cons_of_mem _ hz)) hp2 (fun z hz => by
      have := hp1 z hz
      rw [if_neg (by omega)]
      have this : (r : Int) < z.at1 := this
      omega)
    exact ⟨R', l', hl', Thru.cons a b t⟩
theorem thru_wr {n m : Nat} (hn : 1 ≤ n ∧ n ≤ 24) : ∀ (ds : List Dd) {R last : Int} {M : List (Int × Int)}, last ≤ 2 → (∀ d ∈ ds, GoodW n m d ∧ 1 ≤ d.at3.length) → M.length + (ds.flatMap cells).length ≤ 50000 → ∃ R' l', Thru n m (R, M, last) ds (R', M ++ ds.flatMap cells, l')
  | [], R, last, M, hl, _, _ => ⟨R, last, by rw [List.flatMap_nil, List.append_nil]; exact Thru.nil⟩
  | d :: ds, R, last, M, hl, hd, hM => by
    obtain ⟨g, t0⟩ := hd d (List.mem_cons_self ..)
    cases d with
    | cp w row many => exact g.elim
    | wr w row col text ink =>
      obtain ⟨rfl, g1, g2, g3, g4, g5, _⟩ := g
      rw [List.flatMap_cons, List.length_append] at hM
      obtain ⟨a, R1, b⟩ := fstep_wr (n := n) (m := m) (ink := ink) (R := R) (M := M) hl ⟨g1, g2⟩ g3 t0 g4 (by omega) g5 (by omega)
      obtain ⟨R', l', t⟩ := thru_wr hn ds (R := R1) (last := 2) (M := M ++ cells (.wr ("write" : Str) row col text ink)) (Int.le_refl _) (fun z hz => hd z (List.mem_cons_of_mem _ hz)) (by rw [List.length_append]; omega)
      refine ⟨R', l', ?_⟩
      rw [List.flatMap_cons, ← List.append_assoc]
      exact Thru.cons a b t
theorem formed_ok {n m : Nat} (hn : 1 ≤ n ∧ n ≤ 24) (hm : 1 ≤ m ∧ m ≤ 12) (hs : n * m < 64) {one other : Pc} (h2 : Pg n m other) (hA : PgA other) {ds cuts puts found : List Dd} {B : Pc} {worth : Int} (W : WayOk n m one other ds worth cuts puts found B) : v_l_formed ds n m ∧ m_l_formed ds n m = true := by
  have l2 := h2.1
  have bL := W.bL
  have hq : ∀ q ∈ B.zip other, RowN n q.2 := fun q hq => h2.2 _ (List.of_mem_zip hq).2
  obtain ⟨c1, c2, c3⟩ := wrP_cells (n := n) (by omega) (B.zip other) 0 hq
  rw [← W.fnd, List.length_zip, bL, l2, Nat.min_self] at c3
  rw [← W.fnd] at c1
  have hf : ∀ d ∈ found, GoodW n m d ∧ 1 ≤ d.at3.length := fun d hd => by
    rw [W.fnd] at hd
    obtain ⟨i, q, hi, hd⟩ := wrP_mem _ 0 hd
    have qm := List.of_mem_zip (List.mem_of_getElem? hi)
    have il := (List.getElem?_eq_some_iff.mp hi).1
    rw [List.length_zip, bL, l2, Nat.min_self] at il
    refine ⟨wr_good (by omega) (h2.2 _ qm.2) (hA _ qm.2) (by omega) hd, ?_⟩
    obtain ⟨t, _, e, _, _, w, _⟩ := wrL_mem (by omega) (h2.2 _ qm.2) hd
    rw [e]
    exact w.l0
  obtain ⟨R1, l1, hl1, t1⟩ := thru_cp (n := n) (m := m) (w := ("cut" : Str)) (so := 0) (.inl ⟨rfl, rfl⟩) (M := []) cuts (R := -1) (last := 0) (Int.le_refl _) W.cutD W.cutP (fun d hd => by
    obtain ⟨r, c, e, _⟩ := ((W.cutD d hd).1).e
    rw [e, if_neg (by omega)]
    show (-1 : Int) + 0 ≤ (r : Int)
    omega)
  have l1b : l1 ≤ 0 := hl1
  obtain ⟨R2, l2', hl2, t2⟩ := thru_cp (n := n) (m := m) (w := ("put" : Str)) (so := 1) (.inr ⟨rfl, rfl⟩) (M := []) puts (R := R1) (last := l1) (by omega) W.putD W.putP (fun d hd => by
    obtain ⟨r, c, e, _⟩ := ((W.putD d hd).1).e
    rw [e, if_pos (by omega)]
    show (-1 : Int) + 1 ≤ (r : Int)
    omega)
  obtain ⟨R3, l3, t3⟩ := thru_wr (n := n) (m := m) hn found (R := R2) (last := l2') (M := []) (by omega) hf (by
    show 0 + _ ≤ _
    omega)
  have T := (t1.app t2).app t3
  obtain ⟨a, b⟩ := T []
  rw [List.append_nil, ← W.e] at a b
  have b' : (runFor (m_l_formed_f1 n m) (-1, ([] : List (Int × Int)), 0) ds : Out (Int × List (Int × Int) × Int) Empty Bool) = .nx (R3, [] ++ found.flatMap cells, l3) := b
  refine ⟨fun _ => ⟨a trivial, fun r1 e => ?_⟩, ?_⟩
  · rw [b'] at e
    cases e
    refine ⟨?_, ?_⟩
    · rw [List.nil_append]
      exact c1.imp fun h => clP_ne h
    · rw [List.nil_append]
      show (found.flatMap cells).length < 64
      omega
  · unfold m_l_formed bnd
    rw [if_neg (by decide)]
    dsimp only
    rw [b']
    exact decide_eq_true rfl
def cutI (m r c : Nat) (q : List Nat) : List Nat := (q.take r ++ q.drop (r + c)) ++ List.replicate c m
def putI (m r c : Nat) (q : List Nat) : List Nat := ((q.take r ++ List.replicate c m) ++ q.drop r).take m
def deedI (m : Nat) (q : List Nat) : Dd → List Nat
  | .cp w r c => if decide (w = ("cut" : Str)) = true then cutI m r.toNat c.toNat q else putI m r.toNat c.toNat q
  | .wr .. => q
def rowF (n : Nat) (one : Pc) (i : Nat) : List (Str × Int) := ix (rowsOf n one) (i : Int)
section
variable {n m : Nat} {one other : Pc}
theorem rowF_bl (h1 : Pg n m one) : rowF n one m = bl n := (rows_at h1 (g := (m : Int)) (by omega)).2 rfl
theorem deedI_ok (hn : n ≤ 1000) (hm : m ≤ 1000) (h1 : Pg n m one) {q : List Nat} (hp : Pg n m (q.map (rowF n one))) {d : Dd} (hd : GoodC m d) : m_l_deed (q.map (rowF n one)) d = (deedI m q d).map (rowF n one) := by
  cases d with
  | wr w row col text ink => exact hd.elim
  | cp w row many =>
    obtain ⟨hw, h2, h3, h4⟩ := hd
    obtain ⟨r, rfl⟩ : ∃ r : Nat, row = r := ⟨row.toNat, by omega⟩
    obtain ⟨c, rfl⟩ : ∃ c : Nat, many = c := ⟨many.toNat, by omega⟩
    rcases hw with rfl | rfl
    · rw [cutN hp hn hm (by omega) (by omega)]
      show _ = (if decide (("cut" : Str) = ("cut" : Str)) = true then cutI m r c q else putI m r c q).map _
      rw [if_pos (decide_eq_true rfl)]
      unfold cutI
      rw [List.map_append, List.map_append, List.map_take, List.map_drop, List.map_replicate, rowF_bl h1]
    · rw [putN hp hn hm (by omega) (by omega)]
      show _ = (if decide (("put" : Str) = ("cut" : Str)) = true then cutI m r c q else putI m r c q).map _
      rw [if_neg (by decide)]
      unfold putI
      rw [List.map_take, List.map_append, List.map_append, List.map_take, List.map_drop, List.map_replicate, rowF_bl h1]
theorem foldI_ok (hn : n ≤ 1000) (hm : m ≤ 1000) (h1 : Pg n m one) : ∀ (ds : List Dd) {q : List Nat}, Pg n m (q.map (rowF n one)) → (∀ d ∈ ds, GoodC m d) → ds.foldl m_l_deed (q.map (rowF n one)) = (ds.foldl (deedI m) q).map (rowF n one) ∧ Pg n m ((ds.foldl (deedI m) q).map (rowF n one))
  | [], q, hp, _ => ⟨rfl, hp⟩
  | d :: ds, q, hp, hd => by
    have e := deedI_ok hn hm h1 hp (hd d (List.mem_cons_self ..))
    have hp2 := deed_pg hp hn hm (hd d (List.mem_cons_self ..))
    rw [e] at hp2
    have ih := foldI_ok hn hm h1 ds hp2 fun z hz => hd z (List.mem_cons_of_mem _ hz)
    rw [List.foldl_cons, List.foldl_cons, e]
    exact ih
theorem range_one (h1 : Pg n m one) : (List.range m).map (rowF n one) = one := by
  have l1 := h1.1
  refine List.ext_getElem (by rw [List.length_map, List.length_range, l1]) fun i hi hj => ?_
  rw [List.getElem_map, List.getElem_range]
  rw [List.length_map, List.length_range] at hi
  unfold rowF
  rw [(rows_at h1 (g := (i : Int)) (by omega)).1 (by omega), ix_of, List.getElem?_eq_getElem hj]; rfl
def cst (m : Nat) : Nat → Nat → Nat → List Nat → Nat
  | 0, _, _, _ => 1000
  | _ + 1, _, _, [] => 0
  | f + 1, g, w, x :: r =>
    min (if x = g then cst m f (if g < m then g + 1 else g) 0 r else 1000)
      (min (if g < m ∧ w ≠ 2 then (if w = 1 then 0 else 1) + cst m f (g + 1) 1 (x :: r) else 1000)
        (if x = m then (if w = 2 then 0 else 1) + cst m f g 2 r else 1000))
def sumC (cs : List (List Int)) : Int → List Nat → Int
  | _, [] => 0
  | a, x :: r => ix (ix cs (x : Int)) a + sumC cs (a + 1) r
theorem cst_le {s : Wk} (W : WalkOk n m one other s) : ∀ (f g w : Nat) (a : Int) (q : List Nat), g ≤ m → w ≤ 2 → 0 ≤ a → a + q.length = m → cst m f g w q < 1000 → tdGet s.prices ⟨g, a, w⟩ ≤ cst m f g w q + sumC (costsOf (rowsOf n one) other) a q
  | 0, g, w, a, q, _, _, _, _, h => absurd h (by show ¬ (1000 : Nat) < 1000; omega)
  | f + 1, g, w, a, [], hg, hw, ha, hl, h => by
    have hk : InK m (⟨g, a, w⟩ : K3) := ⟨by dsimp only; omega, by dsimp only; simp at hl; omega, by dsimp only; omega⟩
    rw [(wk_eq W hk).1 (by simp at hl; exact hl)]
    exact Int.le_refl _
  | f + 1, g, w, a, x :: r, hg, hw, ha, hl, h => by
    rw [List.length_cons] at hl
    have hk : InK m (⟨g, a, w⟩ : K3) := ⟨by dsimp only; omega, by dsimp only; omega, by dsimp only; omega⟩
    have le := (wk_eq W hk).2.2
    dsimp only at le
    have am : a ≠ (m : Int) := by omega
    have stp : stp3 m (costsOf (rowsOf n one) other) (g : Int) a (w : Int) = ((ix (ix (costsOf (rowsOf n one) other) (g : Int)) a, T3.mk (min ((g : Int) + 1) m) (a + 1) 0) :: (if (g : Int) < m ∧ (w : Int) ≠ 2 then [((if (w : Int) = 1 then (0 : Int) else 1), T3.mk (min ((g : Int) + 1) m) a 1)] else [])) ++ [((if (w : Int) = 2 then (0 : Int) else 1) + ix (ix (costsOf (rowsOf n one) other) m) a, T3.mk (g : Int) (a + 1) 2)] := by
      unfold stp3
      rw [if_neg am]
    have es : sumC (costsOf (rowsOf n one) other) a (x :: r) = ix (ix (costsOf (rowsOf n one) other) (x : Int)) a + sumC (costsOf (rowsOf n one) other) (a + 1) r := rfl
    have ec : cst m (f + 1) g w (x :: r) = min (if x = g then cst m f (if g < m then g + 1 else g) 0 r else 1000) (min (if g < m ∧ w ≠ 2 then (if w = 1 then 0 else 1) + cst m f (g + 1) 1 (x :: r) else 1000) (if x = m then (if w = 2 then 0 else 1) + cst m f g 2 r else 1000)) := rfl
    have A : ∀ v : Nat, v = (if x = g then cst m f (if g < m then g + 1 else g) 0 r else 1000) → v < 1000 → tdGet s.prices ⟨g, a, w⟩ ≤ v + sumC (costsOf (rowsOf n one) other) a (x :: r) := fun v hv hl2 => by
      by_cases c : x = g
      · rw [if_pos c] at hv
        have ih := cst_le W f (if g < m then g + 1 else g) 0 (a + 1) r (by split <;> omega) (by omega) (by omega) (by omega) (by omega)
        have p := le (ix (ix (costsOf (rowsOf n one) other) (g : Int)) a, T3.mk (min ((g : Int) + 1) m) (a + 1) 0) (by rw [stp]; exact List.mem_append_left _ (List.mem_cons_self ..))
        have e : ((if g < m then g + 1 else g : Nat) : Int) = min ((g : Int) + 1) m := by split <;> omega
        rw [e] at ih
        have ih : tdGet s.prices (T3.mk (min ((g : Int) + 1) m) (a + 1) 0) ≤ _ := ih
        rw [es, c]
        dsimp only at p
        omega
      · rw [if_neg c] at hv; omega
    have Bc : ∀ v : Nat, v = (if g < m ∧ w ≠ 2 then (if w = 1 then 0 else 1) + cst m f (g + 1) 1 (x :: r) else 1000) → v < 1000 → tdGet s.prices ⟨g, a, w⟩ ≤ v + sumC (costsOf (rowsOf n one) other) a (x :: r) := fun v hv hl2 => by
      by_cases c : g < m ∧ w ≠ 2
      · rw [if_pos c] at hv
        have ih := cst_le W f (g + 1) 1 a (x :: r) (by omega) (by omega) ha (by rw [List.length_cons]; omega) (by omega)
        have p := le ((if (w : Int) = 1 then (0 : Int) else 1), T3.mk (min ((g : Int) + 1) m) a 1) (by
          rw [stp, if_pos (show (g : Int) < m ∧ (w : Int) ≠ 2 by omega)]
          exact List.mem_append_left _ (List.mem_cons_of_mem _ (List.mem_singleton.mpr rfl)))
        have e : (((g + 1 : Nat)) : Int) = min ((g : Int) + 1) m := by omega
        rw [e] at ih
        have ih : tdGet s.prices (T3.mk (min ((g : Int) + 1) m) a 1) ≤ _ := ih
        dsimp only at p
        have e2 : (if (w : Int) = 1 then (0 : Int) else 1) = ((if w = 1 then 0 else 1 : Nat) : Int) := by
          by_cases z : w = 1
          · rw [if_pos z, if_pos (by omega)]; rfl
          · rw [if_neg z, if_neg (by omega)]; rfl
        rw [e2] at p
        omega
      · rw [if_neg c] at hv; omega
    have D : ∀ v : Nat, v = (if x = m then (if w = 2 then 0 else 1) + cst m f g 2 r else 1000) → v < 1000 → tdGet s.prices ⟨g, a, w⟩ ≤ v + sumC (costsOf (rowsOf n one) other) a (x :: r) := fun v hv hl2 => by
      by_cases c : x = m
      · rw [if_pos c] at hv
        have ih := cst_le W f g 2 (a + 1) r hg (by omega) (by omega) (by omega) (by omega)
        have p := le ((if (w : Int) = 2 then (0 : Int) else 1) + ix (ix (costsOf (rowsOf n one) other) m) a, T3.mk (g : Int) (a + 1) 2) (by
          rw [stp]; exact List.mem_append_right _ (List.mem_singleton.mpr rfl))
        have ih : tdGet s.prices (T3.mk (g : Int) (a + 1) 2) ≤ _ := ih
        dsimp only at p
        have e2 : (if (w : Int) = 2 then (0 : Int) else 1) = ((if w = 2 then 0 else 1 : Nat) : Int) := by
          by_cases z : w = 2
          · rw [if_pos z, if_pos (by omega)]; rfl
          · rw [if_neg z, if_neg (by omega)]; rfl
        rw [e2] at p
        rw [es, c]
        omega
      · rw [if_neg c] at hv; omega
    rw [ec] at h ⊢
    generalize (if x = g then cst m f (if g < m then g + 1 else g) 0 r else 1000) = v1 at *
    generalize (if g < m ∧ w ≠ 2 then (if w = 1 then 0 else 1) + cst m f (g + 1) 1 (x :: r) else 1000) = v2 at *
    generalize (if x = m then (if w = 2 then 0 else 1) + cst m f g 2 r else 1000) = v3 at *
    have a1 := A v1 rfl
    have a2 := Bc v2 rfl
    have a3 := D v3 rfl
    omega
/-- the writings that rows want -/
def sumZ (qs : List Rw2) : Int := (qs.map fun q => (((wrL 0 q.1 q.2).length : Nat) : Int)).sum
theorem sumC_is (hn : 1 ≤ n ∧ n ≤ 24) (h1 : Pg n m one) (h2 : Pg n m other) : ∀ (q : List Nat) (a : Nat), (∀ x ∈ q, x ≤ m) → a + q.length = m → sumC (costsOf (rowsOf n one) other) a q = sumZ ((q.map (rowF n one)).zip (other.drop a))
  | [], a, _, _ => rfl
  | x :: r, a, hx, hl => by
    rw [List.length_cons] at hl
    have l2 := h2.1
    rw [drop_ix (p := other) (j := a) (by omega)]
    show ix (ix (costsOf (rowsOf n one) other) (x : Int)) a + sumC (costsOf (rowsOf n one) other) ((a : Int) + 1) r = sumZ ((rowF n one x, ix other (a : Int)) :: (r.map (rowF n one)).zip (other.drop (a + 1)))
    rw [cost_at hn h1 h2 (g := (x : Int)) (by have := hx x (List.mem_cons_self ..); omega) (by omega) 0]
    have ih := sumC_is hn h1 h2 r (a + 1) (fun z hz => hx z (List.mem_cons_of_mem _ hz)) (by omega)
    rw [show (((a + 1 : Nat)) : Int) = (a : Int) + 1 from rfl] at ih
    rw [ih]
    unfold sumZ
    rw [List.map_cons, List.sum_cons]; rfl
theorem wrP_len : ∀ (qs : List Rw2) (a : Int), ((wrP a qs).length : Int) = sumZ qs
  | [], _ => rfl
  | q :: qs, a => by
    show (((wrL a q.1 q.2 ++ wrP (a + 1) qs).length : Nat) : Int) = sumZ (q :: qs)
    have ih := wrP_len qs (a + 1)
    unfold sumZ at ih ⊢
    rw [List.length_append, List.map_cons, List.sum_cons, ← ih, wrL_num a 0]
    omega
end
def rsk (w : Str) (m : Nat) : Nat → List (List Dd)
  | 0 => [[]]
  | k + 1 => rsk w m k ++ ((List.range (k + 1)).flatMap fun c => (rsk w m k).map fun ds => Dd.cp w ((m - (k + 1) : Nat) : Int) ((c + 1 : Nat) : Int) :: ds)
theorem rsk_nil {w : Str} {m : Nat} : ∀ k, [] ∈ rsk w m k
  | 0 => List.mem_singleton.mpr rfl
  | k + 1 => List.mem_append_left _ (rsk_nil k)
theorem rsk_mem {w : Str} {m : Nat} : ∀ (k : Nat) (ds : List Dd), k ≤ m → (∀ d ∈ ds, CpD w d ∧ GoodC m d ∧ (((m - k : Nat)) : Int) ≤ d.at1) → ds.Pairwise (fun d e => d.at1 < e.at1) → ds ∈ rsk w m k
  | k, [], _, _, _ => rsk_nil k
  | 0, d :: ds, _, h, _ => by
    obtain ⟨⟨r, c, e, h1, _⟩, g, h3⟩ := h d (List.mem_cons_self ..)
    subst e
    obtain ⟨_, _, g2, g3⟩ := g
    have h3 : (((m - 0 : Nat)) : Int) ≤ (r : Int) := h3
    omega
  | k + 1, d :: ds, hk, h, hp => by
    obtain ⟨⟨r, c, e, h1, _⟩, g, h3⟩ := h d (List.mem_cons_self ..)
    subst e
    obtain ⟨_, _, g2, g3⟩ := g
    have h3 : (((m - (k + 1) : Nat)) : Int) ≤ (r : Int) := h3
    obtain ⟨hp1, hp2⟩ := List.pairwise_cons.mp hp
    show _ ∈ rsk w m k ++ _
    by_cases z : r = m - (k + 1)
    · refine List.mem_append_right _ (List.mem_flatMap.mpr ⟨c - 1, List.mem_range.mpr (by omega), List.mem_map.mpr ⟨ds, rsk_mem k ds (by omega) (fun y hy => ?_) hp2, ?_⟩⟩)
      · have := hp1 y hy
        have this : (r : Int) < y.at1 := this
        exact ⟨(h y (List.mem_cons_of_mem _ hy)).1, (h y (List.mem_cons_of_mem _ hy)).2.1, by omega⟩
      · rw [← z, show c - 1 + 1 = c by omega]
    · refine List.mem_append_left _ (rsk_mem k _ (by omega) (fun y hy => ?_) hp)
      rcases List.mem_cons.mp hy with rfl | hy'
      · exact ⟨(h _ hy).1, (h _ hy).2.1, by show _ ≤ (r : Int); omega⟩
      · have := hp1 y hy'
        have this : (r : Int) < y.at1 := this
        exact ⟨(h y hy).1, (h y hy).2.1, by omega⟩
def gcB (m : Nat) (d : Dd) : Bool := match d with
  | .cp w row many => (decide (w = ("cut" : Str)) || decide (w = ("put" : Str))) && (decide (0 ≤ row) && (decide (1 ≤ many) && decide (row + many ≤ m)))
  | .wr .. => false
theorem gcB_ok {m : Nat} {d : Dd} (h : gcB m d = true) : GoodC m d := by
  cases d with
  | wr w row col text ink => cases h
  | cp w row many =>
    have h : ((decide (w = ("cut" : Str)) || decide (w = ("put" : Str))) && (decide (0 ≤ row) && (decide (1 ≤ many) && decide (row + many ≤ m)))) = true := h
    rw [Bool.and_eq_true, Bool.or_eq_true, Bool.and_eq_true, Bool.and_eq_true, decide_eq_true_eq, decide_eq_true_eq, decide_eq_true_eq, decide_eq_true_eq, decide_eq_true_eq] at h
    exact ⟨h.1, h.2.1, h.2.2.1, h.2.2.2⟩
def dCs (m : Nat) : List (List Dd) := m_l_rows_of_deeds ("cut" : Str) m
def dPs (m : Nat) : List (List Dd) := m_l_rows_of_deeds ("put" : Str) m
def allB (m : Nat) : Bool :=
  (dCs m).all (fun c => c.all (gcB m)) && ((dPs m).all (fun c => c.all (gcB m)) && (decide ((dCs m).length ≤ 200) && (decide ((dPs m).length ≤ 200) && ((dCs m).all (fun c => decide (c.length ≤ 3)) && (dPs m).all (fun c => decide (c.length ≤ 3))))))
def memB (m : Nat) : Bool := (rsk ("cut" : Str) m m).all (fun c => decide (c ∈ dCs m)) && (rsk ("put" : Str) m m).all (fun c => decide (c ∈ dPs m))
def cstB (m : Nat) : Bool := (dCs m).all fun c => (dPs m).all fun p => decide (cst m 8 0 0 (p.foldl (deedI m) (c.foldl (deedI m) (List.range m))) ≤ c.length + p.length) && (p.foldl (deedI m) (c.foldl (deedI m) (List.range m))).all fun x => decide (x ≤ m)
theorem all_1 : (allB 1 && memB 1) = true := by decide +kernel
theorem all_2 : (allB 2 && memB 2) = true := by decide +kernel
theorem all_3 : (allB 3 && memB 3) = true := by decide +kernel
theorem cst_1 : cstB 1 = true := by decide +kernel
theorem cst_2 : cstB 2 = true := by decide +kernel
theorem cst_3 : cstB 3 = true := by decide +kernel
theorem rowsf_gen {w : Str} (hw : w = ("cut" : Str) ∨ w = ("put" : Str)) {m : Nat} (hm : 1 ≤ m ∧ m ≤ 3) {ds : List Dd} (hd : ∀ d ∈ ds, GoodC m d) (hl : ds.length ≤ 10) {L : Nat} (hL : ds.length + 1 ≤ L) {s2 : List (List Dd)} {N : Nat} (hN : N ≤ 5000) (h : s2.length ≤ N ∧ ∀ x ∈ s2, (∀ d ∈ x, GoodC m d) ∧ x.length ≤ L) :
    v_l_rows_of_deeds_f2 w m s2 ds ∧ (m_l_rows_of_deeds_f2 w m s2 ds).length ≤ N + 9 ∧ ∀ x ∈ m_l_rows_of_deeds_f2 w m s2 ds, (∀ d ∈ x, GoodC m d) ∧ x.length ≤ L := by
  have dk : PyD.dok ds := fun d hd2 => good_dok (n := 1) (.inl (hd d hd2))
  have ne : (!eqb ds ([] : List Dd)) = true → InB ds (-1) ∧ GoodC m (ix ds (-1)) := fun e => by
    have h0 : 0 < ds.length := by
      cases ds with
      | nil => rw [eqb_refl] at e; cases e
      | cons _ _ => simp
    have i : InB ds (-1) := by unfold InB; omega
    exact ⟨i, hd _ (ix_mem i)⟩
  have hj : 0 ≤ (if (!eqb ds ([] : List Dd)) = true then ((ix ds (-1)).at1 + (if (decide (w = ("put" : Str))) then (1 : Int) else 0)) else 0) ∧ (if (!eqb ds ([] : List Dd)) = true then ((ix ds (-1)).at1 + (if (decide (w = ("put" : Str))) then (1 : Int) else 0)) else 0) ≤ 10 ∧ ((!eqb ds ([] : List Dd)) = true → (ix ds (-1)).has1 = true) := by
    by_cases e : (!eqb ds ([] : List Dd)) = true
    · rw [if_pos e]
      obtain ⟨i, g⟩ := ne e
      cases q : ix ds (-1) with
      | wr w row col text ink => rw [q] at g; exact g.elim
      | cp w2 row many =>
        rw [q] at g
        obtain ⟨_, g1, g2, g3⟩ := g
        have : (if decide (w = ("put" : Str)) = true then (1 : Int) else 0) = 0 ∨ (if decide (w = ("put" : Str)) = true then (1 : Int) else 0) = 1 := by split <;> simp
        refine ⟨?_, ?_, fun _ => rfl⟩
        · show 0 ≤ row + _; omega
        · show row + _ ≤ 10; omega
    · rw [if_neg e]; exact ⟨Int.le_refl _, by omega, fun z => absurd z e⟩
  generalize hJ : (if (!eqb ds ([] : List Dd)) = true then ((ix ds (-1)).at1 + (if (decide (w = ("put" : Str))) then (1 : Int) else 0)) else 0) = j at hj
  have k := fold_inv (g := m_l_rows_of_deeds_f3 w m ds) (vb := v_l_rows_of_deeds_f3 w m ds) (xs := izs j ((m : Int) - j).toNat) (s := s2) (fun i z => z.length ≤ N + 3 * i ∧ ∀ x ∈ z, (∀ d ∈ x, GoodC m d) ∧ x.length ≤ L) h fun i z y hy q => by
    obtain ⟨hi, ey⟩ := izs_get hy
    have k2 := fold_inv (g := m_l_rows_of_deeds_f4 w ds y) (vb := v_l_rows_of_deeds_f4 w ds y) (xs := izs 1 ((((m : Int) - y) + 1) - 1).toNat) (s := z) (fun i2 z2 => z2.length ≤ N + 3 * i + i2 ∧ ∀ x ∈ z2, (∀ d ∈ x, GoodC m d) ∧ x.length ≤ L) q fun i2 z2 y2 hy2 q2 => by
      obtain ⟨hi2, ey2⟩ := izs_get hy2
      refine ⟨⟨by show ds.length + 1 ≤ _; omega, by omega⟩, ?_⟩
      show (z2 ++ [_]).length ≤ _ ∧ ∀ x ∈ z2 ++ [_], _
      rw [List.length_append]
      refine ⟨by show z2.length + 1 ≤ _; omega, fun x hx => ?_⟩
      rcases List.mem_append.mp hx with hx | hx
      · exact q2.2 x hx
      · rw [List.mem_singleton.mp hx]
        refine ⟨fun d hd2 => ?_, by rw [List.length_append]; exact hL⟩
        rcases List.mem_append.mp hd2 with hd2 | hd2
        · exact hd d hd2
        · rw [List.mem_singleton.mp hd2]
          exact ⟨hw, by omega, by omega, by omega⟩
    rw [izs_len] at k2
    exact ⟨⟨by omega, k2.1⟩, Nat.le_trans k2.2.1 (by omega), k2.2.2⟩
  rw [izs_len] at k
  have em : m_l_rows_of_deeds_f2 w m s2 ds = (izs j ((m : Int) - j).toNat).foldl (m_l_rows_of_deeds_f3 w m ds) s2 := by
    unfold m_l_rows_of_deeds_f2 bnd
    dsimp only
    rw [hJ]
  rw [em]
  refine ⟨?_, by have := k.2.1; omega, k.2.2⟩
  unfold v_l_rows_of_deeds_f2 bnd
  dsimp only
  rw [hJ]
  exact ⟨⟨⟨dk, fun _ h => nomatch h⟩, fun e => ⟨(ne e).1, hj.2.2 e⟩⟩, by omega, k.1⟩
theorem rows_v {w : Str} (hw : w = ("cut" : Str) ∨ w = ("put" : Str)) {m : Nat} (hm : 1 ≤ m ∧ m ≤ 3) : v_l_rows_of_deeds w m := by
  have k := fold_inv (g := m_l_rows_of_deeds_f1 w m) (vb := v_l_rows_of_deeds_f1 w m) (xs := izs 0 ((m : Int)).toNat) (s := (([([] : List Dd)] : List (List Dd)), ([([] : List Dd)] : List (List Dd)))) (fun i z => (z.1.length ≤ 9 ^ i ∧ ∀ x ∈ z.1, (∀ d ∈ x, GoodC m d) ∧ x.length ≤ i) ∧ z.2.length ≤ 1000 * (i + 1)) ⟨⟨Nat.le_refl _, fun x hx => by rw [List.mem_singleton.mp hx]; exact ⟨(fun d h => nomatch h), Nat.le_refl _⟩⟩, by show 1 ≤ 1000 * (0 + 1); omega⟩ fun i z y hy q => by
    obtain ⟨hi, ey⟩ := izs_get hy
    obtain ⟨⟨q1, q2⟩, q3⟩ := q
    have hi3 : i = 0 ∨ i = 1 ∨ i = 2 := by omega
    have l9 : z.1.length ≤ 81 := by
      rcases hi3 with rfl | rfl | rfl <;> simp at q1 <;> omega
    have k2 := fold_inv (g := m_l_rows_of_deeds_f2 w m) (vb := v_l_rows_of_deeds_f2 w m) (xs := z.1) (s := ([] : List (List Dd))) (fun i2 z2 => z2.length ≤ 9 * i2 ∧ ∀ x ∈ z2, (∀ d ∈ x, GoodC m d) ∧ x.length ≤ i + 1) ⟨Nat.zero_le _, fun x hx => nomatch hx⟩ fun i2 z2 ds hds r => by
      have hm2 := q2 ds (List.mem_of_getElem? hds)
      have il := (List.getElem?_eq_some_iff.mp hds).1
      have hz2 : z2.length ≤ 9 * i2 ∧ ∀ x ∈ z2, (∀ d ∈ x, GoodC m d) ∧ x.length ≤ i + 1 := r
      have rr := rowsf_gen hw hm hm2.1 (by omega) (L := i + 1) (by omega) (N := 9 * i2) (by omega) hz2
      exact ⟨rr.1, rr.2.1, rr.2.2⟩
    have h1 := k2.2.1
    have h2 := k2.2.2
    refine ⟨⟨k2.1, ?_⟩, ⟨?_, h2⟩, ?_⟩
    · refine Nat.le_trans (Nat.add_le_add q3 h1) ?_
      omega
    · refine Nat.le_trans h1 ?_
      rw [Nat.pow_succ]; omega
    · show (z.2 ++ z.1.foldl (m_l_rows_of_deeds_f2 w m) []).length ≤ _
      rw [List.length_append]
      refine Nat.le_trans (Nat.add_le_add q3 h1) ?_
      omega
  exact ⟨⟨by omega, by omega⟩, k.1⟩
section
variable {n m : Nat} {one other : Pc}
theorem behind_ok (hn : n ≤ 1000) (hm : m ≤ 1000) : ∀ (ds : List Dd) {p : Pc}, Pg n m p → (∀ d ∈ ds, Good n m d) → v_l_behind p ds ∧ m_l_behind p ds = ds.foldl m_l_deed p ∧ Pg n m (ds.foldl m_l_deed p)
  | [], p, hp, _ => ⟨trivial, rfl, hp⟩
  | d :: ds, p, hp, h => by
    obtain ⟨a1, a2⟩ := ldeed_ok hp hn hm (h d (List.mem_cons_self ..))
    obtain ⟨b1, b2, b3⟩ := behind_ok hn hm ds a2 fun z hz => h z (List.mem_cons_of_mem _ hz)
    exact ⟨⟨a1, b1⟩, b2, b3⟩
theorem deedA (hn : n ≤ 1000) (hm : m ≤ 1000) {p : Pc} (hp : Pg n m p) (hA : PgA p) {d : Dd} (hd : GoodC m d) : PgA (m_l_deed p d) := by
  cases d with
  | wr w row col text ink => exact hd.elim
  | cp w row many =>
    obtain ⟨hw, h2, h3, h4⟩ := hd
    obtain ⟨r, rfl⟩ : ∃ r : Nat, row = r := ⟨row.toNat, by omega⟩
    obtain ⟨c, rfl⟩ : ∃ c : Nat, many = c := ⟨many.toNat, by omega⟩
    have hb : ∀ x ∈ List.replicate c (bl n), ∀ z ∈ x, CellA z := fun x hx => by rw [(List.mem_replicate.mp hx).2]; exact blankA n
    rcases hw with rfl | rfl
    · rw [cutN hp hn hm (by omega) (by omega)]
      intro x hx
      rcases List.mem_append.mp hx with hx | hx
      · rcases List.mem_append.mp hx with hx | hx
        · exact hA x (List.mem_of_mem_take hx)
        · exact hA x (List.mem_of_mem_drop hx)
      · exact hb x hx
    · rw [putN hp hn hm (by omega) (by omega)]
      intro x hx
      have hx := List.mem_of_mem_take hx
      rcases List.mem_append.mp hx with hx | hx
      · rcases List.mem_append.mp hx with hx | hx
        · exact hA x (List.mem_of_mem_take hx)
        · exact hb x hx
      · exact hA x (List.mem_of_mem_drop hx)
theorem foldA (hn : n ≤ 1000) (hm : m ≤ 1000) : ∀ (ds : List Dd) {p : Pc}, Pg n m p → PgA p → (∀ d ∈ ds, GoodC m d) → PgA (ds.foldl m_l_deed p)
  | [], _, _, hA, _ => hA
  | d :: ds, p, hp, hA, h => foldA hn hm ds (deed_pg hp hn hm (h d (List.mem_cons_self ..))) (deedA hn hm hp hA (h d (List.mem_cons_self ..))) fun z hz => h z (List.mem_cons_of_mem _ hz)
theorem f3_fold (hn : 1 ≤ n ∧ n ≤ 24) : ∀ (qs : List Rw2) (s : Int), (∀ q ∈ qs, RowN n q.1 ∧ RowN n q.2) → vFold m_l_least_f3 v_l_least_f3 s qs ∧ qs.foldl m_l_least_f3 s = s + sumZ qs
  | [], s, _ => ⟨trivial, (Int.add_zero s).symm⟩
  | q :: qs, s, h => by
    obtain ⟨h1, h2⟩ := h q (List.mem_cons_self ..)
    obtain ⟨c1, c2⟩ := cost_is hn h1 h2
    obtain ⟨k1, k2⟩ := f3_fold hn qs (m_l_least_f3 s q) fun z hz => h z (List.mem_cons_of_mem _ hz)
    refine ⟨⟨c1, k1⟩, ?_⟩
    rw [List.foldl_cons, k2]
    show (s + m_l_cost q.1 q.2) + sumZ qs = s + sumZ (q :: qs)
    rw [c2]
    unfold sumZ
    rw [List.map_cons, List.sum_cons]; omega
/-- the worth of a row of cuts and one of puts -/
def Vc (one other : Pc) (c p : List Dd) : Int := (c.length : Int) + p.length + sumZ ((p.foldl m_l_deed (c.foldl m_l_deed one)).zip other)
theorem sumZ_nn : ∀ qs : List Rw2, 0 ≤ sumZ qs
  | [] => Int.le_refl _
  | q :: qs => by
    have := sumZ_nn qs
    unfold sumZ at this ⊢
    rw [List.map_cons, List.sum_cons]; omega
def Iv (Vs : List Int) : Option Int → Prop
  | none => Vs = []
  | some b => b ∈ Vs ∧ ∀ v ∈ Vs, b ≤ v
theorem f2_fold (hn : 1 ≤ n ∧ n ≤ 24) (hm : 1 ≤ m ∧ m ≤ 12) (h1 : Pg n m one) (h2 : Pg n m other) {c : List Dd} (hc : ∀ d ∈ c, GoodC m d) : ∀ (ps : List (List Dd)) (Vs : List Int) (s : Option Int), (∀ p ∈ ps, ∀ d ∈ p, GoodC m d) → Iv Vs s →
    vFold (m_l_least_f2 other c (c.foldl m_l_deed one)) (v_l_least_f2 other c (c.foldl m_l_deed one)) s ps ∧ Iv (Vs ++ ps.map (Vc one other c)) (ps.foldl (m_l_least_f2 other c (c.foldl m_l_deed one)) s)
  | [], Vs, s, _, I => ⟨trivial, by rw [List.map_nil, List.append_nil]; exact I⟩
  | p :: ps, Vs, s, hp, I => by
    have hc2 := fold_pg (n := n) (m := m) (by omega) (by omega) c h1 hc
    have hpd := hp p (List.mem_cons_self ..)
    obtain ⟨b1, b2, b3⟩ := behind_ok (n := n) (m := m) (by omega) (by omega) p hc2 fun d hd => .inl (hpd d hd)
    obtain ⟨k1, k2⟩ := f3_fold hn ((p.foldl m_l_deed (c.foldl m_l_deed one)).zip other) ((c.length : Int) + p.length) fun q hq => ⟨b3.2 _ (List.of_mem_zip hq).1, h2.2 _ (List.of_mem_zip hq).2⟩
    have nn := sumZ_nn ((p.foldl m_l_deed (c.foldl m_l_deed one)).zip other)
    have hv : v_l_least_f2 other c (c.foldl m_l_deed one) s p := by
      refine ⟨fun e => by cases s with | none => cases e | some _ => rfl, fun _ => ⟨b1, ?_⟩⟩
      unfold bnd
      dsimp only
      rw [b2]
      exact ⟨k1, fun e => by cases s with | none => cases e | some _ => rfl⟩
    have ev : ((p.foldl m_l_deed (c.foldl m_l_deed one)).zip other).foldl m_l_least_f3 ((c.length : Int) + p.length) = Vc one other c p := k2
    have st : Iv (Vs ++ [Vc one other c p]) (m_l_least_f2 other c (c.foldl m_l_deed one) s p) := by
      unfold m_l_least_f2 bnd
      dsimp only
      rw [b2]
      cases s with
      | none =>
        have I : Vs = [] := I
        subst I
        rw [if_pos (by rfl), show ((p.foldl m_l_deed (c.foldl m_l_deed one)).zip other).foldl m_l_least_f3 (((c.length : Nat) : Int) + ((p.length : Nat) : Int)) = Vc one other c p from ev, if_pos (by rfl)]
        exact ⟨List.mem_singleton.mpr rfl, fun v hv => by rw [List.mem_singleton.mp hv]; exact Int.le_refl _⟩
      | some b =>
        obtain ⟨I1, I2⟩ := I
        have le : (c.length : Int) + p.length ≤ Vc one other c p := by unfold Vc; omega
        by_cases z : (c.length : Int) + p.length < b
        · rw [if_pos (show ((some b).isNone || decide ((c.length : Int) + p.length < (some b).getD default)) = true from by
            show (false || decide ((c.length : Int) + p.length < b)) = true
            rw [decide_eq_true z]; rfl), show ((p.foldl m_l_deed (c.foldl m_l_deed one)).zip other).foldl m_l_least_f3 (((c.length : Nat) : Int) + ((p.length : Nat) : Int)) = Vc one other c p from ev]
          by_cases y : Vc one other c p < b
          · rw [if_pos (show ((some b).isNone || decide (Vc one other c p < (some b).getD default)) = true from by
              show (false || decide (Vc one other c p < b)) = true
              rw [decide_eq_true y]; rfl)]
            refine ⟨List.mem_append_right _ (List.mem_singleton.mpr rfl), fun v hv => ?_⟩
            rcases List.mem_append.mp hv with hv | hv
            · have := I2 v hv; omega
            · rw [List.mem_singleton.mp hv]; exact Int.le_refl _
          · rw [if_neg (show ¬ ((some b).isNone || decide (Vc one other c p < (some b).getD default)) = true from by
              show ¬ (false || decide (Vc one other c p < b)) = true
              rw [decide_eq_false y]; decide)]
            refine ⟨List.mem_append_left _ I1, fun v hv => ?_⟩
            rcases List.mem_append.mp hv with hv | hv
            · exact I2 v hv
            · rw [List.mem_singleton.mp hv]; omega
        · rw [if_neg (show ¬ ((some b).isNone || decide ((c.length : Int) + p.length < (some b).getD default)) = true from by
            show ¬ (false || decide ((c.length : Int) + p.length < b)) = true
            rw [decide_eq_false z]; decide)]
          refine ⟨List.mem_append_left _ I1, fun v hv => ?_⟩
          rcases List.mem_append.mp hv with hv | hv
          · exact I2 v hv
          · rw [List.mem_singleton.mp hv]; omega
    obtain ⟨i1, i2⟩ := f2_fold hn hm h1 h2 hc ps (Vs ++ [Vc one other c p]) _ (fun q hq => hp q (List.mem_cons_of_mem _ hq)) st
    refine ⟨⟨hv, i1⟩, ?_⟩
    rw [List.map_cons, List.foldl_cons, show Vs ++ (Vc one other c p :: ps.map (Vc one other c)) = (Vs ++ [Vc one other c p]) ++ ps.map (Vc one other c) from by rw [List.append_assoc]; rfl]
    exact i2
theorem f1_run (hn : 1 ≤ n ∧ n ≤ 24) (hm : 1 ≤ m ∧ m ≤ 12) (h1 : Pg n m one) (h2 : Pg n m other) {ps : List (List Dd)} (hp : ∀ p ∈ ps, ∀ d ∈ p, GoodC m d) : ∀ (cs : List (List Dd)) (Vs : List Int) (s : Option Int), (∀ c ∈ cs, ∀ d ∈ c, GoodC m d) → Iv Vs s →
    vRun (m_l_least_f1 one other ps) (v_l_least_f1 one other ps) s cs ∧ ∃ s', (runFor (m_l_least_f1 one other ps) s cs : Out (Option Int) Empty (Option Int)) = .nx s' ∧ Iv (Vs ++ cs.flatMap fun c => ps.map (Vc one other c)) s'
  | [], Vs, s, _, I => ⟨trivial, s, rfl, by rw [List.flatMap_nil, List.append_nil]; exact I⟩
  | c :: cs, Vs, s, hc, I => by
    have hcd := hc c (List.mem_cons_self ..)
    obtain ⟨b1, b2, b3⟩ := behind_ok (n := n) (m := m) (by omega) (by omega) c h1 fun d hd => .inl (hcd d hd)
    obtain ⟨k1, k2⟩ := f2_fold hn hm h1 h2 hcd ps Vs s hp I
    have hv : v_l_least_f1 one other ps s c := by
      refine ⟨fun e => e, fun _ => ⟨b1, ?_⟩⟩
      unfold bnd
      dsimp only
      rw [b2]; exact k1
    have st : ∃ s1, (m_l_least_f1 one other ps s c = .nx s1 ∨ m_l_least_f1 one other ps s c = .ct s1) ∧ Iv (Vs ++ ps.map (Vc one other c)) s1 := by
      unfold m_l_least_f1 bnd
      dsimp only
      rw [b2]
      by_cases e : (s.isSome && decide (((c.length : Nat) : Int) ≥ s.getD default)) = true
      · rw [if_pos e]
        refine ⟨s, .inr rfl, ?_⟩
        cases s with
        | none => cases e
        | some b =>
          obtain ⟨I1, I2⟩ := I
          have e : (true && decide (((c.length : Nat) : Int) ≥ b)) = true := e
          rw [Bool.true_and, decide_eq_true_eq] at e
          refine ⟨List.mem_append_left _ I1, fun v hv => ?_⟩
          rcases List.mem_append.mp hv with hv | hv
          · exact I2 v hv
          · obtain ⟨p, _, rfl⟩ := List.mem_map.mp hv
            have nn := sumZ_nn ((p.foldl m_l_deed (c.foldl m_l_deed one)).zip other)
            unfold Vc
            omega
      · rw [if_neg e]
        exact ⟨_, .inl rfl, k2⟩
    obtain ⟨s1, e, I1⟩ := st
    obtain ⟨i1, s', i2, i3⟩ := f1_run hn hm h1 h2 hp cs (Vs ++ ps.map (Vc one other c)) s1 (fun q hq => hc q (List.mem_cons_of_mem _ hq)) I1
    refine ⟨⟨hv, by rcases e with e | e <;> rw [e] <;> exact i1⟩, s', ?_, ?_⟩
    · unfold runFor
      rcases e with e | e <;> rw [e] <;> exact i2
    · rw [List.flatMap_cons, ← List.append_assoc]; exact i3
theorem tab_ok (hm : 1 ≤ m ∧ m ≤ 3) : (∀ c ∈ dCs m, ∀ d ∈ c, GoodC m d) ∧ (∀ c ∈ dPs m, ∀ d ∈ c, GoodC m d) ∧ (∀ c ∈ rsk ("cut" : Str) m m, c ∈ dCs m) ∧ (∀ c ∈ rsk ("put" : Str) m m, c ∈ dPs m) ∧ ((dCs m).length ≤ 200 ∧ (dPs m).length ≤ 200) ∧ ∀ c ∈ dCs m, ∀ p ∈ dPs m, cst m 8 0 0 (p.foldl (deedI m) (c.foldl (deedI m) (List.range m))) ≤ c.length + p.length ∧ (∀ x ∈ p.foldl (deedI m) (c.foldl (deedI m) (List.range m)), x ≤ m) ∧ c.length ≤ 3 ∧ p.length ≤ 3 := by
  have a : (allB m && memB m) = true ∧ cstB m = true := by
    have : m = 1 ∨ m = 2 ∨ m = 3 := by omega
    rcases this with rfl | rfl | rfl
    · exact ⟨all_1, cst_1⟩
    · exact ⟨all_2, cst_2⟩
    · exact ⟨all_3, cst_3⟩
  obtain ⟨a, c⟩ := a
  unfold allB memB at a
  unfold cstB at c
  rw [Bool.and_eq_true, Bool.and_eq_true, Bool.and_eq_true, Bool.and_eq_true, Bool.and_eq_true, Bool.and_eq_true, Bool.and_eq_true, decide_eq_true_eq, decide_eq_true_eq] at a
  obtain ⟨⟨a1, a2, a3, a4, a5, a6⟩, b1, b2⟩ := a
  refine ⟨fun x hx d hd => gcB_ok (List.all_eq_true.mp (List.all_eq_true.mp a1 x hx) d hd), fun x hx d hd => gcB_ok (List.all_eq_true.mp (List.all_eq_true.mp a2 x hx) d hd), fun x hx => of_decide_eq_true (List.all_eq_true.mp b1 x hx), fun x hx => of_decide_eq_true (List.all_eq_true.mp b2 x hx), ⟨a3, a4⟩, fun x hx p hp => ?_⟩
  have := List.all_eq_true.mp (List.all_eq_true.mp c x hx) p hp
  rw [Bool.and_eq_true, decide_eq_true_eq] at this
  exact ⟨this.1, fun y hy => of_decide_eq_true (List.all_eq_true.mp this.2 y hy), of_decide_eq_true (List.all_eq_true.mp a5 x hx), of_decide_eq_true (List.all_eq_true.mp a6 p hp)⟩
theorem least_ok (hn : 1 ≤ n ∧ n ≤ 24) (hm : 1 ≤ m ∧ m ≤ 3) (h1 : Pg n m one) (h2 : Pg n m other) : v_l_least one other ∧ m_l_least one other = some (m_least_worth one other) := by
  have hm12 : 1 ≤ m ∧ m ≤ 12 := by omega
  obtain ⟨t1, t2, t3, t4, t5, t6⟩ := tab_ok hm
  obtain ⟨r1, s', r2, r3⟩ := f1_run hn hm12 h1 h2 t2 (dCs m) [] none t1 rfl
  rw [List.nil_append] at r3
  have l1 := h1.1
  have l2 := h2.1
  obtain ⟨_, _, cuts, puts, found, B, W⟩ := way_ok hm12 hn h1 h2
  obtain ⟨wv, WK⟩ := walk_ok hn hm12 h1 h2
  -- the way told is among those tried
  have cm : cuts ∈ dCs m := t3 _ (rsk_mem m cuts (Nat.le_refl _) (fun d hd => ⟨(W.cutD d hd).1, (W.cutD d hd).2, by
    obtain ⟨r, c, e, _⟩ := ((W.cutD d hd).1).e
    rw [e]
    show _ ≤ (r : Int)
    omega⟩) W.cutP)
  have pm : puts ∈ dPs m := t4 _ (rsk_mem m puts (Nat.le_refl _) (fun d hd => ⟨(W.putD d hd).1, (W.putD d hd).2, by
    obtain ⟨r, c, e, _⟩ := ((W.putD d hd).1).e
    rw [e]
    show _ ≤ (r : Int)
    omega⟩) W.putP)
  have hB : puts.foldl m_l_deed (cuts.foldl m_l_deed one) = B := W.base
  have vw : Vc one other cuts puts = m_least_worth one other := by
    unfold Vc
    rw [hB, ← W.len, W.e, List.length_append, List.length_append, W.fnd, ← wrP_len _ 0]
    omega
  have lo : ∀ c ∈ dCs m, ∀ p ∈ dPs m, m_least_worth one other ≤ Vc one other c p := fun c hc p hp => by
    obtain ⟨k1, k2, k3, k4⟩ := t6 c hc p hp
    have e0 := range_one h1
    have f1 := foldI_ok (n := n) (m := m) (by omega) (by omega) h1 c (q := List.range m) (by rw [e0]; exact h1) (t1 c hc)
    have f2 := foldI_ok (n := n) (m := m) (by omega) (by omega) h1 p f1.2 (t2 p hp)
    rw [e0] at f1
    rw [← f1.1] at f2
    have ql : (p.foldl (deedI m) (c.foldl (deedI m) (List.range m))).length = m := by
      have := f2.2.1
      rwa [List.length_map] at this
    have le := cst_le WK 8 0 0 0 (p.foldl (deedI m) (c.foldl (deedI m) (List.range m))) (by omega) (by omega) (Int.le_refl _) (by omega) (by omega)
    have sc := sumC_is hn h1 h2 (p.foldl (deedI m) (c.foldl (deedI m) (List.range m))) 0 k2 (by omega)
    rw [List.drop_zero, ← f2.1] at sc
    rw [show ((0 : Nat) : Int) = 0 from rfl] at sc
    rw [sc] at le
    have le : tdGet (m_Walk_init () one other).prices (T3.mk 0 0 0) ≤ _ := le
    unfold Vc
    show tdGet (m_Walk_init () one other).prices (T3.mk 0 0 0) ≤ _
    omega
  have fin : s' = some (m_least_worth one other) := by
    cases s' with
    | none =>
      have r3 : (dCs m).flatMap (fun c => (dPs m).map (Vc one other c)) = [] := r3
      have : Vc one other cuts puts ∈ (dCs m).flatMap (fun c => (dPs m).map (Vc one other c)) := List.mem_flatMap.mpr ⟨cuts, cm, List.mem_map.mpr ⟨puts, pm, rfl⟩⟩
      rw [r3] at this; cases this
    | some b =>
      obtain ⟨q1, q2⟩ := r3
      obtain ⟨c, hc, q1⟩ := List.mem_flatMap.mp q1
      obtain ⟨p, hp, q1⟩ := List.mem_map.mp q1
      have a := lo c hc p hp
      have z := q2 (Vc one other cuts puts) (List.mem_flatMap.mpr ⟨cuts, cm, List.mem_map.mpr ⟨puts, pm, rfl⟩⟩)
      rw [vw] at z
      congr 1
      omega
  unfold v_l_least m_l_least bnd
  dsimp only
  rw [l1]
  refine ⟨⟨rows_v (.inr rfl) hm, rows_v (.inl rfl) hm, r1⟩, ?_⟩
  have r2 : (runFor (m_l_least_f1 one other (m_l_rows_of_deeds ("put" : Str) (m : Int))) none (m_l_rows_of_deeds ("cut" : Str) (m : Int)) : Out (Option Int) Empty (Option Int)) = .nx s' := r2
  rw [r2, fin]; rfl
end
theorem way_good {n m : Nat} (hn : 1 ≤ n ∧ n ≤ 24) {one other : Pc} (h2 : Pg n m other) (hA : PgA other) {ds cuts puts found : List Dd} {B : Pc} {worth : Int} (W : WayOk n m one other ds worth cuts puts found B) : (∀ d ∈ cuts ++ puts, GoodC m d) ∧ ∀ d ∈ found, GoodW n m d := by
  have l2 := h2.1
  have bL := W.bL
  refine ⟨fun d hd => ?_, fun d hd => ?_⟩
  · rcases List.mem_append.mp hd with hd | hd
    · exact (W.cutD d hd).2
    · exact (W.putD d hd).2
  · rw [W.fnd] at hd
    obtain ⟨i, q, hi, hd⟩ := wrP_mem _ 0 hd
    have qm := List.of_mem_zip (List.mem_of_getElem? hi)
    have il := (List.getElem?_eq_some_iff.mp hi).1
    rw [List.length_zip, bL, l2, Nat.min_self] at il
    exact wr_good (by omega) (h2.2 _ qm.2) (hA _ qm.2) (by omega) hd
theorem nat_of2 {x : Int} (h : 0 ≤ x) : ∃ n : Nat, x = n := ⟨x.toNat, by omega⟩
theorem law_both (s : Scr Int) (h : Pre s) : v_law s ∧ m_law s = true := by
  have x0 := mixed_ok s h 0 (by decide) (by decide)
  have x7 := mixed_ok s h 7 (by decide) (by decide)
  unfold v_law m_law bnd
  dsimp only
  generalize m_l_mixed s 0 = a at x0
  generalize m_l_mixed s 7 = num at x7
  have hw : 1 ≤ ix ([1, 1, 1, 2] : List Int) (a % 4) ∧ ix ([1, 1, 1, 2] : List Int) (a % 4) ≤ 2 := by
    refine ix_all (p := fun z : Int => 1 ≤ z ∧ z ≤ 2) (fun x hx => ?_) (inB_mod 4 rfl (by decide))
    simp only [List.mem_cons, List.not_mem_nil, or_false] at hx
    rcases hx with rfl | rfl | rfl | rfl <;> omega
  have hh : 1 ≤ ix ([3, 3, 2, 1, 3, 3] : List Int) ((a / 4) % 6) ∧ ix ([3, 3, 2, 1, 3, 3] : List Int) ((a / 4) % 6) ≤ 3 := by
    refine ix_all (p := fun z : Int => 1 ≤ z ∧ z ≤ 3) (fun x hx => ?_) (inB_mod 6 rfl (by decide))
    simp only [List.mem_cons, List.not_mem_nil, or_false] at hx
    rcases hx with rfl | rfl | rfl | rfl | rfl | rfl <;> omega
  generalize ix ([1, 1, 1, 2] : List Int) (a % 4) = wide at hw
  generalize ix ([3, 3, 2, 1, 3, 3] : List Int) ((a / 4) % 6) = high at hh
  obtain ⟨n, rfl⟩ := nat_of2 (x := wide) (by omega)
  have hj : 1 ≤ (if decide ((n : Int) = 2) = true then min high 2 else high) ∧ (if decide ((n : Int) = 2) = true then min high 2 else high) ≤ 3 := by split <;> omega
  generalize (if decide ((n : Int) = 2) = true then min high 2 else high) = j at hj
  obtain ⟨m, rfl⟩ := nat_of2 (x := j) (by omega)
  have hn : 1 ≤ n ∧ n ≤ 24 := by omega
  have hm : 1 ≤ m ∧ m ≤ 3 := by omega
  have hm12 : 1 ≤ m ∧ m ≤ 12 := by omega
  have s1 := small_ok s h (first := 1) (wide := n) (high := m) (by decide) (by omega) (by omega)
  have s2 := small_ok s h (first := 4) (wide := n) (high := m) (by decide) (by omega) (by omega)
  rw [Int.toNat_natCast, Int.toNat_natCast] at s1 s2
  generalize m_l_small s 1 n m = one at s1
  generalize m_l_small s 4 n m = oth at s2
  have t1 := turned_ok s h hn hm12 s1.2.1 s1.2.2 (first := 8) (by decide)
  have J1 : Pg n m (if decide (num % 4 = 1) = true then m_l_turned s 8 one else oth) ∧ PgA (if decide (num % 4 = 1) = true then m_l_turned s 8 one else oth) := by
    split
    · exact t1.2
    · exact s2.2
  generalize (if decide (num % 4 = 1) = true then m_l_turned s 8 one else oth) = o1 at J1
  obtain ⟨g1, g2, _, _, ⟨g5, g6⟩, g7⟩ := tab_ok hm
  have nC : 0 < (dCs m).length := by
    obtain ⟨_, _, g3, _⟩ := tab_ok hm
    exact List.length_pos_of_mem (g3 [] (rsk_nil m))
  have nP : 0 < (dPs m).length := by
    obtain ⟨_, _, _, g4, _⟩ := tab_ok hm
    exact List.length_pos_of_mem (g4 [] (rsk_nil m))
  have dc : m_l_rows_of_deeds ("cut" : Str) (m : Int) = dCs m := rfl
  have dp : m_l_rows_of_deeds ("put" : Str) (m : Int) = dPs m := rfl
  rw [dc, dp]
  have iC : InB (dCs m) ((num / 4) % (min (((dCs m).length : Nat) : Int) 7)) := by
    have a := Int.emod_nonneg (num / 4) (show min (((dCs m).length : Nat) : Int) 7 ≠ 0 by omega)
    have b := Int.emod_lt_of_pos (num / 4) (show 0 < min (((dCs m).length : Nat) : Int) 7 by omega)
    unfold InB; omega
  have iP : InB (dPs m) ((num / 32) % (min (((dPs m).length : Nat) : Int) 7)) := by
    have a := Int.emod_nonneg (num / 32) (show min (((dPs m).length : Nat) : Int) 7 ≠ 0 by omega)
    have b := Int.emod_lt_of_pos (num / 32) (show 0 < min (((dPs m).length : Nat) : Int) 7 by omega)
    unfold InB; omega
  have gc := g1 _ (ix_mem iC)
  have gp := g2 _ (ix_mem iP)
  generalize ix (dCs m) ((num / 4) % (min (((dCs m).length : Nat) : Int) 7)) = cc at gc
  generalize ix (dPs m) ((num / 32) % (min (((dPs m).length : Nat) : Int) 7)) = pp at gp
  obtain ⟨b1, b2, b3⟩ := behind_ok (n := n) (m := m) (by omega) (by omega) cc s1.2.1 fun d hd => .inl (gc d hd)
  have b4 := foldA (n := n) (m := m) (by omega) (by omega) cc s1.2.1 s1.2.2 gc
  rw [b2]
  obtain ⟨d1, d2, d3⟩ := behind_ok (n := n) (m := m) (by omega) (by omega) pp b3 fun d hd => .inl (gp d hd)
  have d4 := foldA (n := n) (m := m) (by omega) (by omega) pp b3 b4 gp
  rw [d2]
  have J2 : Pg n m (if decide (num % 4 > 1) = true then pp.foldl m_l_deed (cc.foldl m_l_deed one) else o1) ∧ PgA (if decide (num % 4 > 1) = true then pp.foldl m_l_deed (cc.foldl m_l_deed one) else o1) := by
    split
    · exact ⟨d3, d4⟩
    · exact J1
  generalize (if decide (num % 4 > 1) = true then pp.foldl m_l_deed (cc.foldl m_l_deed one) else o1) = o2 at J2
  have t2 := turned_ok s h hn hm12 J2.1 J2.2 (first := 8) (by decide)
  have J3 : Pg n m (if decide (num % 8 = 7) = true then m_l_turned s 8 o2 else o2) ∧ PgA (if decide (num % 8 = 7) = true then m_l_turned s 8 o2 else o2) := by
    split
    · exact t2.2
    · exact J2
  generalize (if decide (num % 8 = 7) = true then m_l_turned s 8 o2 else o2) = o3 at J3
  obtain ⟨l1, l2⟩ := least_ok hn hm s1.2.1 J3.1
  obtain ⟨w1, w2, cuts, puts, found, B, W⟩ := way_ok hm12 hn s1.2.1 J3.1
  have cv1 : v_l_copied one := by show one.length ≤ 100000; rw [s1.2.1.1]; omega
  have cv2 : v_l_copied o3 := by show o3.length ≤ 100000; rw [J3.1.1]; omega
  rw [lcopied_is, lcopied_is, l2]
  have hs : n * m < 64 := by
    have := Nat.mul_le_mul (show n ≤ 2 by omega) hm.2
    omega
  obtain ⟨f1, f2⟩ := formed_ok hn hm12 hs J3.1 J3.2 W
  obtain ⟨q1, q2⟩ := way_good hn J3.1 J3.2 W
  have gd : ∀ d ∈ m_least_way one o3, Good n m d := fun d hd => by
    rw [W.e] at hd
    rcases List.mem_append.mp hd with hd | hd
    · exact .inl (q1 d hd)
    · exact .inr (q2 d hd)
  obtain ⟨e1, e2, e3⟩ := behind_ok (n := n) (m := m) (by omega) (by omega) _ s1.2.1 gd
  have wl := W.lead
  have wn := W.len
  rw [wl] at e2 e3
  have dk := J3.1.dok
  have wh : ∀ x : Int, (!(m_l_whole x)) = false := fun x => rfl
  have eg : (some (m_least_worth one o3)).getD default = m_least_worth one o3 := rfl
  refine ⟨⟨x0.1, x0.1, s1.1, s2.1, x7.1, fun _ => t1.1, fun _ => ⟨rows_v (.inl rfl) hm, rows_v (.inr rfl) hm, ⟨by omega, iC, b1⟩, by omega, iP, d1⟩, fun _ => t2.1, l1, ⟨cv1, cv2, w2⟩, fun _ => rfl, fun _ => ⟨⟨cv1, cv2, w1⟩, ⟨f1, fun _ => rfl⟩, fun _ => ⟨e1, by rw [e2]; exact dk, dk⟩⟩⟩, ?_⟩
  rw [wh, eg, if_neg (by rw [decide_eq_true rfl]; decide), f2, if_neg (by rw [decide_eq_true wn]; decide), e2, eqb_refl]
theorem v_law_ok (s : Scr Int) (h : Pre s) : v_law s := (law_both s h).1
theorem law_true (s : Scr Int) (h : Pre s) : m_law s = true := (law_both s h).2
structure Txt (K : PySem.W.Frag) (mg : Str → Option Value) : Prop where
  d_size_of : Df K mg "size_of" (top 5)
  d_blank_row : DfD K mg "blank_row" (top 6) [V.int 0]
  d_stretches : Df K mg "stretches" (top 8)
  d_unlike_in : Df K mg "unlike_in" (top 9)
  d_writings : Df K mg "writings" (top 10)
  d_worth_of_line : Df K mg "worth_of_line" (top 11)
  d_need_alike : Df K mg "need_alike" (top 17)
  d_least_worth : Df K mg "least_worth" (top 18)
  d_grown : Df K mg "grown" (top 19)
  d_least_way : Df K mg "least_way" (top 20)
  d_l_cell_at : Df K mg "_law_cell_at" (top 22)
  d_l_mixed : Df K mg "_law_mixed" (top 23)
  d_l_ink : Df K mg "_law_ink" (top 24)
  d_l_sign : Df K mg "_law_sign" (top 25)
  d_l_row : Df K mg "_law_row" (top 26)
  d_l_turned : Df K mg "_law_turned" (top 28)
  d_l_copied : Df K mg "_law_copied" (top 29)
  d_l_cut : Df K mg "_law_cut" (top 30)
  d_l_put : Df K mg "_law_put" (top 31)
  d_l_deed : Df K mg "_law_deed" (top 32)
  d_l_whole : Df K mg "_law_whole" (top 33)
  d_l_formed : Df K mg "_law_formed" (top 34)
  d_l_cost : Df K mg "_law_cost" (top 35)
  d_l_small : Df K mg "_law_small" (top 36)
  d_l_rows_of_deeds : Df K mg "_law_rows_of_deeds" (top 37)
  d_l_behind : Df K mg "_law_behind" (top 38)
  d_l_least : Df K mg "_law_least" (top 39)
  d_law : Df K mg "law" (top 40)
  cl_Walk : Cls K Ads.cWalk
  d_Walk_steps : Dm K Ads.cWalk "steps" "Walk.steps" (inClass (top 16) 1)
  d_Walk_price : Dm K Ads.cWalk "price" "Walk.price" (inClass (top 16) 2)
  d_Walk_init : Dc K mg "Walk" Ads.cWalk "Walk.__init__" (inClass (top 16) 0)
  d_Walk_knots : Dm K Ads.cWalk "knots" "Walk.knots" (inClass (top 16) 3)
  na_Walk_high : NoAttr K Ads.cWalk "high"
  na_Walk_rows : NoAttr K Ads.cWalk "rows"
  na_Walk_costs : NoAttr K Ads.cWalk "costs"
  na_Walk_prices : NoAttr K Ads.cWalk "prices"
  c_BLANK : ∃ t, mg "BLANK" = some (.str (" " : Str) t)
  c_CUTTING : ∃ t, mg "CUTTING" = some (.int 1 t)
  c_GOING : ∃ t, mg "GOING" = some (.int 0 t)
  c_PUTTING : ∃ t, mg "PUTTING" = some (.int 2 t)
  b_bool : mg "bool" = none
  b_enumerate : mg "enumerate" = none
  b_int : mg "int" = none
  b_isinstance : mg "isinstance" = none
  b_len : mg "len" = none
  b_list : mg "list" = none
  b_max : mg "max" = none
  b_min : mg "min" = none
  b_range : mg "range" = none
  b_reversed : mg "reversed" = none
  b_set : mg "set" = none
  b_str : mg "str" = none
  b_sum : mg "sum" = none
  b_tuple : mg "tuple" = none
  b_zip : mg "zip" = none
section
variable {P : Program} {w : World} {K : PySem.W.Frag} {mg : Str → Option Value} {base : Heap}
abbrev s_size_of : Stmt := top 5
theorem sc_size_of : FnScope ["picture"] ["picture"] (defScope s_size_of) := ⟨rfl, rfl, rfl, by decide +kernel, rfl, by decide +kernel, by decide +kernel⟩
set_option maxHeartbeats 4000000 in
theorem ok_size_of (T : Txt K mg) : Fk P w K mg base (L2.CX P w) "size_of" ["picture"] [] 1 (SpG K mg (fun a : (List (List (Str × Int))) × Unit => ([.fz (a.1 : List (List (Str × Int)))] : List ArgD)) (fun a : (List (List (Str × Int))) × Unit => v_size_of a.1) (fun r : (Int × Int) => ([none] : List (Option OT))) (fun r : (Int × Int) => (.fz (r : Int × Int) : Slot)) (fun _ => none) (fun a : (List (List (Str × Int))) × Unit => m_size_of a.1)) := by
  refine fk_of (nf := (fun e : Empty => e.elim)) (G := (fun _ (e : Empty) => e.elim)) T.d_size_of sc_size_of (fun _ => rfl) (fun _ _ _ _ _ _ us hl => match us, hl with | [_], _ => rfl) (fun _ _ => rfl) (fun _ e => e.elim) ?_
  intro f cdv A outer s H E c as a hr hp
  obtain ⟨picture, ⟨⟩⟩ := a
  have nd := sc_size_of.nd
  have hp : v_size_of picture := hp
  delta v_size_of at hp
  refine XF.gam (Γ' := [.fz (picture : List (List (Str × Int)))]) rfl ?_
  exact XF.eq (xf_one (xs_ret (xe_tup (υ := Int × Int) (xa_cons (xe_lenl T.b_len (xe_ixl (xe_var 0) xe_int hp)) (xa_cons (xe_lenl T.b_len (xe_var 0)) xa_nil))) (rg_of (by exact trivial)) rfl rfl)) (by rfl)
abbrev s_blank_row : Stmt := top 6
theorem sc_blank_row : FnScope ["wide", "ink"] ["wide", "ink"] (defScope s_blank_row) := ⟨rfl, rfl, rfl, by decide +kernel, rfl, by decide +kernel, by decide +kernel⟩
set_option maxHeartbeats 4000000 in
theorem bd_blank_row (T : Txt K mg) : ∀ (f : Addr) (cdv : Value) (A : Around) (outer : List PySem.Env) (s : Shared) (H : Hp) (E : XK) (c : Cw) (as : Nat → Addr) (a : Int × Int × Unit), Room' 0 A "blank_row" s_blank_row s f cdv → (fun a : Int × Int × Unit => v_blank_row a.1 a.2.1) a →
      XF (R := RcG as (fun r : (List (Str × Int)) => ([none, none] : List (Option OT))) (fun r : (List (Str × Int)) => (.ow none (ol r) : Slot)) (fun _ => none)) (cxOf (L2.CX P w) P w K mg base ["wide", "ink"] "blank_row" (defScope s_blank_row) f cdv A outer s H E) ⟨fun cls d _ H => E cls d H, List.replicate 2 .no⟩ c (argSl as 0 ((fun a : Int × Int × Unit => ([.fz (a.1 : Int), .fz (a.2.1 : Int)] : List ArgD)) a) ++ List.replicate (2 - ((fun a : Int × Int × Unit => ([.fz (a.1 : Int), .fz (a.2.1 : Int)] : List ArgD)) a).length) .no) (defBody s_blank_row) (fun e : Empty => e.elim) ((fun _ (e : Empty) => e.elim) as) ((fun a : Int × Int × Unit => m_blank_row a.1 a.2.1) a) := by
  intro f cdv A outer s H E c as a hr hp
  obtain ⟨wide, ink, ⟨⟩⟩ := a
  have nd := sc_blank_row.nd
  have hp : v_blank_row wide ink := hp
  delta v_blank_row at hp
  refine XF.gam (Γ' := [.fz (wide : Int), .fz (ink : Int)]) rfl ?_
  exact XF.eq (xf_one (xs_retM (XN.m (xn_rep (xq_n (XN.eq (xn_lst (xns_cons (XE.n (xe_tup (υ := Str × Int) (xa_cons (xe_gs T.c_BLANK) (xa_cons (xe_var 1) xa_nil)))) xns_nil) (le100 rfl)) (t' := (ol ([((" " : Str), ink)] : List (Str × Int)))) rfl)) (xe_var 0) hp.1 hp.2)) (rg_of (by exact trivial)) rfl rfl)) (by rfl)
theorem ok_blank_row_d1 (T : Txt K mg) : FkD P w K mg base (L2.CX P w) "blank_row" ["wide", "ink"] [V.int 0] 1 (SpG K mg (fun a : Int × Int × Unit => ([.fz (a.1 : Int), .fz (a.2.1 : Int)] : List ArgD)) (fun a : Int × Int × Unit => v_blank_row a.1 a.2.1) (fun r : (List (Str × Int)) => ([none, none] : List (Option OT))) (fun r : (List (Str × Int)) => (.ow none (ol r) : Slot)) (fun _ => none) (fun a : Int × Int × Unit => m_blank_row a.1 a.2.1)) :=
  fkd_of (dvs := [V.int 0]) (nf := (fun e : Empty => e.elim)) (G := (fun _ (e : Empty) => e.elim)) T.d_blank_row sc_blank_row (fun _ => rfl) 0 1 (by simp) (by decide) (fun _ _ _ _ _ _ _ us its hl hi => match us, its, hl, hi with | [_], [_], _, _ => ⟨_, rfl, rfl⟩) (fun _ _ => rfl) (fun _ e => e.elim) (bd_blank_row T)
abbrev s_stretches : Stmt := top 8
theorem sc_stretches : FnScope ["row", "found", "first", "place"] ["row"] (defScope s_stretches) := ⟨rfl, rfl, rfl, by decide +kernel, rfl, by decide +kernel, by decide +kernel⟩
set_option maxHeartbeats 4000000 in
theorem ok_stretches (T : Txt K mg) : Fk P w K mg base (L2.CX P w) "stretches" ["row"] [] 1 (SpG K mg (fun a : (List (Str × Int)) × Unit => ([.fz (a.1 : List (Str × Int))] : List ArgD)) (fun a : (List (Str × Int)) × Unit => v_stretches a.1) (fun r : (List (T3 Int Int Int)) => ([none] : List (Option OT))) (fun r : (List (T3 Int Int Int)) => (.ow none (ol r) : Slot)) (fun _ => none) (fun a : (List (Str × Int)) × Unit => m_stretches a.1)) := by
  refine fk_of (nf := (fun e : Empty => e.elim)) (G := (fun _ (e : Empty) => e.elim)) T.d_stretches sc_stretches (fun _ => rfl) (fun _ _ _ _ _ _ us hl => match us, hl with | [_], _ => rfl) (fun _ _ => rfl) (fun _ e => e.elim) ?_
  intro f cdv A outer s H E c as a hr hp
  obtain ⟨row, ⟨⟩⟩ := a
  have nd := sc_stretches.nd
  have hp : v_stretches row := hp
  delta v_stretches at hp
  refine XF.gam (Γ' := [.fz (row : List (Str × Int)), .no, .no, .no]) rfl ?_
  exact XF.eq (xf_nxtv (xs_letN (x := ([] : List (T3 Int Int Int))) ol 1 nd (XN.eq (xn_lst (ts := []) xns_nil (le100 rfl)) (t' := (ol ([] : List (T3 Int Int Int)))) rfl)) hp (fun (found : List (T3 Int Int Int)) h_found hv_found => (xf_nxtv (xs_let 2 nd xe_int) hv_found (fun (first : Int) h_first hv_first => (xf_nxt (xs_foldV (g := m_stretches_f1 row) (vb := (v_stretches_f1 row)) (L := (fun s1 : Int × (List (T3 Int Int Int)) => [.fz (row : List (Str × Int)), .ow none (ol s1.2), .fz (s1.1 : Int), .no])) (s0 := (first, found)) (xi_range2 T.b_range xe_int (xe_add (xe_lenl T.b_len (xe_var 0)) xe_int) hv_first.1) (xg_name 3 nd) (by exact (.same (.same (.same (.same .nil))))) hv_first.2 (fun (place : Int) (s1 : Int × (List (T3 Int Int Int))) hv => (XO.eq (xn_nxt (xs_ifs (G := (fun s : (List (T3 Int Int Int)) × Int => [.fz (row : List (Str × Int)), .ow none (ol s.1), .fz (s.2 : Int), .fz (place : Int)])) (XW.t (xw_or (xt_c (xc_eqS (xe_var 3) (xe_lenl T.b_len (xe_var 0)))) (fun hc1 => (xw_or1 (xt_c (xc_neS (xe_snd (xe_ixl (xe_var 0) (xe_var 3) (hv.1 hc1).1)) (xe_snd (xe_ixl (xe_var 0) (xe_var 2) (hv.1 hc1).2)))))))) (fun hc2 => (have hv_hc2 : ((InB row s1.1) ∧ (s1.2.length < 100000)) := hv.2 hc2; (xn_nxt (xs_append (y := (s1.2 ++ [(T3.mk s1.1 place (ix row s1.1).2)])) (fun z : List (T3 Int Int Int) => (ol z)) (xpl_name 1) (XE.n (xe_tup (υ := T3 Int Int Int) (xa_cons (xe_var 2) (xa_cons (xe_var 3) (xa_cons (xe_snd (xe_ixl (xe_var 0) (xe_var 2) hv_hc2.1)) xa_nil))))) rfl rfl (lt_map hv_hc2.2) ((li_app rfl).trans rfl)) (fun (found' : List (T3 Int Int Int)) h_found' => (xn_nxt (xs_let 2 nd (xe_var 3)) (fun (first' : Int) h_first' => (xo_end (s := (found', first')) (by exact (.same (.same (.same (.same .nil)))))))))))) (fun hc3 => ((xo_end (s := (s1.2, s1.1)) (by exact (.same (.same (.same (.same .nil))))))))) (fun (j : (List (T3 Int Int Int)) × Int) h_j => (xo_end (s := (j.2, j.1)) (by exact (.same (.same (.same (.no .nil)))))))) (by rfl)))) (fun (r1 : Int × (List (T3 Int Int Int))) h_r1 => (xf_one (xs_retM (R := RcG as (fun r : (List (T3 Int Int Int)) => [none]) (fun r : (List (T3 Int Int Int)) => .ow none (ol r)) (fun _ => none)) (r := r1.2) (xm_give 1) (rg_of (by exact trivial)) rfl rfl)))))))) (by rfl)
abbrev s_unlike_in : Stmt := top 9
theorem sc_unlike_in : FnScope ["one", "other", "stretch", "first", "behind", "ink", "place"] ["one", "other", "stretch"] (defScope s_unlike_in) := ⟨rfl, rfl, rfl, by decide +kernel, rfl, by decide +kernel, by decide +kernel⟩
set_option maxHeartbeats 4000000 in
theorem ok_unlike_in (T : Txt K mg) : Fk P w K mg base (L2.CX P w) "unlike_in" ["one", "other", "stretch"] [] 1 (SpG K mg (fun a : (List (Str × Int)) × (List (Str × Int)) × (T3 Int Int Int) × Unit => ([.fz (a.1 : List (Str × Int)), .fz (a.2.1 : List (Str × Int)), .fz (a.2.2.1 : T3 Int Int Int)] : List ArgD)) (fun a : (List (Str × Int)) × (List (Str × Int)) × (T3 Int Int Int) × Unit => v_unlike_in a.1 a.2.1 a.2.2.1) (fun r : (List Int) => ([none, none, none] : List (Option OT))) (fun r : (List Int) => (.fz (r : List Int) : Slot)) (fun _ => none) (fun a : (List (Str × Int)) × (List (Str × Int)) × (T3 Int Int Int) × Unit => m_unlike_in a.1 a.2.1 a.2.2.1)) := by
  refine fk_of (nf := (fun e : Empty => e.elim)) (G := (fun _ (e : Empty) => e.elim)) T.d_unlike_in sc_unlike_in (fun _ => rfl) (fun _ _ _ _ _ _ us hl => match us, hl with | [_, _, _], _ => rfl) (fun _ _ => rfl) (fun _ e => e.elim) ?_
  intro f cdv A outer s H E c as a hr hp
  obtain ⟨one, other, stretch, ⟨⟩⟩ := a
  have nd := sc_unlike_in.nd
  have hp : v_unlike_in one other stretch := hp
  delta v_unlike_in at hp
  refine XF.gam (Γ' := [.fz (one : List (Str × Int)), .fz (other : List (Str × Int)), .fz (stretch : T3 Int Int Int), .no, .no, .no, .no]) rfl ?_
  exact XF.eq (xf_nxtv (xs_lets (xe_var 2) (xg_tup (xgs_cons (xg_name 3 nd) (xgs_cons (xg_name 4 nd) (xgs_cons (xg_name 5 nd) xgs_nil))))) hp (fun (first_t : T3 Int Int Int) h_first_t hv_first_t => (xf_one (xs_ret (XN.fr (xn_lcifT (p := fun place : Int => (!eqb (ix one place) (ix other place))) (h := fun place : Int => place) (e := (fun z : Int => OT.fz z)) [("place", 6)] nd (xi_range2 T.b_range (xe_var 3) (xe_var 4) hv_first_t.1) hv_first_t.2.1 (fun q => (xg_name 6 nd)) (fun (place : Int) hy_place q => (xt_c (xc_neD hr.units (xe_ixl (xe_var 0) (xe_var 6) (hv_first_t.2.2 place hy_place).1) (xe_ixl (xe_var 1) (xe_var 6) (hv_first_t.2.2 place hy_place).2.1) (hv_first_t.2.2 place hy_place).2.2.1 (hv_first_t.2.2 place hy_place).2.2.2))) (fun (place : Int) hy_place hc1 q => (XE.n (xe_var 6))) (ok := by first | (show blkC ["one", "other", "stretch", "first", "behind", "ink", "place"] (defScope s_unlike_in) _ _ = true; decide +kernel) | exact rfl)) FzT.ol) (rg_of (by exact trivial)) rfl rfl)))) (by rfl)
abbrev s_writings : Stmt := top 10
theorem sc_writings : FnScope ["row", "one", "other", "found", "stretch", "places", "text", "cell"] ["row", "one", "other"] (defScope s_writings) := ⟨rfl, rfl, rfl, by decide +kernel, rfl, by decide +kernel, by decide +kernel⟩
set_option maxHeartbeats 4000000 in
theorem ok_writings (T : Txt K mg) : Fk P w K mg base (L2.CX P w) "writings" ["row", "one", "other"] [] 2 (SpG K mg (fun a : Int × (List (Str × Int)) × (List (Str × Int)) × Unit => ([.fz (a.1 : Int), .fz (a.2.1 : List (Str × Int)), .fz (a.2.2.1 : List (Str × Int))] : List ArgD)) (fun a : Int × (List (Str × Int)) × (List (Str × Int)) × Unit => v_writings a.1 a.2.1 a.2.2.1) (fun r : (List Dd) => ([none, none, none] : List (Option OT))) (fun r : (List Dd) => (.ow none (ol r) : Slot)) (fun _ => none) (fun a : Int × (List (Str × Int)) × (List (Str × Int)) × Unit => m_writings a.1 a.2.1 a.2.2.1)) := by
  refine fk_of (nf := (fun e : Empty => e.elim)) (G := (fun _ (e : Empty) => e.elim)) T.d_writings sc_writings (fun _ => rfl) (fun _ _ _ _ _ _ us hl => match us, hl with | [_, _, _], _ => rfl) (fun _ _ => rfl) (fun _ e => e.elim) ?_
  intro f cdv A outer s H E c as a hr hp
  obtain ⟨row, one, other, ⟨⟩⟩ := a
  have nd := sc_writings.nd
  have hp : v_writings row one other := hp
  delta v_writings at hp
  refine XF.gam (Γ' := [.fz (row : Int), .fz (one : List (Str × Int)), .fz (other : List (Str × Int)), .no, .no, .no, .no, .no]) rfl ?_
  exact XF.eq (xf_nxtv (xs_letN (x := ([] : List Dd)) ol 3 nd (XN.eq (xn_lst (ts := []) xns_nil (le100 rfl)) (t' := (ol ([] : List Dd))) rfl)) hp (fun (found : List Dd) h_found hv_found => (xf_cons (xs_forV (R := RcG as (fun r : (List Dd) => [none, none, none]) (fun r : (List Dd) => .ow none (ol r)) (fun _ => none)) (f := m_writings_f1 row one other) (vb := (v_writings_f1 row one other)) (L := (fun s1 : (List Dd) => [.fz (row : Int), .fz (one : List (Str × Int)), .fz (other : List (Str × Int)), .ow none (ol s1), .no, .no, .no, .no])) (s0 := found) (xi_listL (XN.fr (xn_callZ (r := (other, ())) (ok_stretches T) hr (by decide) (xr_fz (xe_var 2) xr_nil) hv_found.1) FzT.ol)) (xg_name 4 nd) (by exact (.same (.same (.same (.same (.same (.same (.same (.same .nil))))))))) hv_found.2 (fun (stretch : T3 Int Int Int) (s1 : (List Dd)) hv => (XO.eq (xo_nxtv (xs_let 5 nd (xe_callZ (r := (one, other, stretch, ())) (ok_unlike_in T) hr (by decide) (xr_fz (xe_var 1) (xr_fz (xe_var 2) (xr_fz (xe_var 4) xr_nil))) hv.1)) hv.2 (fun (places : List Int) h_places hv_places => (xo_ifx (xt_c (xc_eqD hr.units (xe_var 5) (XN.fr (XN.eq (xn_lst (ts := []) xns_nil (le100 rfl)) (t' := (ol ([] : List Int))) rfl) FzT.ol) (PyDn.all _) (PyDn.all _))) (fun hc1 => ((xo_one (xs_cnt (s := s1) (by exact (.same (.same (.same (.same (.no (.no (.same (.same .nil))))))))))))) (fun hc2 => (have hv_hc2 : (((InB places 0) ∧ (InB places (-1)) ∧ ((cutL other (some (ix places 0)) (some ((ix places (-1)) + 1))).length ≤ 100000) ∧ ((((cutL other (some (ix places 0)) (some ((ix places (-1)) + 1))).map (fun cell : Str × Int => cell.1)).map (·.length)).sum + ((cutL other (some (ix places 0)) (some ((ix places (-1)) + 1))).map (fun cell : Str × Int => cell.1)).length * ("" : Str).length ≤ 16777216)) ∧ (bnd ((Txt.join ("" : Str) ((cutL other (some (ix places 0)) (some ((ix places (-1)) + 1))).map (fun cell : Str × Int => cell.1)))) fun (text : Str) => ((InB places 0) ∧ (s1.length < 100000)))) := hv_places hc2; (xo_nxtv (xs_let 6 nd (xe_join xe_str (XN.fr (xn_lcT (h := fun cell : Str × Int => cell.1) (e := (fun z : Str => OT.fz z)) [("cell", 7)] nd (xi_listL (XN.fr (xn_slice (xq_fz (xe_var 2)) (xp_some (xe_ixl (xe_var 5) xe_int hv_hc2.1.1)) (xp_some (xe_add (xe_ixl (xe_var 5) (xe_neg xe_int) hv_hc2.1.2.1) xe_int))) FzT.ol)) hv_hc2.1.2.2.1 (fun q => (xg_name 7 nd)) (fun (cell : Str × Int) hy_cell q => (XE.n (xe_fst (xe_var 7)))) (ok := by first | (show blkC ["row", "one", "other", "found", "stretch", "places", "text", "cell"] (defScope s_writings) _ _ = true; decide +kernel) | exact rfl)) FzT.ol) hv_hc2.1.2.2.2)) hv_hc2.2 (fun (text : Str) h_text hv_text => (xo_nxt (xs_append (y := (s1 ++ [(Dd.wr ("write" : Str) row (ix places 0) text stretch.c)])) (fun z : List Dd => (ol z)) (xpl_name 3) (XE.n (Dd.mk_wr (xe_tup (υ := T5 Str Int Int Str Int) (xa_cons xe_str (xa_cons (xe_var 0) (xa_cons (xe_ixl (xe_var 5) xe_int hv_text.1) (xa_cons (xe_var 6) (xa_cons (xe_t3c (xe_var 4)) xa_nil)))))))) rfl rfl (lt_map hv_text.2) ((li_app rfl).trans rfl)) (fun (found' : List Dd) h_found' => (xo_end (s := found') (by exact (.same (.same (.same (.same (.no (.no (.no (.same .nil))))))))))))))))))) (by rfl)))) (fun (r1 : (List Dd)) h_r1 => (xf_one (xs_retM (R := RcG as (fun r : (List Dd) => [none, none, none]) (fun r : (List Dd) => .ow none (ol r)) (fun _ => none)) (r := r1) (xm_give 3) (rg_of (by exact trivial)) rfl rfl)))))) (by rfl)
abbrev s_worth_of_line : Stmt := top 11
theorem sc_worth_of_line : FnScope ["one", "other"] ["one", "other"] (defScope s_worth_of_line) := ⟨rfl, rfl, rfl, by decide +kernel, rfl, by decide +kernel, by decide +kernel⟩
set_option maxHeartbeats 4000000 in
theorem ok_worth_of_line (T : Txt K mg) : Fk P w K mg base (L2.CX P w) "worth_of_line" ["one", "other"] [] 3 (SpG K mg (fun a : (List (Str × Int)) × (List (Str × Int)) × Unit => ([.fz (a.1 : List (Str × Int)), .fz (a.2.1 : List (Str × Int))] : List ArgD)) (fun a : (List (Str × Int)) × (List (Str × Int)) × Unit => v_worth_of_line a.1 a.2.1) (fun r : Int => ([none, none] : List (Option OT))) (fun r : Int => (.fz (r : Int) : Slot)) (fun _ => none) (fun a : (List (Str × Int)) × (List (Str × Int)) × Unit => m_worth_of_line a.1 a.2.1)) := by
  refine fk_of (nf := (fun e : Empty => e.elim)) (G := (fun _ (e : Empty) => e.elim)) T.d_worth_of_line sc_worth_of_line (fun _ => rfl) (fun _ _ _ _ _ _ us hl => match us, hl with | [_, _], _ => rfl) (fun _ _ => rfl) (fun _ e => e.elim) ?_
  intro f cdv A outer s H E c as a hr hp
  obtain ⟨one, other, ⟨⟩⟩ := a
  have nd := sc_worth_of_line.nd
  have hp : v_worth_of_line one other := hp
  delta v_worth_of_line at hp
  refine XF.gam (Γ' := [.fz (one : List (Str × Int)), .fz (other : List (Str × Int))]) rfl ?_
  exact XF.eq (xf_one (xs_ret (xe_lenl T.b_len (XN.fr (xn_callZ (r := (0, one, other, ())) (ok_writings T) hr (by decide) (xr_fz xe_int (xr_fz (xe_var 0) (xr_fz (xe_var 1) xr_nil))) hp) FzT.ol)) (rg_of (by exact trivial)) rfl rfl)) (by rfl)
abbrev s_Walk_steps : Stmt := inClass (top 16) 1
theorem sc_Walk_steps : FnScope ["self", "gone", "ahead", "word", "later", "found"] ["self", "gone", "ahead", "word"] (defScope s_Walk_steps) := ⟨rfl, rfl, rfl, by decide +kernel, rfl, by decide +kernel, by decide +kernel⟩
set_option maxHeartbeats 4000000 in
theorem ok_Walk_steps (T : Txt K mg) : Fm P w K mg base (L2.CX P w) Ads.cWalk "steps" ["self", "gone", "ahead", "word"] 1 (SpG K mg (fun a : Wk × Int × Int × Int × Unit => ([.fz (a.1 : Wk), .fz (a.2.1 : Int), .fz (a.2.2.1 : Int), .fz (a.2.2.2.1 : Int)] : List ArgD)) (fun a : Wk × Int × Int × Int × Unit => v_Walk_steps a.1 a.2.1 a.2.2.1 a.2.2.2.1) (fun r : (List (Int × (T3 Int Int Int))) => ([none, none, none, none] : List (Option OT))) (fun r : (List (Int × (T3 Int Int Int))) => (.ow none (ol r) : Slot)) (fun _ => none) (fun a : Wk × Int × Int × Int × Unit => m_Walk_steps a.1 a.2.1 a.2.2.1 a.2.2.2.1)) := by
  refine fm_of (nf := (fun e : Empty => e.elim)) (G := (fun _ (e : Empty) => e.elim)) T.d_Walk_steps sc_Walk_steps (fun _ => rfl) (fun _ _ _ _ _ _ us hl => match us, hl with | [_, _, _, _], _ => rfl) (fun _ _ => rfl) (fun _ e => e.elim) ?_
  intro f cdv A outer s H E c as a hr hp
  obtain ⟨self, gone, ahead, word, ⟨⟩⟩ := a
  have nd := sc_Walk_steps.nd
  have hp : v_Walk_steps self gone ahead word := hp
  delta v_Walk_steps at hp
  refine XF.gam (Γ' := [.fz (self : Wk), .fz (gone : Int), .fz (ahead : Int), .fz (word : Int), .no, .no]) rfl ?_
  exact XF.eq (xf_ifx (xt_c (xc_eqS (xe_var 2) (xe_fattr (xe_var 0) (Wk.isT self) Wk.i_high rfl FzT.fz))) (fun hc1 => ((xf_one (xs_retM (XN.m (XN.eq (xn_lst (ts := []) xns_nil (le100 rfl)) (t' := (ol ([] : List (Int × (T3 Int Int Int))))) rfl)) (rg_of (by exact trivial)) rfl rfl)))) (fun hc2 => (have hv_hc2 : (bnd ((min (gone + 1) self.high)) fun (later : Int) => (((InB self.costs gone) ∧ (InB (ix self.costs gone) ahead)) ∧ (bnd (([((ix (ix self.costs gone) ahead), (T3.mk later (ahead + 1) 0))] : List (Int × (T3 Int Int Int)))) fun (found : List (Int × (T3 Int Int Int))) => (((((decide (gone < self.high)) && (!decide (word = 2))) = true → (found.length < 100000))) ∧ (bnd (if ((decide (gone < self.high)) && (!decide (word = 2))) then ( bnd ((found ++ [((if (!decide (word = 1)) then (1 : Int) else 0), (T3.mk later ahead 1))])) fun (found' : List (Int × (T3 Int Int Int))) => found') else ( found)) fun (j : (List (Int × (T3 Int Int Int)))) => ((InB self.costs self.high) ∧ (InB (ix self.costs self.high) ahead) ∧ (j.length < 100000))))))) := hp hc2; (xf_nxtv (xs_let 4 nd (xe_min T.b_min (xe_add (xe_var 1) xe_int) (xe_fattr (xe_var 0) (Wk.isT self) Wk.i_high rfl FzT.fz))) hv_hc2 (fun (later : Int) h_later hv_later => (xf_nxtv (xs_letN (x := ([((ix (ix self.costs gone) ahead), (T3.mk later (ahead + 1) 0))] : List (Int × (T3 Int Int Int)))) ol 5 nd (XN.eq (xn_lst (xns_cons (XE.n (xe_tup (υ := Int × (T3 Int Int Int)) (xa_cons (xe_ixl (xe_ixl (xe_fattr (xe_var 0) (Wk.isT self) Wk.i_costs rfl (FzT.lid fun _ => FzT.ol)) (xe_var 1) hv_later.1.1) (xe_var 2) hv_later.1.2) (xa_cons (xe_tup (υ := T3 Int Int Int) (xa_cons (xe_var 4) (xa_cons (xe_add (xe_var 2) xe_int) (xa_cons (xe_gi T.c_GOING) xa_nil)))) xa_nil)))) xns_nil) (le100 rfl)) (t' := (ol ([((ix (ix self.costs gone) ahead), (T3.mk later (ahead + 1) 0))] : List (Int × (T3 Int Int Int))))) rfl)) hv_later.2 (fun (found : List (Int × (T3 Int Int Int))) h_found hv_found => (xf_nxtv (kV := fun j : (List (Int × (T3 Int Int Int))) => ((InB self.costs self.high) ∧ (InB (ix self.costs self.high) ahead) ∧ (j.length < 100000))) (xs_ifs (G := (fun s : (List (Int × (T3 Int Int Int))) => [.fz (self : Wk), .fz (gone : Int), .fz (ahead : Int), .fz (word : Int), .fz (later : Int), .ow none (ol s)])) (XW.t (xw_and (xt_c (xc_lt (xe_var 1) (xe_fattr (xe_var 0) (Wk.isT self) Wk.i_high rfl FzT.fz))) (fun hc3 => (xw_and1 (xt_c (xc_neS (xe_var 3) (xe_gi T.c_PUTTING))))))) (fun hc4 => (have hv_hc4 : (found.length < 100000) := hv_found.1 hc4; (xn_nxt (xs_append (y := (found ++ [((if (!decide (word = 1)) then (1 : Int) else 0), (T3.mk later ahead 1))])) (fun z : List (Int × (T3 Int Int Int)) => (ol z)) (xpl_name 5) (XE.n (xe_tup (υ := Int × (T3 Int Int Int)) (xa_cons (xe_intB T.b_int (xe_c (xc_neS (xe_var 3) (xe_gi T.c_CUTTING)))) (xa_cons (xe_tup (υ := T3 Int Int Int) (xa_cons (xe_var 4) (xa_cons (xe_var 2) (xa_cons (xe_gi T.c_CUTTING) xa_nil)))) xa_nil)))) rfl rfl (lt_map hv_hc4) ((li_app rfl).trans rfl)) (fun (found' : List (Int × (T3 Int Int Int))) h_found' => (xo_end (s := found') (by exact (.same (.same (.same (.same (.same (.same .nil)))))))))))) (fun hc5 => ((xo_end (s := found) (by exact (.same (.same (.same (.same (.same (.same .nil))))))))))) hv_found.2 (fun (j : (List (Int × (T3 Int Int Int)))) h_j hv_j => (xf_nxt (xs_append (y := (j ++ [(((if (!decide (word = 2)) then (1 : Int) else 0) + (ix (ix self.costs self.high) ahead)), (T3.mk gone (ahead + 1) 2))])) (fun z : List (Int × (T3 Int Int Int)) => (ol z)) (xpl_name 5) (XE.n (xe_tup (υ := Int × (T3 Int Int Int)) (xa_cons (xe_add (xe_intB T.b_int (xe_c (xc_neS (xe_var 3) (xe_gi T.c_PUTTING)))) (xe_ixl (xe_ixl (xe_fattr (xe_var 0) (Wk.isT self) Wk.i_costs rfl (FzT.lid fun _ => FzT.ol)) (xe_fattr (xe_var 0) (Wk.isT self) Wk.i_high rfl FzT.fz) hv_j.1) (xe_var 2) hv_j.2.1)) (xa_cons (xe_tup (υ := T3 Int Int Int) (xa_cons (xe_var 1) (xa_cons (xe_add (xe_var 2) xe_int) (xa_cons (xe_gi T.c_PUTTING) xa_nil)))) xa_nil)))) rfl rfl (lt_map hv_j.2.2) ((li_app rfl).trans rfl)) (fun (found'' : List (Int × (T3 Int Int Int))) h_found'' => (xf_one (xs_retM (R := RcG as (fun r : (List (Int × (T3 Int Int Int))) => [none, none, none, none]) (fun r : (List (Int × (T3 Int Int Int))) => .ow none (ol r)) (fun _ => none)) (r := found'') (xm_give 5) (rg_of (by exact trivial)) rfl rfl))))))))))))) (by rfl)
abbrev s_Walk_price : Stmt := inClass (top 16) 2
theorem sc_Walk_price : FnScope ["self", "gone", "ahead", "word", "worth", "knot"] ["self", "gone", "ahead", "word"] (defScope s_Walk_price) := ⟨rfl, rfl, rfl, by decide +kernel, rfl, by decide +kernel, by decide +kernel⟩
set_option maxHeartbeats 4000000 in
theorem ok_Walk_price (T : Txt K mg) : Fm P w K mg base (L2.CX P w) Ads.cWalk "price" ["self", "gone", "ahead", "word"] 2 (SpG K mg (fun a : Wk × Int × Int × Int × Unit => ([.fz (a.1 : Wk), .fz (a.2.1 : Int), .fz (a.2.2.1 : Int), .fz (a.2.2.2.1 : Int)] : List ArgD)) (fun a : Wk × Int × Int × Int × Unit => v_Walk_price a.1 a.2.1 a.2.2.1 a.2.2.2.1) (fun r : Int => ([none, none, none, none] : List (Option OT))) (fun r : Int => (.fz (r : Int) : Slot)) (fun _ => none) (fun a : Wk × Int × Int × Int × Unit => m_Walk_price a.1 a.2.1 a.2.2.1 a.2.2.2.1)) := by
  refine fm_of (nf := (fun e : Empty => e.elim)) (G := (fun _ (e : Empty) => e.elim)) T.d_Walk_price sc_Walk_price (fun _ => rfl) (fun _ _ _ _ _ _ us hl => match us, hl with | [_, _, _, _], _ => rfl) (fun _ _ => rfl) (fun _ e => e.elim) ?_
  intro f cdv A outer s H E c as a hr hp
  obtain ⟨self, gone, ahead, word, ⟨⟩⟩ := a
  have nd := sc_Walk_price.nd
  have hp : v_Walk_price self gone ahead word := hp
  delta v_Walk_price at hp
  refine XF.gam (Γ' := [.fz (self : Wk), .fz (gone : Int), .fz (ahead : Int), .fz (word : Int), .no, .no]) rfl ?_
  exact XF.eq (xf_one (xs_ret (xe_minDf T.b_min hr.units (XN.fr (xn_lcT (h := fun pair : Int × (T3 Int Int Int) => (pair.1 + (tdGet self.prices pair.2))) (e := (fun z : Int => OT.fz z)) [("knot", 5), ("worth", 4)] nd (xi_listL (XN.fr (xn_methA (r := (self, gone, ahead, word, ())) (ok_Walk_steps T) T.cl_Walk hr (by decide) (xe_var 0) (Wk.isT self) (by decide +kernel) (xr_fz (xe_var 1) (xr_fz (xe_var 2) (xr_fz (xe_var 3) xr_nil))) hp.1) FzT.ol)) hp.2.1 (fun q => (xg_tup (xgs_cons (xg_name 4 nd) (xgs_cons (xg_name 5 nd) xgs_nil)))) (fun (pair : Int × (T3 Int Int Int)) hy_pair q => (XE.n (xe_add (xe_var 4) (xe_tdget (hu_of hr.units) (xe_fattr (xe_var 0) (Wk.isT self) Wk.i_prices rfl fzt_ot) (xe_var 5) (hp.2.2 pair hy_pair))))) (ok := by first | (show blkC ["self", "gone", "ahead", "word", "worth", "knot"] (defScope s_Walk_price) _ _ = true; decide +kernel) | exact rfl)) FzT.ol) xe_int) (rg_of (by exact trivial)) rfl rfl)) (by rfl)
abbrev s_Walk_init : Stmt := inClass (top 16) 0
theorem sc_Walk_init : FnScope ["self", "one", "other", "ahead", "gone", "row", "word", "goal"] ["self", "one", "other"] (defScope s_Walk_init) := ⟨rfl, rfl, rfl, by decide +kernel, rfl, by decide +kernel, by decide +kernel⟩
set_option maxHeartbeats 4000000 in
theorem ok_Walk_init (T : Txt K mg) : Fc' P w K mg base (L2.CX P w) "Walk" Ads.cWalk ["self", "one", "other"] 4 (SpG K mg (fun a : (Unit) × (List (List (Str × Int))) × (List (List (Str × Int))) × Unit => ([ArgD.ow (OT.nd (.ins Ads.cWalk []) []), .fz (a.2.1 : List (List (Str × Int))), .fz (a.2.2.1 : List (List (Str × Int)))] : List ArgD)) (fun a : (Unit) × (List (List (Str × Int))) × (List (List (Str × Int))) × Unit => v_Walk_init a.1 a.2.1 a.2.2.1) (fun r : Wk => ([some (Wk.ot r), none, none] : List (Option OT))) (fun r : Wk => (.fz () : Slot)) (fun _ => none) (fun a : (Unit) × (List (List (Str × Int))) × (List (List (Str × Int))) × Unit => m_Walk_init a.1 a.2.1 a.2.2.1)) := by
  refine fc_of' (nf := (fun s : Wk => s)) (G := (fun as (s : Wk) => [.ow (some (as 0)) (Wk.ot s), .no, .no, .no, .no, .no, .no, .no])) T.d_Walk_init sc_Walk_init (fun _ => rfl) (fun _ _ _ _ _ _ us hl => match us, hl with | [_, _, _], _ => rfl) (fun _ _ => rfl) (fun as s => ⟨rfl, rfl, rg_of (by exact ⟨rfl, trivial⟩)⟩) ?_
  intro f cdv A outer s H E c as a hr hp
  obtain ⟨self, one, other, ⟨⟩⟩ := a
  have nd := sc_Walk_init.nd
  have hp : v_Walk_init self one other := hp
  delta v_Walk_init at hp
  refine XF.gam (Γ' := [.ow (some (as 0)) (OT.nd (.ins Ads.cWalk []) []), .fz (one : List (List (Str × Int))), .fz (other : List (List (Str × Int))), .no, .no, .no, .no, .no]) rfl ?_
  exact XF.eq (xf_nxtv (xs_fnew (y := (((one.length : Nat) : Int) : Int)) (fun z : Int => (OT.nd (.ins Ads.cWalk ["high"]) [(OT.fz (z : Int))])) (XE.n (xe_lenl T.b_len (xe_var 1))) (xpl_name 0) rfl rfl T.na_Walk_high) hp (fun (high : Int) h_high hv_high => (xf_nxtv (xs_fnew (y := ((one ++ ([(m_blank_row (((ix one 0).length : Nat) : Int) 0)] : List (List (Str × Int)))) : List (List (Str × Int)))) (fun z : List (List (Str × Int)) => (OT.nd (.ins Ads.cWalk ["high", "rows"]) [(OT.fz (high : Int)), (ol z)])) (xn_cat (xq_fz (xe_var 1)) (xq_fz (XN.fr (XN.eq (xn_lst (xns_cons (xn_callD (r := ((((ix one 0).length : Nat) : Int), 0, ())) (ok_blank_row_d1 T) (by exact fun F H σ vs h => pd_app h ((.cons (a := CA.fz (0 : Int)) rfl .nil))) hr (by decide) (xr_fz (xe_lenl T.b_len (xe_ixl (xe_var 1) xe_int hv_high.1.1)) xr_nil) hv_high.1.2.1) xns_nil) (le100 rfl)) (t' := ((OT.li ol) ([(m_blank_row (((ix one 0).length : Nat) : Int) 0)] : List (List (Str × Int))))) rfl) (FzT.lid fun _ => FzT.ol))) hv_high.1.2.2) (xpl_name 0) rfl rfl T.na_Walk_rows) hv_high.2 (fun (rows : List (List (Str × Int))) h_rows hv_rows => (xf_nxtv (xs_fnew (y := (((⟨high, rows⟩ : Wp).rows.map (fun row : List (Str × Int) => (other.map (fun goal : List (Str × Int) => (m_worth_of_line row goal))))) : List (List Int))) (fun z : List (List Int) => (OT.nd (.ins Ads.cWalk ["high", "rows", "costs"]) [(OT.fz (high : Int)), (ol rows), ((OT.li ol) z)])) (xn_thaw 0 rfl (fzt_ot (g := Wp.ot) (x := (⟨high, rows⟩ : Wp))) (OTl.li fun _ => OTl.ol) (xn_lcT (h := fun row : List (Str × Int) => (other.map (fun goal : List (Str × Int) => (m_worth_of_line row goal)))) (e := ol) [("row", 5)] nd (xi_listL (xe_fattr (xe_var 0) (Wp.isT (⟨high, rows⟩ : Wp)) Wp.i_rows rfl FzT.ol)) hv_rows.1.1 (fun q => (xg_name 5 nd)) (fun (row : List (Str × Int)) hy_row q => (xn_lcT (h := fun goal : List (Str × Int) => (m_worth_of_line row goal)) (e := (fun z : Int => OT.fz z)) [("goal", 7)] nd (xi_listL (xe_var 2)) (hv_rows.1.2 row hy_row).1 (fun q => (xg_name 7 nd)) (fun (goal : List (Str × Int)) hy_goal q => (XE.n (xe_callZ (r := (row, goal, ())) (ok_worth_of_line T) hr (by decide) (xr_fz (xe_var 5) (xr_fz (xe_var 7) xr_nil)) ((hv_rows.1.2 row hy_row).2 goal hy_goal)))) (ok := by first | (show blkC ["self", "one", "other", "ahead", "gone", "row", "word", "goal"] (defScope s_Walk_init) _ _ = true; decide +kernel) | exact rfl))) (ok := by first | (show blkC ["self", "one", "other", "ahead", "gone", "row", "word", "goal"] (defScope s_Walk_init) _ _ = true; decide +kernel) | exact rfl))) (xpl_name 0) rfl rfl T.na_Walk_costs) hv_rows.2 (fun (costs : List (List Int)) h_costs hv_costs => (xf_nxtv (xs_fnew (y := (⟨high, rows, costs, (⟨[]⟩ : Td (T3 Int Int Int) Int)⟩ : Wk)) (fun z : Wk => (Wk.ot z)) xn_td0 (xpl_name 0) rfl rfl T.na_Walk_prices) hv_costs (fun (self' : Wk) h_self' hv_self' => (xf_nxt (xs_foldV (g := m_Walk_init_f1) (vb := (v_Walk_init_f1)) (L := (fun s1 : Wk => [.ow (some (as 0)) (Wk.ot s1), .fz (one : List (List (Str × Int))), .fz (other : List (List (Str × Int))), .no, .no, .no, .no, .no])) (s0 := self') (xi_revrange T.b_reversed T.b_range (xe_add (xe_pl (xpl_fld (xpl_name 0) rfl rfl Wk.i_high) rfl (get_nd rfl rfl)) xe_int) hv_self'.1) (xg_name 3 nd) (by exact (.same (.same (.same (.same (.same (.same (.same (.same .nil))))))))) hv_self'.2 (fun (ahead : Int) (s1 : Wk) hv => (XO.eq (xn_nxt (xs_foldV (g := m_Walk_init_f2 ahead) (vb := (v_Walk_init_f2 ahead)) (L := (fun s2 : Wk => [.ow (some (as 0)) (Wk.ot s2), .fz (one : List (List (Str × Int))), .fz (other : List (List (Str × Int))), .fz (ahead : Int), .no, .no, .no, .no])) (s0 := s1) (xi_revrange T.b_reversed T.b_range (xe_add (xe_pl (xpl_fld (xpl_name 0) rfl rfl Wk.i_high) rfl (get_nd rfl rfl)) xe_int) hv.1) (xg_name 4 nd) (by exact (.same (.same (.same (.same (.same (.same (.same (.same .nil))))))))) hv.2 (fun (gone : Int) (s2 : Wk) hv => (XO.eq (xn_nxt (xs_foldV (g := m_Walk_init_f3 ahead gone) (vb := (v_Walk_init_f3 ahead gone)) (L := (fun s3 : Wk => [.ow (some (as 0)) (Wk.ot s3), .fz (one : List (List (Str × Int))), .fz (other : List (List (Str × Int))), .fz (ahead : Int), .fz (gone : Int), .no, .no, .no])) (s0 := s2) (xi_tup (xe_tupL (xl_cons (xe_gi T.c_PUTTING) (xl_cons (xe_gi T.c_CUTTING) (xl_cons (xe_gi T.c_GOING) xl_nil))) (le100 rfl))) (xg_name 6 nd) (by exact (.same (.same (.same (.same (.same (.same (.same (.same .nil))))))))) hv (fun (word : Int) (s3 : Wk) hv => (XO.eq (xn_nxt (xs_tdset (z := { s3 with prices := (tdPut s3.prices (T3.mk gone ahead word) (m_Walk_price s3 gone ahead word)) }) (fun z : Wk => (Wk.ot z)) (hu_of hr.units) (xe_thaw 0 rfl fzt_ot (xe_methA (r := (s3, gone, ahead, word, ())) (ok_Walk_price T) T.cl_Walk hr (by decide) (xe_var 0) (Wk.isT s3) (by decide +kernel) (xr_fz (xe_var 4) (xr_fz (xe_var 3) (xr_fz (xe_var 6) xr_nil))) hv.1)) (xpl_fld (xpl_name 0) rfl rfl Wk.i_prices) (xky_tup (υ := T3 Int Int Int) (xa_cons (xe_var 4) (xa_cons (xe_var 3) (xa_cons (xe_var 6) xa_nil)))) rfl (get_nd rfl rfl) hv.2 ((put_nd rfl rfl).trans rfl)) (fun (self'' : Wk) h_self'' => (xo_end (s := self'') (by exact (.same (.same (.same (.same (.same (.same (.no (.same .nil)))))))))))) (by rfl)))) (fun (r3 : Wk) h_r3 => (xo_end (s := r3) (by exact (.same (.same (.same (.same (.no (.same (.same (.same .nil)))))))))))) (by rfl)))) (fun (r2 : Wk) h_r2 => (xo_end (s := r2) (by exact (.same (.same (.same (.no (.same (.same (.same (.same .nil)))))))))))) (by rfl)))) (fun (r1 : Wk) h_r1 => (xf_end (s := r1) (by exact (.same (.no (.no (.same (.same (.same (.same (.same .nil))))))))) rfl))))))))))) (by rfl)
abbrev s_Walk_knots : Stmt := inClass (top 16) 3
theorem sc_Walk_knots : FnScope ["self", "found", "here", "worth", "knot"] ["self"] (defScope s_Walk_knots) := ⟨rfl, rfl, rfl, by decide +kernel, rfl, by decide +kernel, by decide +kernel⟩
set_option maxHeartbeats 4000000 in
theorem ok_Walk_knots (T : Txt K mg) : Fm P w K mg base (L2.CX P w) Ads.cWalk "knots" ["self"] 2 (SpG K mg (fun a : Wk × Unit => ([.fz (a.1 : Wk)] : List ArgD)) (fun a : Wk × Unit => v_Walk_knots a.1) (fun r : (List (T3 Int Int Int)) => ([none] : List (Option OT))) (fun r : (List (T3 Int Int Int)) => (.ow none (ol r) : Slot)) (fun _ => none) (fun a : Wk × Unit => m_Walk_knots a.1)) := by
  refine fm_of (nf := (fun e : Empty => e.elim)) (G := (fun _ (e : Empty) => e.elim)) T.d_Walk_knots sc_Walk_knots (fun _ => rfl) (fun _ _ _ _ _ _ us hl => match us, hl with | [_], _ => rfl) (fun _ _ => rfl) (fun _ e => e.elim) ?_
  intro f cdv A outer s H E c as a hr hp
  obtain ⟨self, ⟨⟩⟩ := a
  have nd := sc_Walk_knots.nd
  have hp : v_Walk_knots self := hp
  delta v_Walk_knots at hp
  refine XF.gam (Γ' := [.fz (self : Wk), .no, .no, .no, .no]) rfl ?_
  exact XF.eq (xf_nxtv (xs_letN (x := ([(T3.mk 0 0 0)] : List (T3 Int Int Int))) ol 1 nd (XN.eq (xn_lst (xns_cons (XE.n (xe_tup (υ := T3 Int Int Int) (xa_cons xe_int (xa_cons xe_int (xa_cons (xe_gi T.c_GOING) xa_nil))))) xns_nil) (le100 rfl)) (t' := (ol ([(T3.mk 0 0 0)] : List (T3 Int Int Int)))) rfl)) hp (fun (found : List (T3 Int Int Int)) h_found hv_found => (xf_cons (xs_whileV (R := RcG as (fun r : (List (T3 Int Int Int)) => [none]) (fun r : (List (T3 Int Int Int)) => .ow none (ol r)) (fun _ => none)) (k := (m_Walk_knots_k1 self)) (f := (m_Walk_knots_f1 self)) (vk := (v_Walk_knots_k1 self)) (vb := (v_Walk_knots_f1 self)) (n := 100000) (L := (fun s1 : (List (T3 Int Int Int)) => [.fz (self : Wk), .ow none (ol s1), .no, .no, .no])) (s0 := found) (by exact (.same (.same (.same (.same (.same .nil)))))) hv_found (fun (s1 : (List (T3 Int Int Int))) hv => (xt_c (xc_lt (xe_t3b (xe_thaw 1 rfl FzT.ol (xe_ixl (xe_var 1) (xe_neg xe_int) hv))) (xe_fattr (xe_var 0) (Wk.isT self) Wk.i_high rfl FzT.fz)))) (fun (s1 : (List (T3 Int Int Int))) hk hv => (XO.eq (xo_nxtv (xs_let 2 nd (xe_thaw 1 rfl FzT.ol (xe_ixl (xe_var 1) (xe_neg xe_int) hv.1))) hv.2 (fun (hereV : T3 Int Int Int) h_hereV hv_hereV => (xo_cons (xs_forV (R := RcG as (fun r : (List (T3 Int Int Int)) => [none]) (fun r : (List (T3 Int Int Int)) => .ow none (ol r)) (fun _ => none)) (f := m_Walk_knots_f2 self hereV) (vb := (v_Walk_knots_f2 self hereV)) (L := (fun s2 : (List (T3 Int Int Int)) => [.fz (self : Wk), .ow none (ol s2), .fz (hereV : T3 Int Int Int), .no, .no])) (s0 := s1) (xi_listL (XN.fr (xn_methA (r := (self, hereV.a, hereV.b, hereV.c, ())) (ok_Walk_steps T) T.cl_Walk hr (by decide) (xe_var 0) (Wk.isT self) (by decide +kernel) (xr_fz (xe_t3a (xe_var 2)) (xr_fz (xe_t3b (xe_var 2)) (xr_fz (xe_t3c (xe_var 2)) xr_nil))) hv_hereV.1) FzT.ol)) (xg_tup (xgs_cons (xg_name 3 nd) (xgs_cons (xg_name 4 nd) xgs_nil))) (by exact (.same (.same (.same (.same (.same .nil)))))) hv_hereV.2 (fun (y2 : Int × (T3 Int Int Int)) (s2 : (List (T3 Int Int Int))) hv => (XO.eq (xo_ifx (xt_c (xc_eqS (xe_add (xe_var 3) (xe_tdget (hu_of hr.units) (xe_fattr (xe_var 0) (Wk.isT self) Wk.i_prices rfl fzt_ot) (xe_var 4) hv.1.1)) (xe_tdget (hu_of hr.units) (xe_fattr (xe_var 0) (Wk.isT self) Wk.i_prices rfl fzt_ot) (xe_var 2) hv.1.2))) (fun hc1 => (have hv_hc1 : (s2.length < 100000) := hv.2 hc1; (xo_nxt (xs_append (y := (s2 ++ [y2.2])) (fun z : List (T3 Int Int Int) => (ol z)) (xpl_name 1) (XE.n (xe_var 4)) rfl rfl (lt_map hv_hc1) ((li_app rfl).trans rfl)) (fun (found' : List (T3 Int Int Int)) h_found' => (xo_one (xs_brk (s := found') (by exact (.same (.same (.same (.no (.no .nil)))))))))))) (fun hc2 => ((xo_end (s := s2) (by exact (.same (.same (.same (.no (.no .nil)))))))))) (by rfl)))) (fun (r2 : (List (T3 Int Int Int))) h_r2 => (xo_end (s := r2) (by exact (.same (.same (.no (.same (.same .nil))))))))))) (by rfl)))) (fun (r1 : (List (T3 Int Int Int))) h_r1 => (xf_one (xs_retM (R := RcG as (fun r : (List (T3 Int Int Int)) => [none]) (fun r : (List (T3 Int Int Int)) => .ow none (ol r)) (fun _ => none)) (r := r1) (xm_give 1) (rg_of (by exact trivial)) rfl rfl)))))) (by rfl)
abbrev s_need_alike : Stmt := top 17
theorem sc_need_alike : FnScope ["one", "other"] ["one", "other"] (defScope s_need_alike) := ⟨rfl, rfl, rfl, by decide +kernel, rfl, by decide +kernel, by decide +kernel⟩
set_option maxHeartbeats 4000000 in
theorem ok_need_alike (T : Txt K mg) : Fk P w K mg base (L2.CX P w) "need_alike" ["one", "other"] [] 2 (SpG K mg (fun a : (List (List (Str × Int))) × (List (List (Str × Int))) × Unit => ([.fz (a.1 : List (List (Str × Int))), .fz (a.2.1 : List (List (Str × Int)))] : List ArgD)) (fun a : (List (List (Str × Int))) × (List (List (Str × Int))) × Unit => v_need_alike a.1 a.2.1) (fun r : Unit => ([none, none] : List (Option OT))) (fun r : Unit => (.fz (r : Unit) : Slot)) (fun _ => none) (fun a : (List (List (Str × Int))) × (List (List (Str × Int))) × Unit => m_need_alike a.1 a.2.1)) := by
  refine fk_of (nf := (fun s : Unit => s)) (G := (fun as (s : Unit) => [.no, .no])) T.d_need_alike sc_need_alike (fun _ => rfl) (fun _ _ _ _ _ _ us hl => match us, hl with | [_, _], _ => rfl) (fun _ _ => rfl) (fun as s => ⟨rfl, rfl, rg_of (by exact trivial)⟩) ?_
  intro f cdv A outer s H E c as a hr hp
  obtain ⟨one, other, ⟨⟩⟩ := a
  have nd := sc_need_alike.nd
  have hp : v_need_alike one other := hp
  delta v_need_alike at hp
  refine XF.gam (Γ' := [.fz (one : List (List (Str × Int))), .fz (other : List (List (Str × Int)))]) rfl ?_
  exact XF.eq (xf_ifx (xt_c (xc_neD hr.units (xe_callZ (r := (one, ())) (ok_size_of T) hr (by decide) (xr_fz (xe_var 0) xr_nil) hp.1.1) (xe_callZ (r := (other, ())) (ok_size_of T) hr (by decide) (xr_fz (xe_var 1) xr_nil) hp.1.2) (PyDn.all _) (PyDn.all _))) (fun hc1 => (have hv_hc1 : (False) := hp.2 hc1; (xf_never hv_hc1))) (fun hc2 => ((xf_end (s := ()) (by exact (.no (.no .nil))) rfl)))) (by rfl)
abbrev s_least_worth : Stmt := top 18
theorem sc_least_worth : FnScope ["one", "other"] ["one", "other"] (defScope s_least_worth) := ⟨rfl, rfl, rfl, by decide +kernel, rfl, by decide +kernel, by decide +kernel⟩
set_option maxHeartbeats 4000000 in
theorem ok_least_worth (T : Txt K mg) : Fk P w K mg base (L2.CX P w) "least_worth" ["one", "other"] [] 6 (SpG K mg (fun a : (List (List (Str × Int))) × (List (List (Str × Int))) × Unit => ([.fz (a.1 : List (List (Str × Int))), .fz (a.2.1 : List (List (Str × Int)))] : List ArgD)) (fun a : (List (List (Str × Int))) × (List (List (Str × Int))) × Unit => v_least_worth a.1 a.2.1) (fun r : Int => ([none, none] : List (Option OT))) (fun r : Int => (.fz (r : Int) : Slot)) (fun _ => none) (fun a : (List (List (Str × Int))) × (List (List (Str × Int))) × Unit => m_least_worth a.1 a.2.1)) := by
  refine fk_of (nf := (fun e : Empty => e.elim)) (G := (fun _ (e : Empty) => e.elim)) T.d_least_worth sc_least_worth (fun _ => rfl) (fun _ _ _ _ _ _ us hl => match us, hl with | [_, _], _ => rfl) (fun _ _ => rfl) (fun _ e => e.elim) ?_
  intro f cdv A outer s H E c as a hr hp
  obtain ⟨one, other, ⟨⟩⟩ := a
  have nd := sc_least_worth.nd
  have hp : v_least_worth one other := hp
  delta v_least_worth at hp
  refine XF.gam (Γ' := [.fz (one : List (List (Str × Int))), .fz (other : List (List (Str × Int)))]) rfl ?_
  exact XF.eq (xf_seq (xs_expr (xe_callZ (r := (one, other, ())) (ok_need_alike T) hr (by decide) (xr_fz (xe_var 0) (xr_fz (xe_var 1) xr_nil)) hp.1)) (xf_one (xs_ret (xe_tdget (hu_of hr.units) (xe_fattr (XN.fr (xn_makeZ (r := ((), one, other, ())) (ok_Walk_init T) T.cl_Walk hr (by decide) (xr_fz (xe_var 0) (xr_fz (xe_var 1) xr_nil)) hp.2.1) fzt_ot) (Wk.isT (m_Walk_init () one other)) Wk.i_prices rfl fzt_ot) (xe_tup (υ := T3 Int Int Int) (xa_cons xe_int (xa_cons xe_int (xa_cons (xe_gi T.c_GOING) xa_nil)))) hp.2.2) (rg_of (by exact trivial)) rfl rfl))) (by rfl)
abbrev s_grown : Stmt := top 19
theorem sc_grown : FnScope ["rows", "sort", "row", "side"] ["rows", "sort", "row"] (defScope s_grown) := ⟨rfl, rfl, rfl, by decide +kernel, rfl, by decide +kernel, by decide +kernel⟩
set_option maxHeartbeats 4000000 in
theorem ok_grown (T : Txt K mg) : Fk P w K mg base (L2.CX P w) "grown" ["rows", "sort", "row"] [] 1 (SpG K mg (fun a : (List Dd) × Str × Int × Unit => ([ArgD.ow (ol a.1), .fz (a.2.1 : Str), .fz (a.2.2.1 : Int)] : List ArgD)) (fun a : (List Dd) × Str × Int × Unit => v_grown a.1 a.2.1 a.2.2.1) (fun r : (List Dd) => ([some (ol r), none, none] : List (Option OT))) (fun r : (List Dd) => (.fz () : Slot)) (fun _ => none) (fun a : (List Dd) × Str × Int × Unit => m_grown a.1 a.2.1 a.2.2.1)) := by
  refine fk_of (nf := (fun s : (List Dd) => s)) (G := (fun as (s : (List Dd)) => [.ow (some (as 0)) (ol s), .no, .no, .no])) T.d_grown sc_grown (fun _ => rfl) (fun _ _ _ _ _ _ us hl => match us, hl with | [_, _, _], _ => rfl) (fun _ _ => rfl) (fun as s => ⟨rfl, rfl, rg_of (by exact ⟨rfl, trivial⟩)⟩) ?_
  intro f cdv A outer s H E c as a hr hp
  obtain ⟨rows, sort, row, ⟨⟩⟩ := a
  have nd := sc_grown.nd
  have hp : v_grown rows sort row := hp
  delta v_grown at hp
  refine XF.gam (Γ' := [.ow (some (as 0)) (ol rows), .fz (sort : Str), .fz (row : Int), .no]) rfl ?_
  exact XF.eq (xf_nxtv (xs_let 3 nd (xe_and (xe_thaw 0 rfl FzT.ol (xe_c (xc_neD hr.units (xe_var 0) (XN.fr (XN.eq (xn_lst (ts := []) xns_nil (le100 rfl)) (t' := (ol ([] : List Dd))) rfl) FzT.ol) hp.1.1 hp.1.2.1))) (fun hc1 => (xe_one (xe_c (xc_eqS (xe_add (Dd.xe_1 (xe_thaw 0 rfl FzT.ol (xe_ixl (xe_var 0) (xe_neg xe_int) (hp.1.2.2 hc1).1)) (hp.1.2.2 hc1).2.1) (xe_mulG (Dd.xe_2 (xe_thaw 0 rfl FzT.ol (xe_ixl (xe_var 0) (xe_neg xe_int) (hp.1.2.2 hc1).2.2.1)) (hp.1.2.2 hc1).2.2.2.1) (xe_intB T.b_int (xe_c (xc_eqS (xe_var 1) xe_str))) (hp.1.2.2 hc1).2.2.2.2)) (xe_var 2))))))) hp.2 (fun (side : Bool) h_side hv_side => (xf_ife (xt_val (xe_var 3)) (fun hc2 => (have hv_hc2 : ((InB rows (-1)) ∧ ((ix rows (-1)).has1 = true) ∧ (InB rows (-1)) ∧ ((ix rows (-1)).has2 = true) ∧ (InB rows (-1))) := hv_side.1 hc2; (xf_nxt (xs_iset (y := (stI rows (-1) (Dd.cp sort (ix rows (-1)).at1 ((ix rows (-1)).at2 + 1)))) (fun z : List Dd => (ol z)) (XE.n (Dd.mk_cp (xe_tup (υ := T3 Str Int Int) (xa_cons (xe_var 1) (xa_cons (Dd.xe_1 (xe_thaw 0 rfl FzT.ol (xe_ixl (xe_var 0) (xe_neg xe_int) hv_hc2.1)) hv_hc2.2.1) (xa_cons (xe_add (Dd.xe_2 (xe_thaw 0 rfl FzT.ol (xe_ixl (xe_var 0) (xe_neg xe_int) hv_hc2.2.2.1)) hv_hc2.2.2.2.1) xe_int) xa_nil)))))) (xpl_name 0) (xe_neg xe_int) rfl rfl (ixn_ok hv_hc2.2.2.2.2) ((li_set rfl hv_hc2.2.2.2.2).trans rfl)) (fun (rows' : List Dd) h_rows' => (xf_end (s := rows') (by exact (.same (.no (.no (.no .nil))))) rfl))))) (fun hc3 => (have hv_hc3 : (rows.length < 100000) := hv_side.2 hc3; (xf_nxt (xs_append (y := (rows ++ [(Dd.cp sort row 1)])) (fun z : List Dd => (ol z)) (xpl_name 0) (XE.n (Dd.mk_cp (xe_tup (υ := T3 Str Int Int) (xa_cons (xe_var 1) (xa_cons (xe_var 2) (xa_cons xe_int xa_nil)))))) rfl rfl (lt_map hv_hc3) ((li_app rfl).trans rfl)) (fun (rows'' : List Dd) h_rows'' => (xf_end (s := rows'') (by exact (.same (.no (.no (.no .nil))))) rfl)))))))) (by rfl)
abbrev s_least_way : Stmt := top 20
theorem sc_least_way : FnScope ["one", "other", "walk", "knots", "cuts", "puts", "found", "here", "later", "row", "deed"] ["one", "other"] (defScope s_least_way) := ⟨rfl, rfl, rfl, by decide +kernel, rfl, by decide +kernel, by decide +kernel⟩
set_option maxHeartbeats 4000000 in
theorem ok_least_way (T : Txt K mg) : Fk P w K mg base (L2.CX P w) "least_way" ["one", "other"] [] 6 (SpG K mg (fun a : (List (List (Str × Int))) × (List (List (Str × Int))) × Unit => ([.fz (a.1 : List (List (Str × Int))), .fz (a.2.1 : List (List (Str × Int)))] : List ArgD)) (fun a : (List (List (Str × Int))) × (List (List (Str × Int))) × Unit => v_least_way a.1 a.2.1) (fun r : (List Dd) => ([none, none] : List (Option OT))) (fun r : (List Dd) => (.ow none (ol r) : Slot)) (fun _ => none) (fun a : (List (List (Str × Int))) × (List (List (Str × Int))) × Unit => m_least_way a.1 a.2.1)) := by
  refine fk_of (nf := (fun e : Empty => e.elim)) (G := (fun _ (e : Empty) => e.elim)) T.d_least_way sc_least_way (fun _ => rfl) (fun _ _ _ _ _ _ us hl => match us, hl with | [_, _], _ => rfl) (fun _ _ => rfl) (fun _ e => e.elim) ?_
  intro f cdv A outer s H E c as a hr hp
  obtain ⟨one, other, ⟨⟩⟩ := a
  have nd := sc_least_way.nd
  have hp : v_least_way one other := hp
  delta v_least_way at hp
  refine XF.gam (Γ' := [.fz (one : List (List (Str × Int))), .fz (other : List (List (Str × Int))), .no, .no, .no, .no, .no, .no, .no, .no, .no]) rfl ?_
  exact XF.eq (xf_seq (xs_expr (xe_callZ (r := (one, other, ())) (ok_need_alike T) hr (by decide) (xr_fz (xe_var 0) (xr_fz (xe_var 1) xr_nil)) hp.1)) (xf_nxtv (xs_let 2 nd (XN.fr (xn_makeZ (r := ((), one, other, ())) (ok_Walk_init T) T.cl_Walk hr (by decide) (xr_fz (xe_var 0) (xr_fz (xe_var 1) xr_nil)) hp.2.1) fzt_ot)) hp.2.2 (fun (walk : Wk) h_walk hv_walk => (xf_nxtv (xs_let 3 nd (XN.fr (xn_meth0 (r := (walk, ())) (ok_Walk_knots T) T.cl_Walk hr (by decide) (xe_var 2) (Wk.isT walk) (by decide +kernel) hv_walk.1 rfl rfl rfl) FzT.ol)) hv_walk.2 (fun (knots : List (T3 Int Int Int)) h_knots hv_knots => (xf_nxtv (xs_letN (x := ([] : List Dd)) ol 4 nd (XN.eq (xn_lst (ts := []) xns_nil (le100 rfl)) (t' := (ol ([] : List Dd))) rfl)) hv_knots (fun (cuts : List Dd) h_cuts hv_cuts => (xf_nxtv (xs_letN (x := ([] : List Dd)) ol 5 nd (XN.eq (xn_lst (ts := []) xns_nil (le100 rfl)) (t' := (ol ([] : List Dd))) rfl)) hv_cuts (fun (puts : List Dd) h_puts hv_puts => (xf_nxtv (xs_letN (x := ([] : List Dd)) ol 6 nd (XN.eq (xn_lst (ts := []) xns_nil (le100 rfl)) (t' := (ol ([] : List Dd))) rfl)) hv_puts (fun (found : List Dd) h_found hv_found => (xf_cons (xs_forV (R := RcG as (fun r : (List Dd) => [none, none]) (fun r : (List Dd) => .ow none (ol r)) (fun _ => none)) (f := m_least_way_f1 other walk) (vb := (v_least_way_f1 other walk)) (L := (fun s1 : (List Dd) × (List Dd) × (List Dd) => [.fz (one : List (List (Str × Int))), .fz (other : List (List (Str × Int))), .fz (walk : Wk), .fz (knots : List (T3 Int Int Int)), .ow none (ol s1.1), .ow none (ol s1.2.1), .ow none (ol s1.2.2), .no, .no, .no, .no])) (s0 := (cuts, puts, found)) (xi_zip T.b_zip (xe_var 3) (XN.fr (xn_slice (xq_fz (xe_var 3)) (xp_some xe_int) xp_none) FzT.ol)) (xg_tup (xgs_cons (xg_name 7 nd) (xgs_cons (xg_name 8 nd) xgs_nil))) (by exact (.same (.same (.same (.same (.same (.same (.same (.same (.same (.same (.same .nil)))))))))))) hv_found.1 (fun (y1 : (T3 Int Int Int) × (T3 Int Int Int)) (s1 : (List Dd) × (List Dd) × (List Dd)) hv => (XO.eq (xo_ifx (xt_c (xc_eqS (xe_t3c (xe_var 8)) (xe_gi T.c_CUTTING))) (fun hc1 => (have hv_hc1 : ((s1.1.length ≤ 100000) ∧ (∀ deed ∈ (s1.1 : List Dd), (deed.has2 = true)) ∧ (v_grown s1.1 ("cut" : Str) (y1.1.a - (s1.1.map (fun deed : Dd => deed.at2)).sum))) := hv.1 hc1; (xo_nxt (xs_exprM (y := (m_grown s1.1 ("cut" : Str) (y1.1.a - (s1.1.map (fun deed : Dd => deed.at2)).sum))) (Γ1 := fun u => [.fz (one : List (List (Str × Int))), .fz (other : List (List (Str × Int))), .fz (walk : Wk), .fz (knots : List (T3 Int Int Int)), .ow none (ol u), .ow none (ol s1.2.1), .ow none (ol s1.2.2), .fz (y1.1 : T3 Int Int Int), .fz (y1.2 : T3 Int Int Int), .no, .no]) (xm_call (r := (s1.1, ("cut" : Str), (y1.1.a - (s1.1.map (fun deed : Dd => deed.at2)).sum), ())) (ok_grown T) hr (by decide) (xr_pl (xpl_name 4) (xr_fz xe_str (xr_fz (xe_sub (xe_t3a (xe_var 7)) (xe_sum T.b_sum (XN.fr (xn_thaw 4 rfl FzT.ol OTl.ol (xn_lcT (h := fun deed : Dd => deed.at2) (e := (fun z : Int => OT.fz z)) [("deed", 10)] nd (xi_listL (xe_var 4)) hv_hc1.1 (fun q => (xg_name 10 nd)) (fun (deed : Dd) hy_deed q => (XE.n (Dd.xe_2 (xe_var 10) (hv_hc1.2.1 deed hy_deed)))) (ok := by first | (show blkC ["one", "other", "walk", "knots", "cuts", "puts", "found", "here", "later", "row", "deed"] (defScope s_least_way) _ _ = true; decide +kernel) | exact rfl))) FzT.ol))) xr_nil))) hv_hc1.2.2 rfl ⟨⟨rfl, rfl, rfl⟩, trivial⟩ (show List.Nodup ([4] : List Nat) by decide) rfl)) (fun (u : (List Dd)) h_u => (xo_one (xs_cnt (s := (u, s1.2.1, s1.2.2)) (by exact (.same (.same (.same (.same (.same (.same (.same (.no (.no (.same (.same .nil)))))))))))))))))) (fun hc2 => (have hv_hc2 : ((InB walk.rows y1.1.a) ∧ (bnd ((ix walk.rows y1.1.a)) fun (row : List (Str × Int)) => ((((decide (y1.2.c = 2)) = true → ((v_grown s1.2.1 ("put" : Str) y1.1.b) ∧ (bnd ((m_grown s1.2.1 ("put" : Str) y1.1.b)) fun (u' : (List Dd)) => (InB walk.rows walk.high))))) ∧ (bnd (if (decide (y1.2.c = 2)) then ( bnd ((m_grown s1.2.1 ("put" : Str) y1.1.b)) fun (u' : (List Dd)) => bnd ((ix walk.rows walk.high)) fun (row' : List (Str × Int)) => (u', row')) else ( (s1.2.1, row))) fun (j : (List Dd) × (List (Str × Int))) => ((InB other y1.1.b) ∧ (v_writings y1.1.b j.2 (ix other y1.1.b)) ∧ (s1.2.2.length + (m_writings y1.1.b j.2 (ix other y1.1.b)).length ≤ 100000)))))) := hv.2 hc2; (xo_nxtv (xs_let 9 nd (xe_ixl (xe_fattr (xe_var 2) (Wk.isT walk) Wk.i_rows rfl FzT.ol) (xe_t3a (xe_var 7)) hv_hc2.1)) hv_hc2.2 (fun (row : List (Str × Int)) h_row hv_row => (xo_nxtv (kV := fun j : (List Dd) × (List (Str × Int)) => ((InB other y1.1.b) ∧ (v_writings y1.1.b j.2 (ix other y1.1.b)) ∧ (s1.2.2.length + (m_writings y1.1.b j.2 (ix other y1.1.b)).length ≤ 100000))) (xs_ifs (G := (fun s : (List Dd) × (List (Str × Int)) => [.fz (one : List (List (Str × Int))), .fz (other : List (List (Str × Int))), .fz (walk : Wk), .fz (knots : List (T3 Int Int Int)), .ow none (ol s1.1), .ow none (ol s.1), .ow none (ol s1.2.2), .fz (y1.1 : T3 Int Int Int), .fz (y1.2 : T3 Int Int Int), .fz (s.2 : List (Str × Int)), .no])) (xt_c (xc_eqS (xe_t3c (xe_var 8)) (xe_gi T.c_PUTTING))) (fun hc4 => (have hv_hc4 : ((v_grown s1.2.1 ("put" : Str) y1.1.b) ∧ (bnd ((m_grown s1.2.1 ("put" : Str) y1.1.b)) fun (u' : (List Dd)) => (InB walk.rows walk.high))) := hv_row.1 hc4; (xn_nxtv (xs_exprM (y := (m_grown s1.2.1 ("put" : Str) y1.1.b)) (Γ1 := fun u' => [.fz (one : List (List (Str × Int))), .fz (other : List (List (Str × Int))), .fz (walk : Wk), .fz (knots : List (T3 Int Int Int)), .ow none (ol s1.1), .ow none (ol u'), .ow none (ol s1.2.2), .fz (y1.1 : T3 Int Int Int), .fz (y1.2 : T3 Int Int Int), .fz (row : List (Str × Int)), .no]) (xm_call (r := (s1.2.1, ("put" : Str), y1.1.b, ())) (ok_grown T) hr (by decide) (xr_pl (xpl_name 5) (xr_fz xe_str (xr_fz (xe_t3b (xe_var 7)) xr_nil))) hv_hc4.1 rfl ⟨⟨rfl, rfl, rfl⟩, trivial⟩ (show List.Nodup ([5] : List Nat) by decide) rfl)) hv_hc4.2 (fun (u' : (List Dd)) h_u' hv_u' => (xn_nxt (xs_let 9 nd (xe_ixl (xe_fattr (xe_var 2) (Wk.isT walk) Wk.i_rows rfl FzT.ol) (xe_fattr (xe_var 2) (Wk.isT walk) Wk.i_high rfl FzT.fz) hv_u')) (fun (row' : List (Str × Int)) h_row' => (xo_end (s := (u', row')) (by exact (.same (.same (.same (.same (.same (.same (.same (.same (.same (.same (.same .nil))))))))))))))))))) (fun hc5 => ((xo_end (s := (s1.2.1, row)) (by exact (.same (.same (.same (.same (.same (.same (.same (.same (.same (.same (.same .nil)))))))))))))))) hv_row.2 (fun (j : (List Dd) × (List (Str × Int))) h_j hv_j => (xo_nxt (xs_extend (y := (s1.2.2 ++ (m_writings y1.1.b j.2 (ix other y1.1.b)))) (fun z : List Dd => (ol z)) (xpl_name 6) (xq_n (xn_callZ (r := (y1.1.b, j.2, (ix other y1.1.b), ())) (ok_writings T) hr (by decide) (xr_fz (xe_t3b (xe_var 7)) (xr_fz (xe_var 9) (xr_fz (xe_ixl (xe_var 1) (xe_t3b (xe_var 7)) hv_j.1) xr_nil))) hv_j.2.1)) rfl rfl (le_map hv_j.2.2) ((li_cat rfl).trans rfl)) (fun (found' : List Dd) h_found' => (xo_end (s := (s1.1, j.1, found')) (by exact (.same (.same (.same (.same (.same (.same (.same (.no (.no (.no (.same .nil)))))))))))))))))))))) (by rfl)))) (fun (r1 : (List Dd) × (List Dd) × (List Dd)) h_r1 => (have hv_r1 : ((r1.1.length + r1.2.1.length ≤ 100000) ∧ ((r1.1 ++ r1.2.1).length + r1.2.2.length ≤ 100000)) := hv_found.2 r1 h_r1; (xf_one (xs_retM (XN.m (xn_cat (xq_n (xn_thaw 4 rfl FzT.ol OTl.ol (xn_thaw 5 rfl FzT.ol OTl.ol (xn_cat (xq_fz (xe_var 4)) (xq_fz (xe_var 5)) hv_r1.1)))) (xq_pl (xpl_name 6) rfl rfl) hv_r1.2)) (rg_of (by exact trivial)) rfl rfl)))))))))))))))) (by rfl)
abbrev s_l_cell_at : Stmt := top 22
theorem sc_l_cell_at : FnScope ["_law_script", "_law_k"] ["_law_script", "_law_k"] (defScope s_l_cell_at) := ⟨rfl, rfl, rfl, by decide +kernel, rfl, by decide +kernel, by decide +kernel⟩
set_option maxHeartbeats 4000000 in
theorem ok_l_cell_at (T : Txt K mg) : Fk P w K mg base (L2.CX P w) "_law_cell_at" ["_law_script", "_law_k"] [] 1 (SpG K mg (fun a : (Scr Int) × Int × Unit => ([.fz (a.1 : Scr Int), .fz (a.2.1 : Int)] : List ArgD)) (fun a : (Scr Int) × Int × Unit => v_l_cell_at a.1 a.2.1) (fun r : Int => ([none, none] : List (Option OT))) (fun r : Int => (.fz (r : Int) : Slot)) (fun _ => none) (fun a : (Scr Int) × Int × Unit => m_l_cell_at a.1 a.2.1)) := by
  refine fk_of (nf := (fun e : Empty => e.elim)) (G := (fun _ (e : Empty) => e.elim)) T.d_l_cell_at sc_l_cell_at (fun _ => rfl) (fun _ _ _ _ _ _ us hl => match us, hl with | [_, _], _ => rfl) (fun _ _ => rfl) (fun _ e => e.elim) ?_
  intro f cdv A outer s H E c as a hr hp
  obtain ⟨script, k, ⟨⟩⟩ := a
  have nd := sc_l_cell_at.nd
  have hp : v_l_cell_at script k := hp
  delta v_l_cell_at at hp
  refine XF.gam (Γ' := [.fz (script : Scr Int), .fz (k : Int)]) rfl ?_
  exact XF.eq (xf_ifx (xt_c (xc_lt (xe_var 1) (xe_lenr T.b_len (xe_var 0)))) (fun hc1 => (have hv_hc1 : (InB script.l k) := hp hc1; (xf_one (xs_ret (xe_ixr (xe_var 0) (xe_var 1) hv_hc1) (rg_of (by exact trivial)) rfl rfl)))) (fun hc2 => ((xf_one (xs_ret xe_int (rg_of (by exact trivial)) rfl rfl))))) (by rfl)
abbrev s_l_mixed : Stmt := top 23
theorem sc_l_mixed : FnScope ["_law_script", "_law_k", "_law_number"] ["_law_script", "_law_k"] (defScope s_l_mixed) := ⟨rfl, rfl, rfl, by decide +kernel, rfl, by decide +kernel, by decide +kernel⟩
set_option maxHeartbeats 4000000 in
theorem ok_l_mixed (T : Txt K mg) : Fk P w K mg base (L2.CX P w) "_law_mixed" ["_law_script", "_law_k"] [] 2 (SpG K mg (fun a : (Scr Int) × Int × Unit => ([.fz (a.1 : Scr Int), .fz (a.2.1 : Int)] : List ArgD)) (fun a : (Scr Int) × Int × Unit => v_l_mixed a.1 a.2.1) (fun r : Int => ([none, none] : List (Option OT))) (fun r : Int => (.fz (r : Int) : Slot)) (fun _ => none) (fun a : (Scr Int) × Int × Unit => m_l_mixed a.1 a.2.1)) := by
  refine fk_of (nf := (fun e : Empty => e.elim)) (G := (fun _ (e : Empty) => e.elim)) T.d_l_mixed sc_l_mixed (fun _ => rfl) (fun _ _ _ _ _ _ us hl => match us, hl with | [_, _], _ => rfl) (fun _ _ => rfl) (fun _ e => e.elim) ?_
  intro f cdv A outer s H E c as a hr hp
  obtain ⟨script, k, ⟨⟩⟩ := a
  have nd := sc_l_mixed.nd
  have hp : v_l_mixed script k := hp
  delta v_l_mixed at hp
  refine XF.gam (Γ' := [.fz (script : Scr Int), .fz (k : Int), .no]) rfl ?_
  exact XF.eq (xf_nxtv (xs_let 2 nd (xe_mod (xe_add (xe_add (xe_mul (xe_callZ (r := (script, k, ())) (ok_l_cell_at T) hr (by decide) (xr_fz (xe_var 0) (xr_fz (xe_var 1) xr_nil)) hp.1) xe_int (.inr (by decide))) (xe_mul xe_int (xe_var 1) (.inl (by decide)))) xe_int) xe_int (by decide))) hp.2 (fun (number : Int) h_number hv_number => (xf_one (xs_ret (xe_mod (xe_mulG (xe_var 2) (xe_add (xe_var 2) (xe_mul xe_int (xe_var 1) (.inl (by decide)))) hv_number) xe_int (by decide)) (rg_of (by exact trivial)) rfl rfl)))) (by rfl)
abbrev s_l_ink : Stmt := top 24
theorem sc_l_ink : FnScope ["_law_number"] ["_law_number"] (defScope s_l_ink) := ⟨rfl, rfl, rfl, by decide +kernel, rfl, by decide +kernel, by decide +kernel⟩
set_option maxHeartbeats 4000000 in
theorem ok_l_ink (T : Txt K mg) : Fk P w K mg base (L2.CX P w) "_law_ink" ["_law_number"] [] 1 (SpG K mg (fun a : Int × Unit => ([.fz (a.1 : Int)] : List ArgD)) (fun a : Int × Unit => True) (fun r : Int => ([none] : List (Option OT))) (fun r : Int => (.fz (r : Int) : Slot)) (fun _ => none) (fun a : Int × Unit => m_l_ink a.1)) := by
  refine fk_of (nf := (fun e : Empty => e.elim)) (G := (fun _ (e : Empty) => e.elim)) T.d_l_ink sc_l_ink (fun _ => rfl) (fun _ _ _ _ _ _ us hl => match us, hl with | [_], _ => rfl) (fun _ _ => rfl) (fun _ e => e.elim) ?_
  intro f cdv A outer s H E c as a hr hp
  obtain ⟨number, ⟨⟩⟩ := a
  have nd := sc_l_ink.nd
  refine XF.gam (Γ' := [.fz (number : Int)]) rfl ?_
  exact XF.eq (xf_ifx (xt_c (xc_eqS (xe_mod (xe_var 0) xe_int (by decide)) xe_int)) (fun hc1 => ((xf_one (xs_ret (xe_mod (xe_div (xe_var 0) xe_int ⟨by decide, by decide⟩) xe_int (by decide)) (rg_of (by exact trivial)) rfl rfl)))) (fun hc2 => ((xf_one (xs_ret (xe_ixl (xe_lst (xl_cons xe_int (xl_cons xe_int (xl_cons xe_int (xl_cons xe_int (xl_cons xe_int (xl_cons xe_int xl_nil)))))) (le100 rfl)) (xe_mod (xe_div (xe_var 0) xe_int ⟨by decide, by decide⟩) xe_int (by decide)) (inB_mod 6 rfl (by decide))) (rg_of (by exact trivial)) rfl rfl))))) (by rfl)
abbrev s_l_sign : Stmt := top 25
theorem sc_l_sign : FnScope ["_law_number", "_law_some"] ["_law_number"] (defScope s_l_sign) := ⟨rfl, rfl, rfl, by decide +kernel, rfl, by decide +kernel, by decide +kernel⟩
set_option maxHeartbeats 4000000 in
theorem ok_l_sign (T : Txt K mg) : Fk P w K mg base (L2.CX P w) "_law_sign" ["_law_number"] [] 1 (SpG K mg (fun a : Int × Unit => ([.fz (a.1 : Int)] : List ArgD)) (fun a : Int × Unit => v_l_sign a.1) (fun r : Str => ([none] : List (Option OT))) (fun r : Str => (.fz (r : Str) : Slot)) (fun _ => none) (fun a : Int × Unit => m_l_sign a.1)) := by
  refine fk_of (nf := (fun e : Empty => e.elim)) (G := (fun _ (e : Empty) => e.elim)) T.d_l_sign sc_l_sign (fun _ => rfl) (fun _ _ _ _ _ _ us hl => match us, hl with | [_], _ => rfl) (fun _ _ => rfl) (fun _ e => e.elim) ?_
  intro f cdv A outer s H E c as a hr hp
  obtain ⟨number, ⟨⟩⟩ := a
  have nd := sc_l_sign.nd
  have hp : v_l_sign number := hp
  delta v_l_sign at hp
  refine XF.gam (Γ' := [.fz (number : Int), .no]) rfl ?_
  exact XF.eq (xf_nxtv (xs_let 1 nd xe_str) hp (fun (someV : Str) h_someV hv_someV => (xf_nxtv (xs_let 1 nd (xe_adds (xe_var 1) xe_str hv_someV.1)) hv_someV.2 (fun (someV' : Str) h_someV' hv_someV' => (xf_one (xs_ret (xe_ixl (xe_lst (xl_cons xe_str (xl_cons (xe_ixS xe_str (xe_mod (xe_div (xe_var 0) xe_int ⟨by decide, by decide⟩) xe_int (by decide)) (inB_mod 4 rfl (by decide)) (by decide)) (xl_cons (xe_ixS (xe_var 1) (xe_mod (xe_div (xe_var 0) xe_int ⟨by decide, by decide⟩) xe_int (by decide)) hv_someV'.1 hv_someV'.2) (xl_cons xe_str xl_nil)))) (le100 rfl)) (xe_mod (xe_var 0) xe_int (by decide)) (inB_mod 4 rfl (by decide))) (rg_of (by exact trivial)) rfl rfl)))))) (by rfl)
abbrev s_l_row : Stmt := top 26
theorem sc_l_row : FnScope ["_law_number", "_law_wide", "_law_row_here", "_law_ink_here", "_law_place"] ["_law_number", "_law_wide"] (defScope s_l_row) := ⟨rfl, rfl, rfl, by decide +kernel, rfl, by decide +kernel, by decide +kernel⟩
set_option maxHeartbeats 4000000 in
theorem ok_l_row (T : Txt K mg) : Fk P w K mg base (L2.CX P w) "_law_row" ["_law_number", "_law_wide"] [] 2 (SpG K mg (fun a : Int × Int × Unit => ([.fz (a.1 : Int), .fz (a.2.1 : Int)] : List ArgD)) (fun a : Int × Int × Unit => v_l_row a.1 a.2.1) (fun r : (List (Str × Int)) => ([none, none] : List (Option OT))) (fun r : (List (Str × Int)) => (.ow none (ol r) : Slot)) (fun _ => none) (fun a : Int × Int × Unit => m_l_row a.1 a.2.1)) := by
  refine fk_of (nf := (fun e : Empty => e.elim)) (G := (fun _ (e : Empty) => e.elim)) T.d_l_row sc_l_row (fun _ => rfl) (fun _ _ _ _ _ _ us hl => match us, hl with | [_, _], _ => rfl) (fun _ _ => rfl) (fun _ e => e.elim) ?_
  intro f cdv A outer s H E c as a hr hp
  obtain ⟨number, wide, ⟨⟩⟩ := a
  have nd := sc_l_row.nd
  have hp : v_l_row number wide := hp
  delta v_l_row at hp
  refine XF.gam (Γ' := [.fz (number : Int), .fz (wide : Int), .no, .no, .no]) rfl ?_
  exact XF.eq (xf_nxtv (xs_letN (x := ([] : List (Str × Int))) ol 2 nd (XN.eq (xn_lst (ts := []) xns_nil (le100 rfl)) (t' := (ol ([] : List (Str × Int)))) rfl)) hp (fun (row_here : List (Str × Int)) h_row_here hv_row_here => (xf_nxtv (xs_let 3 nd (xe_callZ (r := (number, ())) (ok_l_ink T) hr (by decide) (xr_fz (xe_var 0) xr_nil) trivial)) hv_row_here (fun (ink_here : Int) h_ink_here hv_ink_here => (xf_nxt (xs_foldV (g := m_l_row_f1) (vb := (v_l_row_f1)) (L := (fun s1 : Int × Int × (List (Str × Int)) => [.fz (s1.1 : Int), .fz (wide : Int), .ow none (ol s1.2.2), .fz (s1.2.1 : Int), .no])) (s0 := (number, ink_here, row_here)) (xi_range1 T.b_range (xe_var 1) hv_ink_here.1) (xg_name 4 nd) (by exact (.same (.same (.same (.same (.same .nil)))))) hv_ink_here.2 (fun (place : Int) (s1 : Int × Int × (List (Str × Int))) hv => (XO.eq (xn_nxtv (xs_let 0 nd (xe_add (xe_mod (xe_mul (xe_var 0) xe_int (.inr (by decide))) xe_int (by decide)) (xe_var 4))) hv (fun (number' : Int) h_number' hv_number' => (xn_nxtv (kV := fun j : Int => ((v_l_sign (number' / 32)) ∧ (s1.2.2.length < 100000))) (xs_ifs (G := (fun s : Int => [.fz (number' : Int), .fz (wide : Int), .ow none (ol s1.2.2), .fz (s : Int), .fz (place : Int)])) (xt_c (xc_eqS (xe_mod (xe_var 0) xe_int (by decide)) xe_int)) (fun hc1 => ((xn_nxt (xs_let 3 nd (xe_callZ (r := ((number' / 4), ())) (ok_l_ink T) hr (by decide) (xr_fz (xe_div (xe_var 0) xe_int ⟨by decide, by decide⟩) xr_nil) trivial)) (fun (ink_here' : Int) h_ink_here' => (xo_end (s := ink_here') (by exact (.same (.same (.same (.same (.same .nil))))))))))) (fun hc2 => ((xo_end (s := s1.2.1) (by exact (.same (.same (.same (.same (.same .nil)))))))))) hv_number' (fun (j : Int) h_j hv_j => (xn_nxt (xs_append (y := (s1.2.2 ++ [((m_l_sign (number' / 32)), j)])) (fun z : List (Str × Int) => (ol z)) (xpl_name 2) (XE.n (xe_tup (υ := Str × Int) (xa_cons (xe_callZ (r := ((number' / 32), ())) (ok_l_sign T) hr (by decide) (xr_fz (xe_div (xe_var 0) xe_int ⟨by decide, by decide⟩) xr_nil) hv_j.1) (xa_cons (xe_var 3) xa_nil)))) rfl rfl (lt_map hv_j.2) ((li_app rfl).trans rfl)) (fun (row_here' : List (Str × Int)) h_row_here' => (xo_end (s := (number', j, row_here')) (by exact (.same (.same (.same (.same (.no .nil))))))))))))) (by rfl)))) (fun (r1 : Int × Int × (List (Str × Int))) h_r1 => (xf_one (xs_retM (R := RcG as (fun r : (List (Str × Int)) => [none, none]) (fun r : (List (Str × Int)) => .ow none (ol r)) (fun _ => none)) (r := r1.2.2) (xm_give 2) (rg_of (by exact trivial)) rfl rfl)))))))) (by rfl)
abbrev s_l_turned : Stmt := top 28
theorem sc_l_turned : FnScope ["_law_script", "_law_first", "_law_picture_here", "_law_wide", "_law_rows", "_law_k", "_law_number", "_law_at", "_law_row_here", "_law_place", "_law_ink_here"] ["_law_script", "_law_first", "_law_picture_here"] (defScope s_l_turned) := ⟨rfl, rfl, rfl, by decide +kernel, rfl, by decide +kernel, by decide +kernel⟩
set_option maxHeartbeats 4000000 in
theorem ok_l_turned (T : Txt K mg) : Fk P w K mg base (L2.CX P w) "_law_turned" ["_law_script", "_law_first", "_law_picture_here"] [] 3 (SpG K mg (fun a : (Scr Int) × Int × (List (List (Str × Int))) × Unit => ([.fz (a.1 : Scr Int), .fz (a.2.1 : Int), .fz (a.2.2.1 : List (List (Str × Int)))] : List ArgD)) (fun a : (Scr Int) × Int × (List (List (Str × Int))) × Unit => v_l_turned a.1 a.2.1 a.2.2.1) (fun r : (List (List (Str × Int))) => ([none, none, none] : List (Option OT))) (fun r : (List (List (Str × Int))) => (.ow none ((OT.li ol) r) : Slot)) (fun _ => none) (fun a : (Scr Int) × Int × (List (List (Str × Int))) × Unit => m_l_turned a.1 a.2.1 a.2.2.1)) := by
  refine fk_of (nf := (fun e : Empty => e.elim)) (G := (fun _ (e : Empty) => e.elim)) T.d_l_turned sc_l_turned (fun _ => rfl) (fun _ _ _ _ _ _ us hl => match us, hl with | [_, _, _], _ => rfl) (fun _ _ => rfl) (fun _ e => e.elim) ?_
  intro f cdv A outer s H E c as a hr hp
  obtain ⟨script, first, picture_here, ⟨⟩⟩ := a
  have nd := sc_l_turned.nd
  have hp : v_l_turned script first picture_here := hp
  delta v_l_turned at hp
  refine XF.gam (Γ' := [.fz (script : Scr Int), .fz (first : Int), .fz (picture_here : List (List (Str × Int))), .no, .no, .no, .no, .no, .no, .no, .no]) rfl ?_
  exact XF.eq (xf_nxtv (xs_let 3 nd (xe_lenl T.b_len (xe_ixl (xe_var 2) xe_int hp.1))) hp.2 (fun (wide : Int) h_wide hv_wide => (xf_nxtv (xs_lcT 4 (h := fun row_here : List (Str × Int) => row_here) (e := ol) [("_law_row_here", 8)] nd (xi_listL (xe_var 2)) hv_wide.1 (fun q => (xg_name 8 nd)) (fun (row_here : List (Str × Int)) hy_row_here q => (xn_list T.b_list (xq_fz (xe_var 8)))) (ok := by first | (show blkC ["_law_script", "_law_first", "_law_picture_here", "_law_wide", "_law_rows", "_law_k", "_law_number", "_law_at", "_law_row_here", "_law_place", "_law_ink_here"] (defScope s_l_turned) _ _ = true; decide +kernel) | exact rfl) (th := Thaw.id) (Γt := [.fz (script : Scr Int), .fz (first : Int), .fz (picture_here : List (List (Str × Int))), .fz (wide : Int), .no, .no, .no, .no, .no, .no, .no])) hv_wide.2 (fun (rows : List (List (Str × Int))) h_rows hv_rows => (xf_nxt (xs_foldV (g := m_l_turned_f1 script wide) (vb := (v_l_turned_f1 script wide)) (L := (fun s1 : (List (List (Str × Int))) => [.fz (script : Scr Int), .fz (first : Int), .fz (picture_here : List (List (Str × Int))), .fz (wide : Int), .ow none ((OT.li ol) s1), .no, .no, .no, .no, .no, .no])) (s0 := rows) (xi_range2 T.b_range (xe_var 1) (xe_min T.b_min xe_int (xe_lenr T.b_len (xe_var 0))) hv_rows.1) (xg_name 5 nd) (by exact (.same (.same (.same (.same (.same (.same (.same (.same (.same (.same (.same .nil)))))))))))) hv_rows.2 (fun (k : Int) (s1 : (List (List (Str × Int)))) hv => (XO.eq (xn_nxtv (xs_let 6 nd (xe_callZ (r := (script, k, ())) (ok_l_mixed T) hr (by decide) (xr_fz (xe_var 0) (xr_fz (xe_var 5) xr_nil)) hv.1)) hv.2 (fun (number : Int) h_number hv_number => (xn_nxtv (xs_let 7 nd (xe_mod (xe_div (xe_var 6) xe_int ⟨by decide, by decide⟩) (xe_lenP T.b_len (xpl_name 4) rfl rfl) hv_number.1)) hv_number.2 (fun (atV : Int) h_atV hv_atV => (xn_nxt (xs_ifs (G := (fun s : (List (List (Str × Int))) => [.fz (script : Scr Int), .fz (first : Int), .fz (picture_here : List (List (Str × Int))), .fz (wide : Int), .ow none ((OT.li ol) s), .fz (k : Int), .fz (number : Int), .fz (atV : Int), .no, .no, .no])) (xt_c (xc_lt (xe_mod (xe_var 6) xe_int (by decide)) xe_int)) (fun hc2 => (have hv_hc2 : ((0 < wide) ∧ (bnd (((number / 192) % wide)) fun (place : Int) => (((InB s1 atV) ∧ (InB (ix s1 atV) place)) ∧ (bnd ((ix ([(ix (ix s1 atV) place).2, (m_l_ink (number / 7))] : List Int) ((number / 3) % 2))) fun (ink_here : Int) => ((v_l_sign (number / 4608)) ∧ (InB s1 atV) ∧ (InB (ix s1 atV) place)))))) := hv_atV.1 hc2; (xn_nxtv (xs_let 9 nd (xe_mod (xe_div (xe_var 6) xe_int ⟨by decide, by decide⟩) (xe_var 3) hv_hc2.1)) hv_hc2.2 (fun (place : Int) h_place hv_place => (xn_nxtv (xs_let 10 nd (xe_ixl (xe_lst (xl_cons (xe_snd (xe_thaw 4 rfl (FzT.lid fun _ => FzT.ol) (xe_ixl (xe_ixl (xe_var 4) (xe_var 7) hv_place.1.1) (xe_var 9) hv_place.1.2))) (xl_cons (xe_callZ (r := ((number / 7), ())) (ok_l_ink T) hr (by decide) (xr_fz (xe_div (xe_var 6) xe_int ⟨by decide, by decide⟩) xr_nil) trivial) xl_nil)) (le100 rfl)) (xe_mod (xe_div (xe_var 6) xe_int ⟨by decide, by decide⟩) xe_int (by decide)) (inB_mod 2 rfl (by decide)))) hv_place.2 (fun (ink_here : Int) h_ink_here hv_ink_here => (xn_nxt (xs_iset (y := (stI s1 atV (stI (ix s1 atV) place ((m_l_sign (number / 4608)), ink_here)))) (fun z : List (List (Str × Int)) => ((OT.li ol) z)) (XE.n (xe_tup (υ := Str × Int) (xa_cons (xe_callZ (r := ((number / 4608), ())) (ok_l_sign T) hr (by decide) (xr_fz (xe_div (xe_var 6) xe_int ⟨by decide, by decide⟩) xr_nil) hv_ink_here.1) (xa_cons (xe_var 10) xa_nil)))) (xpl_ix (xpl_name 4) (xe_var 7) rfl rfl (ixn_ok hv_ink_here.2.1)) (xe_var 9) rfl (get_ix (g := ol) rfl hv_ink_here.2.1) (ixn_ok hv_ink_here.2.2) ((li_set (get_ix (g := ol) rfl hv_ink_here.2.1) hv_ink_here.2.2).trans ((put_ix rfl hv_ink_here.2.1).trans rfl))) (fun (rows' : List (List (Str × Int))) h_rows' => (xo_end (s := rows') (by exact (.same (.same (.same (.same (.same (.same (.same (.same (.same (.no (.no .nil))))))))))))))))))))) (fun hc3 => (have hv_hc3 : (((decide ((number % 16) = 4)) = true → (((0 ≤ (atV : Int) ∧ (atV : Int) < 2 ^ 63) ∧ ((atV : Int).toNat < s1.length)) ∧ (bnd ((delI s1 atV)) fun (rows'' : List (List (Str × Int))) => ((wide ≤ 100000 ∧ ([((" " : Str), 0)] : List (Str × Int)).length * (wide : Int).toNat ≤ 100000) ∧ (-100000 ≤ wide) ∧ (rows''.length < 100000))))) ∧ ((decide ((number % 16) = 4)) = false → (((decide ((number % 16) = 5)) = true → (((v_l_row (number / 192) wide) ∧ (0 ≤ atV ∧ atV < 2 ^ 63) ∧ (s1.length < 100000)) ∧ (bnd ((insI s1 atV (m_l_row (number / 192) wide))) fun (rows_4 : List (List (Str × Int))) => (0 < rows_4.length)))) ∧ ((decide ((number % 16) = 5)) = false → ((decide ((number % 16) = 6)) = true → ((v_l_row (number / 192) wide) ∧ (InB s1 atV))))))) := hv_atV.2 hc3; (xn_nxt (xs_ifs (G := (fun s : (List (List (Str × Int))) => [.fz (script : Scr Int), .fz (first : Int), .fz (picture_here : List (List (Str × Int))), .fz (wide : Int), .ow none ((OT.li ol) s), .fz (k : Int), .fz (number : Int), .fz (atV : Int), .no, .no, .no])) (xt_c (xc_eqS (xe_mod (xe_var 6) xe_int (by decide)) xe_int)) (fun hc4 => (have hv_hc4 : (((0 ≤ (atV : Int) ∧ (atV : Int) < 2 ^ 63) ∧ ((atV : Int).toNat < s1.length)) ∧ (bnd ((delI s1 atV)) fun (rows'' : List (List (Str × Int))) => ((wide ≤ 100000 ∧ ([((" " : Str), 0)] : List (Str × Int)).length * (wide : Int).toNat ≤ 100000) ∧ (-100000 ≤ wide) ∧ (rows''.length < 100000)))) := hv_hc3.1 hc4; (xn_nxtv (xs_popAt (j := 0) (y := (delI s1 atV)) (fun z : List (List (Str × Int)) => ((OT.li ol) z)) (xpl_name 4) (xe_var 7) rfl rfl hv_hc4.1.1 (lt_mapn hv_hc4.1.2) ((li_del rfl).trans rfl)) hv_hc4.2 (fun (rows'' : List (List (Str × Int))) h_rows'' hv_rows'' => (xn_nxt (xs_append (y := (rows'' ++ [(List.replicate (wide : Int).toNat ([((" " : Str), 0)] : List (Str × Int))).flatten])) (fun z : List (List (Str × Int)) => ((OT.li ol) z)) (xpl_name 4) (xn_rep (xq_n (XN.eq (xn_lst (xns_cons (XE.n (xe_tup (υ := Str × Int) (xa_cons xe_str (xa_cons xe_int xa_nil)))) xns_nil) (le100 rfl)) (t' := (ol ([((" " : Str), 0)] : List (Str × Int)))) rfl)) (xe_var 3) hv_rows''.1 hv_rows''.2.1) rfl rfl (lt_map hv_rows''.2.2) ((li_app rfl).trans rfl)) (fun (rows''' : List (List (Str × Int))) h_rows''' => (xo_end (s := rows''') (by exact (.same (.same (.same (.same (.same (.same (.same (.same (.same (.same (.same .nil))))))))))))))))))) (fun hc5 => (have hv_hc5 : (((decide ((number % 16) = 5)) = true → (((v_l_row (number / 192) wide) ∧ (0 ≤ atV ∧ atV < 2 ^ 63) ∧ (s1.length < 100000)) ∧ (bnd ((insI s1 atV (m_l_row (number / 192) wide))) fun (rows_4 : List (List (Str × Int))) => (0 < rows_4.length)))) ∧ ((decide ((number % 16) = 5)) = false → ((decide ((number % 16) = 6)) = true → ((v_l_row (number / 192) wide) ∧ (InB s1 atV))))) := hv_hc3.2 hc5; (xn_nxt (xs_ifs (G := (fun s : (List (List (Str × Int))) => [.fz (script : Scr Int), .fz (first : Int), .fz (picture_here : List (List (Str × Int))), .fz (wide : Int), .ow none ((OT.li ol) s), .fz (k : Int), .fz (number : Int), .fz (atV : Int), .no, .no, .no])) (xt_c (xc_eqS (xe_mod (xe_var 6) xe_int (by decide)) xe_int)) (fun hc6 => (have hv_hc6 : (((v_l_row (number / 192) wide) ∧ (0 ≤ atV ∧ atV < 2 ^ 63) ∧ (s1.length < 100000)) ∧ (bnd ((insI s1 atV (m_l_row (number / 192) wide))) fun (rows_4 : List (List (Str × Int))) => (0 < rows_4.length))) := hv_hc5.1 hc6; (xn_nxtv (xs_insert (y := (insI s1 atV (m_l_row (number / 192) wide))) (fun z : List (List (Str × Int)) => ((OT.li ol) z)) (xpl_name 4) (xe_var 7) (xn_callZ (r := ((number / 192), wide, ())) (ok_l_row T) hr (by decide) (xr_fz (xe_div (xe_var 6) xe_int ⟨by decide, by decide⟩) (xr_fz (xe_var 3) xr_nil)) hv_hc6.1.1) hv_hc6.1.2.1 rfl rfl (lt_map hv_hc6.1.2.2) ((li_ins rfl).trans rfl)) hv_hc6.2 (fun (rows_4 : List (List (Str × Int))) h_rows_4 hv_rows_4 => (xn_nxt (xs_pop0 (y := (rows_4.dropLast)) (fun z : List (List (Str × Int)) => ((OT.li ol) z)) (xpl_name 4) rfl rfl (lt_mapn hv_rows_4) ((congrArg _ (li_drop _ _)).trans rfl)) (fun (rows_5 : List (List (Str × Int))) h_rows_5 => (xo_end (s := rows_5) (by exact (.same (.same (.same (.same (.same (.same (.same (.same (.same (.same (.same .nil))))))))))))))))))) (fun hc7 => (have hv_hc7 : ((decide ((number % 16) = 6)) = true → ((v_l_row (number / 192) wide) ∧ (InB s1 atV))) := hv_hc5.2 hc7; (xn_nxt (xs_ifs (G := (fun s : (List (List (Str × Int))) => [.fz (script : Scr Int), .fz (first : Int), .fz (picture_here : List (List (Str × Int))), .fz (wide : Int), .ow none ((OT.li ol) s), .fz (k : Int), .fz (number : Int), .fz (atV : Int), .no, .no, .no])) (xt_c (xc_eqS (xe_mod (xe_var 6) xe_int (by decide)) xe_int)) (fun hc8 => (have hv_hc8 : ((v_l_row (number / 192) wide) ∧ (InB s1 atV)) := hv_hc7 hc8; (xn_nxt (xs_iset (y := (stI s1 atV (m_l_row (number / 192) wide))) (fun z : List (List (Str × Int)) => ((OT.li ol) z)) (xn_callZ (r := ((number / 192), wide, ())) (ok_l_row T) hr (by decide) (xr_fz (xe_div (xe_var 6) xe_int ⟨by decide, by decide⟩) (xr_fz (xe_var 3) xr_nil)) hv_hc8.1) (xpl_name 4) (xe_var 7) rfl rfl (ixn_ok hv_hc8.2) ((li_set rfl hv_hc8.2).trans rfl)) (fun (rows_6 : List (List (Str × Int))) h_rows_6 => (xo_end (s := rows_6) (by exact (.same (.same (.same (.same (.same (.same (.same (.same (.same (.same (.same .nil))))))))))))))))) (fun hc9 => ((xo_end (s := s1) (by exact (.same (.same (.same (.same (.same (.same (.same (.same (.same (.same (.same .nil)))))))))))))))) (fun (j''' : (List (List (Str × Int)))) h_j''' => (xo_end (s := j''') (by exact (.same (.same (.same (.same (.same (.same (.same (.same (.same (.same (.same .nil)))))))))))))))))) (fun (j'' : (List (List (Str × Int)))) h_j'' => (xo_end (s := j'') (by exact (.same (.same (.same (.same (.same (.same (.same (.same (.same (.same (.same .nil)))))))))))))))))) (fun (j' : (List (List (Str × Int)))) h_j' => (xo_end (s := j') (by exact (.same (.same (.same (.same (.same (.same (.same (.same (.same (.same (.same .nil)))))))))))))))))) (fun (j : (List (List (Str × Int)))) h_j => (xo_end (s := j) (by exact (.same (.same (.same (.same (.same (.no (.no (.no (.same (.same (.same .nil))))))))))))))))))) (by rfl)))) (fun (r1 : (List (List (Str × Int)))) h_r1 => (xf_one (xs_retM (R := RcG as (fun r : (List (List (Str × Int))) => [none, none, none]) (fun r : (List (List (Str × Int))) => .ow none ((OT.li ol) r)) (fun _ => none)) (r := r1) (xm_give 4) (rg_of (by exact trivial)) rfl rfl)))))))) (by rfl)
abbrev s_l_copied : Stmt := top 29
theorem sc_l_copied : FnScope ["_law_picture_here", "_law_row_here"] ["_law_picture_here"] (defScope s_l_copied) := ⟨rfl, rfl, rfl, by decide +kernel, rfl, by decide +kernel, by decide +kernel⟩
set_option maxHeartbeats 4000000 in
theorem ok_l_copied (T : Txt K mg) : Fk P w K mg base (L2.CX P w) "_law_copied" ["_law_picture_here"] [] 1 (SpG K mg (fun a : (List (List (Str × Int))) × Unit => ([.fz (a.1 : List (List (Str × Int)))] : List ArgD)) (fun a : (List (List (Str × Int))) × Unit => v_l_copied a.1) (fun r : (List (List (Str × Int))) => ([none] : List (Option OT))) (fun r : (List (List (Str × Int))) => (.ow none ((OT.li ol) r) : Slot)) (fun _ => none) (fun a : (List (List (Str × Int))) × Unit => m_l_copied a.1)) := by
  refine fk_of (nf := (fun e : Empty => e.elim)) (G := (fun _ (e : Empty) => e.elim)) T.d_l_copied sc_l_copied (fun _ => rfl) (fun _ _ _ _ _ _ us hl => match us, hl with | [_], _ => rfl) (fun _ _ => rfl) (fun _ e => e.elim) ?_
  intro f cdv A outer s H E c as a hr hp
  obtain ⟨picture_here, ⟨⟩⟩ := a
  have nd := sc_l_copied.nd
  have hp : v_l_copied picture_here := hp
  delta v_l_copied at hp
  refine XF.gam (Γ' := [.fz (picture_here : List (List (Str × Int))), .no]) rfl ?_
  exact XF.eq (xf_one (xs_retM (XN.m (xn_lcT (h := fun row_here : List (Str × Int) => row_here) (e := ol) [("_law_row_here", 1)] nd (xi_listL (xe_var 0)) hp (fun q => (xg_name 1 nd)) (fun (row_here : List (Str × Int)) hy_row_here q => (xn_list T.b_list (xq_fz (xe_var 1)))) (ok := by first | (show blkC ["_law_picture_here", "_law_row_here"] (defScope s_l_copied) _ _ = true; decide +kernel) | exact rfl))) (rg_of (by exact trivial)) rfl rfl)) (by rfl)
abbrev s_l_cut : Stmt := top 30
theorem sc_l_cut : FnScope ["_law_picture_here", "_law_row_here", "_law_many", "_law_wide", "_law_rows", "_law_turn"] ["_law_picture_here", "_law_row_here", "_law_many"] (defScope s_l_cut) := ⟨rfl, rfl, rfl, by decide +kernel, rfl, by decide +kernel, by decide +kernel⟩
set_option maxHeartbeats 4000000 in
theorem ok_l_cut (T : Txt K mg) : Fk P w K mg base (L2.CX P w) "_law_cut" ["_law_picture_here", "_law_row_here", "_law_many"] [] 1 (SpG K mg (fun a : (List (List (Str × Int))) × Int × Int × Unit => ([.fz (a.1 : List (List (Str × Int))), .fz (a.2.1 : Int), .fz (a.2.2.1 : Int)] : List ArgD)) (fun a : (List (List (Str × Int))) × Int × Int × Unit => v_l_cut a.1 a.2.1 a.2.2.1) (fun r : (List (List (Str × Int))) => ([none, none, none] : List (Option OT))) (fun r : (List (List (Str × Int))) => (.fz (r : List (List (Str × Int))) : Slot)) (fun _ => none) (fun a : (List (List (Str × Int))) × Int × Int × Unit => m_l_cut a.1 a.2.1 a.2.2.1)) := by
  refine fk_of (nf := (fun e : Empty => e.elim)) (G := (fun _ (e : Empty) => e.elim)) T.d_l_cut sc_l_cut (fun _ => rfl) (fun _ _ _ _ _ _ us hl => match us, hl with | [_, _, _], _ => rfl) (fun _ _ => rfl) (fun _ e => e.elim) ?_
  intro f cdv A outer s H E c as a hr hp
  obtain ⟨picture_here, row_here, many, ⟨⟩⟩ := a
  have nd := sc_l_cut.nd
  have hp : v_l_cut picture_here row_here many := hp
  delta v_l_cut at hp
  refine XF.gam (Γ' := [.fz (picture_here : List (List (Str × Int))), .fz (row_here : Int), .fz (many : Int), .no, .no, .no]) rfl ?_
  exact XF.eq (xf_nxtv (xs_let 3 nd (xe_lenl T.b_len (xe_ixl (xe_var 0) xe_int hp.1))) hp.2 (fun (wide : Int) h_wide hv_wide => (xf_nxtv (xs_let 4 nd (XN.fr (xn_cat (xq_n (xn_slice (xq_fz (xe_var 0)) xp_none (xp_some (xe_var 1)))) (xq_n (xn_slice (xq_fz (xe_var 0)) (xp_some (xe_add (xe_var 1) (xe_var 2))) xp_none)) hv_wide.1) FzT.ol)) hv_wide.2 (fun (rows : List (List (Str × Int))) h_rows hv_rows => (xf_one (xs_ret (XN.fr (xn_cat (xq_fz (xe_var 4)) (xq_fz (XN.fr (xn_lcT (h := fun turn' : Int => (List.replicate (wide : Int).toNat ([((" " : Str), 0)] : List (Str × Int))).flatten) (e := (fun z : List (Str × Int) => OT.fz z)) [("_law_turn", 5)] nd (xi_range1 T.b_range (xe_var 2) hv_rows.1) hv_rows.2.1 (fun q => (xg_name 5 nd)) (fun (turn' : Int) hy_turn' q => (XE.n (XN.fr (xn_rep (xq_fz (xe_lst (xl_cons (xe_tup (υ := Str × Int) (xa_cons xe_str (xa_cons xe_int xa_nil))) xl_nil) (le100 rfl))) (xe_var 3) (hv_rows.2.2.1 turn' hy_turn').1 (hv_rows.2.2.1 turn' hy_turn').2) FzT.ol))) (ok := by first | (show blkC ["_law_picture_here", "_law_row_here", "_law_many", "_law_wide", "_law_rows", "_law_turn"] (defScope s_l_cut) _ _ = true; decide +kernel) | exact rfl)) FzT.ol)) hv_rows.2.2.2) FzT.ol) (rg_of (by exact trivial)) rfl rfl)))))) (by rfl)
abbrev s_l_put : Stmt := top 31
theorem sc_l_put : FnScope ["_law_picture_here", "_law_row_here", "_law_many", "_law_wide", "_law_fresh", "_law_turn"] ["_law_picture_here", "_law_row_here", "_law_many"] (defScope s_l_put) := ⟨rfl, rfl, rfl, by decide +kernel, rfl, by decide +kernel, by decide +kernel⟩
set_option maxHeartbeats 4000000 in
theorem ok_l_put (T : Txt K mg) : Fk P w K mg base (L2.CX P w) "_law_put" ["_law_picture_here", "_law_row_here", "_law_many"] [] 1 (SpG K mg (fun a : (List (List (Str × Int))) × Int × Int × Unit => ([.fz (a.1 : List (List (Str × Int))), .fz (a.2.1 : Int), .fz (a.2.2.1 : Int)] : List ArgD)) (fun a : (List (List (Str × Int))) × Int × Int × Unit => v_l_put a.1 a.2.1 a.2.2.1) (fun r : (List (List (Str × Int))) => ([none, none, none] : List (Option OT))) (fun r : (List (List (Str × Int))) => (.fz (r : List (List (Str × Int))) : Slot)) (fun _ => none) (fun a : (List (List (Str × Int))) × Int × Int × Unit => m_l_put a.1 a.2.1 a.2.2.1)) := by
  refine fk_of (nf := (fun e : Empty => e.elim)) (G := (fun _ (e : Empty) => e.elim)) T.d_l_put sc_l_put (fun _ => rfl) (fun _ _ _ _ _ _ us hl => match us, hl with | [_, _, _], _ => rfl) (fun _ _ => rfl) (fun _ e => e.elim) ?_
  intro f cdv A outer s H E c as a hr hp
  obtain ⟨picture_here, row_here, many, ⟨⟩⟩ := a
  have nd := sc_l_put.nd
  have hp : v_l_put picture_here row_here many := hp
  delta v_l_put at hp
  refine XF.gam (Γ' := [.fz (picture_here : List (List (Str × Int))), .fz (row_here : Int), .fz (many : Int), .no, .no, .no]) rfl ?_
  exact XF.eq (xf_nxtv (xs_let 3 nd (xe_lenl T.b_len (xe_ixl (xe_var 0) xe_int hp.1))) hp.2 (fun (wide : Int) h_wide hv_wide => (xf_nxtv (kV := fun fresh : List (List (Str × Int)) => (((cutL picture_here none (some row_here)).length + fresh.length ≤ 100000) ∧ (((cutL picture_here none (some row_here)) ++ fresh).length + (cutL picture_here (some row_here) none).length ≤ 100000))) (xs_lcT 4 (h := fun turn : Int => (List.replicate (wide : Int).toNat ([((" " : Str), 0)] : List (Str × Int))).flatten) (e := ol) [("_law_turn", 5)] nd (xi_range1 T.b_range (xe_var 2) hv_wide.1.1) hv_wide.1.2.1 (fun q => (xg_name 5 nd)) (fun (turn : Int) hy_turn q => (xn_rep (xq_fz (xe_lst (xl_cons (xe_tup (υ := Str × Int) (xa_cons xe_str (xa_cons xe_int xa_nil))) xl_nil) (le100 rfl))) (xe_var 3) (hv_wide.1.2.2 turn hy_turn).1 (hv_wide.1.2.2 turn hy_turn).2)) (ok := by first | (show blkC ["_law_picture_here", "_law_row_here", "_law_many", "_law_wide", "_law_fresh", "_law_turn"] (defScope s_l_put) _ _ = true; decide +kernel) | exact rfl) (th := Thaw.id) (Γt := [.fz (picture_here : List (List (Str × Int))), .fz (row_here : Int), .fz (many : Int), .fz (wide : Int), .no, .no])) hv_wide.2 (fun (fresh : List (List (Str × Int))) h_fresh hv_fresh => (xf_freeze 4 (FzT.lid fun _ => FzT.ol) (xf_one (xs_ret (XN.fr (xn_slice (xq_n (xn_cat (xq_n (xn_cat (xq_n (xn_slice (xq_fz (xe_var 0)) xp_none (xp_some (xe_var 1)))) (xq_fz (xe_var 4)) hv_fresh.1)) (xq_n (xn_slice (xq_fz (xe_var 0)) (xp_some (xe_var 1)) xp_none)) hv_fresh.2)) xp_none (xp_some (xe_lenl T.b_len (xe_var 0)))) FzT.ol) (rg_of (by exact trivial)) rfl rfl))))))) (by rfl)
abbrev s_l_deed : Stmt := top 32
theorem sc_l_deed : FnScope ["_law_picture_here", "_law_deed_here", "_law_rows", "_law_k", "_law_sign_here"] ["_law_picture_here", "_law_deed_here"] (defScope s_l_deed) := ⟨rfl, rfl, rfl, by decide +kernel, rfl, by decide +kernel, by decide +kernel⟩
set_option maxHeartbeats 4000000 in
theorem ok_l_deed (T : Txt K mg) : Fk P w K mg base (L2.CX P w) "_law_deed" ["_law_picture_here", "_law_deed_here"] [] 2 (SpG K mg (fun a : (List (List (Str × Int))) × Dd × Unit => ([.fz (a.1 : List (List (Str × Int))), .fz (a.2.1 : Dd)] : List ArgD)) (fun a : (List (List (Str × Int))) × Dd × Unit => v_l_deed a.1 a.2.1) (fun r : (List (List (Str × Int))) => ([none, none] : List (Option OT))) (fun r : (List (List (Str × Int))) => (.fz (r : List (List (Str × Int))) : Slot)) (fun _ => none) (fun a : (List (List (Str × Int))) × Dd × Unit => m_l_deed a.1 a.2.1)) := by
  refine fk_of (nf := (fun e : Empty => e.elim)) (G := (fun _ (e : Empty) => e.elim)) T.d_l_deed sc_l_deed (fun _ => rfl) (fun _ _ _ _ _ _ us hl => match us, hl with | [_, _], _ => rfl) (fun _ _ => rfl) (fun _ e => e.elim) ?_
  intro f cdv A outer s H E c as a hr hp
  obtain ⟨picture_here, deed_here, ⟨⟩⟩ := a
  have nd := sc_l_deed.nd
  have hp : v_l_deed picture_here deed_here := hp
  delta v_l_deed at hp
  refine XF.gam (Γ' := [.fz (picture_here : List (List (Str × Int))), .fz (deed_here : Dd), .no, .no, .no]) rfl ?_
  exact XF.eq (xf_nxtv (xs_letN (x := (m_l_copied picture_here)) (OT.li ol) 2 nd (xn_callZ (r := (picture_here, ())) (ok_l_copied T) hr (by decide) (xr_fz (xe_var 0) xr_nil) hp.1)) hp.2 (fun (rows : List (List (Str × Int))) h_rows hv_rows => (xf_ifx (xt_c (xc_eqS (Dd.xe_0 (xe_var 1)) xe_str)) (fun hc1 => (have hv_hc1 : ((deed_here.has1 = true) ∧ (deed_here.has2 = true) ∧ (v_l_cut rows deed_here.at1 deed_here.at2)) := hv_rows.1 hc1; (xf_freeze 2 (FzT.lid fun _ => FzT.ol) (xf_one (xs_ret (xe_callZ (r := (rows, deed_here.at1, deed_here.at2, ())) (ok_l_cut T) hr (by decide) (xr_fz (xe_var 2) (xr_fz (Dd.xe_1 (xe_var 1) hv_hc1.1) (xr_fz (Dd.xe_2 (xe_var 1) hv_hc1.2.1) xr_nil))) hv_hc1.2.2) (rg_of (by exact trivial)) rfl rfl))))) (fun hc2 => (have hv_hc2 : (((decide (deed_here.tag = ("put" : Str))) = true → ((deed_here.has1 = true) ∧ (deed_here.has2 = true) ∧ (v_l_put rows deed_here.at1 deed_here.at2))) ∧ ((decide (deed_here.tag = ("put" : Str))) = false → ((deed_here.has3 = true) ∧ (vFold (m_l_deed_f1 deed_here) (v_l_deed_f1 deed_here) rows (enumL (signsL deed_here.at3)))))) := hv_rows.2 hc2; (xf_ifx (xt_c (xc_eqS (Dd.xe_0 (xe_var 1)) xe_str)) (fun hc3 => (have hv_hc3 : ((deed_here.has1 = true) ∧ (deed_here.has2 = true) ∧ (v_l_put rows deed_here.at1 deed_here.at2)) := hv_hc2.1 hc3; (xf_freeze 2 (FzT.lid fun _ => FzT.ol) (xf_one (xs_ret (xe_callZ (r := (rows, deed_here.at1, deed_here.at2, ())) (ok_l_put T) hr (by decide) (xr_fz (xe_var 2) (xr_fz (Dd.xe_1 (xe_var 1) hv_hc3.1) (xr_fz (Dd.xe_2 (xe_var 1) hv_hc3.2.1) xr_nil))) hv_hc3.2.2) (rg_of (by exact trivial)) rfl rfl))))) (fun hc4 => (have hv_hc4 : ((deed_here.has3 = true) ∧ (vFold (m_l_deed_f1 deed_here) (v_l_deed_f1 deed_here) rows (enumL (signsL deed_here.at3)))) := hv_hc2.2 hc4; (xf_nxt (xs_foldV (g := m_l_deed_f1 deed_here) (vb := (v_l_deed_f1 deed_here)) (L := (fun s1 : (List (List (Str × Int))) => [.fz (picture_here : List (List (Str × Int))), .fz (deed_here : Dd), .ow none ((OT.li ol) s1), .no, .no])) (s0 := rows) (xi_enumS T.b_enumerate (Dd.xe_3 (xe_var 1) hv_hc4.1)) (xg_tup (xgs_cons (xg_name 3 nd) (xgs_cons (xg_name 4 nd) xgs_nil))) (by exact (.same (.same (.same (.same (.same .nil)))))) hv_hc4.2 (fun (y1 : Int × Str) (s1 : (List (List (Str × Int)))) hv => (XO.eq (xn_nxt (xs_iset (y := (stI s1 deed_here.at1 (stI (ix s1 deed_here.at1) (deed_here.at2 + y1.1) (y1.2, deed_here.at4)))) (fun z : List (List (Str × Int)) => ((OT.li ol) z)) (XE.n (xe_tup (υ := Str × Int) (xa_cons (xe_var 4) (xa_cons (Dd.xe_4 (xe_var 1) hv.1) xa_nil)))) (xpl_ix (xpl_name 2) (Dd.xe_1 (xe_var 1) hv.2.1) rfl rfl (ixn_ok hv.2.2.1)) (xe_add (Dd.xe_2 (xe_var 1) hv.2.2.2.1) (xe_var 3)) rfl (get_ix (g := ol) rfl hv.2.2.1) (ixn_ok hv.2.2.2.2) ((li_set (get_ix (g := ol) rfl hv.2.2.1) hv.2.2.2.2).trans ((put_ix rfl hv.2.2.1).trans rfl))) (fun (rows' : List (List (Str × Int))) h_rows' => (xo_end (s := rows') (by exact (.same (.same (.same (.no (.no .nil))))))))) (by rfl)))) (fun (r1 : (List (List (Str × Int)))) h_r1 => (xf_freeze 2 (FzT.lid fun _ => FzT.ol) (xf_one (xs_ret (xe_var 2) (rg_of (by exact trivial)) rfl rfl))))))))))))) (by rfl)
abbrev s_l_whole : Stmt := top 33
theorem sc_l_whole : FnScope ["_law_found"] ["_law_found"] (defScope s_l_whole) := ⟨rfl, rfl, rfl, by decide +kernel, rfl, by decide +kernel, by decide +kernel⟩
set_option maxHeartbeats 4000000 in
theorem ok_l_whole (T : Txt K mg) : Fk P w K mg base (L2.CX P w) "_law_whole" ["_law_found"] [] 1 (SpG K mg (fun a : Int × Unit => ([.fz (a.1 : Int)] : List ArgD)) (fun a : Int × Unit => True) (fun r : Bool => ([none] : List (Option OT))) (fun r : Bool => (.fz (r : Bool) : Slot)) (fun _ => none) (fun a : Int × Unit => m_l_whole a.1)) := by
  refine fk_of (nf := (fun e : Empty => e.elim)) (G := (fun _ (e : Empty) => e.elim)) T.d_l_whole sc_l_whole (fun _ => rfl) (fun _ _ _ _ _ _ us hl => match us, hl with | [_], _ => rfl) (fun _ _ => rfl) (fun _ e => e.elim) ?_
  intro f cdv A outer s H E c as a hr hp
  obtain ⟨found, ⟨⟩⟩ := a
  have nd := sc_l_whole.nd
  refine XF.gam (Γ' := [.fz (found : Int)]) rfl ?_
  exact XF.eq (xf_one (xs_ret (xe_and (xe_isi (x := (found : Int)) (t := "int") T.b_isinstance T.b_int (xe_var 0) (.inr (.inr (.inl rfl))) (by decide)) (fun hc1 => (xe_one (xe_not (xe_isi (x := (found : Int)) (t := "bool") T.b_isinstance T.b_bool (xe_var 0) (.inr (.inr (.inl rfl))) (by decide)))))) (rg_of (by exact trivial)) rfl rfl)) (by rfl)
abbrev s_l_formed : Stmt := top 34
theorem sc_l_formed : FnScope ["_law_way", "_law_wide", "_law_high", "_law_last", "_law_row_here", "_law_met", "_law_deed_here", "_law_sort", "_law_text", "_law_k"] ["_law_way", "_law_wide", "_law_high"] (defScope s_l_formed) := ⟨rfl, rfl, rfl, by decide +kernel, rfl, by decide +kernel, by decide +kernel⟩
set_option maxHeartbeats 4000000 in
theorem ok_l_formed (T : Txt K mg) : Fk P w K mg base (L2.CX P w) "_law_formed" ["_law_way", "_law_wide", "_law_high"] [] 2 (SpG K mg (fun a : (List Dd) × Int × Int × Unit => ([.fz (a.1 : List Dd), .fz (a.2.1 : Int), .fz (a.2.2.1 : Int)] : List ArgD)) (fun a : (List Dd) × Int × Int × Unit => v_l_formed a.1 a.2.1 a.2.2.1) (fun r : Bool => ([none, none, none] : List (Option OT))) (fun r : Bool => (.fz (r : Bool) : Slot)) (fun _ => none) (fun a : (List Dd) × Int × Int × Unit => m_l_formed a.1 a.2.1 a.2.2.1)) := by
  refine fk_of (nf := (fun e : Empty => e.elim)) (G := (fun _ (e : Empty) => e.elim)) T.d_l_formed sc_l_formed (fun _ => rfl) (fun _ _ _ _ _ _ us hl => match us, hl with | [_, _, _], _ => rfl) (fun _ _ => rfl) (fun _ e => e.elim) ?_
  intro f cdv A outer s H E c as a hr hp
  obtain ⟨way, wide, high, ⟨⟩⟩ := a
  have nd := sc_l_formed.nd
  have hp : v_l_formed way wide high := hp
  delta v_l_formed at hp
  refine XF.gam (Γ' := [.fz (way : List Dd), .fz (wide : Int), .fz (high : Int), .no, .no, .no, .no, .no, .no, .no]) rfl ?_
  exact XF.eq (xf_ifx (xt_not (xt_val (xe_isi (x := (way : List Dd)) (t := "list") T.b_isinstance T.b_list (xe_var 0) (.inr (.inr (.inr (.inr (.inl rfl))))) (by decide)))) (fun hc1 => ((xf_one (xs_ret xe_bl (rg_of (by exact trivial)) rfl rfl)))) (fun hc2 => (have hv_hc2 : (bnd (0) fun (last : Int) => (bnd ((-1)) fun (row_here : Int) => (bnd (([] : List (Int × Int))) fun (met : List (Int × Int)) => (((vRun (m_l_formed_f1 wide high) (v_l_formed_f1 wide high) (row_here, met, last) way)) ∧ (∀ (r1 : Int × (List (Int × Int)) × Int), (runFor (m_l_formed_f1 wide high) (row_here, met, last) way : Out (Int × (List (Int × Int)) × Int) (Empty) (Bool)) = .nx r1 → (r1.2.1.Nodup ∧ r1.2.1.length < 64)))))) := hp hc2; (xf_nxtv (xs_let 3 nd xe_int) hv_hc2 (fun (last : Int) h_last hv_last => (xf_nxtv (xs_let 4 nd (xe_neg xe_int)) hv_last (fun (row_here : Int) h_row_here hv_row_here => (xf_nxtv (xs_letN (x := ([] : List (Int × Int))) ol 5 nd (XN.eq (xn_lst (ts := []) xns_nil (le100 rfl)) (t' := (ol ([] : List (Int × Int)))) rfl)) hv_row_here (fun (met : List (Int × Int)) h_met hv_met => (xf_cons (xs_forV (R := RcG as (fun r : Bool => [none, none, none]) (fun r : Bool => .fz (r : Bool)) (fun _ => none)) (f := m_l_formed_f1 wide high) (vb := (v_l_formed_f1 wide high)) (L := (fun s1 : Int × (List (Int × Int)) × Int => [.fz (way : List Dd), .fz (wide : Int), .fz (high : Int), .fz (s1.2.2 : Int), .fz (s1.1 : Int), .ow none (ol s1.2.1), .no, .no, .no, .no])) (s0 := (row_here, met, last)) (xi_listL (xe_var 0)) (xg_name 6 nd) (by exact (.same (.same (.same (.same (.same (.same (.same (.same (.same (.same .nil))))))))))) hv_met.1 (fun (deed_here : Dd) (s1 : Int × (List (Int × Int)) × Int) hv => (XO.eq (xo_ifx (XW.t (xw_or (xt_not (xt_val (xe_isi (x := (deed_here : Dd)) (t := "tuple") T.b_isinstance T.b_tuple (xe_var 6) (.inr (.inr (.inr (.inr (.inr (.inl rfl)))))) (by decide)))) (fun hc4 => (xw_or (xt_c (xc_eqHet (y := (Tup.mk ([] : List Int))) hr.units (xe_var 6) (xe_tupL xl_nil (le100 rfl)) (hv.1 hc4) (fun _ h => nomatch h) (by generalize deed_here = z; cases z <;> rfl))) (fun hc3 => (xw_or1 (xt_c (xc_ninLs (Dd.xe_0 (xe_var 6)) (xe_lst (xl_cons xe_str (xl_cons xe_str (xl_cons xe_str xl_nil))) (le100 rfl)))))))))) (fun hc5 => ((xo_one (xs_ret xe_bl (rg_of (by exact trivial)) rfl rfl)))) (fun hc6 => (have hv_hc6 : ((deed_here.tag ∈ ([("cut" : Str), ("put" : Str), ("write" : Str)] : List Str)) ∧ (bnd ((idxS ([("cut" : Str), ("put" : Str), ("write" : Str)] : List Str) deed_here.tag)) fun (sort : Int) => ((InB ([s1.1, (-1)] : List Int) (if (decide (sort > s1.2.2)) then (1 : Int) else 0)) ∧ (bnd ((ix ([s1.1, (-1)] : List Int) (if (decide (sort > s1.2.2)) then (1 : Int) else 0))) fun (row_here' : Int) => (((decide (sort < s1.2.2)) = false → ((deed_here.has1 = true) ∧ ((!(m_l_whole deed_here.at1)) = false → (deed_here.has2 = true)))) ∧ (((decide (sort < s1.2.2)) || ((!(m_l_whole deed_here.at1)) || (!(m_l_whole deed_here.at2)))) = false → ((deed_here.has1 = true) ∧ ((!(decide (0 ≤ deed_here.at1) && decide (deed_here.at1 < high))) = false → (((decide (sort < 2)) = true → ((deed_here.has2 = true) ∧ ((decide (deed_here.at2 < 1)) = false → ((deed_here.has1 = true) ∧ (deed_here.has2 = true))))) ∧ (((decide (sort < 2)) && ((decide (deed_here.at2 < 1)) || (decide ((deed_here.at1 + deed_here.at2) > high)))) = false → (((decide (sort < 2)) = true → (deed_here.has1 = true)) ∧ (((decide (sort < 2)) && (decide (deed_here.at1 < (row_here' + sort)))) = false → ((((decide (sort = 2)) = true → ((deed_here.has3 = true) ∧ (bnd (deed_here.at3) fun (text : Str) => (((!true) = false → ((decide (text = ("" : Str))) = false → (deed_here.has4 = true))) ∧ (((!true) || ((decide (text = ("" : Str))) || (!(m_l_whole deed_here.at4)))) = false → (((deed_here.has2 = true) ∧ ((decide (deed_here.at2 < 0)) = false → ((deed_here.has2 = true) ∧ (text.length ≤ sizeLine)))) ∧ (((decide (deed_here.at2 < 0)) || (decide ((deed_here.at2 + ((text.length : Nat) : Int)) > wide))) = false → ((text.length ≤ sizeLine) ∧ (-(2 ^ 62) ≤ (((text.length : Nat) : Int) : Int) ∧ (((text.length : Nat) : Int) : Int) < 2 ^ 62) ∧ ((izs 0 (((text.length : Nat) : Int) : Int).toNat).length ≤ 100000) ∧ (∀ k ∈ ((izs 0 (((text.length : Nat) : Int) : Int).toNat) : List Int), ((deed_here.has1 = true) ∧ (deed_here.has2 = true))) ∧ (s1.2.1.length + ((izs 0 (((text.length : Nat) : Int) : Int).toNat).map (fun k : Int => (deed_here.at1, (deed_here.at2 + k)))).length ≤ 100000)))))))))) ∧ (∀ (j : (List (Int × Int))), (if (decide (sort = 2)) then ( bnd (deed_here.at3) fun (text : Str) => if ((!true) || ((decide (text = ("" : Str))) || (!(m_l_whole deed_here.at4)))) then (.rt false) else if ((decide (deed_here.at2 < 0)) || (decide ((deed_here.at2 + ((text.length : Nat) : Int)) > wide))) then (.rt false) else bnd ((s1.2.1 ++ ((izs 0 (((text.length : Nat) : Int) : Int).toNat).map (fun k : Int => (deed_here.at1, (deed_here.at2 + k)))))) fun (met' : List (Int × Int)) => .nx met') else ( .nx s1.2.1) : Out ((List (Int × Int))) (Int × (List (Int × Int)) × Int) (Bool)) = .nx j → (deed_here.has1 = true))))))))))))))) := hv.2 hc6; (xo_nxtv (xs_let 7 nd (xe_lidxS (xe_lst (xl_cons xe_str (xl_cons xe_str (xl_cons xe_str xl_nil))) (le100 rfl)) (Dd.xe_0 (xe_var 6)) hv_hc6.1)) hv_hc6.2 (fun (sort : Int) h_sort hv_sort => (xo_nxtv (xs_let 4 nd (xe_ixl (xe_lst (xl_cons (xe_var 4) (xl_cons (xe_neg xe_int) xl_nil)) (le100 rfl)) (xe_intB T.b_int (xe_c (xc_gt (xe_var 7) (xe_var 3)))) hv_sort.1)) hv_sort.2 (fun (row_here' : Int) h_row_here' hv_row_here' => (xo_ifx (XW.t (xw_or (xt_c (xc_lt (xe_var 7) (xe_var 3))) (fun hc8 => (xw_or (xt_not (xt_val (xe_callZ (r := (deed_here.at1, ())) (ok_l_whole T) hr (by decide) (xr_fz (Dd.xe_1 (xe_var 6) (hv_row_here'.1 hc8).1) xr_nil) trivial))) (fun hc7 => (xw_or1 (xt_not (xt_val (xe_callZ (r := (deed_here.at2, ())) (ok_l_whole T) hr (by decide) (xr_fz (Dd.xe_2 (xe_var 6) ((hv_row_here'.1 hc8).2 hc7)) xr_nil) trivial))))))))) (fun hc9 => ((xo_one (xs_ret xe_bl (rg_of (by exact trivial)) rfl rfl)))) (fun hc10 => (have hv_hc10 : ((deed_here.has1 = true) ∧ ((!(decide (0 ≤ deed_here.at1) && decide (deed_here.at1 < high))) = false → (((decide (sort < 2)) = true → ((deed_here.has2 = true) ∧ ((decide (deed_here.at2 < 1)) = false → ((deed_here.has1 = true) ∧ (deed_here.has2 = true))))) ∧ (((decide (sort < 2)) && ((decide (deed_here.at2 < 1)) || (decide ((deed_here.at1 + deed_here.at2) > high)))) = false → (((decide (sort < 2)) = true → (deed_here.has1 = true)) ∧ (((decide (sort < 2)) && (decide (deed_here.at1 < (row_here' + sort)))) = false → ((((decide (sort = 2)) = true → ((deed_here.has3 = true) ∧ (bnd (deed_here.at3) fun (text : Str) => (((!true) = false → ((decide (text = ("" : Str))) = false → (deed_here.has4 = true))) ∧ (((!true) || ((decide (text = ("" : Str))) || (!(m_l_whole deed_here.at4)))) = false → (((deed_here.has2 = true) ∧ ((decide (deed_here.at2 < 0)) = false → ((deed_here.has2 = true) ∧ (text.length ≤ sizeLine)))) ∧ (((decide (deed_here.at2 < 0)) || (decide ((deed_here.at2 + ((text.length : Nat) : Int)) > wide))) = false → ((text.length ≤ sizeLine) ∧ (-(2 ^ 62) ≤ (((text.length : Nat) : Int) : Int) ∧ (((text.length : Nat) : Int) : Int) < 2 ^ 62) ∧ ((izs 0 (((text.length : Nat) : Int) : Int).toNat).length ≤ 100000) ∧ (∀ k ∈ ((izs 0 (((text.length : Nat) : Int) : Int).toNat) : List Int), ((deed_here.has1 = true) ∧ (deed_here.has2 = true))) ∧ (s1.2.1.length + ((izs 0 (((text.length : Nat) : Int) : Int).toNat).map (fun k : Int => (deed_here.at1, (deed_here.at2 + k)))).length ≤ 100000)))))))))) ∧ (∀ (j : (List (Int × Int))), (if (decide (sort = 2)) then ( bnd (deed_here.at3) fun (text : Str) => if ((!true) || ((decide (text = ("" : Str))) || (!(m_l_whole deed_here.at4)))) then (.rt false) else if ((decide (deed_here.at2 < 0)) || (decide ((deed_here.at2 + ((text.length : Nat) : Int)) > wide))) then (.rt false) else bnd ((s1.2.1 ++ ((izs 0 (((text.length : Nat) : Int) : Int).toNat).map (fun k : Int => (deed_here.at1, (deed_here.at2 + k)))))) fun (met' : List (Int × Int)) => .nx met') else ( .nx s1.2.1) : Out ((List (Int × Int))) (Int × (List (Int × Int)) × Int) (Bool)) = .nx j → (deed_here.has1 = true))))))))) := hv_row_here'.2 hc10; (xo_ifx (xt_not (xt_chain (p := fun i j => decide (i ≤ j)) (q := fun i j => decide (i < j)) op_le op_lt xe_int (Dd.xe_1 (xe_var 6) hv_hc10.1) (fun _ => (xe_var 2)))) (fun hc11 => ((xo_one (xs_ret xe_bl (rg_of (by exact trivial)) rfl rfl)))) (fun hc12 => (have hv_hc12 : (((decide (sort < 2)) = true → ((deed_here.has2 = true) ∧ ((decide (deed_here.at2 < 1)) = false → ((deed_here.has1 = true) ∧ (deed_here.has2 = true))))) ∧ (((decide (sort < 2)) && ((decide (deed_here.at2 < 1)) || (decide ((deed_here.at1 + deed_here.at2) > high)))) = false → (((decide (sort < 2)) = true → (deed_here.has1 = true)) ∧ (((decide (sort < 2)) && (decide (deed_here.at1 < (row_here' + sort)))) = false → ((((decide (sort = 2)) = true → ((deed_here.has3 = true) ∧ (bnd (deed_here.at3) fun (text : Str) => (((!true) = false → ((decide (text = ("" : Str))) = false → (deed_here.has4 = true))) ∧ (((!true) || ((decide (text = ("" : Str))) || (!(m_l_whole deed_here.at4)))) = false → (((deed_here.has2 = true) ∧ ((decide (deed_here.at2 < 0)) = false → ((deed_here.has2 = true) ∧ (text.length ≤ sizeLine)))) ∧ (((decide (deed_here.at2 < 0)) || (decide ((deed_here.at2 + ((text.length : Nat) : Int)) > wide))) = false → ((text.length ≤ sizeLine) ∧ (-(2 ^ 62) ≤ (((text.length : Nat) : Int) : Int) ∧ (((text.length : Nat) : Int) : Int) < 2 ^ 62) ∧ ((izs 0 (((text.length : Nat) : Int) : Int).toNat).length ≤ 100000) ∧ (∀ k ∈ ((izs 0 (((text.length : Nat) : Int) : Int).toNat) : List Int), ((deed_here.has1 = true) ∧ (deed_here.has2 = true))) ∧ (s1.2.1.length + ((izs 0 (((text.length : Nat) : Int) : Int).toNat).map (fun k : Int => (deed_here.at1, (deed_here.at2 + k)))).length ≤ 100000)))))))))) ∧ (∀ (j : (List (Int × Int))), (if (decide (sort = 2)) then ( bnd (deed_here.at3) fun (text : Str) => if ((!true) || ((decide (text = ("" : Str))) || (!(m_l_whole deed_here.at4)))) then (.rt false) else if ((decide (deed_here.at2 < 0)) || (decide ((deed_here.at2 + ((text.length : Nat) : Int)) > wide))) then (.rt false) else bnd ((s1.2.1 ++ ((izs 0 (((text.length : Nat) : Int) : Int).toNat).map (fun k : Int => (deed_here.at1, (deed_here.at2 + k)))))) fun (met' : List (Int × Int)) => .nx met') else ( .nx s1.2.1) : Out ((List (Int × Int))) (Int × (List (Int × Int)) × Int) (Bool)) = .nx j → (deed_here.has1 = true))))))) := hv_hc10.2 hc12; (xo_ifx (XW.t (xw_and (xt_c (xc_lt (xe_var 7) xe_int)) (fun hc14 => (xw_and1 (XW.t (xw_or (xt_c (xc_lt (Dd.xe_2 (xe_var 6) (hv_hc12.1 hc14).1) xe_int)) (fun hc13 => (xw_or1 (xt_c (xc_gt (xe_add (Dd.xe_1 (xe_var 6) ((hv_hc12.1 hc14).2 hc13).1) (Dd.xe_2 (xe_var 6) ((hv_hc12.1 hc14).2 hc13).2)) (xe_var 2))))))))))) (fun hc15 => ((xo_one (xs_ret xe_bl (rg_of (by exact trivial)) rfl rfl)))) (fun hc16 => (have hv_hc16 : (((decide (sort < 2)) = true → (deed_here.has1 = true)) ∧ (((decide (sort < 2)) && (decide (deed_here.at1 < (row_here' + sort)))) = false → ((((decide (sort = 2)) = true → ((deed_here.has3 = true) ∧ (bnd (deed_here.at3) fun (text : Str) => (((!true) = false → ((decide (text = ("" : Str))) = false → (deed_here.has4 = true))) ∧ (((!true) || ((decide (text = ("" : Str))) || (!(m_l_whole deed_here.at4)))) = false → (((deed_here.has2 = true) ∧ ((decide (deed_here.at2 < 0)) = false → ((deed_here.has2 = true) ∧ (text.length ≤ sizeLine)))) ∧ (((decide (deed_here.at2 < 0)) || (decide ((deed_here.at2 + ((text.length : Nat) : Int)) > wide))) = false → ((text.length ≤ sizeLine) ∧ (-(2 ^ 62) ≤ (((text.length : Nat) : Int) : Int) ∧ (((text.length : Nat) : Int) : Int) < 2 ^ 62) ∧ ((izs 0 (((text.length : Nat) : Int) : Int).toNat).length ≤ 100000) ∧ (∀ k ∈ ((izs 0 (((text.length : Nat) : Int) : Int).toNat) : List Int), ((deed_here.has1 = true) ∧ (deed_here.has2 = true))) ∧ (s1.2.1.length + ((izs 0 (((text.length : Nat) : Int) : Int).toNat).map (fun k : Int => (deed_here.at1, (deed_here.at2 + k)))).length ≤ 100000)))))))))) ∧ (∀ (j : (List (Int × Int))), (if (decide (sort = 2)) then ( bnd (deed_here.at3) fun (text : Str) => if ((!true) || ((decide (text = ("" : Str))) || (!(m_l_whole deed_here.at4)))) then (.rt false) else if ((decide (deed_here.at2 < 0)) || (decide ((deed_here.at2 + ((text.length : Nat) : Int)) > wide))) then (.rt false) else bnd ((s1.2.1 ++ ((izs 0 (((text.length : Nat) : Int) : Int).toNat).map (fun k : Int => (deed_here.at1, (deed_here.at2 + k)))))) fun (met' : List (Int × Int)) => .nx met') else ( .nx s1.2.1) : Out ((List (Int × Int))) (Int × (List (Int × Int)) × Int) (Bool)) = .nx j → (deed_here.has1 = true))))) := hv_hc12.2 hc16; (xo_ifx (XW.t (xw_and (xt_c (xc_lt (xe_var 7) xe_int)) (fun hc17 => (xw_and1 (xt_c (xc_lt (Dd.xe_1 (xe_var 6) (hv_hc16.1 hc17)) (xe_add (xe_var 4) (xe_var 7)))))))) (fun hc18 => ((xo_one (xs_ret xe_bl (rg_of (by exact trivial)) rfl rfl)))) (fun hc19 => (have hv_hc19 : ((((decide (sort = 2)) = true → ((deed_here.has3 = true) ∧ (bnd (deed_here.at3) fun (text : Str) => (((!true) = false → ((decide (text = ("" : Str))) = false → (deed_here.has4 = true))) ∧ (((!true) || ((decide (text = ("" : Str))) || (!(m_l_whole deed_here.at4)))) = false → (((deed_here.has2 = true) ∧ ((decide (deed_here.at2 < 0)) = false → ((deed_here.has2 = true) ∧ (text.length ≤ sizeLine)))) ∧ (((decide (deed_here.at2 < 0)) || (decide ((deed_here.at2 + ((text.length : Nat) : Int)) > wide))) = false → ((text.length ≤ sizeLine) ∧ (-(2 ^ 62) ≤ (((text.length : Nat) : Int) : Int) ∧ (((text.length : Nat) : Int) : Int) < 2 ^ 62) ∧ ((izs 0 (((text.length : Nat) : Int) : Int).toNat).length ≤ 100000) ∧ (∀ k ∈ ((izs 0 (((text.length : Nat) : Int) : Int).toNat) : List Int), ((deed_here.has1 = true) ∧ (deed_here.has2 = true))) ∧ (s1.2.1.length + ((izs 0 (((text.length : Nat) : Int) : Int).toNat).map (fun k : Int => (deed_here.at1, (deed_here.at2 + k)))).length ≤ 100000)))))))))) ∧ (∀ (j : (List (Int × Int))), (if (decide (sort = 2)) then ( bnd (deed_here.at3) fun (text : Str) => if ((!true) || ((decide (text = ("" : Str))) || (!(m_l_whole deed_here.at4)))) then (.rt false) else if ((decide (deed_here.at2 < 0)) || (decide ((deed_here.at2 + ((text.length : Nat) : Int)) > wide))) then (.rt false) else bnd ((s1.2.1 ++ ((izs 0 (((text.length : Nat) : Int) : Int).toNat).map (fun k : Int => (deed_here.at1, (deed_here.at2 + k)))))) fun (met' : List (Int × Int)) => .nx met') else ( .nx s1.2.1) : Out ((List (Int × Int))) (Int × (List (Int × Int)) × Int) (Bool)) = .nx j → (deed_here.has1 = true))) := hv_hc16.2 hc19; (xo_cons (xs_if (G := (fun s : (List (Int × Int)) => [.fz (way : List Dd), .fz (wide : Int), .fz (high : Int), .fz (s1.2.2 : Int), .fz (row_here' : Int), .ow none (ol s), .fz (deed_here : Dd), .fz (sort : Int), .no, .no])) (xt_c (xc_eqS (xe_var 7) xe_int)) (fun hc20 => (have hv_hc20 : ((deed_here.has3 = true) ∧ (bnd (deed_here.at3) fun (text : Str) => (((!true) = false → ((decide (text = ("" : Str))) = false → (deed_here.has4 = true))) ∧ (((!true) || ((decide (text = ("" : Str))) || (!(m_l_whole deed_here.at4)))) = false → (((deed_here.has2 = true) ∧ ((decide (deed_here.at2 < 0)) = false → ((deed_here.has2 = true) ∧ (text.length ≤ sizeLine)))) ∧ (((decide (deed_here.at2 < 0)) || (decide ((deed_here.at2 + ((text.length : Nat) : Int)) > wide))) = false → ((text.length ≤ sizeLine) ∧ (-(2 ^ 62) ≤ (((text.length : Nat) : Int) : Int) ∧ (((text.length : Nat) : Int) : Int) < 2 ^ 62) ∧ ((izs 0 (((text.length : Nat) : Int) : Int).toNat).length ≤ 100000) ∧ (∀ k ∈ ((izs 0 (((text.length : Nat) : Int) : Int).toNat) : List Int), ((deed_here.has1 = true) ∧ (deed_here.has2 = true))) ∧ (s1.2.1.length + ((izs 0 (((text.length : Nat) : Int) : Int).toNat).map (fun k : Int => (deed_here.at1, (deed_here.at2 + k)))).length ≤ 100000)))))))) := hv_hc19.1 hc20; (xo_nxtv (xs_let 8 nd (Dd.xe_3 (xe_var 6) hv_hc20.1)) hv_hc20.2 (fun (text : Str) h_text hv_text => (xo_ifx (XW.t (xw_or (xt_not (xt_val (xe_isi (x := (text : Str)) (t := "str") T.b_isinstance T.b_str (xe_var 8) (.inr (.inr (.inr (.inl rfl)))) (by decide)))) (fun hc23 => (xw_or (xt_c (xc_eqS (xe_var 8) xe_str)) (fun hc22 => (xw_or1 (xt_not (xt_val (xe_callZ (r := (deed_here.at4, ())) (ok_l_whole T) hr (by decide) (xr_fz (Dd.xe_4 (xe_var 6) ((hv_text.1 hc23) hc22)) xr_nil) trivial))))))))) (fun hc24 => ((xo_one (xs_ret xe_bl (rg_of (by exact trivial)) rfl rfl)))) (fun hc25 => (have hv_hc25 : (((deed_here.has2 = true) ∧ ((decide (deed_here.at2 < 0)) = false → ((deed_here.has2 = true) ∧ (text.length ≤ sizeLine)))) ∧ (((decide (deed_here.at2 < 0)) || (decide ((deed_here.at2 + ((text.length : Nat) : Int)) > wide))) = false → ((text.length ≤ sizeLine) ∧ (-(2 ^ 62) ≤ (((text.length : Nat) : Int) : Int) ∧ (((text.length : Nat) : Int) : Int) < 2 ^ 62) ∧ ((izs 0 (((text.length : Nat) : Int) : Int).toNat).length ≤ 100000) ∧ (∀ k ∈ ((izs 0 (((text.length : Nat) : Int) : Int).toNat) : List Int), ((deed_here.has1 = true) ∧ (deed_here.has2 = true))) ∧ (s1.2.1.length + ((izs 0 (((text.length : Nat) : Int) : Int).toNat).map (fun k : Int => (deed_here.at1, (deed_here.at2 + k)))).length ≤ 100000)))) := hv_text.2 hc25; (xo_ifx (XW.t (xw_or (xt_c (xc_lt (Dd.xe_2 (xe_var 6) hv_hc25.1.1) xe_int)) (fun hc26 => (xw_or1 (xt_c (xc_gt (xe_add (Dd.xe_2 (xe_var 6) (hv_hc25.1.2 hc26).1) (xe_lenS T.b_len (xe_var 8) (hv_hc25.1.2 hc26).2)) (xe_var 1))))))) (fun hc27 => ((xo_one (xs_ret xe_bl (rg_of (by exact trivial)) rfl rfl)))) (fun hc28 => (have hv_hc28 : ((text.length ≤ sizeLine) ∧ (-(2 ^ 62) ≤ (((text.length : Nat) : Int) : Int) ∧ (((text.length : Nat) : Int) : Int) < 2 ^ 62) ∧ ((izs 0 (((text.length : Nat) : Int) : Int).toNat).length ≤ 100000) ∧ (∀ k ∈ ((izs 0 (((text.length : Nat) : Int) : Int).toNat) : List Int), ((deed_here.has1 = true) ∧ (deed_here.has2 = true))) ∧ (s1.2.1.length + ((izs 0 (((text.length : Nat) : Int) : Int).toNat).map (fun k : Int => (deed_here.at1, (deed_here.at2 + k)))).length ≤ 100000)) := hv_hc25.2 hc28; (xo_nxt (xs_extend (y := (s1.2.1 ++ ((izs 0 (((text.length : Nat) : Int) : Int).toNat).map (fun k : Int => (deed_here.at1, (deed_here.at2 + k)))))) (fun z : List (Int × Int) => (ol z)) (xpl_name 5) (xq_n (xn_lcT (h := fun k : Int => (deed_here.at1, (deed_here.at2 + k))) (e := (fun z : Int × Int => OT.fz z)) [("_law_k", 9)] nd (xi_range1 T.b_range (xe_lenS T.b_len (xe_var 8) hv_hc28.1) hv_hc28.2.1) hv_hc28.2.2.1 (fun q => (xg_name 9 nd)) (fun (k : Int) hy_k q => (XE.n (xe_tup (υ := Int × Int) (xa_cons (Dd.xe_1 (xe_var 6) (hv_hc28.2.2.2.1 k hy_k).1) (xa_cons (xe_add (Dd.xe_2 (xe_var 6) (hv_hc28.2.2.2.1 k hy_k).2) (xe_var 9)) xa_nil))))) (ok := by first | (show blkC ["_law_way", "_law_wide", "_law_high", "_law_last", "_law_row_here", "_law_met", "_law_deed_here", "_law_sort", "_law_text", "_law_k"] (defScope s_l_formed) _ _ = true; decide +kernel) | exact rfl))) rfl rfl (le_map hv_hc28.2.2.2.2) ((li_cat rfl).trans rfl)) (fun (met' : List (Int × Int)) h_met' => (xo_end (s := met') (by exact (.same (.same (.same (.same (.same (.same (.same (.same (.no (.same .nil)))))))))))))))))))))))) (fun hc21 => ((xo_end (s := s1.2.1) (by exact (.same (.same (.same (.same (.same (.same (.same (.same (.same (.same .nil))))))))))))))) (fun (j : (List (Int × Int))) h_j => (have hv_j : (deed_here.has1 = true) := hv_hc19.2 j h_j; (xo_nxt (xs_let 4 nd (xe_max T.b_max (xe_var 4) (Dd.xe_1 (xe_var 6) hv_j))) (fun (row_here'' : Int) h_row_here'' => (xo_nxt (xs_let 3 nd (xe_var 7)) (fun (last' : Int) h_last' => (xo_end (s := (row_here'', j, last')) (by exact (.same (.same (.same (.same (.same (.same (.no (.no (.same (.same .nil)))))))))))))))))))))))))))))))))))))) (by rfl)))) (fun (r1 : Int × (List (Int × Int)) × Int) h_r1 => (have hv_r1 : (r1.2.1.Nodup ∧ r1.2.1.length < 64) := hv_met.2 r1 h_r1; (xf_one (xs_ret (xe_c (xc_eqS (xe_thaw 5 rfl FzT.ol (xe_lenSetP T.b_len T.b_set hr.units (xe_var 5) hv_r1)) (xe_lenP T.b_len (xpl_name 5) rfl rfl))) (rg_of (by exact trivial)) rfl rfl)))))))))))))) (by rfl)
abbrev s_l_cost : Stmt := top 35
theorem sc_l_cost : FnScope ["_law_one", "_law_other", "_law_found", "_law_unlike", "_law_k"] ["_law_one", "_law_other"] (defScope s_l_cost) := ⟨rfl, rfl, rfl, by decide +kernel, rfl, by decide +kernel, by decide +kernel⟩
set_option maxHeartbeats 4000000 in
theorem ok_l_cost (T : Txt K mg) : Fk P w K mg base (L2.CX P w) "_law_cost" ["_law_one", "_law_other"] [] 1 (SpG K mg (fun a : (List (Str × Int)) × (List (Str × Int)) × Unit => ([.fz (a.1 : List (Str × Int)), .fz (a.2.1 : List (Str × Int))] : List ArgD)) (fun a : (List (Str × Int)) × (List (Str × Int)) × Unit => v_l_cost a.1 a.2.1) (fun r : Int => ([none, none] : List (Option OT))) (fun r : Int => (.fz (r : Int) : Slot)) (fun _ => none) (fun a : (List (Str × Int)) × (List (Str × Int)) × Unit => m_l_cost a.1 a.2.1)) := by
  refine fk_of (nf := (fun e : Empty => e.elim)) (G := (fun _ (e : Empty) => e.elim)) T.d_l_cost sc_l_cost (fun _ => rfl) (fun _ _ _ _ _ _ us hl => match us, hl with | [_, _], _ => rfl) (fun _ _ => rfl) (fun _ e => e.elim) ?_
  intro f cdv A outer s H E c as a hr hp
  obtain ⟨one, other, ⟨⟩⟩ := a
  have nd := sc_l_cost.nd
  have hp : v_l_cost one other := hp
  delta v_l_cost at hp
  refine XF.gam (Γ' := [.fz (one : List (Str × Int)), .fz (other : List (Str × Int)), .no, .no, .no]) rfl ?_
  exact XF.eq (xf_nxtv (xs_let 2 nd xe_int) hp (fun (found : Int) h_found hv_found => (xf_nxtv (xs_let 3 nd xe_bl) hv_found (fun (unlike : Bool) h_unlike hv_unlike => (xf_nxt (xs_foldV (g := m_l_cost_f1 one other) (vb := (v_l_cost_f1 one other)) (L := (fun s1 : Int × Bool => [.fz (one : List (Str × Int)), .fz (other : List (Str × Int)), .fz (s1.1 : Int), .fz (s1.2 : Bool), .no])) (s0 := (found, unlike)) (xi_range1 T.b_range (xe_lenl T.b_len (xe_var 1)) hv_unlike.1) (xg_name 4 nd) (by exact (.same (.same (.same (.same (.same .nil)))))) hv_unlike.2 (fun (k : Int) (s1 : Int × Bool) hv => (XO.eq (xn_nxtv (kV := fun j : Int × Bool => (j.2 = false → ((InB one k) ∧ (InB other k) ∧ (PyD.dok (ix one k)) ∧ (PyD.dok (ix other k))))) (xs_ifs (G := (fun s : Int × Bool => [.fz (one : List (Str × Int)), .fz (other : List (Str × Int)), .fz (s.1 : Int), .fz (s.2 : Bool), .fz (k : Int)])) (XW.t (xw_and (xt_c (xc_gt (xe_var 4) xe_int)) (fun hc1 => (xw_and1 (xt_c (xc_neS (xe_snd (xe_ixl (xe_var 1) (xe_var 4) (hv.1 hc1).1)) (xe_snd (xe_ixl (xe_var 1) (xe_sub (xe_var 4) xe_int) (hv.1 hc1).2)))))))) (fun hc2 => ((xn_nxt (xs_let 2 nd (xe_add (xe_var 2) (xe_intB T.b_int (xe_var 3)))) (fun (found' : Int) h_found' => (xn_nxt (xs_let 3 nd xe_bl) (fun (unlike' : Bool) h_unlike' => (xo_end (s := (found', unlike')) (by exact (.same (.same (.same (.same (.same .nil))))))))))))) (fun hc3 => ((xo_end (s := (s1.1, s1.2)) (by exact (.same (.same (.same (.same (.same .nil)))))))))) hv.2 (fun (j : Int × Bool) h_j hv_j => (xn_nxt (xs_let 3 nd (xe_or (xe_var 3) (fun hc4 => (xe_one (xe_c (xc_neD hr.units (xe_ixl (xe_var 0) (xe_var 4) (hv_j hc4).1) (xe_ixl (xe_var 1) (xe_var 4) (hv_j hc4).2.1) (hv_j hc4).2.2.1 (hv_j hc4).2.2.2)))))) (fun (unlike'' : Bool) h_unlike'' => (xo_end (s := (j.1, unlike'')) (by exact (.same (.same (.same (.same (.no .nil))))))))))) (by rfl)))) (fun (r1 : Int × Bool) h_r1 => (xf_one (xs_ret (xe_add (xe_var 2) (xe_intB T.b_int (xe_var 3))) (rg_of (by exact trivial)) rfl rfl)))))))) (by rfl)
abbrev s_l_small : Stmt := top 36
theorem sc_l_small : FnScope ["_law_script", "_law_first", "_law_wide", "_law_high", "_law_rows", "_law_k", "_law_number", "_law_row_here", "_law_place"] ["_law_script", "_law_first", "_law_wide", "_law_high"] (defScope s_l_small) := ⟨rfl, rfl, rfl, by decide +kernel, rfl, by decide +kernel, by decide +kernel⟩
set_option maxHeartbeats 4000000 in
theorem ok_l_small (T : Txt K mg) : Fk P w K mg base (L2.CX P w) "_law_small" ["_law_script", "_law_first", "_law_wide", "_law_high"] [] 3 (SpG K mg (fun a : (Scr Int) × Int × Int × Int × Unit => ([.fz (a.1 : Scr Int), .fz (a.2.1 : Int), .fz (a.2.2.1 : Int), .fz (a.2.2.2.1 : Int)] : List ArgD)) (fun a : (Scr Int) × Int × Int × Int × Unit => v_l_small a.1 a.2.1 a.2.2.1 a.2.2.2.1) (fun r : (List (List (Str × Int))) => ([none, none, none, none] : List (Option OT))) (fun r : (List (List (Str × Int))) => (.fz (r : List (List (Str × Int))) : Slot)) (fun _ => none) (fun a : (Scr Int) × Int × Int × Int × Unit => m_l_small a.1 a.2.1 a.2.2.1 a.2.2.2.1)) := by
  refine fk_of (nf := (fun e : Empty => e.elim)) (G := (fun _ (e : Empty) => e.elim)) T.d_l_small sc_l_small (fun _ => rfl) (fun _ _ _ _ _ _ us hl => match us, hl with | [_, _, _, _], _ => rfl) (fun _ _ => rfl) (fun _ e => e.elim) ?_
  intro f cdv A outer s H E c as a hr hp
  obtain ⟨script, first, wide, high, ⟨⟩⟩ := a
  have nd := sc_l_small.nd
  have hp : v_l_small script first wide high := hp
  delta v_l_small at hp
  refine XF.gam (Γ' := [.fz (script : Scr Int), .fz (first : Int), .fz (wide : Int), .fz (high : Int), .no, .no, .no, .no, .no]) rfl ?_
  exact XF.eq (xf_nxtv (xs_letN (x := ([] : List (List (Str × Int)))) ol 4 nd (XN.eq (xn_lst (ts := []) xns_nil (le100 rfl)) (t' := (ol ([] : List (List (Str × Int))))) rfl)) hp (fun (rows : List (List (Str × Int))) h_rows hv_rows => (xf_nxt (xs_foldV (g := m_l_small_f1 script first wide) (vb := (v_l_small_f1 script first wide)) (L := (fun s1 : (List (List (Str × Int))) => [.fz (script : Scr Int), .fz (first : Int), .fz (wide : Int), .fz (high : Int), .ow none (ol s1), .no, .no, .no, .no])) (s0 := rows) (xi_range1 T.b_range (xe_var 3) hv_rows.1) (xg_name 5 nd) (by exact (.same (.same (.same (.same (.same (.same (.same (.same (.same .nil)))))))))) hv_rows.2 (fun (k : Int) (s1 : (List (List (Str × Int)))) hv => (XO.eq (xn_nxtv (xs_let 6 nd (xe_callZ (r := (script, (first + k), ())) (ok_l_mixed T) hr (by decide) (xr_fz (xe_var 0) (xr_fz (xe_add (xe_var 1) (xe_var 5)) xr_nil)) hv.1)) hv.2 (fun (number : Int) h_number hv_number => (xn_nxtv (xs_letN (x := ([] : List (Str × Int))) ol 7 nd (XN.eq (xn_lst (ts := []) xns_nil (le100 rfl)) (t' := (ol ([] : List (Str × Int)))) rfl)) hv_number (fun (row_here : List (Str × Int)) h_row_here hv_row_here => (xn_nxtv (kV := fun r2 : (List (Str × Int)) => (s1.length < 100000)) (xs_foldV (g := m_l_small_f2 number) (vb := (v_l_small_f2 number)) (L := (fun s2 : (List (Str × Int)) => [.fz (script : Scr Int), .fz (first : Int), .fz (wide : Int), .fz (high : Int), .ow none (ol s1), .fz (k : Int), .fz (number : Int), .ow none (ol s2), .no])) (s0 := row_here) (xi_range1 T.b_range (xe_var 2) hv_row_here.1.1) (xg_name 8 nd) (by exact (.same (.same (.same (.same (.same (.same (.same (.same (.same .nil)))))))))) hv_row_here.1.2 (fun (place : Int) (s2 : (List (Str × Int))) hv => (XO.eq (xn_nxt (xs_append (y := (s2 ++ [((ixS ("abc de" : Str) ((number / (5 + (9 * place))) % 6)), (ix ([0, 0, 64] : List Int) ((number / (45 + (9 * place))) % 3)))])) (fun z : List (Str × Int) => (ol z)) (xpl_name 7) (XE.n (xe_tup (υ := Str × Int) (xa_cons (xe_ixS xe_str (xe_mod (xe_div (xe_var 6) (xe_add xe_int (xe_mul xe_int (xe_var 8) (.inl (by decide)))) hv.1) xe_int (by decide)) (inB_mod 6 rfl (by decide)) (by decide)) (xa_cons (xe_ixl (XN.fr (XN.eq (xn_lst (xns_cons (XE.n xe_int) (xns_cons (XE.n xe_int) (xns_cons (XE.n xe_int) xns_nil))) (le100 rfl)) (t' := (ol ([0, 0, 64] : List Int))) rfl) FzT.ol) (xe_mod (xe_div (xe_var 6) (xe_add xe_int (xe_mul xe_int (xe_var 8) (.inl (by decide)))) hv.2.1) xe_int (by decide)) (inB_mod 3 rfl (by decide))) xa_nil)))) rfl rfl (lt_map hv.2.2) ((li_app rfl).trans rfl)) (fun (row_here' : List (Str × Int)) h_row_here' => (xo_end (s := row_here') (by exact (.same (.same (.same (.same (.same (.same (.same (.same (.no .nil))))))))))))) (by rfl)))) hv_row_here.2 (fun (r2 : (List (Str × Int))) h_r2 hv_r2 => (xo_freeze 7 FzT.ol (xn_nxt (xs_append (y := (s1 ++ [r2])) (fun z : List (List (Str × Int)) => (ol z)) (xpl_name 4) (XE.n (xe_var 7)) rfl rfl (lt_map hv_r2) ((li_app rfl).trans rfl)) (fun (rows' : List (List (Str × Int))) h_rows' => (xo_end (s := rows') (by exact (.same (.same (.same (.same (.same (.no (.no (.no (.same .nil)))))))))))))))))))) (by rfl)))) (fun (r1 : (List (List (Str × Int)))) h_r1 => (xf_freeze 4 FzT.ol (xf_one (xs_ret (xe_var 4) (rg_of (by exact trivial)) rfl rfl))))))) (by rfl)
abbrev s_l_rows_of_deeds : Stmt := top 37
theorem sc_l_rows_of_deeds : FnScope ["_law_word", "_law_high", "_law_found", "_law_longest", "_law_turn", "_law_more", "_law_deeds", "_law_first", "_law_row_here", "_law_many"] ["_law_word", "_law_high"] (defScope s_l_rows_of_deeds) := ⟨rfl, rfl, rfl, by decide +kernel, rfl, by decide +kernel, by decide +kernel⟩
set_option maxHeartbeats 4000000 in
theorem ok_l_rows_of_deeds (T : Txt K mg) : Fk P w K mg base (L2.CX P w) "_law_rows_of_deeds" ["_law_word", "_law_high"] [] 1 (SpG K mg (fun a : Str × Int × Unit => ([.fz (a.1 : Str), .fz (a.2.1 : Int)] : List ArgD)) (fun a : Str × Int × Unit => v_l_rows_of_deeds a.1 a.2.1) (fun r : (List (List Dd)) => ([none, none] : List (Option OT))) (fun r : (List (List Dd)) => (.fz (r : List (List Dd)) : Slot)) (fun _ => none) (fun a : Str × Int × Unit => m_l_rows_of_deeds a.1 a.2.1)) := by
  refine fk_of (nf := (fun e : Empty => e.elim)) (G := (fun _ (e : Empty) => e.elim)) T.d_l_rows_of_deeds sc_l_rows_of_deeds (fun _ => rfl) (fun _ _ _ _ _ _ us hl => match us, hl with | [_, _], _ => rfl) (fun _ _ => rfl) (fun _ e => e.elim) ?_
  intro f cdv A outer s H E c as a hr hp
  obtain ⟨word, high, ⟨⟩⟩ := a
  have nd := sc_l_rows_of_deeds.nd
  have hp : v_l_rows_of_deeds word high := hp
  delta v_l_rows_of_deeds at hp
  refine XF.gam (Γ' := [.fz (word : Str), .fz (high : Int), .no, .no, .no, .no, .no, .no, .no, .no]) rfl ?_
  exact XF.eq (xf_nxtv (xs_let 2 nd (XN.fr (XN.eq (xn_lst (xns_cons (XN.eq (xn_lst (ts := []) xns_nil (le100 rfl)) (t' := (ol ([] : List Dd))) rfl) xns_nil) (le100 rfl)) (t' := ((OT.li ol) ([([] : List Dd)] : List (List Dd)))) rfl) (FzT.lid fun _ => FzT.ol))) hp (fun (found : List (List Dd)) h_found hv_found => (xf_nxtv (xs_let 3 nd (XN.fr (XN.eq (xn_lst (xns_cons (XN.eq (xn_lst (ts := []) xns_nil (le100 rfl)) (t' := (ol ([] : List Dd))) rfl) xns_nil) (le100 rfl)) (t' := ((OT.li ol) ([([] : List Dd)] : List (List Dd)))) rfl) (FzT.lid fun _ => FzT.ol))) hv_found (fun (longest : List (List Dd)) h_longest hv_longest => (xf_nxt (xs_foldV (g := m_l_rows_of_deeds_f1 word high) (vb := (v_l_rows_of_deeds_f1 word high)) (L := (fun s1 : (List (List Dd)) × (List (List Dd)) => [.fz (word : Str), .fz (high : Int), .fz (s1.2 : List (List Dd)), .fz (s1.1 : List (List Dd)), .no, .no, .no, .no, .no, .no])) (s0 := (longest, found)) (xi_range1 T.b_range (xe_var 1) hv_longest.1) (xg_name 4 nd) (by exact (.same (.same (.same (.same (.same (.same (.same (.same (.same (.same .nil))))))))))) hv_longest.2 (fun (turn : Int) (s1 : (List (List Dd)) × (List (List Dd))) hv => (XO.eq (xn_nxtv (xs_letN (x := ([] : List (List Dd))) ol 5 nd (XN.eq (xn_lst (ts := []) xns_nil (le100 rfl)) (t' := (ol ([] : List (List Dd)))) rfl)) hv (fun (more : List (List Dd)) h_more hv_more => (xn_nxtv (kV := fun r2 : (List (List Dd)) => (bnd (r2) fun (longest' : List (List Dd)) => (s1.2.length + r2.length ≤ 100000))) (xs_foldV (g := m_l_rows_of_deeds_f2 word high) (vb := (v_l_rows_of_deeds_f2 word high)) (L := (fun s2 : (List (List Dd)) => [.fz (word : Str), .fz (high : Int), .fz (s1.2 : List (List Dd)), .fz (s1.1 : List (List Dd)), .fz (turn : Int), .ow none (ol s2), .no, .no, .no, .no])) (s0 := more) (xi_listL (xe_var 3)) (xg_name 6 nd) (by exact (.same (.same (.same (.same (.same (.same (.same (.same (.same (.same .nil))))))))))) hv_more.1 (fun (deeds : List Dd) (s2 : (List (List Dd))) hv => (XO.eq (xn_nxtv (xs_let 7 nd xe_int) hv (fun (first : Int) h_first hv_first => (xn_nxtv (kV := fun j : Int => ((-(2 ^ 62) ≤ (j : Int) ∧ (j : Int) < 2 ^ 62 ∧ -(2 ^ 62) ≤ (high : Int) ∧ (high : Int) < 2 ^ 62) ∧ (vFold (m_l_rows_of_deeds_f3 word high deeds) (v_l_rows_of_deeds_f3 word high deeds) s2 (izs j (high - j).toNat)))) (xs_ifs (G := (fun s : Int => [.fz (word : Str), .fz (high : Int), .fz (s1.2 : List (List Dd)), .fz (s1.1 : List (List Dd)), .fz (turn : Int), .ow none (ol s2), .fz (deeds : List Dd), .fz (s : Int), .no, .no])) (xt_c (xc_neD hr.units (xe_var 6) (XN.fr (XN.eq (xn_lst (ts := []) xns_nil (le100 rfl)) (t' := (ol ([] : List Dd))) rfl) FzT.ol) hv_first.1.1.1 hv_first.1.1.2)) (fun hc1 => (have hv_hc1 : ((InB deeds (-1)) ∧ ((ix deeds (-1)).has1 = true)) := hv_first.1.2 hc1; (xn_nxt (xs_let 7 nd (xe_add (Dd.xe_1 (xe_ixl (xe_var 6) (xe_neg xe_int) hv_hc1.1) hv_hc1.2) (xe_intB T.b_int (xe_c (xc_eqS (xe_var 0) xe_str))))) (fun (first' : Int) h_first' => (xo_end (s := first') (by exact (.same (.same (.same (.same (.same (.same (.same (.same (.same (.same .nil)))))))))))))))) (fun hc2 => ((xo_end (s := first) (by exact (.same (.same (.same (.same (.same (.same (.same (.same (.same (.same .nil))))))))))))))) hv_first.2 (fun (j : Int) h_j hv_j => (xn_nxt (xs_foldV (g := m_l_rows_of_deeds_f3 word high deeds) (vb := (v_l_rows_of_deeds_f3 word high deeds)) (L := (fun s3 : (List (List Dd)) => [.fz (word : Str), .fz (high : Int), .fz (s1.2 : List (List Dd)), .fz (s1.1 : List (List Dd)), .fz (turn : Int), .ow none (ol s3), .fz (deeds : List Dd), .fz (j : Int), .no, .no])) (s0 := s2) (xi_range2 T.b_range (xe_var 7) (xe_var 1) hv_j.1) (xg_name 8 nd) (by exact (.same (.same (.same (.same (.same (.same (.same (.same (.same (.same .nil))))))))))) hv_j.2 (fun (row_here : Int) (s3 : (List (List Dd))) hv => (XO.eq (xn_nxt (xs_foldV (g := m_l_rows_of_deeds_f4 word deeds row_here) (vb := (v_l_rows_of_deeds_f4 word deeds row_here)) (L := (fun s4 : (List (List Dd)) => [.fz (word : Str), .fz (high : Int), .fz (s1.2 : List (List Dd)), .fz (s1.1 : List (List Dd)), .fz (turn : Int), .ow none (ol s4), .fz (deeds : List Dd), .fz (j : Int), .fz (row_here : Int), .no])) (s0 := s3) (xi_range2 T.b_range xe_int (xe_add (xe_sub (xe_var 1) (xe_var 8)) xe_int) hv.1) (xg_name 9 nd) (by exact (.same (.same (.same (.same (.same (.same (.same (.same (.same (.same .nil))))))))))) hv.2 (fun (many : Int) (s4 : (List (List Dd))) hv => (XO.eq (xn_nxt (xs_append (y := (s4 ++ [(deeds ++ ([(Dd.cp word row_here many)] : List Dd))])) (fun z : List (List Dd) => (ol z)) (xpl_name 5) (XE.n (XN.fr (xn_cat (xq_fz (xe_var 6)) (xq_n (XN.eq (xn_lst (xns_cons (XE.n (Dd.mk_cp (xe_tup (υ := T3 Str Int Int) (xa_cons (xe_var 0) (xa_cons (xe_var 8) (xa_cons (xe_var 9) xa_nil)))))) xns_nil) (le100 rfl)) (t' := (ol ([(Dd.cp word row_here many)] : List Dd))) rfl)) hv.1) FzT.ol)) rfl rfl (lt_map hv.2) ((li_app rfl).trans rfl)) (fun (more' : List (List Dd)) h_more' => (xo_end (s := more') (by exact (.same (.same (.same (.same (.same (.same (.same (.same (.same (.no .nil)))))))))))))) (by rfl)))) (fun (r4 : (List (List Dd))) h_r4 => (xo_end (s := r4) (by exact (.same (.same (.same (.same (.same (.same (.same (.same (.no (.same .nil)))))))))))))) (by rfl)))) (fun (r3 : (List (List Dd))) h_r3 => (xo_end (s := r3) (by exact (.same (.same (.same (.same (.same (.same (.no (.no (.same (.same .nil)))))))))))))))))) (by rfl)))) hv_more.2 (fun (r2 : (List (List Dd))) h_r2 hv_r2 => (xo_freeze 5 FzT.ol (xn_nxtv (xs_let 3 nd (xe_var 5)) hv_r2 (fun (longest' : List (List Dd)) h_longest' hv_longest' => (xn_nxt (xs_let 2 nd (XN.fr (xn_cat (xq_fz (xe_var 2)) (xq_fz (xe_var 5)) hv_longest') FzT.ol)) (fun (found' : List (List Dd)) h_found' => (xo_end (s := (longest', found')) (by exact (.same (.same (.same (.same (.no (.no (.same (.same (.same (.same .nil))))))))))))))))))))) (by rfl)))) (fun (r1 : (List (List Dd)) × (List (List Dd))) h_r1 => (xf_one (xs_ret (xe_var 2) (rg_of (by exact trivial)) rfl rfl)))))))) (by rfl)
abbrev s_l_behind : Stmt := top 38
theorem sc_l_behind : FnScope ["_law_picture_here", "_law_deeds", "_law_deed_here"] ["_law_picture_here", "_law_deeds"] (defScope s_l_behind) := ⟨rfl, rfl, rfl, by decide +kernel, rfl, by decide +kernel, by decide +kernel⟩
set_option maxHeartbeats 4000000 in
theorem ok_l_behind (T : Txt K mg) : Fk P w K mg base (L2.CX P w) "_law_behind" ["_law_picture_here", "_law_deeds"] [] 3 (SpG K mg (fun a : (List (List (Str × Int))) × (List Dd) × Unit => ([.fz (a.1 : List (List (Str × Int))), .fz (a.2.1 : List Dd)] : List ArgD)) (fun a : (List (List (Str × Int))) × (List Dd) × Unit => v_l_behind a.1 a.2.1) (fun r : (List (List (Str × Int))) => ([none, none] : List (Option OT))) (fun r : (List (List (Str × Int))) => (.fz (r : List (List (Str × Int))) : Slot)) (fun _ => none) (fun a : (List (List (Str × Int))) × (List Dd) × Unit => m_l_behind a.1 a.2.1)) := by
  refine fk_of (nf := (fun e : Empty => e.elim)) (G := (fun _ (e : Empty) => e.elim)) T.d_l_behind sc_l_behind (fun _ => rfl) (fun _ _ _ _ _ _ us hl => match us, hl with | [_, _], _ => rfl) (fun _ _ => rfl) (fun _ e => e.elim) ?_
  intro f cdv A outer s H E c as a hr hp
  obtain ⟨picture_here, deeds, ⟨⟩⟩ := a
  have nd := sc_l_behind.nd
  have hp : v_l_behind picture_here deeds := hp
  delta v_l_behind at hp
  refine XF.gam (Γ' := [.fz (picture_here : List (List (Str × Int))), .fz (deeds : List Dd), .no]) rfl ?_
  exact XF.eq (xf_nxt (xs_foldV (g := m_l_behind_f1) (vb := (v_l_behind_f1)) (L := (fun s1 : (List (List (Str × Int))) => [.fz (s1 : List (List (Str × Int))), .fz (deeds : List Dd), .no])) (s0 := picture_here) (xi_listL (xe_var 1)) (xg_name 2 nd) (by exact (.same (.same (.same .nil)))) hp (fun (deed_here : Dd) (s1 : (List (List (Str × Int)))) hv => (XO.eq (xn_nxt (xs_let 0 nd (xe_callZ (r := (s1, deed_here, ())) (ok_l_deed T) hr (by decide) (xr_fz (xe_var 0) (xr_fz (xe_var 2) xr_nil)) hv)) (fun (picture_here' : List (List (Str × Int))) h_picture_here' => (xo_end (s := picture_here') (by exact (.same (.same (.no .nil))))))) (by rfl)))) (fun (r1 : (List (List (Str × Int)))) h_r1 => (xf_one (xs_ret (xe_var 0) (rg_of (by exact trivial)) rfl rfl)))) (by rfl)
abbrev s_l_least : Stmt := top 39
theorem sc_l_least : FnScope ["_law_one", "_law_other", "_law_high", "_law_puts", "_law_best", "_law_cuts", "_law_between", "_law_deeds", "_law_last", "_law_cost_here", "_law_row_here", "_law_goal"] ["_law_one", "_law_other"] (defScope s_l_least) := ⟨rfl, rfl, rfl, by decide +kernel, rfl, by decide +kernel, by decide +kernel⟩
set_option maxHeartbeats 4000000 in
theorem ok_l_least (T : Txt K mg) : Fk P w K mg base (L2.CX P w) "_law_least" ["_law_one", "_law_other"] [] 4 (SpG K mg (fun a : (List (List (Str × Int))) × (List (List (Str × Int))) × Unit => ([.fz (a.1 : List (List (Str × Int))), .fz (a.2.1 : List (List (Str × Int)))] : List ArgD)) (fun a : (List (List (Str × Int))) × (List (List (Str × Int))) × Unit => v_l_least a.1 a.2.1) (fun r : (Option Int) => ([none, none] : List (Option OT))) (fun r : (Option Int) => (.fz (r : Option Int) : Slot)) (fun _ => none) (fun a : (List (List (Str × Int))) × (List (List (Str × Int))) × Unit => m_l_least a.1 a.2.1)) := by
  refine fk_of (nf := (fun e : Empty => e.elim)) (G := (fun _ (e : Empty) => e.elim)) T.d_l_least sc_l_least (fun _ => rfl) (fun _ _ _ _ _ _ us hl => match us, hl with | [_, _], _ => rfl) (fun _ _ => rfl) (fun _ e => e.elim) ?_
  intro f cdv A outer s H E c as a hr hp
  obtain ⟨one, other, ⟨⟩⟩ := a
  have nd := sc_l_least.nd
  have hp : v_l_least one other := hp
  delta v_l_least at hp
  refine XF.gam (Γ' := [.fz (one : List (List (Str × Int))), .fz (other : List (List (Str × Int))), .no, .no, .no, .no, .no, .no, .no, .no, .no, .no]) rfl ?_
  exact XF.eq (xf_nxtv (xs_let 2 nd (xe_lenl T.b_len (xe_var 0))) hp (fun (high : Int) h_high hv_high => (xf_nxtv (xs_let 3 nd (xe_callZ (r := (("put" : Str), high, ())) (ok_l_rows_of_deeds T) hr (by decide) (xr_fz xe_str (xr_fz (xe_var 2) xr_nil)) hv_high.1)) hv_high.2 (fun (puts : List (List Dd)) h_puts hv_puts => (xf_nxtv (xs_let 4 nd xe_none) hv_puts (fun (best : Option Int) h_best hv_best => (xf_cons (xs_forV (R := RcG as (fun r : (Option Int) => [none, none]) (fun r : (Option Int) => .fz (r : Option Int)) (fun _ => none)) (f := m_l_least_f1 one other puts) (vb := (v_l_least_f1 one other puts)) (L := (fun s1 : (Option Int) => [.fz (one : List (List (Str × Int))), .fz (other : List (List (Str × Int))), .fz (high : Int), .fz (puts : List (List Dd)), .fz (s1 : Option Int), .no, .no, .no, .no, .no, .no, .no])) (s0 := best) (xi_listL (xe_callZ (r := (("cut" : Str), high, ())) (ok_l_rows_of_deeds T) hr (by decide) (xr_fz xe_str (xr_fz (xe_var 2) xr_nil)) hv_best.1)) (xg_name 5 nd) (by exact (.same (.same (.same (.same (.same (.same (.same (.same (.same (.same (.same (.same .nil))))))))))))) hv_best.2 (fun (cuts : List Dd) (s1 : (Option Int)) hv => (XO.eq (xo_ifx (XW.t (xw_and (xt_c (xc_notNone (xe_var 4))) (fun hc1 => (xw_and1 (xt_c (xc_ge (xe_lenl T.b_len (xe_var 5)) (xe_get (xe_var 4) (hv.1 hc1)))))))) (fun hc2 => ((xo_one (xs_cnt (s := s1) (by exact (.same (.same (.same (.same (.same (.no (.same (.same (.same (.same (.same (.same .nil))))))))))))))))) (fun hc3 => (have hv_hc3 : ((v_l_behind one cuts) ∧ (bnd ((m_l_behind one cuts)) fun (between : List (List (Str × Int))) => (vFold (m_l_least_f2 other cuts between) (v_l_least_f2 other cuts between) s1 puts))) := hv.2 hc3; (xo_nxtv (xs_let 6 nd (xe_callZ (r := (one, cuts, ())) (ok_l_behind T) hr (by decide) (xr_fz (xe_var 0) (xr_fz (xe_var 5) xr_nil)) hv_hc3.1)) hv_hc3.2 (fun (between : List (List (Str × Int))) h_between hv_between => (xo_nxt (xs_foldV (g := m_l_least_f2 other cuts between) (vb := (v_l_least_f2 other cuts between)) (L := (fun s2 : (Option Int) => [.fz (one : List (List (Str × Int))), .fz (other : List (List (Str × Int))), .fz (high : Int), .fz (puts : List (List Dd)), .fz (s2 : Option Int), .fz (cuts : List Dd), .fz (between : List (List (Str × Int))), .no, .no, .no, .no, .no])) (s0 := s1) (xi_listL (xe_var 3)) (xg_name 7 nd) (by exact (.same (.same (.same (.same (.same (.same (.same (.same (.same (.same (.same (.same .nil))))))))))))) hv_between (fun (deeds : List Dd) (s2 : (Option Int)) hv => (XO.eq (xn_nxt (xs_ifs (G := (fun s : (Option Int) => [.fz (one : List (List (Str × Int))), .fz (other : List (List (Str × Int))), .fz (high : Int), .fz (puts : List (List Dd)), .fz (s : Option Int), .fz (cuts : List Dd), .fz (between : List (List (Str × Int))), .fz (deeds : List Dd), .no, .no, .no, .no])) (XW.t (xw_or (xt_c (xc_isNone (xe_var 4))) (fun hc4 => (xw_or1 (xt_c (xc_lt (xe_add (xe_lenl T.b_len (xe_var 5)) (xe_lenl T.b_len (xe_var 7))) (xe_get (xe_var 4) (hv.1 hc4)))))))) (fun hc5 => (have hv_hc5 : ((v_l_behind between deeds) ∧ (bnd ((m_l_behind between deeds)) fun (last : List (List (Str × Int))) => (bnd ((((cuts.length : Nat) : Int) + ((deeds.length : Nat) : Int))) fun (cost_here : Int) => (((vFold (m_l_least_f3) (v_l_least_f3) cost_here (last.zip other))) ∧ (bnd (((last.zip other).foldl (m_l_least_f3) cost_here)) fun (r3 : Int) => (s2.isNone = false → (s2.isSome = true))))))) := hv.2 hc5; (xn_nxtv (xs_let 8 nd (xe_callZ (r := (between, deeds, ())) (ok_l_behind T) hr (by decide) (xr_fz (xe_var 6) (xr_fz (xe_var 7) xr_nil)) hv_hc5.1)) hv_hc5.2 (fun (last : List (List (Str × Int))) h_last hv_last => (xn_nxtv (xs_let 9 nd (xe_add (xe_lenl T.b_len (xe_var 5)) (xe_lenl T.b_len (xe_var 7)))) hv_last (fun (cost_here : Int) h_cost_here hv_cost_here => (xn_nxtv (kV := fun r3 : Int => (s2.isNone = false → (s2.isSome = true))) (xs_foldV (g := m_l_least_f3) (vb := (v_l_least_f3)) (L := (fun s3 : Int => [.fz (one : List (List (Str × Int))), .fz (other : List (List (Str × Int))), .fz (high : Int), .fz (puts : List (List Dd)), .fz (s2 : Option Int), .fz (cuts : List Dd), .fz (between : List (List (Str × Int))), .fz (deeds : List Dd), .fz (last : List (List (Str × Int))), .fz (s3 : Int), .no, .no])) (s0 := cost_here) (xi_zip T.b_zip (xe_var 8) (xe_var 1)) (xg_tup (xgs_cons (xg_name 10 nd) (xgs_cons (xg_name 11 nd) xgs_nil))) (by exact (.same (.same (.same (.same (.same (.same (.same (.same (.same (.same (.same (.same .nil))))))))))))) hv_cost_here.1 (fun (y3 : (List (Str × Int)) × (List (Str × Int))) (s3 : Int) hv => (XO.eq (xn_nxt (xs_let 9 nd (xe_add (xe_var 9) (xe_callZ (r := (y3.1, y3.2, ())) (ok_l_cost T) hr (by decide) (xr_fz (xe_var 10) (xr_fz (xe_var 11) xr_nil)) hv))) (fun (cost_here' : Int) h_cost_here' => (xo_end (s := cost_here') (by exact (.same (.same (.same (.same (.same (.same (.same (.same (.same (.same (.no (.no .nil)))))))))))))))) (by rfl)))) hv_cost_here.2 (fun (r3 : Int) h_r3 hv_r3 => (xn_nxt (xs_ifs (G := (fun s : (Option Int) => [.fz (one : List (List (Str × Int))), .fz (other : List (List (Str × Int))), .fz (high : Int), .fz (puts : List (List Dd)), .fz (s : Option Int), .fz (cuts : List Dd), .fz (between : List (List (Str × Int))), .fz (deeds : List Dd), .fz (last : List (List (Str × Int))), .fz (r3 : Int), .no, .no])) (XW.t (xw_or (xt_c (xc_isNone (xe_var 4))) (fun hc7 => (xw_or1 (xt_c (xc_lt (xe_var 9) (xe_get (xe_var 4) (hv_r3 hc7)))))))) (fun hc8 => ((xn_nxt (xs_let 4 nd (xe_some (xe_var 9))) (fun (best' : Option Int) h_best' => (xo_end (s := best') (by exact (.same (.same (.same (.same (.same (.same (.same (.same (.same (.same (.same (.same .nil)))))))))))))))))) (fun hc9 => ((xo_end (s := s2) (by exact (.same (.same (.same (.same (.same (.same (.same (.same (.same (.same (.same (.same .nil))))))))))))))))) (fun (j' : (Option Int)) h_j' => (xo_end (s := j') (by exact (.same (.same (.same (.same (.same (.same (.same (.same (.no (.no (.same (.same .nil)))))))))))))))))))))))) (fun hc6 => ((xo_end (s := s2) (by exact (.same (.same (.same (.same (.same (.same (.same (.same (.same (.same (.same (.same .nil))))))))))))))))) (fun (j : (Option Int)) h_j => (xo_end (s := j) (by exact (.same (.same (.same (.same (.same (.same (.same (.no (.same (.same (.same (.same .nil)))))))))))))))) (by rfl)))) (fun (r2 : (Option Int)) h_r2 => (xo_end (s := r2) (by exact (.same (.same (.same (.same (.same (.no (.no (.same (.same (.same (.same (.same .nil))))))))))))))))))))) (by rfl)))) (fun (r1 : (Option Int)) h_r1 => (xf_one (xs_ret (xe_var 4) (rg_of (by exact trivial)) rfl rfl)))))))))) (by rfl)
abbrev s_law : Stmt := top 40
theorem sc_law : FnScope ["_law_script", "_law_wide", "_law_high", "_law_one", "_law_other", "_law_number", "_law_best", "_law_found", "_law_way", "_law_cuts", "_law_puts", "_law_between"] ["_law_script"] (defScope s_law) := ⟨rfl, rfl, rfl, by decide +kernel, rfl, by decide +kernel, by decide +kernel⟩
set_option maxHeartbeats 4000000 in
theorem ok_law (T : Txt K mg) {f : Addr} {fd : FuncData} (F : Fun K "law" "law" s_law f fd) : FnOk P w K mg base CX0 7 f fd ["_law_script"] (SpL K Pre) := by
  refine fn_law F sc_law ?_
  intro f cdv A outer s H E c a hr hp0
  have hp : v_law a := v_law_ok a hp0
  delta v_law at hp
  have nd := sc_law.nd
  refine XF.eq ?_ (law_true a hp0)
  refine XF.gam (Γ' := [.fz (a : Scr Int), .no, .no, .no, .no, .no, .no, .no, .no, .no, .no, .no]) rfl ?_
  exact XF.eq (xf_nxtv (xs_let 1 nd (xe_ixl (xe_lst (xl_cons xe_int (xl_cons xe_int (xl_cons xe_int (xl_cons xe_int xl_nil)))) (le100 rfl)) (xe_mod (xe_callZ (r := (a, 0, ())) (ok_l_mixed T) hr (by decide) (xr_fz (xe_var 0) (xr_fz xe_int xr_nil)) hp.1) xe_int (by decide)) (inB_mod 4 rfl (by decide)))) hp.2 (fun (wide : Int) h_wide hv_wide => (xf_nxtv (xs_let 2 nd (xe_ixl (xe_lst (xl_cons xe_int (xl_cons xe_int (xl_cons xe_int (xl_cons xe_int (xl_cons xe_int (xl_cons xe_int xl_nil)))))) (le100 rfl)) (xe_mod (xe_div (xe_callZ (r := (a, 0, ())) (ok_l_mixed T) hr (by decide) (xr_fz (xe_var 0) (xr_fz xe_int xr_nil)) hv_wide.1) xe_int ⟨by decide, by decide⟩) xe_int (by decide)) (inB_mod 6 rfl (by decide)))) hv_wide.2 (fun (high : Int) h_high hv_high => (xf_nxtv (kV := fun j : Int => ((v_l_small a 1 wide j) ∧ (bnd ((m_l_small a 1 wide j)) fun (one : List (List (Str × Int))) => ((v_l_small a 4 wide j) ∧ (bnd ((m_l_small a 4 wide j)) fun (other : List (List (Str × Int))) => ((v_l_mixed a 7) ∧ (bnd ((m_l_mixed a 7)) fun (number : Int) => ((((decide ((number % 4) = 1)) = true → (v_l_turned a 8 one))) ∧ (bnd (if (decide ((number % 4) = 1)) then ( bnd ((m_l_turned a 8 one)) fun (other' : List (List (Str × Int))) => other') else ( other)) fun (j' : (List (List (Str × Int)))) => ((((decide ((number % 4) > 1)) = true → ((v_l_rows_of_deeds ("cut" : Str) j) ∧ (bnd ((m_l_rows_of_deeds ("cut" : Str) j)) fun (cuts : List (List Dd)) => ((v_l_rows_of_deeds ("put" : Str) j) ∧ (bnd ((m_l_rows_of_deeds ("put" : Str) j)) fun (puts : List (List Dd)) => (((0 < (min ((cuts.length : Nat) : Int) 7)) ∧ (InB cuts ((number / 4) % (min ((cuts.length : Nat) : Int) 7))) ∧ (v_l_behind one (ix cuts ((number / 4) % (min ((cuts.length : Nat) : Int) 7))))) ∧ (bnd ((m_l_behind one (ix cuts ((number / 4) % (min ((cuts.length : Nat) : Int) 7))))) fun (between : List (List (Str × Int))) => ((0 < (min ((puts.length : Nat) : Int) 7)) ∧ (InB puts ((number / 32) % (min ((puts.length : Nat) : Int) 7))) ∧ (v_l_behind between (ix puts ((number / 32) % (min ((puts.length : Nat) : Int) 7))))))))))))) ∧ (bnd (if (decide ((number % 4) > 1)) then ( bnd ((m_l_rows_of_deeds ("cut" : Str) j)) fun (cuts : List (List Dd)) => bnd ((m_l_rows_of_deeds ("put" : Str) j)) fun (puts : List (List Dd)) => bnd ((m_l_behind one (ix cuts ((number / 4) % (min ((cuts.length : Nat) : Int) 7))))) fun (between : List (List (Str × Int))) => bnd ((m_l_behind between (ix puts ((number / 32) % (min ((puts.length : Nat) : Int) 7))))) fun (other'' : List (List (Str × Int))) => other'') else ( j')) fun (j'' : (List (List (Str × Int)))) => ((((decide ((number % 8) = 7)) = true → (v_l_turned a 8 j''))) ∧ (bnd (if (decide ((number % 8) = 7)) then ( bnd ((m_l_turned a 8 j'')) fun (other''' : List (List (Str × Int))) => other''') else ( j'')) fun (j''' : (List (List (Str × Int)))) => ((v_l_least one j''') ∧ (bnd ((m_l_least one j''')) fun (best : Option Int) => (((v_l_copied one) ∧ (v_l_copied j''') ∧ (v_least_worth (m_l_copied one) (m_l_copied j'''))) ∧ (bnd ((m_least_worth (m_l_copied one) (m_l_copied j'''))) fun (found : Int) => (((!(m_l_whole found)) = false → (best.isSome = true)) ∧ (((!(m_l_whole found)) || (!decide (found = (best.getD default)))) = false → (((v_l_copied one) ∧ (v_l_copied j''') ∧ (v_least_way (m_l_copied one) (m_l_copied j'''))) ∧ (bnd ((m_least_way (m_l_copied one) (m_l_copied j'''))) fun (way : List Dd) => (((v_l_formed way wide j) ∧ ((!(m_l_formed way wide j)) = false → (best.isSome = true))) ∧ (((!(m_l_formed way wide j)) || (!decide (((way.length : Nat) : Int) = (best.getD default)))) = false → ((v_l_behind one way) ∧ (PyD.dok (m_l_behind one way)) ∧ (PyD.dok j'''))))))))))))))))))))))))) (xs_ifs (G := (fun s : Int => [.fz (a : Scr Int), .fz (wide : Int), .fz (s : Int), .no, .no, .no, .no, .no, .no, .no, .no, .no])) (xt_c (xc_eqS (xe_var 1) xe_int)) (fun hc1 => ((xn_nxt (xs_let 2 nd (xe_min T.b_min (xe_var 2) xe_int)) (fun (high' : Int) h_high' => (xo_end (s := high') (by exact (.same (.same (.same (.same (.same (.same (.same (.same (.same (.same (.same (.same .nil)))))))))))))))))) (fun hc2 => ((xo_end (s := high) (by exact (.same (.same (.same (.same (.same (.same (.same (.same (.same (.same (.same (.same .nil))))))))))))))))) hv_high (fun (j : Int) h_j hv_j => (xf_nxtv (xs_let 3 nd (xe_callZ (r := (a, 1, wide, j, ())) (ok_l_small T) hr (by decide) (xr_fz (xe_var 0) (xr_fz xe_int (xr_fz (xe_var 1) (xr_fz (xe_var 2) xr_nil)))) hv_j.1)) hv_j.2 (fun (one : List (List (Str × Int))) h_one hv_one => (xf_nxtv (xs_let 4 nd (xe_callZ (r := (a, 4, wide, j, ())) (ok_l_small T) hr (by decide) (xr_fz (xe_var 0) (xr_fz xe_int (xr_fz (xe_var 1) (xr_fz (xe_var 2) xr_nil)))) hv_one.1)) hv_one.2 (fun (other : List (List (Str × Int))) h_other hv_other => (xf_nxtv (xs_let 5 nd (xe_callZ (r := (a, 7, ())) (ok_l_mixed T) hr (by decide) (xr_fz (xe_var 0) (xr_fz xe_int xr_nil)) hv_other.1)) hv_other.2 (fun (number : Int) h_number hv_number => (xf_nxtv (kV := fun j' : (List (List (Str × Int))) => ((((decide ((number % 4) > 1)) = true → ((v_l_rows_of_deeds ("cut" : Str) j) ∧ (bnd ((m_l_rows_of_deeds ("cut" : Str) j)) fun (cuts : List (List Dd)) => ((v_l_rows_of_deeds ("put" : Str) j) ∧ (bnd ((m_l_rows_of_deeds ("put" : Str) j)) fun (puts : List (List Dd)) => (((0 < (min ((cuts.length : Nat) : Int) 7)) ∧ (InB cuts ((number / 4) % (min ((cuts.length : Nat) : Int) 7))) ∧ (v_l_behind one (ix cuts ((number / 4) % (min ((cuts.length : Nat) : Int) 7))))) ∧ (bnd ((m_l_behind one (ix cuts ((number / 4) % (min ((cuts.length : Nat) : Int) 7))))) fun (between : List (List (Str × Int))) => ((0 < (min ((puts.length : Nat) : Int) 7)) ∧ (InB puts ((number / 32) % (min ((puts.length : Nat) : Int) 7))) ∧ (v_l_behind between (ix puts ((number / 32) % (min ((puts.length : Nat) : Int) 7))))))))))))) ∧ (bnd (if (decide ((number % 4) > 1)) then ( bnd ((m_l_rows_of_deeds ("cut" : Str) j)) fun (cuts : List (List Dd)) => bnd ((m_l_rows_of_deeds ("put" : Str) j)) fun (puts : List (List Dd)) => bnd ((m_l_behind one (ix cuts ((number / 4) % (min ((cuts.length : Nat) : Int) 7))))) fun (between : List (List (Str × Int))) => bnd ((m_l_behind between (ix puts ((number / 32) % (min ((puts.length : Nat) : Int) 7))))) fun (other'' : List (List (Str × Int))) => other'') else ( j')) fun (j'' : (List (List (Str × Int)))) => ((((decide ((number % 8) = 7)) = true → (v_l_turned a 8 j''))) ∧ (bnd (if (decide ((number % 8) = 7)) then ( bnd ((m_l_turned a 8 j'')) fun (other''' : List (List (Str × Int))) => other''') else ( j'')) fun (j''' : (List (List (Str × Int)))) => ((v_l_least one j''') ∧ (bnd ((m_l_least one j''')) fun (best : Option Int) => (((v_l_copied one) ∧ (v_l_copied j''') ∧ (v_least_worth (m_l_copied one) (m_l_copied j'''))) ∧ (bnd ((m_least_worth (m_l_copied one) (m_l_copied j'''))) fun (found : Int) => (((!(m_l_whole found)) = false → (best.isSome = true)) ∧ (((!(m_l_whole found)) || (!decide (found = (best.getD default)))) = false → (((v_l_copied one) ∧ (v_l_copied j''') ∧ (v_least_way (m_l_copied one) (m_l_copied j'''))) ∧ (bnd ((m_least_way (m_l_copied one) (m_l_copied j'''))) fun (way : List Dd) => (((v_l_formed way wide j) ∧ ((!(m_l_formed way wide j)) = false → (best.isSome = true))) ∧ (((!(m_l_formed way wide j)) || (!decide (((way.length : Nat) : Int) = (best.getD default)))) = false → ((v_l_behind one way) ∧ (PyD.dok (m_l_behind one way)) ∧ (PyD.dok j'''))))))))))))))))) (xs_ifs (G := (fun s : (List (List (Str × Int))) => [.fz (a : Scr Int), .fz (wide : Int), .fz (j : Int), .fz (one : List (List (Str × Int))), .fz (s : List (List (Str × Int))), .fz (number : Int), .no, .no, .no, .no, .no, .no])) (xt_c (xc_eqS (xe_mod (xe_var 5) xe_int (by decide)) xe_int)) (fun hc3 => (have hv_hc3 : (v_l_turned a 8 one) := hv_number.1 hc3; (xn_nxt (xs_let 4 nd (XN.fr (xn_callZ (r := (a, 8, one, ())) (ok_l_turned T) hr (by decide) (xr_fz (xe_var 0) (xr_fz xe_int (xr_fz (xe_var 3) xr_nil))) hv_hc3) (FzT.lid fun _ => FzT.ol))) (fun (other' : List (List (Str × Int))) h_other' => (xo_end (s := other') (by exact (.same (.same (.same (.same (.same (.same (.same (.same (.same (.same (.same (.same .nil)))))))))))))))))) (fun hc4 => ((xo_end (s := other) (by exact (.same (.same (.same (.same (.same (.same (.same (.same (.same (.same (.same (.same .nil))))))))))))))))) hv_number.2 (fun (j' : (List (List (Str × Int)))) h_j' hv_j' => (xf_nxtv (kV := fun j'' : (List (List (Str × Int))) => ((((decide ((number % 8) = 7)) = true → (v_l_turned a 8 j''))) ∧ (bnd (if (decide ((number % 8) = 7)) then ( bnd ((m_l_turned a 8 j'')) fun (other''' : List (List (Str × Int))) => other''') else ( j'')) fun (j''' : (List (List (Str × Int)))) => ((v_l_least one j''') ∧ (bnd ((m_l_least one j''')) fun (best : Option Int) => (((v_l_copied one) ∧ (v_l_copied j''') ∧ (v_least_worth (m_l_copied one) (m_l_copied j'''))) ∧ (bnd ((m_least_worth (m_l_copied one) (m_l_copied j'''))) fun (found : Int) => (((!(m_l_whole found)) = false → (best.isSome = true)) ∧ (((!(m_l_whole found)) || (!decide (found = (best.getD default)))) = false → (((v_l_copied one) ∧ (v_l_copied j''') ∧ (v_least_way (m_l_copied one) (m_l_copied j'''))) ∧ (bnd ((m_least_way (m_l_copied one) (m_l_copied j'''))) fun (way : List Dd) => (((v_l_formed way wide j) ∧ ((!(m_l_formed way wide j)) = false → (best.isSome = true))) ∧ (((!(m_l_formed way wide j)) || (!decide (((way.length : Nat) : Int) = (best.getD default)))) = false → ((v_l_behind one way) ∧ (PyD.dok (m_l_behind one way)) ∧ (PyD.dok j'''))))))))))))))) (xs_ifs (G := (fun s : (List (List (Str × Int))) => [.fz (a : Scr Int), .fz (wide : Int), .fz (j : Int), .fz (one : List (List (Str × Int))), .fz (s : List (List (Str × Int))), .fz (number : Int), .no, .no, .no, .no, .no, .no])) (xt_c (xc_gt (xe_mod (xe_var 5) xe_int (by decide)) xe_int)) (fun hc5 => (have hv_hc5 : ((v_l_rows_of_deeds ("cut" : Str) j) ∧ (bnd ((m_l_rows_of_deeds ("cut" : Str) j)) fun (cuts : List (List Dd)) => ((v_l_rows_of_deeds ("put" : Str) j) ∧ (bnd ((m_l_rows_of_deeds ("put" : Str) j)) fun (puts : List (List Dd)) => (((0 < (min ((cuts.length : Nat) : Int) 7)) ∧ (InB cuts ((number / 4) % (min ((cuts.length : Nat) : Int) 7))) ∧ (v_l_behind one (ix cuts ((number / 4) % (min ((cuts.length : Nat) : Int) 7))))) ∧ (bnd ((m_l_behind one (ix cuts ((number / 4) % (min ((cuts.length : Nat) : Int) 7))))) fun (between : List (List (Str × Int))) => ((0 < (min ((puts.length : Nat) : Int) 7)) ∧ (InB puts ((number / 32) % (min ((puts.length : Nat) : Int) 7))) ∧ (v_l_behind between (ix puts ((number / 32) % (min ((puts.length : Nat) : Int) 7))))))))))) := hv_j'.1 hc5; (xn_nxtv (xs_let 9 nd (xe_callZ (r := (("cut" : Str), j, ())) (ok_l_rows_of_deeds T) hr (by decide) (xr_fz xe_str (xr_fz (xe_var 2) xr_nil)) hv_hc5.1)) hv_hc5.2 (fun (cuts : List (List Dd)) h_cuts hv_cuts => (xn_nxtv (xs_let 10 nd (xe_callZ (r := (("put" : Str), j, ())) (ok_l_rows_of_deeds T) hr (by decide) (xr_fz xe_str (xr_fz (xe_var 2) xr_nil)) hv_cuts.1)) hv_cuts.2 (fun (puts : List (List Dd)) h_puts hv_puts => (xn_nxtv (xs_let 11 nd (xe_callZ (r := (one, (ix cuts ((number / 4) % (min ((cuts.length : Nat) : Int) 7))), ())) (ok_l_behind T) hr (by decide) (xr_fz (xe_var 3) (xr_fz (xe_ixl (xe_var 9) (xe_mod (xe_div (xe_var 5) xe_int ⟨by decide, by decide⟩) (xe_min T.b_min (xe_lenl T.b_len (xe_var 9)) xe_int) hv_puts.1.1) hv_puts.1.2.1) xr_nil)) hv_puts.1.2.2)) hv_puts.2 (fun (between : List (List (Str × Int))) h_between hv_between => (xn_nxt (xs_let 4 nd (xe_callZ (r := (between, (ix puts ((number / 32) % (min ((puts.length : Nat) : Int) 7))), ())) (ok_l_behind T) hr (by decide) (xr_fz (xe_var 11) (xr_fz (xe_ixl (xe_var 10) (xe_mod (xe_div (xe_var 5) xe_int ⟨by decide, by decide⟩) (xe_min T.b_min (xe_lenl T.b_len (xe_var 10)) xe_int) hv_between.1) hv_between.2.1) xr_nil)) hv_between.2.2)) (fun (other'' : List (List (Str × Int))) h_other'' => (xo_end (s := other'') (by exact (.same (.same (.same (.same (.same (.same (.same (.same (.same (.no (.no (.no .nil)))))))))))))))))))))))) (fun hc6 => ((xo_end (s := j') (by exact (.same (.same (.same (.same (.same (.same (.same (.same (.same (.same (.same (.same .nil))))))))))))))))) hv_j'.2 (fun (j'' : (List (List (Str × Int)))) h_j'' hv_j'' => (xf_nxtv (kV := fun j''' : (List (List (Str × Int))) => ((v_l_least one j''') ∧ (bnd ((m_l_least one j''')) fun (best : Option Int) => (((v_l_copied one) ∧ (v_l_copied j''') ∧ (v_least_worth (m_l_copied one) (m_l_copied j'''))) ∧ (bnd ((m_least_worth (m_l_copied one) (m_l_copied j'''))) fun (found : Int) => (((!(m_l_whole found)) = false → (best.isSome = true)) ∧ (((!(m_l_whole found)) || (!decide (found = (best.getD default)))) = false → (((v_l_copied one) ∧ (v_l_copied j''') ∧ (v_least_way (m_l_copied one) (m_l_copied j'''))) ∧ (bnd ((m_least_way (m_l_copied one) (m_l_copied j'''))) fun (way : List Dd) => (((v_l_formed way wide j) ∧ ((!(m_l_formed way wide j)) = false → (best.isSome = true))) ∧ (((!(m_l_formed way wide j)) || (!decide (((way.length : Nat) : Int) = (best.getD default)))) = false → ((v_l_behind one way) ∧ (PyD.dok (m_l_behind one way)) ∧ (PyD.dok j'''))))))))))))) (xs_ifs (G := (fun s : (List (List (Str × Int))) => [.fz (a : Scr Int), .fz (wide : Int), .fz (j : Int), .fz (one : List (List (Str × Int))), .fz (s : List (List (Str × Int))), .fz (number : Int), .no, .no, .no, .no, .no, .no])) (xt_c (xc_eqS (xe_mod (xe_var 5) xe_int (by decide)) xe_int)) (fun hc7 => (have hv_hc7 : (v_l_turned a 8 j'') := hv_j''.1 hc7; (xn_nxt (xs_let 4 nd (XN.fr (xn_callZ (r := (a, 8, j'', ())) (ok_l_turned T) hr (by decide) (xr_fz (xe_var 0) (xr_fz xe_int (xr_fz (xe_var 4) xr_nil))) hv_hc7) (FzT.lid fun _ => FzT.ol))) (fun (other''' : List (List (Str × Int))) h_other''' => (xo_end (s := other''') (by exact (.same (.same (.same (.same (.same (.same (.same (.same (.same (.same (.same (.same .nil)))))))))))))))))) (fun hc8 => ((xo_end (s := j'') (by exact (.same (.same (.same (.same (.same (.same (.same (.same (.same (.same (.same (.same .nil))))))))))))))))) hv_j''.2 (fun (j''' : (List (List (Str × Int)))) h_j''' hv_j''' => (xf_nxtv (xs_let 6 nd (xe_callZ (r := (one, j''', ())) (ok_l_least T) hr (by decide) (xr_fz (xe_var 3) (xr_fz (xe_var 4) xr_nil)) hv_j'''.1)) hv_j'''.2 (fun (best : Option Int) h_best hv_best => (xf_nxtv (xs_let 7 nd (xe_callZ (r := ((m_l_copied one), (m_l_copied j'''), ())) (ok_least_worth T) hr (by decide) (xr_fz (XN.fr (xn_callZ (r := (one, ())) (ok_l_copied T) hr (by decide) (xr_fz (xe_var 3) xr_nil) hv_best.1.1) (FzT.lid fun _ => FzT.ol)) (xr_fz (XN.fr (xn_callZ (r := (j''', ())) (ok_l_copied T) hr (by decide) (xr_fz (xe_var 4) xr_nil) hv_best.1.2.1) (FzT.lid fun _ => FzT.ol)) xr_nil)) hv_best.1.2.2)) hv_best.2 (fun (found : Int) h_found hv_found => (xf_ifx (XW.t (xw_or (xt_not (xt_val (xe_callZ (r := (found, ())) (ok_l_whole T) hr (by decide) (xr_fz (xe_var 7) xr_nil) trivial))) (fun hc9 => (xw_or1 (xt_c (xc_neS (xe_var 7) (xe_get (xe_var 6) (hv_found.1 hc9)))))))) (fun hc10 => ((xf_one (xs_ret xe_bl trivial rfl rfl)))) (fun hc11 => (have hv_hc11 : (((v_l_copied one) ∧ (v_l_copied j''') ∧ (v_least_way (m_l_copied one) (m_l_copied j'''))) ∧ (bnd ((m_least_way (m_l_copied one) (m_l_copied j'''))) fun (way : List Dd) => (((v_l_formed way wide j) ∧ ((!(m_l_formed way wide j)) = false → (best.isSome = true))) ∧ (((!(m_l_formed way wide j)) || (!decide (((way.length : Nat) : Int) = (best.getD default)))) = false → ((v_l_behind one way) ∧ (PyD.dok (m_l_behind one way)) ∧ (PyD.dok j''')))))) := hv_found.2 hc11; (xf_nxtv (xs_let 8 nd (XN.fr (xn_callZ (r := ((m_l_copied one), (m_l_copied j'''), ())) (ok_least_way T) hr (by decide) (xr_fz (XN.fr (xn_callZ (r := (one, ())) (ok_l_copied T) hr (by decide) (xr_fz (xe_var 3) xr_nil) hv_hc11.1.1) (FzT.lid fun _ => FzT.ol)) (xr_fz (XN.fr (xn_callZ (r := (j''', ())) (ok_l_copied T) hr (by decide) (xr_fz (xe_var 4) xr_nil) hv_hc11.1.2.1) (FzT.lid fun _ => FzT.ol)) xr_nil)) hv_hc11.1.2.2) FzT.ol)) hv_hc11.2 (fun (way : List Dd) h_way hv_way => (xf_ifx (XW.t (xw_or (xt_not (xt_val (xe_callZ (r := (way, wide, j, ())) (ok_l_formed T) hr (by decide) (xr_fz (xe_var 8) (xr_fz (xe_var 1) (xr_fz (xe_var 2) xr_nil))) hv_way.1.1))) (fun hc12 => (xw_or1 (xt_c (xc_neS (xe_lenl T.b_len (xe_var 8)) (xe_get (xe_var 6) (hv_way.1.2 hc12)))))))) (fun hc13 => ((xf_one (xs_ret xe_bl trivial rfl rfl)))) (fun hc14 => (have hv_hc14 : ((v_l_behind one way) ∧ (PyD.dok (m_l_behind one way)) ∧ (PyD.dok j''')) := hv_way.2 hc14; (xf_one (xs_ret (xe_c (xc_eqD hr.units (xe_callZ (r := (one, way, ())) (ok_l_behind T) hr (by decide) (xr_fz (xe_var 3) (xr_fz (xe_var 8) xr_nil)) hv_hc14.1) (xe_var 4) hv_hc14.2.1 hv_hc14.2.2)) trivial rfl rfl)))))))))))))))))))))))))))))))) (by rfl)
end
omit [Ads] in
theorem mk2 {K : PySem.W.Frag} {mg : Str → Option Value} {CWalk : Addr} (nWalk : PySem.W.nsIn K mainGlobals "Walk" = some (some (.ref CWalk))) (h : @Txt ⟨CWalk⟩ K mg) : ∃ A : Ads, @Txt A K mg := ⟨⟨CWalk⟩, h⟩
omit [Ads] in
theorem walk {l : PySem.W.OpenLaw} {q : Program} {loose : List Str} {XP : (Str → Option Value) → Heap → Prop} {YP : World → Heap → Prop} {d : DefRec} {K : Params → PySem.W.Frag} (hn : l.most = some 63) (hdf : d.params.defaults = []) (hd : d.name = "law")
    (hY : ∀ (w : World) (h : Heap), YP w h → (K w.params).In h)
    (F : ∀ (w : World) (mg : Str → Option Value) (h : Heap), (K w.params).In h → h.Ns mainGlobals mg → (fun K mg => ∃ A : Ads, @Txt A K mg) (K w.params) mg) :
    PySem.W.WalkO q loose XP YP l.row.toRowW d [] (fun f vs => PySem.call f vs) :=
  walk_fw (Tx := (fun K mg => ∃ A : Ads, @Txt A K mg)) (x := "_law_script") (lvl := 7) (st := s_law) hn hdf ⟨rfl, by decide, by decide⟩ hd hY F (fun _ _ _ _ _ _ v => rfl) (fun _ _ T => (let ⟨A, T⟩ := T; @Txt.d_law A _ _ T)) (fun T f fd _ Fu => (let ⟨A, T⟩ := T; @ok_law A _ _ _ _ _ T _ _ Fu))
end
end Me
end Fw
open PySem PySem.W PyProof.Rows in
set_option maxRecDepth 100000 in
set_option maxHeartbeats 0 in
theorem PySem.Challenge.cw_signscreen_k28_whole_least_tried_holds : PySem.Challenge.rw_signscreen_k28_whole_least_tried.Holds := by
  w_on; o_law; k_head; (case hw => w_witness2)
  k_fill
  refine Fw.Me.walk (l := PySem.Challenge.rw_signscreen_k28_whole_least_tried) rfl rfl rfl (fun w h Y => PySem.W.kIn_of Y) ?F
  case F =>
    intro w mg h KX G
    refine' Fw.Me.mk2 ?nWalk ?tx
    case nWalk => k_is
    case tx =>
      refine' @Fw.Me.Txt.mk (_) _ _ ?d_size_of ?d_blank_row ?d_stretches ?d_unlike_in ?d_writings ?d_worth_of_line ?d_need_alike ?d_least_worth ?d_grown ?d_least_way ?d_l_cell_at ?d_l_mixed ?d_l_ink ?d_l_sign ?d_l_row ?d_l_turned ?d_l_copied ?d_l_cut ?d_l_put ?d_l_deed ?d_l_whole ?d_l_formed ?d_l_cost ?d_l_small ?d_l_rows_of_deeds ?d_l_behind ?d_l_least ?d_law ?cl_Walk ?d_Walk_steps ?d_Walk_price ?d_Walk_init ?d_Walk_knots ?na_Walk_high ?na_Walk_rows ?na_Walk_costs ?na_Walk_prices ?c_BLANK ?c_CUTTING ?c_GOING ?c_PUTTING ?b_bool ?b_enumerate ?b_int ?b_isinstance ?b_len ?b_list ?b_max ?b_min ?b_range ?b_reversed ?b_set ?b_str ?b_sum ?b_tuple ?b_zip
      case d_Walk_init => (refine' ⟨⟨_, _, ⟨?m, ?i, ?f, ?kp⟩, L2.fun_mk ?l ?c ?k⟩, PySem.W.mg_of KX G ?a, ⟨?c1, ?c2, ?c3, ?c4⟩⟩; (case a => (try dsimp only); k_is); (case i => (try dsimp only); k_is); (case m => (try dsimp only); k_is); (case f => (try dsimp only); k_is); (case kp => (try dsimp only); k_is); (case l => (try dsimp only); k_is); (case c => (try dsimp only); k_is); (case k => (try dsimp only); k_is); (case c1 => (try dsimp only); k_is); (case c2 => (try dsimp only); k_is); (case c3 => (try dsimp only); k_is); (case c4 => (try dsimp only); k_is))
      case d_size_of => (refine' Fw.df_mk KX G ?a ?l ?c ?k; (case a => k_is); (case l => k_is); (case c => k_is); (case k => k_is))
      case d_blank_row => (refine' Fw.dfd_mk KX G ?a ?l ?c ?k ?t ?d ?v; (case a => k_is); (case l => k_is); (case c => k_is); (case k => k_is); (case t => k_is); (case d => simp); (case v => exact .cons ⟨_, rfl⟩ .nil))
      case d_stretches => (refine' Fw.df_mk KX G ?a ?l ?c ?k; (case a => k_is); (case l => k_is); (case c => k_is); (case k => k_is))
      case d_unlike_in => (refine' Fw.df_mk KX G ?a ?l ?c ?k; (case a => k_is); (case l => k_is); (case c => k_is); (case k => k_is))
      case d_writings => (refine' Fw.df_mk KX G ?a ?l ?c ?k; (case a => k_is); (case l => k_is); (case c => k_is); (case k => k_is))
      case d_worth_of_line => (refine' Fw.df_mk KX G ?a ?l ?c ?k; (case a => k_is); (case l => k_is); (case c => k_is); (case k => k_is))
      case d_need_alike => (refine' Fw.df_mk KX G ?a ?l ?c ?k; (case a => k_is); (case l => k_is); (case c => k_is); (case k => k_is))
      case d_least_worth => (refine' Fw.df_mk KX G ?a ?l ?c ?k; (case a => k_is); (case l => k_is); (case c => k_is); (case k => k_is))
      case d_grown => (refine' Fw.df_mk KX G ?a ?l ?c ?k; (case a => k_is); (case l => k_is); (case c => k_is); (case k => k_is))
      case d_least_way => (refine' Fw.df_mk KX G ?a ?l ?c ?k; (case a => k_is); (case l => k_is); (case c => k_is); (case k => k_is))
      case d_l_cell_at => (refine' Fw.df_mk KX G ?a ?l ?c ?k; (case a => k_is); (case l => k_is); (case c => k_is); (case k => k_is))
      case d_l_mixed => (refine' Fw.df_mk KX G ?a ?l ?c ?k; (case a => k_is); (case l => k_is); (case c => k_is); (case k => k_is))
      case d_l_ink => (refine' Fw.df_mk KX G ?a ?l ?c ?k; (case a => k_is); (case l => k_is); (case c => k_is); (case k => k_is))
      case d_l_sign => (refine' Fw.df_mk KX G ?a ?l ?c ?k; (case a => k_is); (case l => k_is); (case c => k_is); (case k => k_is))
      case d_l_row => (refine' Fw.df_mk KX G ?a ?l ?c ?k; (case a => k_is); (case l => k_is); (case c => k_is); (case k => k_is))
      case d_l_turned => (refine' Fw.df_mk KX G ?a ?l ?c ?k; (case a => k_is); (case l => k_is); (case c => k_is); (case k => k_is))
      case d_l_copied => (refine' Fw.df_mk KX G ?a ?l ?c ?k; (case a => k_is); (case l => k_is); (case c => k_is); (case k => k_is))
      case d_l_cut => (refine' Fw.df_mk KX G ?a ?l ?c ?k; (case a => k_is); (case l => k_is); (case c => k_is); (case k => k_is))
      case d_l_put => (refine' Fw.df_mk KX G ?a ?l ?c ?k; (case a => k_is); (case l => k_is); (case c => k_is); (case k => k_is))
      case d_l_deed => (refine' Fw.df_mk KX G ?a ?l ?c ?k; (case a => k_is); (case l => k_is); (case c => k_is); (case k => k_is))
      case d_l_whole => (refine' Fw.df_mk KX G ?a ?l ?c ?k; (case a => k_is); (case l => k_is); (case c => k_is); (case k => k_is))
      case d_l_formed => (refine' Fw.df_mk KX G ?a ?l ?c ?k; (case a => k_is); (case l => k_is); (case c => k_is); (case k => k_is))
      case d_l_cost => (refine' Fw.df_mk KX G ?a ?l ?c ?k; (case a => k_is); (case l => k_is); (case c => k_is); (case k => k_is))
      case d_l_small => (refine' Fw.df_mk KX G ?a ?l ?c ?k; (case a => k_is); (case l => k_is); (case c => k_is); (case k => k_is))
      case d_l_rows_of_deeds => (refine' Fw.df_mk KX G ?a ?l ?c ?k; (case a => k_is); (case l => k_is); (case c => k_is); (case k => k_is))
      case d_l_behind => (refine' Fw.df_mk KX G ?a ?l ?c ?k; (case a => k_is); (case l => k_is); (case c => k_is); (case k => k_is))
      case d_l_least => (refine' Fw.df_mk KX G ?a ?l ?c ?k; (case a => k_is); (case l => k_is); (case c => k_is); (case k => k_is))
      case d_law => (refine' Fw.df_mk KX G ?a ?l ?c ?k; (case a => k_is); (case l => k_is); (case c => k_is); (case k => k_is))
      case cl_Walk => (refine' ⟨?a, ?b, ?c, ?d⟩; (case a => (try dsimp only); k_is); (case b => (try dsimp only); k_is); (case c => (try dsimp only); k_is); (case d => (try dsimp only); k_is))
      case d_Walk_steps => (refine' Fw.dm_mk (h := h) ?l ?c ?k ?a ?fn; (case a => (try dsimp only); k_is); (case l => (try dsimp only); k_is); (case c => (try dsimp only); k_is); (case k => (try dsimp only); k_is); (case fn => (try dsimp only); k_is))
      case d_Walk_price => (refine' Fw.dm_mk (h := h) ?l ?c ?k ?a ?fn; (case a => (try dsimp only); k_is); (case l => (try dsimp only); k_is); (case c => (try dsimp only); k_is); (case k => (try dsimp only); k_is); (case fn => (try dsimp only); k_is))
      case d_Walk_knots => (refine' Fw.dm_mk (h := h) ?l ?c ?k ?a ?fn; (case a => (try dsimp only); k_is); (case l => (try dsimp only); k_is); (case c => (try dsimp only); k_is); (case k => (try dsimp only); k_is); (case fn => (try dsimp only); k_is))
      case na_Walk_high => ((try dsimp only); show PySem.W.findIn _ (.ref _) _ = some none; (try dsimp only); k_is)
      case na_Walk_rows => ((try dsimp only); show PySem.W.findIn _ (.ref _) _ = some none; (try dsimp only); k_is)
      case na_Walk_costs => ((try dsimp only); show PySem.W.findIn _ (.ref _) _ = some none; (try dsimp only); k_is)
      case na_Walk_prices => ((try dsimp only); show PySem.W.findIn _ (.ref _) _ = some none; (try dsimp only); k_is)
      case c_BLANK => (refine' Fw.cs_mk KX G ?a; (case a => k_is))
      case c_CUTTING => (refine' Fw.ci_mk KX G ?a; (case a => k_is))
      case c_GOING => (refine' Fw.ci_mk KX G ?a; (case a => k_is))
      case c_PUTTING => (refine' Fw.ci_mk KX G ?a; (case a => k_is))
      case b_bool => (refine' PySem.W.mg_none_of KX G ?a; (case a => k_is))
      case b_enumerate => (refine' PySem.W.mg_none_of KX G ?a; (case a => k_is))
      case b_int => (refine' PySem.W.mg_none_of KX G ?a; (case a => k_is))
      case b_isinstance => (refine' PySem.W.mg_none_of KX G ?a; (case a => k_is))
      case b_len => (refine' PySem.W.mg_none_of KX G ?a; (case a => k_is))
      case b_list => (refine' PySem.W.mg_none_of KX G ?a; (case a => k_is))
      case b_max => (refine' PySem.W.mg_none_of KX G ?a; (case a => k_is))
      case b_min => (refine' PySem.W.mg_none_of KX G ?a; (case a => k_is))
      case b_range => (refine' PySem.W.mg_none_of KX G ?a; (case a => k_is))
      case b_reversed => (refine' PySem.W.mg_none_of KX G ?a; (case a => k_is))
      case b_set => (refine' PySem.W.mg_none_of KX G ?a; (case a => k_is))
      case b_str => (refine' PySem.W.mg_none_of KX G ?a; (case a => k_is))
      case b_sum => (refine' PySem.W.mg_none_of KX G ?a; (case a => k_is))
      case b_tuple => (refine' PySem.W.mg_none_of KX G ?a; (case a => k_is))
      case b_zip => (refine' PySem.W.mg_none_of KX G ?a; (case a => k_is))
