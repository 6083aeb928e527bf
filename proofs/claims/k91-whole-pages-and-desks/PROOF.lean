import PyProof.Rows.All
import Wide.All
import OpenK.AllK
import Wide.FinOn
import HandS.ForMost
import HandS.Codes
import HandS.Wide
import HandS.SortInts
import HandS.Conv
import HandS.IsInst
import HandS.Defaults
import HandS.Head0
import HandS.Head1
import HandS.Head2
import HandS.HeadEnd
import HandS.HeadHook1
import HandS.HeadHook2
import HandS.Zip
import HandS.Exc
import HandS.TryOnly
import HandS.ExcOwn
import HandS.WordsExc
import HandS.ExcInit
import HandS.ExcIs
import HandS.ExcField
import HandS.Style
import HandS.TupAny
import HandS.More
import HandS.Replace
import PySem.Challenge.RW_deskpairs_k91_whole_pages_and_desks
set_option Elab.async false
set_option linter.all false
set_option maxRecDepth 100000
namespace Dy
open PySem PySem.Spec PyProof.Rows L2

structure S where
  F : Hp
  H : Hp
  sub : ∀ a o, F a = some o → H a = some o
abbrev Fle (F F' : Hp) : Prop := ∀ a o, F a = some o → F' a = some o
theorem Fle.refl (F : Hp) : Fle F F := fun _ _ h => h
theorem Fle.trans {F G I : Hp} (a : Fle F G) (b : Fle G I) : Fle F I := fun x o h => b x o (a x o h)
structure Ex (s t : S) : Prop where
  f : Fle s.F t.F
  h : ∀ a o, s.H a = some o → t.H a = some o
  n : ∀ a o, s.H a = some o → s.F a = none → t.F a = none
theorem Ex.refl (s : S) : Ex s s := ⟨fun _ _ h => h, fun _ _ h => h, fun _ _ _ h => h⟩
theorem Ex.trans {s t u : S} (a : Ex s t) (b : Ex t u) : Ex s u :=
  ⟨fun x o h => b.f x o (a.f x o h), fun x o h => b.h x o (a.h x o h), fun x o h n => b.n x o (a.h x o h) (a.n x o h n)⟩
theorem fr_back {s t : S} (e : Ex s t) {p : Addr} (h : t.H p = none) : s.H p = none := by
  cases q : s.H p with
  | none => rfl
  | some o => rw [e.h p o q] at h; cases h
theorem fF {s : S} {p : Addr} (h : s.H p = none) : s.F p = none := by
  cases q : s.F p with
  | none => rfl
  | some o => rw [s.sub p o q] at h; cases h
def S.newF (s : S) (p : Addr) (o : HO) (h : s.H p = none) : S := ⟨upd s.F p o, upd s.H p o, fun a u q => by
  unfold upd at q ⊢
  split
  · rename_i e; rw [if_pos e] at q; exact q
  · rename_i e; rw [if_neg e] at q; exact s.sub a u q⟩
def S.newO (s : S) (p : Addr) (o : HO) (h : s.H p = none) : S := ⟨s.F, upd s.H p o, fun a u q => by
  rw [upd_ne (ne_of_none (s.sub a u q) h)]; exact s.sub a u q⟩
def S.put (s : S) (p : Addr) (o : HO) (h : s.F p = none) : S := ⟨s.F, upd s.H p o, fun a u q => by
  rw [upd_ne (ne_of_none q h)]; exact s.sub a u q⟩
theorem Ex.newF {s : S} {p : Addr} {o : HO} (h : s.H p = none) : Ex s (s.newF p o h) :=
  ⟨fun a u q => by show upd s.F p o a = some u; rw [upd_ne (ne_of_none (s.sub a u q) h)]; exact q,
   fun a u q => by show upd s.H p o a = some u; rw [upd_ne (ne_of_none q h)]; exact q,
   fun a u q n => by show upd s.F p o a = none; rw [upd_ne (ne_of_none q h)]; exact n⟩
theorem Ex.newO {s : S} {p : Addr} {o : HO} (h : s.H p = none) : Ex s (s.newO p o h) :=
  ⟨fun a u q => q, fun a u q => by show upd s.H p o a = some u; rw [upd_ne (ne_of_none q h)]; exact q, fun a u q n => n⟩
structure Mx (P : Addr → Prop) (s t : S) : Prop where
  f : Fle s.F t.F
  h : ∀ a o, s.H a = some o → ¬ P a → t.H a = some o
  n : ∀ a o, s.H a = some o → s.F a = none → t.F a = none
  d : ∀ a o, s.H a = some o → ∃ u, t.H a = some u
theorem Ex.mx {P : Addr → Prop} {s t : S} (e : Ex s t) : Mx P s t := ⟨e.f, fun a o h _ => e.h a o h, e.n, fun a o h => ⟨o, e.h a o h⟩⟩
theorem Mx.trans {P : Addr → Prop} {s t u : S} (a : Mx P s t) (b : Mx P t u) : Mx P s u :=
  ⟨fun x o h => b.f x o (a.f x o h), fun x o h n => b.h x o (a.h x o h n) n,
   fun x o h n => by obtain ⟨v, hv⟩ := a.d x o h; exact b.n x v hv (a.n x o h n),
   fun x o h => by obtain ⟨v, hv⟩ := a.d x o h; exact b.d x v hv⟩
theorem Mx.put {s : S} {p : Addr} {o : HO} (h : s.F p = none) : Mx (· = p) s (s.put p o h) :=
  ⟨fun a u q => q, fun a u q n => by show upd s.H p o a = some u; rw [upd_ne n]; exact q, fun a u q n => n,
   fun a u q => by
    by_cases e : a = p
    · exact ⟨o, by rw [e]; exact upd_same⟩
    · exact ⟨u, by show upd s.H p o a = some u; rw [upd_ne e]; exact q⟩⟩
theorem Mx.fr_back {P : Addr → Prop} {s t : S} (e : Mx P s t) {p : Addr} (h : t.H p = none) : s.H p = none := by
  cases q : s.H p with
  | none => rfl
  | some o => obtain ⟨u, z⟩ := e.d p o q; rw [z] at h; cases h
theorem Ex.mu {s t u : S} {P : Addr → Prop} (a : Ex s t) (b : Mx P t u) (h : ∀ p, P p → s.H p = none) : Ex s u :=
  ⟨fun x o q => b.f x o (a.f x o q), fun x o q => b.h x o (a.h x o q) fun z => (by rw [h x z] at q; cases q), fun x o q n => b.n x o (a.h x o q) (a.n x o q n)⟩
theorem Ex.mu1 {s t u : S} {p : Addr} (a : Ex s t) (b : Mx (· = p) t u) (h : s.H p = none) : Ex s u := a.mu b fun _ e => e ▸ h

class Enc (α : Type) where
  rep : PySem.W.Frag → Hp → V → α → Prop
  mono : ∀ {K : PySem.W.Frag} {F F' : Hp} {v : V} {x : α}, Fle F F' → rep K F v x → rep K F' v x
open Enc (rep)
def Reps {α : Type} [Enc α] (K : PySem.W.Frag) (F : Hp) : List V → List α → Prop
  | [], [] => True
  | v :: vs, x :: xs => rep K F v x ∧ Reps K F vs xs
  | _, _ => False
section
variable {α β : Type} [Enc α] [Enc β] {K : PySem.W.Frag} {F F' : Hp}
theorem Reps.mono (e : Fle F F') : ∀ {vs : List V} {xs : List α}, Reps K F vs xs → Reps K F' vs xs
  | [], [], _ => trivial
  | _ :: _, _ :: _, ⟨h, t⟩ => ⟨Enc.mono e h, Reps.mono e t⟩
  | [], _ :: _, h => h.elim
  | _ :: _, [], h => h.elim
theorem Reps.len : ∀ {vs : List V} {xs : List α}, Reps K F vs xs → vs.length = xs.length
  | [], [], _ => rfl
  | _ :: _, _ :: _, ⟨_, t⟩ => congrArg (· + 1) (Reps.len t)
  | [], _ :: _, h => h.elim
  | _ :: _, [], h => h.elim
theorem Reps.get : ∀ {vs : List V} {xs : List α} {i : Nat} {x : α}, Reps K F vs xs → xs[i]? = some x → ∃ v, vs[i]? = some v ∧ rep K F v x
  | [], [], _, _, _, e => by simp at e
  | v :: _, y :: _, 0, x, ⟨h, _⟩, e => by
    have : y = x := Option.some.inj e
    subst this
    exact ⟨v, rfl, h⟩
  | _ :: vs, _ :: xs, i + 1, x, ⟨_, t⟩, e => by
    obtain ⟨v, h1, h2⟩ := Reps.get (i := i) t (by simpa using e)
    exact ⟨v, by simpa using h1, h2⟩
  | [], _ :: _, _, _, h, _ => h.elim
  | _ :: _, [], _, _, h, _ => h.elim
theorem Reps.get' : ∀ {vs : List V} {xs : List α} {i : Nat} {v : V}, Reps K F vs xs → vs[i]? = some v → ∃ x, xs[i]? = some x ∧ rep K F v x
  | [], [], _, _, _, e => by simp at e
  | v :: _, y :: _, 0, w, ⟨h, _⟩, e => by
    have : v = w := Option.some.inj e
    subst this
    exact ⟨y, rfl, h⟩
  | _ :: vs, _ :: xs, i + 1, w, ⟨_, t⟩, e => by
    obtain ⟨x, h1, h2⟩ := Reps.get' (i := i) t (by simpa using e)
    exact ⟨x, by simpa using h1, h2⟩
  | [], _ :: _, _, _, h, _ => h.elim
  | _ :: _, [], _, _, h, _ => h.elim
theorem Reps.app : ∀ {vs ws : List V} {xs ys : List α}, Reps K F vs xs → Reps K F ws ys → Reps K F (vs ++ ws) (xs ++ ys)
  | [], _, [], _, _, t => t
  | _ :: _, _, _ :: _, _, ⟨h, t⟩, u => ⟨h, Reps.app t u⟩
  | [], _, _ :: _, _, h, _ => h.elim
  | _ :: _, _, [], _, h, _ => h.elim
theorem Reps.snoc {vs : List V} {xs : List α} {v : V} {x : α} (h : Reps K F vs xs) (r : rep K F v x) : Reps K F (vs ++ [v]) (xs ++ [x]) := h.app ⟨r, trivial⟩
theorem Reps.take : ∀ {vs : List V} {xs : List α} (n : Nat), Reps K F vs xs → Reps K F (vs.take n) (xs.take n)
  | _, _, 0, _ => by rw [List.take_zero, List.take_zero]; trivial
  | [], [], _ + 1, _ => trivial
  | _ :: _, _ :: _, n + 1, ⟨h, t⟩ => ⟨h, Reps.take n t⟩
  | [], _ :: _, _ + 1, h => h.elim
  | _ :: _, [], _ + 1, h => h.elim
theorem Reps.drop : ∀ {vs : List V} {xs : List α} (n : Nat), Reps K F vs xs → Reps K F (vs.drop n) (xs.drop n)
  | _, _, 0, h => h
  | [], [], _ + 1, _ => trivial
  | _ :: _, _ :: _, n + 1, ⟨_, t⟩ => Reps.drop n t
  | [], _ :: _, _ + 1, h => h.elim
  | _ :: _, [], _ + 1, h => h.elim
theorem Reps.set : ∀ {vs : List V} {xs : List α} {v : V} {x : α} (i : Nat), Reps K F vs xs → rep K F v x → Reps K F (vs.set i v) (xs.set i x)
  | [], [], _, _, _, _, _ => trivial
  | _ :: _, _ :: _, _, _, 0, ⟨_, t⟩, r => ⟨r, t⟩
  | _ :: _, _ :: _, _, _, i + 1, ⟨h, t⟩, r => ⟨h, Reps.set i t r⟩
  | [], _ :: _, _, _, _, h, _ => h.elim
  | _ :: _, [], _, _, _, h, _ => h.elim
theorem Reps.erase : ∀ {vs : List V} {xs : List α} (i : Nat), Reps K F vs xs → Reps K F (vs.eraseIdx i) (xs.eraseIdx i)
  | [], [], _, _ => trivial
  | _ :: _, _ :: _, 0, ⟨_, t⟩ => t
  | _ :: _, _ :: _, i + 1, ⟨h, t⟩ => ⟨h, Reps.erase i t⟩
  | [], _ :: _, _, h => h.elim
  | _ :: _, [], _, h => h.elim
theorem Reps.rev : ∀ {vs : List V} {xs : List α}, Reps K F vs xs → Reps K F vs.reverse xs.reverse
  | [], [], _ => trivial
  | _ :: _, _ :: _, ⟨h, t⟩ => by rw [List.reverse_cons, List.reverse_cons]; exact (Reps.rev t).snoc h
  | [], _ :: _, h => h.elim
  | _ :: _, [], h => h.elim
theorem Reps.mem : ∀ {vs : List V} {xs : List α} {x : α}, Reps K F vs xs → x ∈ xs → ∃ v, v ∈ vs ∧ rep K F v x
  | v :: _, y :: _, x, ⟨h, t⟩, e => by
    rcases List.mem_cons.mp e with rfl | e
    · exact ⟨v, List.mem_cons_self, h⟩
    · obtain ⟨w, a, b⟩ := Reps.mem t e
      exact ⟨w, List.mem_cons_of_mem _ a, b⟩
  | [], _ :: _, _, h, _ => h.elim
theorem Reps.repl {v : V} {x : α} (r : rep K F v x) : ∀ n : Nat, Reps K F (List.replicate n v) (List.replicate n x)
  | 0 => trivial
  | n + 1 => ⟨r, Reps.repl r n⟩
end
instance : Enc Int := ⟨fun _ _ v x => v = .int x, fun _ h => h⟩
instance : Enc Bool := ⟨fun _ _ v x => v = .bl x, fun _ h => h⟩
instance : Enc Str := ⟨fun _ _ v x => v = .str x, fun _ h => h⟩
instance : Enc Unit := ⟨fun _ _ v _ => v = .non, fun _ h => h⟩
class Opn (α : Type) extends Enc α where
  notNon : ∀ {K : PySem.W.Frag} {F : Hp} {x : α}, ¬ rep K F .non x
instance : Opn Int := ⟨fun {K F x} h => nomatch (show V.non = V.int x from h)⟩
instance : Opn Str := ⟨fun {K F x} h => nomatch (show V.non = V.str x from h)⟩
instance : Opn Bool := ⟨fun {K F x} h => nomatch (show V.non = V.bl x from h)⟩
instance {α : Type} [Enc α] : Enc (Option α) := ⟨fun K F v x => match x with | none => v = .non | some y => rep K F v y, fun {K F F' v x} e h => by
  cases x with
  | none => exact h
  | some y => exact Enc.mono (α := α) e h⟩
theorem sql_mono {K : PySem.W.Frag} {F F' : Hp} {a : Addr} {vs : List V} (e : Fle F F') (h : SqL K F a vs) : SqL K F' a vs := by
  rcases h with (h | ⟨o, h⟩) | h
  · exact .inl (.inl (e _ _ h))
  · exact .inl (.inr ⟨o, e _ _ h⟩)
  · exact .inr h
theorem sqt_mono {K : PySem.W.Frag} {F F' : Hp} {a : Addr} {vs : List V} (e : Fle F F') (h : SqT K F a vs) : SqT K F' a vs := by
  rcases h with (h | ⟨o, h⟩) | h
  · exact .inl (.inl (e _ _ h))
  · exact .inl (.inr ⟨o, e _ _ h⟩)
  · exact .inr h
def RepL {α : Type} [Enc α] (K : PySem.W.Frag) (F : Hp) (v : V) (xs : List α) : Prop := ∃ a vs, v = .ref a ∧ SqL K F a vs ∧ Reps K F vs xs
instance {α : Type} [Enc α] : Enc (List α) := ⟨RepL, fun e h => by
  obtain ⟨a, vs, rfl, h1, h2⟩ := h
  exact ⟨a, vs, rfl, sql_mono e h1, h2.mono e⟩⟩
structure T1 (α : Type) where
  a : α
deriving DecidableEq
structure T3 (α β γ : Type) where
  a : α
  b : β
  c : γ
deriving DecidableEq
structure T4 (α β γ δ : Type) where
  a : α
  b : β
  c : γ
  d : δ
deriving DecidableEq
structure T5 (α β γ δ ε : Type) where
  a : α
  b : β
  c : γ
  d : δ
  e : ε
deriving DecidableEq
structure Tu (α : Type) where
  l : List α
deriving DecidableEq
instance {α β : Type} [Enc α] [Enc β] : Enc (α × β) := ⟨fun K F v x => ∃ p v1 v2, v = .ref p ∧ SqT K F p [v1, v2] ∧ rep K F v1 x.1 ∧ rep K F v2 x.2, fun e h => by
  obtain ⟨p, v1, v2, rfl, h0, h1, h2⟩ := h
  exact ⟨p, v1, v2, rfl, sqt_mono e h0, Enc.mono e h1, Enc.mono e h2⟩⟩
instance {α : Type} [Enc α] : Enc (T1 α) := ⟨fun K F v x => ∃ p v1, v = .ref p ∧ SqT K F p [v1] ∧ rep K F v1 x.a, fun e h => by
  obtain ⟨p, v1, rfl, h0, h1⟩ := h
  exact ⟨p, v1, rfl, sqt_mono e h0, Enc.mono e h1⟩⟩
instance {α β γ : Type} [Enc α] [Enc β] [Enc γ] : Enc (T3 α β γ) := ⟨fun K F v x => ∃ p v1 v2 v3, v = .ref p ∧ SqT K F p [v1, v2, v3] ∧ rep K F v1 x.a ∧ rep K F v2 x.b ∧ rep K F v3 x.c, fun e h => by
  obtain ⟨p, v1, v2, v3, rfl, h0, h1, h2, h3⟩ := h
  exact ⟨p, v1, v2, v3, rfl, sqt_mono e h0, Enc.mono e h1, Enc.mono e h2, Enc.mono e h3⟩⟩
instance {α β γ δ : Type} [Enc α] [Enc β] [Enc γ] [Enc δ] : Enc (T4 α β γ δ) := ⟨fun K F v x => ∃ p v1 v2 v3 v4, v = .ref p ∧ SqT K F p [v1, v2, v3, v4] ∧ rep K F v1 x.a ∧ rep K F v2 x.b ∧ rep K F v3 x.c ∧ rep K F v4 x.d, fun e h => by
  obtain ⟨p, v1, v2, v3, v4, rfl, h0, h1, h2, h3, h4⟩ := h
  exact ⟨p, v1, v2, v3, v4, rfl, sqt_mono e h0, Enc.mono e h1, Enc.mono e h2, Enc.mono e h3, Enc.mono e h4⟩⟩
instance {α β γ δ ε : Type} [Enc α] [Enc β] [Enc γ] [Enc δ] [Enc ε] : Enc (T5 α β γ δ ε) := ⟨fun K F v x => ∃ p v1 v2 v3 v4 v5, v = .ref p ∧ SqT K F p [v1, v2, v3, v4, v5] ∧ rep K F v1 x.a ∧ rep K F v2 x.b ∧ rep K F v3 x.c ∧ rep K F v4 x.d ∧ rep K F v5 x.e, fun e h => by
  obtain ⟨p, v1, v2, v3, v4, v5, rfl, h0, h1, h2, h3, h4, h5⟩ := h
  exact ⟨p, v1, v2, v3, v4, v5, rfl, sqt_mono e h0, Enc.mono e h1, Enc.mono e h2, Enc.mono e h3, Enc.mono e h4, Enc.mono e h5⟩⟩
def RepT {α : Type} [Enc α] (K : PySem.W.Frag) (F : Hp) (v : V) (xs : List α) : Prop := ∃ a vs, v = .ref a ∧ SqT K F a vs ∧ Reps K F vs xs
instance {α : Type} [Enc α] : Enc (Tu α) := ⟨fun K F v x => RepT K F v x.l, fun e h => by
  obtain ⟨a, vs, rfl, h1, h2⟩ := h
  exact ⟨a, vs, rfl, sqt_mono e h1, h2.mono e⟩⟩
instance {α : Type} [Enc α] : Opn (List α) := ⟨fun h => by obtain ⟨_, _, e, _⟩ := h; cases e⟩
instance {α : Type} [Enc α] : Opn (Tu α) := ⟨fun h => by obtain ⟨_, _, e, _⟩ := h; cases e⟩
class Flat (α : Type) extends Enc α where
  toV : α → V
  iff : ∀ {K : PySem.W.Frag} {F : Hp} {v : V} {x : α}, rep K F v x ↔ v = toV x
  flat : ∀ x, flatV (toV x) = true
  inj : ∀ x y, eqV (toV x) (toV y) = true ↔ x = y
open Flat (toV)
instance : Flat Int := ⟨V.int, Iff.rfl, fun _ => rfl, fun x y => by show (x == y) = true ↔ _; simp⟩
instance : Flat Bool := ⟨V.bl, Iff.rfl, fun _ => rfl, fun x y => by show (x == y) = true ↔ _; simp⟩
instance : Flat Str := ⟨V.str, Iff.rfl, fun _ => rfl, fun x y => by show (x == y) = true ↔ _; simp⟩
instance : Flat (Option Int) := ⟨fun x => match x with | none => .non | some i => .int i, fun {K F v x} => by cases x <;> exact Iff.rfl, fun x => by cases x <;> rfl, fun x y => by
  cases x <;> cases y <;> simp [eqV]⟩
instance : Flat (Option Str) := ⟨fun x => match x with | none => .non | some i => .str i, fun {K F v x} => by cases x <;> exact Iff.rfl, fun x => by cases x <;> rfl, fun x y => by
  cases x <;> cases y <;> simp [eqV]⟩
section
variable {α : Type} [Flat α] {K : PySem.W.Frag} {F : Hp}
theorem Reps.flat : ∀ {vs : List V} {xs : List α}, Reps K F vs xs → vs = xs.map toV
  | [], [], _ => rfl
  | _ :: _, _ :: _, ⟨h, t⟩ => by rw [List.map_cons, ← Flat.iff.mp h, ← Reps.flat t]
  | [], _ :: _, h => h.elim
  | _ :: _, [], h => h.elim
theorem Reps.of_flat : ∀ (xs : List α), Reps K F (xs.map toV) xs
  | [] => trivial
  | _ :: xs => ⟨Flat.iff.mpr rfl, Reps.of_flat xs⟩
theorem flat_all (xs : List α) : (xs.map toV).all flatV = true := by
  rw [List.all_eq_true]
  intro v hv
  obtain ⟨x, _, rfl⟩ := List.mem_map.mp hv
  exact Flat.flat x
theorem inV_flat [DecidableEq α] (x : α) (xs : List α) : inV (toV x) (xs.map toV) = decide (x ∈ xs) := by
  rw [Bool.eq_iff_iff, decide_eq_true_eq]
  unfold inV
  rw [List.any_eq_true]
  constructor
  · rintro ⟨v, hv, e⟩
    obtain ⟨y, hy, rfl⟩ := List.mem_map.mp hv
    rw [Flat.inj] at e
    rw [← e]; exact hy
  · intro h
    exact ⟨_, List.mem_map.mpr ⟨x, h, rfl⟩, (Flat.inj x x).mpr rfl⟩
end
end Dy

namespace Dy
open PySem PySem.Spec L2
open PyProof.Rows hiding St
open Enc (rep)
open Flat (toV)

def WE (X : Cx) (e : Expr) : TE := fun σ H Q => ∀ (pins : List (Addr × Obj)) (s : Shared), Inv X pins σ H s → wpAny (model X.prog X.w) X.A (eval e X.env) (EP X pins σ Q) X.xe s
def WT (X : Cx) (e : Expr) : TT := fun σ H Q => ∀ (pins : List (Addr × Obj)) (s : Shared), Inv X pins σ H s → wpAny (model X.prog X.w) X.A (isTrue e X.env (eval e X.env)) (TP X pins σ Q) X.xe s
def WW (X : Cx) (e : Expr) : TT := fun σ H Q => ∀ (whole : Sem Value) (pins : List (Addr × Obj)) (s : Shared), Inv X pins σ H s → wpAny (model X.prog X.w) X.A (isTrue e X.env whole) (TP X pins σ Q) X.xe s
def WA (X : Cx) (es : List Expr) : TA := fun σ H Q => ∀ (pos : Pos) (pins : List (Addr × Obj)) (s : Shared), Inv X pins σ H s → wpAny (model X.prog X.w) X.A (spliced (backTo pos (starEach es X.env))) (AP X pins σ Q) X.xe s
def WSs (X : Cx) (ss : List Stmt) : TS := fun D σ H => ∀ (pins : List (Addr × Obj)) (s : Shared), Inv X pins σ H s → wpAny (model X.prog X.w) X.A (execs ss X.env) (SP X pins D) X.xe s
theorem pe_we {X : Cx} {e : Expr} : PE X e (WE X e) := ⟨fun pins s _ _ _ I h => h pins s I⟩
theorem pt_wt {X : Cx} {e : Expr} : PT X e (WT X e) := ⟨fun pins s _ _ _ I h => h pins s I⟩
theorem pw_ww {X : Cx} {e : Expr} : PW X e (WW X e) := ⟨fun whole pins s _ _ _ I h => h whole pins s I⟩
theorem pa_wa {X : Cx} {es : List Expr} : PA X es (WA X es) := ⟨fun pos pins s _ _ _ I h => h pos pins s I⟩
theorem pss_ws {X : Cx} {ss : List Stmt} : PSs X ss (WSs X ss) := ⟨fun pins s _ _ _ I h => h pins s I⟩
theorem we_of {X : Cx} {e : Expr} {t : TE} {σ : St} {H : Hp} {Q : VK} (h : PE X e t) (q : t σ H Q) : WE X e σ H Q := fun pins s I => h.run pins s σ H Q I q
theorem wt_of {X : Cx} {e : Expr} {t : TT} {σ : St} {H : Hp} {Q : Bool → Hp → Prop} (h : PT X e t) (q : t σ H Q) : WT X e σ H Q := fun pins s I => h.run pins s σ H Q I q
theorem ww_of {X : Cx} {e : Expr} {t : TT} {σ : St} {H : Hp} {Q : Bool → Hp → Prop} (h : PW X e t) (q : t σ H Q) : WW X e σ H Q := fun w pins s I => h.run w pins s σ H Q I q
theorem wa_of {X : Cx} {es : List Expr} {t : TA} {σ : St} {H : Hp} {Q : List V → Hp → Prop} (h : PA X es t) (q : t σ H Q) : WA X es σ H Q := fun pos pins s I => h.run pos pins s σ H Q I q
theorem ws_of {X : Cx} {ss : List Stmt} {t : TS} {D : Ends} {σ : St} {H : Hp} (h : PSs X ss t) (q : t D σ H) : WSs X ss D σ H := fun pins s I => h.run pins s σ H D I q
theorem WSs.imp {X : Cx} {ss : List Stmt} {D D' : Ends} {σ : St} {H : Hp} (h : WSs X ss D σ H) (h1 : ∀ σ H, D.nx σ H → D'.nx σ H) (h2 : ∀ v H, D.rt v H → D'.rt v H) (h3 : ∀ σ H, D.bk σ H → D'.bk σ H) (h4 : ∀ σ H, D.ct σ H → D'.ct σ H) : WSs X ss D' σ H := fun pins s I => thn (h pins s I) fun f s1 q => by
  cases f with
  | next => obtain ⟨a, b, c, d⟩ := q; exact ⟨a, b, c, h1 _ _ d⟩
  | brk => obtain ⟨a, b, c, d⟩ := q; exact ⟨a, b, c, h3 _ _ d⟩
  | cont => obtain ⟨a, b, c, d⟩ := q; exact ⟨a, b, c, h4 _ _ d⟩
  | ret u => obtain ⟨a, b, c, d, e, f⟩ := q; exact ⟨a, b, c, d, e, h2 _ _ f⟩

section
variable {α β γ δ : Type} [Enc α] [Enc β] [Enc γ] [Enc δ]
def Ev (X : Cx) (e : Expr) (σ : St) (s : S) (x : α) : Prop := ∀ s1, Ex s s1 → ∀ Q : VK, (∀ v s2, Ex s1 s2 → rep X.K s2.F v x → Q v s2.H) → WE X e σ s1.H Q
def RepR (K : PySem.W.Frag) (s : S) (v : V) (xs : List α) : Prop := ∃ a vs, v = .ref a ∧ SqL K s.H a vs ∧ Reps K s.F vs xs
def EvR (X : Cx) (e : Expr) (σ : St) (s : S) (xs : List α) : Prop := ∀ s1, Ex s s1 → ∀ Q : VK, (∀ v s2, Ex s1 s2 → RepR X.K s2 v xs → Q v s2.H) → WE X e σ s1.H Q
def Own (K : PySem.W.Frag) (s : S) (p : Addr) (xs : List α) : Prop := s.F p = none ∧ ∃ vs, s.H p = some (.lst vs) ∧ Reps K s.F vs xs
def EvN (X : Cx) (e : Expr) (σ : St) (s : S) (xs : List α) : Prop := ∀ s1, Ex s s1 → ∀ Q : VK, (∀ p s2, Ex s1 s2 → s1.H p = none → Own X.K s2 p xs → Q (.ref p) s2.H) → WE X e σ s1.H Q
def EvT (X : Cx) (e : Expr) (σ : St) (s : S) (b : Bool) : Prop := ∀ s1, Ex s s1 → ∀ Q : Bool → Hp → Prop, (∀ s2, Ex s1 s2 → Q b s2.H) → WT X e σ s1.H Q
def EvW (X : Cx) (e : Expr) (σ : St) (s : S) (b : Bool) : Prop := ∀ s1, Ex s s1 → ∀ Q : Bool → Hp → Prop, (∀ s2, Ex s1 s2 → Q b s2.H) → WW X e σ s1.H Q
structure EvB (X : Cx) (e : Expr) (σ : St) (s : S) (b : Bool) : Prop where
  v : Ev X e σ s b
  t : EvT X e σ s b
structure EvC (X : Cx) (e : Expr) (σ : St) (s : S) (b : Bool) : Prop where
  v : Ev X e σ s b
  w : EvW X e σ s b
end
class EncA (A : Type) where
  repA : PySem.W.Frag → Hp → List V → A → Prop
  monoA : ∀ {K : PySem.W.Frag} {F F' : Hp} {vs : List V} {x : A}, Fle F F' → repA K F vs x → repA K F' vs x
open EncA (repA)
instance : EncA Unit := ⟨fun _ _ vs _ => vs = [], fun _ h => h⟩
instance {α A : Type} [Enc α] [EncA A] : EncA (α × A) := ⟨fun K F vs x => ∃ v r, vs = v :: r ∧ rep K F v x.1 ∧ repA K F r x.2, fun e h => by
  obtain ⟨v, r, rfl, h1, h2⟩ := h
  exact ⟨v, r, rfl, Enc.mono e h1, EncA.monoA e h2⟩⟩
def EvA {A : Type} [EncA A] (X : Cx) (es : List Expr) (σ : St) (s : S) (a : A) : Prop := ∀ s1, Ex s s1 → ∀ Q : List V → Hp → Prop, (∀ vs s2, Ex s1 s2 → repA X.K s2.F vs a → Q vs s2.H) → WA X es σ s1.H Q

section
variable {α β γ δ : Type} [Enc α] [Enc β] [Enc γ] [Enc δ] {X : Cx} {σ : St} {s t : S} {e a b c : Expr} {es : List Expr} {pos p0 p1 p2 p3 : Pos}
theorem Own.frz {K : PySem.W.Frag} {p : Addr} {xs : List α} (h : Own K s p xs) : ∃ s' : S, s'.H = s.H ∧ Fle s.F s'.F ∧ (∀ q, q ≠ p → s'.F q = s.F q) ∧ rep K s'.F (.ref p) xs := by
  obtain ⟨hn, vs, hp, r⟩ := h
  have f : Fle s.F (upd s.F p (.lst vs)) := fun a o q => by rw [upd_ne (ne_of_none q hn)]; exact q
  refine ⟨⟨upd s.F p (.lst vs), s.H, fun a o q => ?_⟩, rfl, f, fun q hq => upd_ne hq, p, vs, rfl, .inl (.inl upd_same), r.mono f⟩
  unfold upd at q
  split at q
  · rename_i e; cases q; rw [e]; exact hp
  · exact s.sub a o q
theorem Own.ex {K : PySem.W.Frag} {p : Addr} {xs : List α} (h : Own K s p xs) (e : Ex s t) : Own K t p xs := by
  obtain ⟨hn, vs, hp, r⟩ := h
  exact ⟨e.n _ _ hp hn, vs, e.h _ _ hp, r.mono e.f⟩
theorem Own.mx {K : PySem.W.Frag} {p : Addr} {P : Addr → Prop} {xs : List α} (h : Own K s p xs) (e : Mx P s t) (n : ¬ P p) : Own K t p xs := by
  obtain ⟨hn, vs, hp, r⟩ := h
  exact ⟨e.n _ _ hp hn, vs, e.h _ _ hp n, r.mono e.f⟩
theorem Own.ne {K : PySem.W.Frag} {p q : Addr} {xs : List α} (h : Own K s p xs) (n : s.H q = none) : p ≠ q := by
  obtain ⟨_, vs, hp, _⟩ := h
  exact ne_of_none hp n
theorem Own.r {K : PySem.W.Frag} {p : Addr} {xs : List α} (h : Own K s p xs) : RepR K s (.ref p) xs := by
  obtain ⟨hn, vs, hp, r⟩ := h
  exact ⟨p, vs, rfl, .inl (.inl hp), r⟩
theorem RepR.ex {K : PySem.W.Frag} {v : V} {xs : List α} (h : RepR K s v xs) (e : Ex s t) : RepR K t v xs := by
  obtain ⟨p, vs, rfl, h1, h2⟩ := h
  exact ⟨p, vs, rfl, sql_mono e.h h1, h2.mono e.f⟩
theorem rep_r {K : PySem.W.Frag} {v : V} {xs : List α} (h : rep K s.F v xs) : RepR K s v xs := by
  obtain ⟨p, vs, rfl, h1, h2⟩ := h
  exact ⟨p, vs, rfl, sql_mono s.sub h1, h2⟩
theorem Ev.mono {x : α} (h : Ev X e σ s x) (k : Ex s t) : Ev X e σ t x := fun s1 k1 Q q => h s1 (k.trans k1) Q q
theorem EvT.mono {x : Bool} (h : EvT X e σ s x) (k : Ex s t) : EvT X e σ t x := fun s1 k1 Q q => h s1 (k.trans k1) Q q
theorem Ev.r {xs : List α} (h : Ev X e σ s xs) : EvR X e σ s xs := fun s1 k Q q => h s1 k Q fun v s2 k2 r => q v s2 k2 (rep_r r)
theorem EvN.r {xs : List α} (h : EvN X e σ s xs) : EvR X e σ s xs := fun s1 k Q q => h s1 k Q fun p s2 k2 _ o => q (.ref p) s2 k2 o.r
theorem frz_ex {K : PySem.W.Frag} {p : Addr} {xs : List α} (k : Ex s t) (n : s.H p = none) (o : Own K t p xs) : ∃ t' : S, t'.H = t.H ∧ Ex s t' ∧ rep K t'.F (.ref p) xs := by
  obtain ⟨t', h1, h2, h3, h4⟩ := o.frz
  refine ⟨t', h1, ⟨k.f.trans h2, fun a u q => by rw [h1]; exact k.h a u q, fun a u q m => ?_⟩, h4⟩
  have : a ≠ p := ne_of_none q n
  rw [h3 a this]
  exact k.n a u q m
theorem EvN.ev {xs : List α} (h : EvN X e σ s xs) : Ev X e σ s xs := fun s1 k Q q => h s1 k Q fun p s2 k2 n o => by
  obtain ⟨t', h1, h2, h3⟩ := frz_ex k2 n o
  rw [← h1]
  exact q _ t' h2 h3
theorem Ev.cast {x y : α} (h : Ev X e σ s x) (k : x = y) : Ev X e σ s y := k ▸ h

theorem ev_var (i : Nat) {v : V} {x : α} {n : Str} (h : σ[i]? = some (some v)) (r : rep X.K s.F v x) (hN : X.N[i]? = some n := by rfl) (hv : Vis X.env.scope n := by first | exact Or.inl rfl | exact Or.inr (Or.inl rfl) | exact Or.inr (Or.inr rfl)) (hd : (n == ("__debug__" : Str)) = false := by decide)
    (hcd : (n == ("__classdict__" : Str)) = false := by decide) : Ev X (.Name n pos) σ s x := fun s1 k Q q => we_of (pe_var hN hv hd hcd) ⟨v, h, q v s1 (Ex.refl _) (Enc.mono k.f r)⟩
theorem ev_varR (i : Nat) {p : Addr} {xs : List α} {n : Str} (h : σ[i]? = some (some (.ref p))) (r : Own X.K s p xs) (hN : X.N[i]? = some n := by rfl) (hv : Vis X.env.scope n := by first | exact Or.inl rfl | exact Or.inr (Or.inl rfl) | exact Or.inr (Or.inr rfl)) (hd : (n == ("__debug__" : Str)) = false := by decide)
    (hcd : (n == ("__classdict__" : Str)) = false := by decide) : EvR X (.Name n pos) σ s xs := fun s1 k Q q => we_of (pe_var hN hv hd hcd) ⟨_, h, q _ s1 (Ex.refl _) (r.ex k).r⟩
theorem ev_int {i : Int} {j} : Ev X (.Constant (.int i) j pos) σ s i := fun s1 k Q q => we_of pe_int (q _ s1 (Ex.refl _) rfl)
theorem ev_bl {i : Bool} {j} : Ev X (.Constant (.bool i) j pos) σ s i := fun s1 k Q q => we_of pe_bl (q _ s1 (Ex.refl _) rfl)
theorem ev_str {i : Str} {j} : Ev X (.Constant (.str i) j pos) σ s i := fun s1 k Q q => we_of pe_str (q _ s1 (Ex.refl _) rfl)
theorem ev_non {j} : Ev X (.Constant .none j pos) σ s () := fun s1 k Q q => we_of pe_non (q _ s1 (Ex.refl _) rfl)
theorem ev_nonO {j} : Ev X (.Constant .none j pos) σ s (none : Option α) := fun s1 k Q q => we_of pe_non (q _ s1 (Ex.refl _) rfl)
theorem ev_some {x : α} (h : Ev X e σ s x) : Ev X e σ s (some x) := h
theorem ev_glob {n : Str} {x : α} (h : ∃ v u, X.mg n = some u ∧ RelV v u ∧ ∀ F, rep X.K F v x) (hg : Gl X n := by rfl) (hd : (n == ("__debug__" : Str)) = false := by decide) : Ev X (.Name n pos) σ s x := fun s1 k Q q => by
  obtain ⟨v, u, h1, h2, h3⟩ := h
  exact we_of (pe_glob hg h1 h2 hd) (q v s1 (Ex.refl _) (h3 _))

theorem ev_op {op : Operator} {r : R2} {x : α} {y : β} {z : γ} (ho : OpR X (binaryOp op) r) (ha : Ev X a σ s x) (hb : Ev X b σ s y)
    (hr : ∀ v u s2, rep X.K s2.F v x → rep X.K s2.F u y → ∀ Q : VK, (∀ v' s3, Ex s2 s3 → rep X.K s3.F v' z → Q v' s3.H) → r v u s2.H Q) : Ev X (.BinOp a op b pos) σ s z := fun s1 k Q q =>
  we_of (pe_op ho pe_we pe_we) (ha s1 k _ fun v s2 k2 r2 => hb s2 (k.trans k2) _ fun u s3 k3 r3 => hr v u s3 (Enc.mono k3.f r2) r3 Q fun w s4 k4 r4 => q w s4 ((k2.trans k3).trans k4) r4)
theorem ev_I0 {op : Operator} {g : Int → Int → V} {x y : Int} {z : γ} (ho : OpR X (binaryOp op) (rI0 g)) (ha : Ev X a σ s x) (hb : Ev X b σ s y) (hz : ∀ K F, rep K F (g x y) z) : Ev X (.BinOp a op b pos) σ s z :=
  ev_op ho ha hb fun v u s2 hv hu Q q => ⟨x, y, hv, hu, q _ s2 (Ex.refl _) (hz _ _)⟩
theorem ev_I {op : Operator} {C : Int → Int → Prop} {g : Int → Int → V} {x y : Int} {z : γ} (ho : OpR X (binaryOp op) (rI C g)) (ha : Ev X a σ s x) (hb : Ev X b σ s y) (hc : C x y) (hz : ∀ K F, rep K F (g x y) z) : Ev X (.BinOp a op b pos) σ s z :=
  ev_op ho ha hb fun v u s2 hv hu Q q => ⟨x, y, hv, hu, hc, q _ s2 (Ex.refl _) (hz _ _)⟩
theorem ev_add {x y : Int} (ha : Ev X a σ s x) (hb : Ev X b σ s y) : Ev X (.BinOp a .Add b pos) σ s (x + y) := ev_I0 op_add ha hb fun _ _ => rfl
theorem ev_sub {x y : Int} (ha : Ev X a σ s x) (hb : Ev X b σ s y) : Ev X (.BinOp a .Sub b pos) σ s (x - y) := ev_I0 op_sub ha hb fun _ _ => rfl
def MulOk (x y : Int) : Prop := CMul x y ∨ CMulW x y
theorem ev_mul {x y : Int} (ha : Ev X a σ s x) (hb : Ev X b σ s y) (hc : MulOk x y) : Ev X (.BinOp a .Mult b pos) σ s (x * y) := by
  rcases hc with hc | hc
  · exact ev_I op_mul ha hb hc fun _ _ => rfl
  · exact ev_I op_mulW ha hb hc fun _ _ => rfl
theorem ev_mod {x y : Int} (ha : Ev X a σ s x) (hb : Ev X b σ s y) (hc : 0 < y) : Ev X (.BinOp a .Mod b pos) σ s (x % y) := ev_I op_mod ha hb hc fun _ _ => rfl
def DivOk (y : Int) : Prop := 0 < y ∧ y.natAbs.log2 < 9000
theorem ev_div {x y : Int} (ha : Ev X a σ s x) (hb : Ev X b σ s y) (hc : DivOk y) : Ev X (.BinOp a .FloorDiv b pos) σ s (x / y) := ev_I op_fdivW ha hb hc fun _ _ => rfl
theorem ev_pow {x y : Int} (ha : Ev X a σ s x) (hb : Ev X b σ s y) (hc : CPow x y) : Ev X (.BinOp a .Pow b pos) σ s (x ^ y.toNat) := ev_I op_pow ha hb hc fun _ _ => rfl
theorem ev_adds {x y : Str} (ha : Ev X a σ s x) (hb : Ev X b σ s y) (hc : x.length + y.length ≤ sizeLine) : Ev X (.BinOp a .Add b pos) σ s (x ++ y) :=
  ev_op op_add_str ha hb fun v u s2 hv hu Q q => ⟨x, y, hv, hu, hc, q _ s2 (Ex.refl _) rfl⟩
theorem ev_neg {x : Int} (ha : Ev X a σ s x) : Ev X (.UnaryOp .USub a pos) σ s (-x) := fun s1 k Q q =>
  we_of (pe_un un_neg pe_we) (ha s1 k _ fun v s2 k2 r2 => ⟨x, r2, q _ s2 k2 rfl⟩)

theorem atI_rep {K : PySem.W.Frag} {F : Hp} {vs : List V} {xs : List α} {i : Int} {x : α} (r : Reps K F vs xs) (h : atI xs i = some x) : ∃ v, atI vs i = some v ∧ rep K F v x := by
  unfold atI at h ⊢
  rw [r.len]
  cases hj : ixN xs.length i with
  | none => rw [hj] at h; cases h
  | some j =>
    rw [hj] at h
    obtain ⟨v, h1, h2⟩ := r.get (i := j) h
    exact ⟨v, h1, h2⟩
theorem ev_ix {xs : List α} {i : Int} {x : α} (ha : EvR X a σ s xs) (hb : Ev X b σ s i) (h : atI xs i = some x) (hp : PlainIx b := by intro _ _; rfl) : Ev X (.Subscript a b pos) σ s x := fun s1 k Q q =>
  we_of (pe_ix ix_list pe_we pe_we hp) (ha s1 k _ fun v s2 k2 r2 => hb s2 (k.trans k2) _ fun u s3 k3 r3 => by
    obtain ⟨p, vs, rfl, h1, h2⟩ := r2.ex k3
    obtain ⟨w, h3, h4⟩ := atI_rep h2 h
    exact ⟨p, vs, i, w, rfl, r3, h1, h3, q w s3 (k2.trans k3) h4⟩)
theorem ev_ixT {xs : Tu α} {i : Int} {x : α} (ha : Ev X a σ s xs) (hb : Ev X b σ s i) (h : atI xs.l i = some x) (hp : PlainIx b := by intro _ _; rfl) : Ev X (.Subscript a b pos) σ s x := fun s1 k Q q =>
  we_of (pe_ix ix_tup pe_we pe_we hp) (ha s1 k _ fun v s2 k2 r2 => hb s2 (k.trans k2) _ fun u s3 k3 r3 => by
    obtain ⟨p, vs, rfl, h1, h2⟩ := Enc.mono (α := Tu α) k3.f r2
    obtain ⟨w, h3, h4⟩ := atI_rep h2 h
    exact ⟨p, vs, i, w, rfl, r3, sqt_mono s3.sub h1, h3, q w s3 (k2.trans k3) h4⟩)
theorem ev_ixP {x : β} {i : Int} {y : α} (ha : Ev X a σ s x) (hb : Ev X b σ s i) (h : ∀ {F : Hp} {v : V}, rep X.K F v x → ∃ p vs w, v = .ref p ∧ SqT X.K F p vs ∧ atI vs i = some w ∧ rep X.K F w y) (hp : PlainIx b := by intro _ _; rfl) : Ev X (.Subscript a b pos) σ s y := fun s1 k Q q =>
  we_of (pe_ix ix_tup pe_we pe_we hp) (ha s1 k _ fun v s2 k2 r2 => hb s2 (k.trans k2) _ fun u s3 k3 r3 => by
    obtain ⟨p, vs, w, rfl, h1, h2, h3⟩ := h (Enc.mono k3.f r2)
    exact ⟨p, vs, i, w, rfl, r3, sqt_mono s3.sub h1, h2, q w s3 (k2.trans k3) h3⟩)
theorem p2_0 {K : PySem.W.Frag} {x : α × β} {F : Hp} {v : V} (h : rep K F v x) : ∃ p vs w, v = .ref p ∧ SqT K F p vs ∧ atI vs 0 = some w ∧ rep K F w x.1 := by
  obtain ⟨p, v1, v2, rfl, h0, h1, h2⟩ := h
  exact ⟨p, _, v1, rfl, h0, rfl, h1⟩
theorem p2_1 {K : PySem.W.Frag} {x : α × β} {F : Hp} {v : V} (h : rep K F v x) : ∃ p vs w, v = .ref p ∧ SqT K F p vs ∧ atI vs 1 = some w ∧ rep K F w x.2 := by
  obtain ⟨p, v1, v2, rfl, h0, h1, h2⟩ := h
  exact ⟨p, _, v2, rfl, h0, rfl, h2⟩
theorem p3_0 {K : PySem.W.Frag} {x : T3 α β γ} {F : Hp} {v : V} (h : rep K F v x) : ∃ p vs w, v = .ref p ∧ SqT K F p vs ∧ atI vs 0 = some w ∧ rep K F w x.a := by
  obtain ⟨p, v1, v2, v3, rfl, h0, h1, h2, h3⟩ := h
  exact ⟨p, _, v1, rfl, h0, rfl, h1⟩
theorem p3_1 {K : PySem.W.Frag} {x : T3 α β γ} {F : Hp} {v : V} (h : rep K F v x) : ∃ p vs w, v = .ref p ∧ SqT K F p vs ∧ atI vs 1 = some w ∧ rep K F w x.b := by
  obtain ⟨p, v1, v2, v3, rfl, h0, h1, h2, h3⟩ := h
  exact ⟨p, _, v2, rfl, h0, rfl, h2⟩
theorem p3_2 {K : PySem.W.Frag} {x : T3 α β γ} {F : Hp} {v : V} (h : rep K F v x) : ∃ p vs w, v = .ref p ∧ SqT K F p vs ∧ atI vs 2 = some w ∧ rep K F w x.c := by
  obtain ⟨p, v1, v2, v3, rfl, h0, h1, h2, h3⟩ := h
  exact ⟨p, _, v3, rfl, h0, rfl, h3⟩
def sgn (x : Str) (i : Int) : Option Str := if x.length ≤ sizeLine then (atI x.cps.toList i).map fun c => ⟨#[c]⟩ else none
theorem ev_ixS {x : Str} {i : Int} {y : Str} (ha : Ev X a σ s x) (hb : Ev X b σ s i) (h : sgn x i = some y) (hp : PlainIx b := by intro _ _; rfl) : Ev X (.Subscript a b pos) σ s y := fun s1 k Q q =>
  we_of (pe_ix ix_str pe_we pe_we hp) (ha s1 k _ fun v s2 k2 r2 => hb s2 (k.trans k2) _ fun u s3 k3 r3 => by
    unfold sgn at h
    split at h
    · rename_i hz
      obtain ⟨c, h1, h2⟩ := Option.map_eq_some_iff.mp h
      exact ⟨x, i, c, r2, r3, hz, h1, q _ s3 (k2.trans k3) (by rw [h2]; rfl)⟩
    · cases h)
end
end Dy

namespace Dy
open PySem PySem.Spec L2
open PyProof.Rows hiding St
open Enc (rep)
open Flat (toV)
open EncA (repA)

section
variable {α β γ δ : Type} [Enc α] [Enc β] [Enc γ] [Enc δ] {X : Cx} {σ : St} {s t : S} {e a b c : Expr} {es : List Expr} {pos p0 p1 p2 p3 : Pos}

theorem et_v {x : Bool} (h : Ev X e σ s x) (he : ∀ whole, isTrue e X.env whole = (do let v ← whole; standAt e.pos; holding [v] (truthy v)) := by intro _; rfl) : EvT X e σ s x := fun s1 k Q q =>
  wt_of (pt_val pe_we he) (h s1 k _ fun v s2 k2 r => ⟨x, r, q s2 k2⟩)
theorem eb_v {x : Bool} (h : Ev X e σ s x) (he : ∀ whole, isTrue e X.env whole = (do let v ← whole; standAt e.pos; holding [v] (truthy v)) := by intro _; rfl) : EvB X e σ s x := ⟨h, et_v h he⟩
theorem EvW.tt {x : Bool} (h : EvW X e σ s x) : EvT X e σ s x := fun s1 k Q q => wt_of pw_ww.pt (h s1 k Q q)
theorem EvC.bb {x : Bool} (h : EvC X e σ s x) : EvB X e σ s x := ⟨h.v, h.w.tt⟩
theorem EvB.cast {x y : Bool} (h : EvB X e σ s x) (k : x = y) : EvB X e σ s y := k ▸ h
theorem ec_and1 {x : Bool} (h : EvB X a σ s x) : EvC X (.BoolOp .And [a] pos) σ s x :=
  ⟨fun s1 k Q q => we_of (pe_one pe_we) (h.v s1 k Q q), fun s1 k Q q => ww_of (pw_and1 pt_wt) (h.t s1 k Q q)⟩
theorem ec_or1 {x : Bool} (h : EvB X a σ s x) : EvC X (.BoolOp .Or [a] pos) σ s x :=
  ⟨fun s1 k Q q => we_of (pe_one pe_we) (h.v s1 k Q q), fun s1 k Q q => ww_of (pw_or1 pt_wt) (h.t s1 k Q q)⟩
theorem ec_and {x y : Bool} (h : EvB X a σ s x) (h2 : x = true → EvC X (.BoolOp .And (b :: es) pos) σ s y) : EvC X (.BoolOp .And (a :: b :: es) pos) σ s (x && y) :=
  ⟨fun s1 k Q q => we_of (pe_and pe_we pe_we) (h.v s1 k _ fun v s2 k2 r => ⟨x, r, by
    cases x with
    | true => exact iteT ((h2 rfl).v s2 (k.trans k2) Q fun v s3 k3 r3 => q v s3 (k2.trans k3) r3)
    | false => exact iteF (q _ s2 k2 rfl)⟩),
   fun s1 k Q q => ww_of (pw_and pt_wt pw_ww) (h.t s1 k _ fun s2 k2 => by
    cases x with
    | true => exact iteT ((h2 rfl).w s2 (k.trans k2) Q fun s3 k3 => q s3 (k2.trans k3))
    | false => exact iteF (q s2 k2))⟩
theorem ec_or {x y : Bool} (h : EvB X a σ s x) (h2 : x = false → EvC X (.BoolOp .Or (b :: es) pos) σ s y) : EvC X (.BoolOp .Or (a :: b :: es) pos) σ s (x || y) :=
  ⟨fun s1 k Q q => we_of (pe_or pe_we pe_we) (h.v s1 k _ fun v s2 k2 r => ⟨x, r, by
    cases x with
    | true => exact iteT (q _ s2 k2 rfl)
    | false => exact iteF ((h2 rfl).v s2 (k.trans k2) Q fun v s3 k3 r3 => q v s3 (k2.trans k3) r3)⟩),
   fun s1 k Q q => ww_of (pw_or pt_wt pw_ww) (h.t s1 k _ fun s2 k2 => by
    cases x with
    | true => exact iteT (q s2 k2)
    | false => exact iteF ((h2 rfl).w s2 (k.trans k2) Q fun s3 k3 => q s3 (k2.trans k3)))⟩
theorem eb_not {x : Bool} (h : EvB X a σ s x) : EvB X (.UnaryOp .Not a pos) σ s (!x) :=
  ⟨fun s1 k Q q => we_of (pe_not pe_we) (h.v s1 k _ fun v s2 k2 r => ⟨x, r, q _ s2 k2 rfl⟩), fun s1 k Q q => wt_of (pt_not pt_wt) (h.t s1 k _ fun s2 k2 => q s2 k2)⟩
theorem ev_ifE {x : Bool} {y z : α} (h : EvT X c σ s x) (h1 : x = true → Ev X a σ s y) (h2 : x = false → Ev X b σ s z) : Ev X (.IfExp c a b pos) σ s (if x = true then y else z) := fun s1 k Q q =>
  we_of (pe_ifExp pt_wt pe_we pe_we) (h s1 k _ fun s2 k2 => by
    cases x with
    | true => exact iteT (h1 rfl s2 (k.trans k2) Q fun v s3 k3 r => q v s3 (k2.trans k3) r)
    | false => exact iteF (h2 rfl s2 (k.trans k2) Q fun v s3 k3 r => q v s3 (k2.trans k3) r))

theorem eb_cmp {op : CmpOp} {r : R2} {x : α} {y : β} {z : Bool} (ho : OpR X (compareOp op) r) (ha : Ev X a σ s x) (hb : Ev X b σ s y)
    (hr : ∀ (v u : V) (s2 : S), rep X.K s2.F v x → rep X.K s2.F u y → ∀ Q : VK, Q (.bl z) s2.H → r v u s2.H Q) (hm : behindInMarks op b = false) : EvB X (.Compare a [op] [b] pos) σ s z :=
  ⟨fun s1 k Q q => we_of (pe_cmpR ho pe_we pe_we hm) (ha s1 k _ fun v s2 k2 r2 => hb s2 (k.trans k2) _ fun u s3 k3 r3 => hr v u s3 (Enc.mono k3.f r2) r3 Q (q _ s3 (k2.trans k3) rfl)),
   fun s1 k Q q => wt_of (pt_cmpR ho pe_we pe_we hm) (ha s1 k _ fun v s2 k2 r2 => hb s2 (k.trans k2) _ fun u s3 k3 r3 => hr v u s3 (Enc.mono k3.f r2) r3 _ ⟨z, rfl, q s3 (k2.trans k3)⟩)⟩
theorem eb_cmpR {op : CmpOp} {r : R2} {x : α} {ys : List β} {z : Bool} (ho : OpR X (compareOp op) r) (ha : Ev X a σ s x) (hb : EvR X b σ s ys)
    (hr : ∀ (v u : V) (s2 : S), rep X.K s2.F v x → RepR X.K s2 u ys → ∀ Q : VK, Q (.bl z) s2.H → r v u s2.H Q) (hm : behindInMarks op b = false) : EvB X (.Compare a [op] [b] pos) σ s z :=
  ⟨fun s1 k Q q => we_of (pe_cmpR ho pe_we pe_we hm) (ha s1 k _ fun v s2 k2 r2 => hb s2 (k.trans k2) _ fun u s3 k3 r3 => hr v u s3 (Enc.mono k3.f r2) r3 Q (q _ s3 (k2.trans k3) rfl)),
   fun s1 k Q q => wt_of (pt_cmpR ho pe_we pe_we hm) (ha s1 k _ fun v s2 k2 r2 => hb s2 (k.trans k2) _ fun u s3 k3 r3 => hr v u s3 (Enc.mono k3.f r2) r3 _ ⟨z, rfl, q s3 (k2.trans k3)⟩)⟩
theorem eb_cmpRR {op : CmpOp} {r : R2} {xs : List α} {ys : List β} {z : Bool} (ho : OpR X (compareOp op) r) (ha : EvR X a σ s xs) (hb : EvR X b σ s ys)
    (hr : ∀ (v u : V) (s2 : S), RepR X.K s2 v xs → RepR X.K s2 u ys → ∀ Q : VK, Q (.bl z) s2.H → r v u s2.H Q) (hm : behindInMarks op b = false) : EvB X (.Compare a [op] [b] pos) σ s z :=
  ⟨fun s1 k Q q => we_of (pe_cmpR ho pe_we pe_we hm) (ha s1 k _ fun v s2 k2 r2 => hb s2 (k.trans k2) _ fun u s3 k3 r3 => hr v u s3 (r2.ex k3) r3 Q (q _ s3 (k2.trans k3) rfl)),
   fun s1 k Q q => wt_of (pt_cmpR ho pe_we pe_we hm) (ha s1 k _ fun v s2 k2 r2 => hb s2 (k.trans k2) _ fun u s3 k3 r3 => hr v u s3 (r2.ex k3) r3 _ ⟨z, rfl, q s3 (k2.trans k3)⟩)⟩
theorem eb_I0 {op : CmpOp} {g : Int → Int → V} {x y : Int} {z : Bool} (ho : OpR X (compareOp op) (rI0 g)) (hg : g x y = .bl z) (hm : behindInMarks op b = false) (ha : Ev X a σ s x) (hb : Ev X b σ s y) : EvB X (.Compare a [op] [b] pos) σ s z :=
  eb_cmp ho ha hb (fun v u s2 hv hu Q q => ⟨x, y, hv, hu, by rw [hg]; exact q⟩) hm
theorem eb_lt {x y : Int} (ha : Ev X a σ s x) (hb : Ev X b σ s y) : EvB X (.Compare a [.Lt] [b] pos) σ s (decide (x < y)) := eb_I0 op_lt rfl (nomark _) ha hb
theorem eb_le {x y : Int} (ha : Ev X a σ s x) (hb : Ev X b σ s y) : EvB X (.Compare a [.LtE] [b] pos) σ s (decide (x ≤ y)) := eb_I0 op_le rfl (nomark _) ha hb
theorem eb_gt {x y : Int} (ha : Ev X a σ s x) (hb : Ev X b σ s y) : EvB X (.Compare a [.Gt] [b] pos) σ s (decide (y < x)) := eb_I0 op_gt rfl (nomark _) ha hb
theorem eb_ge {x y : Int} (ha : Ev X a σ s x) (hb : Ev X b σ s y) : EvB X (.Compare a [.GtE] [b] pos) σ s (decide (y ≤ x)) := eb_I0 op_ge rfl (nomark _) ha hb
class Eqs (α : Type) extends Flat α where
  sc : ∀ x y : α, scal (toV x) (toV y) = true
  ij : ∀ x y : α, toV x = toV y ↔ x = y
instance : Eqs Int := { sc := fun _ _ => rfl, ij := fun x y => by show V.int x = V.int y ↔ _; simp }
instance : Eqs Bool := { sc := fun _ _ => rfl, ij := fun x y => by show V.bl x = V.bl y ↔ _; simp }
instance : Eqs Str := { sc := fun _ _ => rfl, ij := fun x y => by show V.str x = V.str y ↔ _; simp }
theorem eb_eq {ε : Type} [Eqs ε] [DecidableEq ε] {x y : ε} (ha : Ev X a σ s x) (hb : Ev X b σ s y) : EvB X (.Compare a [.Eq] [b] pos) σ s (decide (x = y)) :=
  eb_cmp op_eq ha hb (fun v u s2 hv hu Q q => by
    rw [Flat.iff.mp hv, Flat.iff.mp hu]
    refine ⟨Eqs.sc x y, ?_⟩
    rw [show decide (toV x = toV y) = decide (x = y) from decide_eq_decide.mpr (Eqs.ij x y)]
    exact q) (nomark _)
theorem eb_ne {ε : Type} [Eqs ε] [DecidableEq ε] {x y : ε} (ha : Ev X a σ s x) (hb : Ev X b σ s y) : EvB X (.Compare a [.NotEq] [b] pos) σ s (!decide (x = y)) :=
  eb_cmp op_ne ha hb (fun v u s2 hv hu Q q => by
    rw [Flat.iff.mp hv, Flat.iff.mp hu]
    refine ⟨Eqs.sc x y, ?_⟩
    rw [show decide (toV x = toV y) = decide (x = y) from decide_eq_decide.mpr (Eqs.ij x y)]
    exact q) (nomark _)
theorem eb_isN {o : Type} [Opn o] {x : Option o} {j} (ha : Ev X a σ s x) : EvB X (.Compare a [.Is] [.Constant .none j p1] pos) σ s x.isNone :=
  eb_cmp op_isN ha ev_non (fun v u s2 hv hu Q q => by
    refine ⟨hu, ?_⟩
    have : decide (v = V.non) = x.isNone := by
      cases x with
      | none => cases (show v = V.non from hv); rfl
      | some y => exact decide_eq_false fun z => Opn.notNon (z ▸ (show rep X.K s2.F v y from hv))
    rw [this]; exact q) (nomark _)
theorem eb_notN {o : Type} [Opn o] {x : Option o} {j} (ha : Ev X a σ s x) : EvB X (.Compare a [.IsNot] [.Constant .none j p1] pos) σ s x.isSome :=
  eb_cmp op_notN ha ev_non (fun v u s2 hv hu Q q => by
    refine ⟨hu, ?_⟩
    have : (!decide (v = V.non)) = x.isSome := by
      cases x with
      | none => cases (show v = V.non from hv); rfl
      | some y => rw [decide_eq_false fun z => Opn.notNon (z ▸ (show rep X.K s2.F v y from hv))]; rfl
    rw [this]; exact q) (nomark _)
theorem eb_in {ε : Type} [Eqs ε] [DecidableEq ε] {x : ε} {xs : List ε} (ha : Ev X a σ s x) (hb : EvR X b σ s xs) (hm : behindInMarks .In b = false := by rfl) : EvB X (.Compare a [.In] [b] pos) σ s (decide (x ∈ xs)) :=
  eb_cmpR op_in_seq ha hb (fun v u s2 hv hu Q q => by
    obtain ⟨p, vs, rfl, h1, h2⟩ := hu
    rw [Flat.iff.mp hv]
    obtain rfl := h2.flat
    refine ⟨p, _, rfl, .inl h1, Flat.flat x, flat_all xs, ?_⟩
    rw [inV_flat]; exact q) hm
theorem eb_notIn {ε : Type} [Eqs ε] [DecidableEq ε] {x : ε} {xs : List ε} (ha : Ev X a σ s x) (hb : EvR X b σ s xs) (hm : behindInMarks .NotIn b = false := by rfl) : EvB X (.Compare a [.NotIn] [b] pos) σ s (!decide (x ∈ xs)) :=
  eb_cmpR op_notIn_seq ha hb (fun v u s2 hv hu Q q => by
    obtain ⟨p, vs, rfl, h1, h2⟩ := hu
    rw [Flat.iff.mp hv]
    obtain rfl := h2.flat
    refine ⟨p, _, rfl, .inl h1, Flat.flat x, flat_all xs, ?_⟩
    rw [inV_flat]; exact q) hm
theorem eb_inT {ε : Type} [Eqs ε] [DecidableEq ε] {x : ε} {xs : Tu ε} (ha : Ev X a σ s x) (hb : Ev X b σ s xs) (hm : behindInMarks .In b = false := by rfl) : EvB X (.Compare a [.In] [b] pos) σ s (decide (x ∈ xs.l)) :=
  eb_cmp op_in_seq ha hb (fun v u s2 hv hu Q q => by
    obtain ⟨p, vs, rfl, h1, h2⟩ := hu
    rw [Flat.iff.mp hv]
    obtain rfl := h2.flat
    refine ⟨p, _, rfl, .inr (sqt_mono s2.sub h1), Flat.flat x, flat_all xs.l, ?_⟩
    rw [inV_flat]; exact q) hm
theorem eb_notInT {ε : Type} [Eqs ε] [DecidableEq ε] {x : ε} {xs : Tu ε} (ha : Ev X a σ s x) (hb : Ev X b σ s xs) (hm : behindInMarks .NotIn b = false := by rfl) : EvB X (.Compare a [.NotIn] [b] pos) σ s (!decide (x ∈ xs.l)) :=
  eb_cmp op_notIn_seq ha hb (fun v u s2 hv hu Q q => by
    obtain ⟨p, vs, rfl, h1, h2⟩ := hu
    rw [Flat.iff.mp hv]
    obtain rfl := h2.flat
    refine ⟨p, _, rfl, .inr (sqt_mono s2.sub h1), Flat.flat x, flat_all xs.l, ?_⟩
    rw [inV_flat]; exact q) hm
def inS (x y : Str) : Bool := !(Builtin.Str.occurrences y x 0 y.length 1).isEmpty
theorem eb_inS {x y : Str} (ha : Ev X a σ s x) (hb : Ev X b σ s y) (hm : behindInMarks .In b = false := by rfl) : EvB X (.Compare a [.In] [b] pos) σ s (inS x y) :=
  eb_cmp op_in_str ha hb (fun v u s2 hv hu Q q => ⟨x, y, hv, hu, q⟩) hm
theorem eb_notInS {x y : Str} (ha : Ev X a σ s x) (hb : Ev X b σ s y) (hm : behindInMarks .NotIn b = false := by rfl) : EvB X (.Compare a [.NotIn] [b] pos) σ s (!inS x y) :=
  eb_cmp op_notIn_str ha hb (fun v u s2 hv hu Q q => ⟨x, y, hv, hu, q⟩) hm
theorem eb_chain {op op' : CmpOp} {g g' : Int → Int → V} {x y z : Int} {k1 k2 : Bool} (ho : OpR X (compareOp op) (rI0 g)) (hg : g x y = .bl k1) (ho' : OpR X (compareOp op') (rI0 g')) (hg' : g' y z = .bl k2) (ha : Ev X a σ s x) (hb : Ev X b σ s y) (hc : Ev X c σ s z)
    (hm : lastMarks [op, op'] [b, c] = false := by with_unfolding_all rfl) : EvB X (.Compare a [op, op'] [b, c] pos) σ s (k1 && k2) :=
  ⟨fun s1 k Q q => we_of (pe_chain ho ho' pe_we pe_we pe_we hm) (ha s1 k _ fun v s2 j2 r2 => hb s2 (k.trans j2) _ fun u s3 j3 r3 => ⟨x, y, r2, r3, k1, hg, by
    cases k1 with
    | true => exact iteT (hc s3 ((k.trans j2).trans j3) _ fun w s4 j4 r4 => ⟨y, z, r3, r4, by rw [hg']; exact q _ s4 ((j2.trans j3).trans j4) rfl⟩)
    | false => exact iteF (q _ s3 (j2.trans j3) rfl)⟩),
   fun s1 k Q q => wt_of (pt_chain ho ho' pe_we pe_we pe_we hm) (ha s1 k _ fun v s2 j2 r2 => hb s2 (k.trans j2) _ fun u s3 j3 r3 => ⟨x, y, r2, r3, k1, hg, by
    cases k1 with
    | true => exact iteT (hc s3 ((k.trans j2).trans j3) _ fun w s4 j4 r4 => ⟨y, z, r3, r4, by rw [hg']; exact ⟨_, rfl, q s4 ((j2.trans j3).trans j4)⟩⟩)
    | false => exact iteF ⟨_, rfl, q s3 (j2.trans j3)⟩⟩)⟩

theorem ea_nil : EvA X [] σ s () := fun s1 k Q q => wa_of pa_nil (q [] s1 (Ex.refl _) rfl)
theorem ea_cons {A : Type} [EncA A] {x : α} {r : A} (h : Ev X e σ s x) (hr : EvA X es σ s r) (hs : starEach (e :: es) X.env = (false, eval e X.env) :: starEach es X.env := by rfl) : EvA X (e :: es) σ s (x, r) := fun s1 k Q q =>
  wa_of (pa_cons pe_we pa_wa hs) (h s1 k _ fun v s2 k2 r2 => hr s2 (k.trans k2) _ fun vs s3 k3 r3 => q _ s3 (k2.trans k3) ⟨v, vs, rfl, Enc.mono k3.f r2, r3⟩)
theorem ev_B1 {id : String} {n : Str} {r : List V → Hp → VK → Prop} {x : β} {y : α} (hc : CallR X (.builtin id) r) (hg : Gl X n) (hm : X.mg n = none) (hv : bootBuiltins n = some (.builtin id)) (ha : Ev X e σ s x)
    (hr : ∀ (v : V) (s2 : S), rep X.K s2.F v x → ∀ Q : VK, (∀ w s3, Ex s2 s3 → rep X.K s3.F w y → Q w s3.H) → r [v] s2.H Q) (hn : n ≠ "__name__" := by decide) (hdb : (n == ("__debug__" : Str)) = false := by decide)
    (he : starEach [e] X.env = (false, eval e X.env) :: starEach [] X.env := by rfl) (hpl : (backTo pos (starEach [] X.env)).any (·.1) = false := by rfl) : Ev X (.Call (.Name n p0) [e] [] pos) σ s y := fun s1 k Q q =>
  we_of (pe_callB hc hg hm hv (pa_cons pe_we pa_nil he) hn hdb he hpl) (ha s1 k _ fun v s2 k2 r2 => hr v s2 r2 Q fun w s3 k3 r3 => q w s3 (k2.trans k3) r3)
theorem ev_BR {id : String} {n : Str} {r : List V → Hp → VK → Prop} {xs : List β} {y : α} (hc : CallR X (.builtin id) r) (hg : Gl X n) (hm : X.mg n = none) (hv : bootBuiltins n = some (.builtin id)) (ha : EvR X e σ s xs)
    (hr : ∀ (v : V) (s2 : S), RepR X.K s2 v xs → ∀ Q : VK, (∀ w s3, Ex s2 s3 → rep X.K s3.F w y → Q w s3.H) → r [v] s2.H Q) (hn : n ≠ "__name__" := by decide) (hdb : (n == ("__debug__" : Str)) = false := by decide)
    (he : starEach [e] X.env = (false, eval e X.env) :: starEach [] X.env := by rfl) (hpl : (backTo pos (starEach [] X.env)).any (·.1) = false := by rfl) : Ev X (.Call (.Name n p0) [e] [] pos) σ s y := fun s1 k Q q =>
  we_of (pe_callB hc hg hm hv (pa_cons pe_we pa_nil he) hn hdb he hpl) (ha s1 k _ fun v s2 k2 r2 => hr v s2 r2 Q fun w s3 k3 r3 => q w s3 (k2.trans k3) r3)
theorem ev_len {xs : List β} (hm : X.mg "len" = none) (ha : EvR X e σ s xs) (hg : Gl X "len" := by rfl) (he : starEach [e] X.env = (false, eval e X.env) :: starEach [] X.env := by rfl) (hpl : (backTo pos (starEach [] X.env)).any (·.1) = false := by rfl) : Ev X (.Call (.Name "len" p0) [e] [] pos) σ s (xs.length : Int) :=
  ev_BR call_len_seq hg hm boot_len ha (fun v s2 r2 Q q => by
    obtain ⟨p, vs, rfl, h1, h2⟩ := r2
    exact ⟨p, vs, rfl, .inl h1, q _ s2 (Ex.refl _) (by rw [h2.len]; rfl)⟩) (he := he) (hpl := hpl)
theorem ev_lenT {xs : Tu β} (hm : X.mg "len" = none) (ha : Ev X e σ s xs) (hg : Gl X "len" := by rfl) (he : starEach [e] X.env = (false, eval e X.env) :: starEach [] X.env := by rfl) (hpl : (backTo pos (starEach [] X.env)).any (·.1) = false := by rfl) : Ev X (.Call (.Name "len" p0) [e] [] pos) σ s (xs.l.length : Int) :=
  ev_B1 call_len_seq hg hm boot_len ha (fun v s2 r2 Q q => by
    obtain ⟨p, vs, rfl, h1, h2⟩ := r2
    exact ⟨p, vs, rfl, .inr (sqt_mono s2.sub h1), q _ s2 (Ex.refl _) (by rw [h2.len]; rfl)⟩) (he := he) (hpl := hpl)
theorem ev_lenS {x : Str} (hm : X.mg "len" = none) (hz : x.length ≤ sizeLine) (ha : Ev X e σ s x) (hg : Gl X "len" := by rfl) (he : starEach [e] X.env = (false, eval e X.env) :: starEach [] X.env := by rfl) (hpl : (backTo pos (starEach [] X.env)).any (·.1) = false := by rfl) : Ev X (.Call (.Name "len" p0) [e] [] pos) σ s (x.length : Int) :=
  ev_B1 call_len_str hg hm boot_len ha (fun v s2 r2 Q q => ⟨x, by rw [show v = V.str x from r2], hz, q _ s2 (Ex.refl _) rfl⟩) (he := he) (hpl := hpl)
theorem ev_sum {xs : List Int} (hm : X.mg "sum" = none) (ha : EvR X e σ s xs) (hc : X.calm = true := by rfl) (hg : Gl X "sum" := by rfl) (he : starEach [e] X.env = (false, eval e X.env) :: starEach [] X.env := by rfl) (hpl : (backTo pos (starEach [] X.env)).any (·.1) = false := by rfl) : Ev X (.Call (.Name "sum" p0) [e] [] pos) σ s xs.sum :=
  ev_BR (cr_sum hc) hg hm (by decide +kernel) ha (fun v s2 r2 Q q => by
    obtain ⟨p, vs, rfl, h1, h2⟩ := r2
    rw [h2.flat] at h1
    exact ⟨p, xs, rfl, h1, q _ s2 (Ex.refl _) rfl⟩) (he := he) (hpl := hpl)
theorem ev_all {xs : List Bool} (hm : X.mg "all" = none) (ha : EvR X e σ s xs) (hc : X.calm = true := by rfl) (hg : Gl X "all" := by rfl) (he : starEach [e] X.env = (false, eval e X.env) :: starEach [] X.env := by rfl) (hpl : (backTo pos (starEach [] X.env)).any (·.1) = false := by rfl) : Ev X (.Call (.Name "all" p0) [e] [] pos) σ s (xs.all id) :=
  ev_BR (cr_all hc) hg hm (by decide +kernel) ha (fun v s2 r2 Q q => by
    obtain ⟨p, vs, rfl, h1, h2⟩ := r2
    rw [h2.flat] at h1
    exact ⟨p, xs, rfl, h1, q _ s2 (Ex.refl _) rfl⟩) (he := he) (hpl := hpl)
theorem ev_any {xs : List Bool} (hm : X.mg "any" = none) (ha : EvR X e σ s xs) (hc : X.calm = true := by rfl) (hg : Gl X "any" := by rfl) (he : starEach [e] X.env = (false, eval e X.env) :: starEach [] X.env := by rfl) (hpl : (backTo pos (starEach [] X.env)).any (·.1) = false := by rfl) : Ev X (.Call (.Name "any" p0) [e] [] pos) σ s (xs.any id) :=
  ev_BR (cr_any hc) hg hm (by decide +kernel) ha (fun v s2 r2 Q q => by
    obtain ⟨p, vs, rfl, h1, h2⟩ := r2
    rw [h2.flat] at h1
    exact ⟨p, xs, rfl, h1, q _ s2 (Ex.refl _) rfl⟩) (he := he) (hpl := hpl)
def minL : List Int → Option Int
  | [] => none
  | x :: xs => some (xs.foldl min x)
def maxL : List Int → Option Int
  | [] => none
  | x :: xs => some (xs.foldl max x)
theorem foldl_min (xs : List Int) : ∀ x : Int, (xs.foldl min x ∈ x :: xs) ∧ ∀ y ∈ x :: xs, xs.foldl min x ≤ y := by
  induction xs with
  | nil => intro x; exact ⟨by simp, fun y hy => by simp at hy; simp [hy]⟩
  | cons a r ih =>
    intro x
    obtain ⟨h1, h2⟩ := ih (min x a)
    refine ⟨?_, fun y hy => ?_⟩
    · rw [List.foldl_cons]
      rcases List.mem_cons.mp h1 with h | h
      · rw [h]
        by_cases hx : x ≤ a
        · rw [Int.min_eq_left hx]; exact List.mem_cons_self
        · rw [Int.min_eq_right (by omega)]; exact List.mem_cons_of_mem _ List.mem_cons_self
      · exact List.mem_cons_of_mem _ (List.mem_cons_of_mem _ h)
    · rw [List.foldl_cons]
      have h3 := h2 (min x a) List.mem_cons_self
      rcases List.mem_cons.mp hy with rfl | hy
      · exact Int.le_trans h3 (Int.min_le_left _ _)
      · rcases List.mem_cons.mp hy with rfl | hy
        · exact Int.le_trans h3 (Int.min_le_right _ _)
        · exact h2 y (List.mem_cons_of_mem _ hy)
theorem foldl_max (xs : List Int) : ∀ x : Int, (xs.foldl max x ∈ x :: xs) ∧ ∀ y ∈ x :: xs, y ≤ xs.foldl max x := by
  induction xs with
  | nil => intro x; exact ⟨by simp, fun y hy => by simp at hy; simp [hy]⟩
  | cons a r ih =>
    intro x
    obtain ⟨h1, h2⟩ := ih (max x a)
    refine ⟨?_, fun y hy => ?_⟩
    · rw [List.foldl_cons]
      rcases List.mem_cons.mp h1 with h | h
      · rw [h]
        by_cases hx : a ≤ x
        · rw [Int.max_eq_left hx]; exact List.mem_cons_self
        · rw [Int.max_eq_right (by omega)]; exact List.mem_cons_of_mem _ List.mem_cons_self
      · exact List.mem_cons_of_mem _ (List.mem_cons_of_mem _ h)
    · rw [List.foldl_cons]
      have h3 := h2 (max x a) List.mem_cons_self
      rcases List.mem_cons.mp hy with rfl | hy
      · exact Int.le_trans (Int.le_max_left _ _) h3
      · rcases List.mem_cons.mp hy with rfl | hy
        · exact Int.le_trans (Int.le_max_right _ _) h3
        · exact h2 y (List.mem_cons_of_mem _ hy)
theorem minL_of {xs : List Int} {m : Int} (h1 : m ∈ xs) (h2 : ∀ y ∈ xs, m ≤ y) : minL xs = some m := by
  cases xs with
  | nil => simp at h1
  | cons x r =>
    obtain ⟨h3, h4⟩ := foldl_min r x
    exact congrArg some (Int.le_antisymm (h4 m h1) (h2 _ h3))
theorem maxL_of {xs : List Int} {m : Int} (h1 : m ∈ xs) (h2 : ∀ y ∈ xs, y ≤ m) : maxL xs = some m := by
  cases xs with
  | nil => simp at h1
  | cons x r =>
    obtain ⟨h3, h4⟩ := foldl_max r x
    exact congrArg some (Int.le_antisymm (h2 _ h3) (h4 m h1))
theorem ev_min {xs : List Int} {m : Int} (hm : X.mg "min" = none) (ha : EvR X e σ s xs) (h : minL xs = some m) (hc : X.calm = true := by rfl) (hg : Gl X "min" := by rfl) (he : starEach [e] X.env = (false, eval e X.env) :: starEach [] X.env := by rfl) (hpl : (backTo pos (starEach [] X.env)).any (·.1) = false := by rfl) : Ev X (.Call (.Name "min" p0) [e] [] pos) σ s m :=
  ev_BR (cr_min hc) hg hm (by decide +kernel) ha (fun v s2 r2 Q q => by
    obtain ⟨p, vs, rfl, h1, h2⟩ := r2
    rw [h2.flat] at h1
    refine ⟨p, xs, rfl, h1, ?_, fun z hz1 hz2 => ?_⟩
    · cases xs with
      | nil => cases h
      | cons _ _ => exact Nat.succ_pos _
    · rw [minL_of hz1 hz2] at h
      cases h
      exact q _ s2 (Ex.refl _) rfl) (he := he) (hpl := hpl)
theorem ev_max {xs : List Int} {m : Int} (hm : X.mg "max" = none) (ha : EvR X e σ s xs) (h : maxL xs = some m) (hc : X.calm = true := by rfl) (hg : Gl X "max" := by rfl) (he : starEach [e] X.env = (false, eval e X.env) :: starEach [] X.env := by rfl) (hpl : (backTo pos (starEach [] X.env)).any (·.1) = false := by rfl) : Ev X (.Call (.Name "max" p0) [e] [] pos) σ s m :=
  ev_BR (cr_max hc) hg hm (by decide +kernel) ha (fun v s2 r2 Q q => by
    obtain ⟨p, vs, rfl, h1, h2⟩ := r2
    rw [h2.flat] at h1
    refine ⟨p, xs, rfl, h1, ?_, fun z hz1 hz2 => ?_⟩
    · cases xs with
      | nil => cases h
      | cons _ _ => exact Nat.succ_pos _
    · rw [maxL_of hz1 hz2] at h
      cases h
      exact q _ s2 (Ex.refl _) rfl) (he := he) (hpl := hpl)
theorem ev_min2 {x y : Int} (hm : X.mg "min" = none) (ha : Ev X a σ s x) (hb : Ev X b σ s y) (hc : X.calm = true := by rfl) (hg : Gl X "min" := by rfl) (he : starEach [a, b] X.env = (false, eval a X.env) :: starEach [b] X.env := by rfl) (he2 : starEach [b] X.env = (false, eval b X.env) :: starEach [] X.env := by rfl) (hpl : (backTo pos (starEach [b] X.env)).any (·.1) = false := by rfl) : Ev X (.Call (.Name "min" p0) [a, b] [] pos) σ s (min x y) := fun s1 k Q q =>
  we_of (pe_callB (call_min2 hc) hg hm (by decide +kernel) (pa_cons pe_we (pa_cons pe_we pa_nil he2) he) (he := he) (hpl := hpl)) (ha s1 k _ fun v s2 k2 r2 => hb s2 (k.trans k2) _ fun u s3 k3 r3 =>
    ⟨x, y, by rw [show v = V.int x from r2, show u = V.int y from r3], q _ s3 (k2.trans k3) (by
      show V.int _ = V.int _
      by_cases h : y < x
      · rw [if_pos h, Int.min_eq_right (by omega)]
      · rw [if_neg h, Int.min_eq_left (by omega)])⟩)
theorem ev_max2 {x y : Int} (hm : X.mg "max" = none) (ha : Ev X a σ s x) (hb : Ev X b σ s y) (hc : X.calm = true := by rfl) (hg : Gl X "max" := by rfl) (he : starEach [a, b] X.env = (false, eval a X.env) :: starEach [b] X.env := by rfl) (he2 : starEach [b] X.env = (false, eval b X.env) :: starEach [] X.env := by rfl) (hpl : (backTo pos (starEach [b] X.env)).any (·.1) = false := by rfl) : Ev X (.Call (.Name "max" p0) [a, b] [] pos) σ s (max x y) := fun s1 k Q q =>
  we_of (pe_callB (call_max2 hc) hg hm (by decide +kernel) (pa_cons pe_we (pa_cons pe_we pa_nil he2) he) (he := he) (hpl := hpl)) (ha s1 k _ fun v s2 k2 r2 => hb s2 (k.trans k2) _ fun u s3 k3 r3 =>
    ⟨x, y, by rw [show v = V.int x from r2, show u = V.int y from r3], q _ s3 (k2.trans k3) (by
      show V.int _ = V.int _
      by_cases h : y > x
      · rw [if_pos h, Int.max_eq_right (by omega)]
      · rw [if_neg h, Int.max_eq_left (by omega)])⟩)
theorem ev_T1 {T : String} {n : Str} {r : List V → Hp → VK → Prop} {x : β} {y : α} (hc : CallR X (.type T) r) (hg : Gl X n) (hm : X.mg n = none) (hv : bootBuiltins n = some (.type T)) (ha : Ev X e σ s x)
    (hr : ∀ (v : V) (s2 : S), rep X.K s2.F v x → ∀ Q : VK, (∀ w s3, Ex s2 s3 → rep X.K s3.F w y → Q w s3.H) → r [v] s2.H Q) (hn : n ≠ "__name__" := by decide) (hdb : (n == ("__debug__" : Str)) = false := by decide)
    (he : starEach [e] X.env = (false, eval e X.env) :: starEach [] X.env := by rfl) (hpl : (backTo pos (starEach [] X.env)).any (·.1) = false := by rfl) : Ev X (.Call (.Name n p0) [e] [] pos) σ s y := fun s1 k Q q =>
  we_of (pe_callTy hc hg hm hv (pa_cons pe_we pa_nil he) hn hdb he hpl) (ha s1 k _ fun v s2 k2 r2 => hr v s2 r2 Q fun w s3 k3 r3 => q w s3 (k2.trans k3) r3)
theorem ev_intB {x : Bool} (hm : X.mg "int" = none) (ha : Ev X e σ s x) (hg : Gl X "int" := by rfl) (he : starEach [e] X.env = (false, eval e X.env) :: starEach [] X.env := by rfl) (hpl : (backTo pos (starEach [] X.env)).any (·.1) = false := by rfl) : Ev X (.Call (.Name "int" p0) [e] [] pos) σ s (if x = true then (1 : Int) else 0) :=
  ev_T1 call_int1 hg hm (by decide +kernel) ha (fun v s2 r2 Q q => .inr ⟨x, by rw [show v = V.bl x from r2], q _ s2 (Ex.refl _) rfl⟩) (he := he) (hpl := hpl)
theorem ev_intS {x : Str} {n : Int} (hm : X.mg "int" = none) (ha : Ev X e σ s x) (h : PySem.intText? x = some n) (hl : x.length ≤ 640) (hg : Gl X "int" := by rfl) (he : starEach [e] X.env = (false, eval e X.env) :: starEach [] X.env := by rfl) (hpl : (backTo pos (starEach [] X.env)).any (·.1) = false := by rfl) : Ev X (.Call (.Name "int" p0) [e] [] pos) σ s n :=
  ev_T1 call_int_str hg hm (by decide +kernel) ha (fun v s2 r2 Q q => ⟨x, n, by rw [show v = V.str x from r2], h, hl, q _ s2 (Ex.refl _) rfl⟩) (he := he) (hpl := hpl)
theorem ev_strI {x : Int} (hm : X.mg "str" = none) (h : x.natAbs.log2 < 1920) (ha : Ev X e σ s x) (hg : Gl X "str" := by rfl) (he : starEach [e] X.env = (false, eval e X.env) :: starEach [] X.env := by rfl) (hpl : (backTo pos (starEach [] X.env)).any (·.1) = false := by rfl) : Ev X (.Call (.Name "str" p0) [e] [] pos) σ s (toString x : Str) :=
  ev_T1 call_str_int hg hm (by decide +kernel) ha (fun v s2 r2 Q q => ⟨x, by rw [show v = V.int x from r2], h, q _ s2 (Ex.refl _) rfl⟩) (he := he) (hpl := hpl)
end
end Dy

namespace Dy
open PySem PySem.Spec L2
open PyProof.Rows hiding St
open Enc (rep)
open Flat (toV)
open EncA (repA)

section
variable {α β γ δ ζ : Type} [Enc α] [Enc β] [Enc γ] [Enc δ] [Enc ζ] {X : Cx} {σ : St} {s t : S} {e a b c : Expr} {es : List Expr} {pos p0 p1 p2 p3 : Pos}

def EvE (X : Cx) (es : List Expr) (σ : St) (s : S) (xs : List α) : Prop := ∀ s1, Ex s s1 → ∀ Q : List V → Hp → Prop, (∀ vs s2, Ex s1 s2 → Reps X.K s2.F vs xs → Q vs s2.H) → WA X es σ s1.H Q
theorem ee_nil : EvE X [] σ s ([] : List α) := fun s1 k Q q => wa_of pa_nil (q [] s1 (Ex.refl _) trivial)
theorem ee_cons {x : α} {xs : List α} (h : Ev X e σ s x) (hr : EvE X es σ s xs) (hs : starEach (e :: es) X.env = (false, eval e X.env) :: starEach es X.env := by rfl) : EvE X (e :: es) σ s (x :: xs) := fun s1 k Q q =>
  wa_of (pa_cons pe_we pa_wa hs) (h s1 k _ fun v s2 k2 r2 => hr s2 (k.trans k2) _ fun vs s3 k3 r3 => q _ s3 (k2.trans k3) ⟨Enc.mono k3.f r2, r3⟩)
theorem own_new {K : PySem.W.Frag} {p : Addr} {vs : List V} {xs : List α} (h : s.H p = none) (r : Reps K s.F vs xs) : Own K (s.newO p (.lst vs) h) p xs := ⟨(fF h : s.F p = none), vs, upd_same, r⟩
theorem en_list {xs : List α} (h : EvE X es σ s xs) (hz : xs.length ≤ sizeLine := by decide) : EvN X (.List es pos) σ s xs := fun s1 k Q q =>
  we_of (pe_lst pa_wa) (h s1 k _ fun vs s2 k2 r2 => ⟨by rw [r2.len]; exact hz, fun p hp => q p (s2.newO p (.lst vs) hp) (k2.trans (Ex.newO hp)) (fr_back k2 hp) (own_new hp r2)⟩)
theorem tup_new {K : PySem.W.Frag} {p : Addr} {vs : List V} (h : s.H p = none) : SqT K (s.newF p (.tup vs) h).F p vs := .inl (.inl upd_same)
theorem ev_tu {xs : List α} (h : EvE X es σ s xs) (hz : xs.length ≤ sizeLine := by decide) {n} : Ev X (.Tuple es n pos) σ s (⟨xs⟩ : Tu α) := fun s1 k Q q =>
  we_of (pe_tup pa_wa) (h s1 k _ fun vs s2 k2 r2 => ⟨by rw [r2.len]; exact hz, fun p hp => q _ (s2.newF p (.tup vs) hp) (k2.trans (Ex.newF hp)) ⟨p, vs, rfl, tup_new hp, r2.mono (Ex.newF hp).f⟩⟩)
theorem ev_t1 {x : α} {n} (h : EvA X es σ s (x, ())) : Ev X (.Tuple es n pos) σ s (⟨x⟩ : T1 α) := fun s1 k Q q =>
  we_of (pe_tup pa_wa) (h s1 k _ fun vs s2 k2 r2 => by
    obtain ⟨v1, _, rfl, r1, rfl⟩ := r2
    refine ⟨show _ ≤ 2 ^ 24 by simp, fun p hp => q _ (s2.newF p _ hp) (k2.trans (Ex.newF hp)) ⟨p, v1, rfl, tup_new hp, Enc.mono (Ex.newF hp).f r1⟩⟩)
theorem ev_t2 {x : α} {y : β} {n} (h : EvA X es σ s (x, y, ())) : Ev X (.Tuple es n pos) σ s (x, y) := fun s1 k Q q =>
  we_of (pe_tup pa_wa) (h s1 k _ fun vs s2 k2 r2 => by
    obtain ⟨v1, _, rfl, r1, v2, _, rfl, r2, rfl⟩ := r2
    refine ⟨show _ ≤ 2 ^ 24 by simp, fun p hp => q _ (s2.newF p _ hp) (k2.trans (Ex.newF hp)) ⟨p, v1, v2, rfl, tup_new hp, Enc.mono (Ex.newF hp).f r1, Enc.mono (Ex.newF hp).f r2⟩⟩)
theorem ev_t3 {x : α} {y : β} {z : γ} {n} (h : EvA X es σ s (x, y, z, ())) : Ev X (.Tuple es n pos) σ s (⟨x, y, z⟩ : T3 α β γ) := fun s1 k Q q =>
  we_of (pe_tup pa_wa) (h s1 k _ fun vs s2 k2 r2 => by
    obtain ⟨v1, _, rfl, r1, v2, _, rfl, r2, v3, _, rfl, r3, rfl⟩ := r2
    refine ⟨show _ ≤ 2 ^ 24 by simp, fun p hp => q _ (s2.newF p _ hp) (k2.trans (Ex.newF hp)) ⟨p, v1, v2, v3, rfl, tup_new hp, Enc.mono (Ex.newF hp).f r1, Enc.mono (Ex.newF hp).f r2, Enc.mono (Ex.newF hp).f r3⟩⟩)
theorem ev_t4 {x : α} {y : β} {z : γ} {u : δ} {n} (h : EvA X es σ s (x, y, z, u, ())) : Ev X (.Tuple es n pos) σ s (⟨x, y, z, u⟩ : T4 α β γ δ) := fun s1 k Q q =>
  we_of (pe_tup pa_wa) (h s1 k _ fun vs s2 k2 r2 => by
    obtain ⟨v1, _, rfl, r1, v2, _, rfl, r2, v3, _, rfl, r3, v4, _, rfl, r4, rfl⟩ := r2
    refine ⟨show _ ≤ 2 ^ 24 by simp, fun p hp => q _ (s2.newF p _ hp) (k2.trans (Ex.newF hp)) ⟨p, v1, v2, v3, v4, rfl, tup_new hp, Enc.mono (Ex.newF hp).f r1, Enc.mono (Ex.newF hp).f r2, Enc.mono (Ex.newF hp).f r3, Enc.mono (Ex.newF hp).f r4⟩⟩)
theorem ev_t5 {x : α} {y : β} {z : γ} {u : δ} {w : ζ} {n} (h : EvA X es σ s (x, y, z, u, w, ())) : Ev X (.Tuple es n pos) σ s (⟨x, y, z, u, w⟩ : T5 α β γ δ ζ) := fun s1 k Q q =>
  we_of (pe_tup pa_wa) (h s1 k _ fun vs s2 k2 r2 => by
    obtain ⟨v1, _, rfl, r1, v2, _, rfl, r2, v3, _, rfl, r3, v4, _, rfl, r4, v5, _, rfl, r5, rfl⟩ := r2
    refine ⟨show _ ≤ 2 ^ 24 by simp, fun p hp => q _ (s2.newF p _ hp) (k2.trans (Ex.newF hp)) ⟨p, v1, v2, v3, v4, v5, rfl, tup_new hp, Enc.mono (Ex.newF hp).f r1, Enc.mono (Ex.newF hp).f r2, Enc.mono (Ex.newF hp).f r3, Enc.mono (Ex.newF hp).f r4, Enc.mono (Ex.newF hp).f r5⟩⟩)

theorem en_T1 {n : Str} {T : String} {r : List V → Hp → VK → Prop} {xs : List β} {ys : List α} (hc : CallR X (.type T) r) (hg : Gl X n) (hm : X.mg n = none) (hv : bootBuiltins n = some (.type T)) (ha : EvR X e σ s xs)
    (hr : ∀ (v : V) (s2 : S), RepR X.K s2 v xs → ∀ Q : VK, (∀ p s3, Ex s2 s3 → s2.H p = none → Own X.K s3 p ys → Q (.ref p) s3.H) → r [v] s2.H Q) (hn : n ≠ "__name__" := by decide) (hdb : (n == ("__debug__" : Str)) = false := by decide)
    (he : starEach [e] X.env = (false, eval e X.env) :: starEach [] X.env := by rfl) (hpl : (backTo pos (starEach [] X.env)).any (·.1) = false := by rfl) : EvN X (.Call (.Name n p0) [e] [] pos) σ s ys := fun s1 k Q q =>
  we_of (pe_callTy hc hg hm hv (pa_cons pe_we pa_nil he) hn hdb he hpl) (ha s1 k _ fun v s2 k2 r2 => hr v s2 r2 Q fun w s3 k3 n3 r3 => q w s3 (k2.trans k3) (fr_back k2 n3) r3)
theorem en_copy {xs : List α} (hm : X.mg "list" = none) (ha : EvR X e σ s xs) (hg : Gl X "list" := by rfl) (he : starEach [e] X.env = (false, eval e X.env) :: starEach [] X.env := by rfl) (hpl : (backTo pos (starEach [] X.env)).any (·.1) = false := by rfl) : EvN X (.Call (.Name "list" p0) [e] [] pos) σ s xs :=
  en_T1 call_list_of hg hm (by decide +kernel) ha (fun v s2 r2 Q q => by
    obtain ⟨p, vs, rfl, h1, h2⟩ := r2
    exact ⟨p, vs, rfl, .inl h1, fun l hl => q l (s2.newO l _ hl) (Ex.newO hl) hl (own_new hl h2)⟩) (he := he) (hpl := hpl)
theorem en_copyT {xs : Tu α} (hm : X.mg "list" = none) (ha : Ev X e σ s xs) (hg : Gl X "list" := by rfl) (he : starEach [e] X.env = (false, eval e X.env) :: starEach [] X.env := by rfl) (hpl : (backTo pos (starEach [] X.env)).any (·.1) = false := by rfl) : EvN X (.Call (.Name "list" p0) [e] [] pos) σ s xs.l := fun s1 k Q q =>
  we_of (pe_callTy call_list_of hg hm (by decide +kernel) (pa_cons pe_we pa_nil he) (he := he) (hpl := hpl)) (ha s1 k _ fun v s2 k2 r2 => by
    obtain ⟨p, vs, rfl, h1, h2⟩ := r2
    exact ⟨p, vs, rfl, .inr (sqt_mono s2.sub h1), fun l hl => q l (s2.newO l _ hl) (k2.trans (Ex.newO hl)) (fr_back k2 hl) (own_new hl h2)⟩)
theorem ev_tuple {xs : List α} (hm : X.mg "tuple" = none) (ha : EvR X e σ s xs) (hg : Gl X "tuple" := by rfl) (he : starEach [e] X.env = (false, eval e X.env) :: starEach [] X.env := by rfl) (hpl : (backTo pos (starEach [] X.env)).any (·.1) = false := by rfl) : Ev X (.Call (.Name "tuple" p0) [e] [] pos) σ s (⟨xs⟩ : Tu α) := fun s1 k Q q =>
  we_of (pe_callTy call_tuple_of hg hm (by decide +kernel) (pa_cons pe_we pa_nil he) (he := he) (hpl := hpl)) (ha s1 k _ fun v s2 k2 r2 => by
    obtain ⟨p, vs, rfl, h1, h2⟩ := r2
    exact ⟨p, vs, rfl, .inl ⟨h1, fun l hl => q _ (s2.newF l _ hl) (k2.trans (Ex.newF hl)) ⟨l, vs, rfl, tup_new hl, h2.mono (Ex.newF hl).f⟩⟩⟩)
theorem ev_tupleT {xs : Tu α} (hm : X.mg "tuple" = none) (ha : Ev X e σ s xs) (hg : Gl X "tuple" := by rfl) (he : starEach [e] X.env = (false, eval e X.env) :: starEach [] X.env := by rfl) (hpl : (backTo pos (starEach [] X.env)).any (·.1) = false := by rfl) : Ev X (.Call (.Name "tuple" p0) [e] [] pos) σ s xs := fun s1 k Q q =>
  we_of (pe_callTy call_tuple_of hg hm (by decide +kernel) (pa_cons pe_we pa_nil he) (he := he) (hpl := hpl)) (ha s1 k _ fun v s2 k2 r2 => by
    obtain ⟨p, vs, rfl, h1, h2⟩ := r2
    exact ⟨p, vs, rfl, .inr ⟨sqt_mono s2.sub h1, q _ s2 k2 ⟨p, vs, rfl, h1, h2⟩⟩⟩)
def rng (a b : Int) : List Int := (List.range (b - a).toNat).map fun i : Nat => a + (i : Int)
theorem rgV_rng (a b : Int) : rgV a b = (rng a b).map V.int := by
  unfold rgV rng
  rw [List.map_map]; rfl
theorem en_listRg1 {n : Int} (hm : X.mg "list" = none) (hr : X.mg "range" = none) (ha : Ev X e σ s n) (hz : RgOk 0 n) (hc : X.calm = true := by rfl) (hg : Gl X "list" := by rfl) (hgr : Gl X "range" := by rfl)
    (he : starEach [e] X.env = (false, eval e X.env) :: starEach [] X.env := by rfl) (he2 : starEach [.Call (.Name "range" p1) [e] [] p2] X.env = (false, eval (.Call (.Name "range" p1) [e] [] p2) X.env) :: starEach [] X.env := by rfl) :
    EvN X (.Call (.Name "list" p0) [.Call (.Name "range" p1) [e] [] p2] [] pos) σ s (rng 0 n) := fun s1 k Q q =>
  we_of (pe_listRg hc hg hm (prg_1 hgr hr pe_we he) he2) (ha s1 k _ fun v s2 k2 r2 => ⟨n, r2, hz, fun l hl => q l (s2.newO l _ hl) (k2.trans (Ex.newO hl)) (fr_back k2 hl) (own_new hl (by rw [rgV_rng]; exact Reps.of_flat _))⟩)
theorem en_listRg2 {m n : Int} (hm : X.mg "list" = none) (hr : X.mg "range" = none) (ha : Ev X a σ s m) (hb : Ev X b σ s n) (hz : RgOk m n) (hc : X.calm = true := by rfl) (hg : Gl X "list" := by rfl) (hgr : Gl X "range" := by rfl)
    (he : starEach [a, b] X.env = (false, eval a X.env) :: starEach [b] X.env := by rfl) (heb : starEach [b] X.env = (false, eval b X.env) :: starEach [] X.env := by rfl) (hpl : (backTo p2 (starEach [b] X.env)).any (·.1) = false := by rfl)
    (he2 : starEach [.Call (.Name "range" p1) [a, b] [] p2] X.env = (false, eval (.Call (.Name "range" p1) [a, b] [] p2) X.env) :: starEach [] X.env := by rfl) :
    EvN X (.Call (.Name "list" p0) [.Call (.Name "range" p1) [a, b] [] p2] [] pos) σ s (rng m n) := fun s1 k Q q =>
  we_of (pe_listRg hc hg hm (prg_2 hgr hr pe_we pe_we he heb hpl) he2) (ha s1 k _ fun v s2 k2 r2 => hb s2 (k.trans k2) _ fun u s3 k3 r3 => ⟨m, n, r2, r3, hz, fun l hl => q l (s3.newO l _ hl) ((k2.trans k3).trans (Ex.newO hl)) (fr_back (k2.trans k3) hl) (own_new hl (by rw [rgV_rng]; exact Reps.of_flat _))⟩)
def cut {τ : Type} (xs : List τ) (lo hi : Option Int) : List τ := (xs.drop (HT.sIx xs.length 0 lo)).take (HT.sIx xs.length xs.length hi - HT.sIx xs.length 0 lo)
theorem Reps.cut {K : PySem.W.Frag} {F : Hp} {vs : List V} {xs : List α} (r : Reps K F vs xs) (lo hi : Option Int) : Reps K F (cutV vs lo hi) (Dy.cut xs lo hi) := by
  unfold cutV Dy.cut
  rw [r.len]
  exact (r.drop _).take _
def EvO (X : Cx) (o : Option Expr) (σ : St) (s : S) (x : Option Int) : Prop := match o, x with
  | none, none => True
  | some e, some i => Ev X e σ s i
  | _, _ => False
theorem po_evo {o : Option Expr} {x : Option Int} (h : EvO X o σ s x) : ∃ t, PO X o t ∧ ∀ s1, Ex s s1 → ∀ Q : Option Int → Hp → Prop, (∀ s2, Ex s1 s2 → Q x s2.H) → t σ s1.H Q := by
  cases o with
  | none =>
    cases x with
    | none => exact ⟨_, po_none, fun s1 k Q q => q s1 (Ex.refl _)⟩
    | some i => exact h.elim
  | some e =>
    cases x with
    | none => exact h.elim
    | some i => exact ⟨_, po_some pe_we, fun s1 k Q q => (show Ev X e σ s i from h) s1 k _ fun v s2 k2 r2 => ⟨i, r2, q s2 k2⟩⟩
theorem eo_none : EvO X none σ s none := trivial
theorem eo_some {i : Int} (h : Ev X e σ s i) : EvO X (some e) σ s (some i) := h
theorem en_slice {xs : List α} {lo hi : Option Expr} {l h : Option Int} (ha : EvR X a σ s xs) (hl : EvO X lo σ s l) (hh : EvO X hi σ s h) : EvN X (.Subscript a (.Slice lo hi none p2) pos) σ s (cut xs l h) := fun s1 k Q q => by
  obtain ⟨tl, pl, ql⟩ := po_evo hl
  obtain ⟨th, ph, qh⟩ := po_evo hh
  refine we_of (pe_slice sl_list pe_we pl ph) (ha s1 k _ fun v s2 k2 r2 => ql s2 (k.trans k2) _ fun s3 k3 => qh s3 ((k.trans k2).trans k3) _ fun s4 k4 => ?_)
  obtain ⟨p, vs, rfl, h1, h2⟩ := (r2.ex k3).ex k4
  exact ⟨p, vs, rfl, h1, fun l hl => q l (s4.newO l _ hl) (((k2.trans k3).trans k4).trans (Ex.newO hl)) (fr_back ((k2.trans k3).trans k4) hl) (own_new hl (h2.cut _ _))⟩
theorem ev_sliceS {x : Str} {lo hi : Option Expr} {l h : Option Int} (hz : x.length ≤ sizeLine) (ha : Ev X a σ s x) (hl : EvO X lo σ s l) (hh : EvO X hi σ s h) : Ev X (.Subscript a (.Slice lo hi none p2) pos) σ s (cutS x l h) := fun s1 k Q q => by
  obtain ⟨tl, pl, ql⟩ := po_evo hl
  obtain ⟨th, ph, qh⟩ := po_evo hh
  exact we_of (pe_slice sl_str pe_we pl ph) (ha s1 k _ fun v s2 k2 r2 => ql s2 (k.trans k2) _ fun s3 k3 => qh s3 ((k.trans k2).trans k3) _ fun s4 k4 => ⟨x, r2, hz, q _ s4 ((k2.trans k3).trans k4) rfl⟩)
theorem op_catS : OpR X (binaryOp .Add) (fun x y H Q => ∃ l b xs zs, x = .ref l ∧ y = .ref b ∧ SqL X.K H l xs ∧ SqL X.K H b zs ∧ xs.length + zs.length ≤ sizeLine ∧ ∀ p, H p = none → Q (.ref p) (upd H p (.lst (xs ++ zs)))) := by
  intro pins s σ H x y v u Q I rx ry h
  obtain ⟨l, b, xs, zs, rfl, rfl, hH, hB, hz, q⟩ := h
  cases rx
  cases ry
  obtain ⟨its, r, ⟨⟨cls, dd, data, sl⟩, n, ho, hc, hd0, hd⟩, z1⟩ := I.list hH
  obtain ⟨its2, r2, ⟨⟨cls2, dd2, data2, sl2⟩, n2, ho2, hc2, hd02, hd2⟩, z2⟩ := I.list hB
  simp only at hc hd hc2 hd2 hd0 hd02
  subst hc hd hc2 hd2 hd0 hd02
  have e : its.toArray ++ its2.toArray = (its ++ its2).toArray := by simp
  have h1 := r.length
  have h2 := r2.length
  refine concat_meets ⟨_, ho, rfl⟩ ⟨_, ho2, rfl⟩ noFill_list_add seq_list_add PySem.F.slot_list_add PySem.F.entry_list_add (PySem.F.args_list_add_2 _ _) (list_addW l b its.toArray its2.toArray n n2 none none sl sl2 (by rw [List.size_toArray, List.size_toArray]; omega)) ⟨ho, ho2, ?_⟩
  rw [e]
  exact ⟨.ref _, _, I.lnew (t' := s.toks) (r.append r2) (by rw [List.length_append]; omega), rfl, q _ I.fresh⟩
theorem en_cat {xs ys : List α} (ha : EvR X a σ s xs) (hb : EvR X b σ s ys) (hz : xs.length + ys.length ≤ sizeLine) : EvN X (.BinOp a .Add b pos) σ s (xs ++ ys) := fun s1 k Q q =>
  we_of (pe_op op_catS pe_we pe_we) (ha s1 k _ fun v s2 k2 r2 => hb s2 (k.trans k2) _ fun u s3 k3 r3 => by
    obtain ⟨p, vs, rfl, h1, h2⟩ := r2.ex k3
    obtain ⟨p', ws, rfl, h3, h4⟩ := r3
    exact ⟨p, p', vs, ws, rfl, rfl, h1, h3, by rw [h2.len, h4.len]; exact hz, fun l hl => q l (s3.newO l _ hl) ((k2.trans k3).trans (Ex.newO hl)) (fr_back (k2.trans k3) hl) (own_new hl (h2.app h4))⟩)
def repl {τ : Type} (n : Int) (xs : List τ) : List τ := (List.replicate n.toNat xs).flatten
theorem Reps.repF {K : PySem.W.Frag} {F : Hp} {vs : List V} {xs : List α} (r : Reps K F vs xs) (n : Nat) : Reps K F (List.replicate n vs).flatten (List.replicate n xs).flatten := by
  induction n with
  | zero => exact trivial
  | succ n ih => rw [List.replicate_succ, List.replicate_succ, List.flatten_cons, List.flatten_cons]; exact r.app ih
def RepOk (n : Int) (l : Nat) : Prop := -(2 ^ 63) ≤ n ∧ n < 2 ^ 63 ∧ l * n.toNat ≤ sizeLine
theorem en_rep {xs : List α} {n : Int} (ha : EvN X a σ s xs) (hb : ∀ t, Ex s t → Ev X b σ t n) (hz : RepOk n xs.length) : EvN X (.BinOp a .Mult b pos) σ s (repl n xs) := fun s1 k Q q =>
  we_of (pe_op op_rep pe_we pe_we) (ha s1 k _ fun p s2 k2 n2 o2 => hb s2 (k.trans k2) s2 (Ex.refl _) _ fun u s3 k3 r3 => by
    obtain ⟨_, vs, h1, h2⟩ := o2.ex k3
    exact ⟨p, n, vs, rfl, r3, h1, hz.1, hz.2.1, by rw [h2.len]; exact hz.2.2, fun l hl => q l (s3.newO l _ hl) ((k2.trans k3).trans (Ex.newO hl)) (fr_back (k2.trans k3) hl) (own_new hl (h2.repF _))⟩)
theorem en_sorted {xs : List Int} (hm : X.mg "sorted" = none) (ha : EvR X e σ s xs) (hg : Gl X "sorted" := by rfl) (he : starEach [e] X.env = (false, eval e X.env) :: starEach [] X.env := by rfl) (hpl : (backTo pos (starEach [] X.env)).any (·.1) = false := by rfl) :
    EvN X (.Call (.Name "sorted" p0) [e] [] pos) σ s (xs.mergeSort (fun x y => decide (x ≤ y))) := fun s1 k Q q =>
  we_of (pe_callB cr_sortedI hg hm (by decide +kernel) (pa_cons pe_we pa_nil he) (he := he) (hpl := hpl)) (ha s1 k _ fun v s2 k2 r2 => by
    obtain ⟨p, vs, rfl, h1, h2⟩ := r2
    rw [h2.flat] at h1
    refine ⟨p, xs, rfl, h1, fun ys l hp hs hl => ?_⟩
    have e1 : ys = xs.mergeSort (fun x y => decide (x ≤ y)) := by
      refine List.Perm.eq_of_pairwise (le := fun x y : Int => x ≤ y) (fun a b _ _ h h' => Int.le_antisymm h h') hs ?_ (hp.trans (List.mergeSort_perm _ _).symm)
      have := List.pairwise_mergeSort (le := fun x y : Int => decide (x ≤ y)) (fun a b c h1 h2 => by simp at *; omega) (fun a b => by simp; omega) xs
      exact this.imp (by simp)
    subst e1
    exact q l (s2.newO l _ hl) (k2.trans (Ex.newO hl)) (fr_back k2 hl) (own_new hl (Reps.of_flat _)))
theorem en_split {x y : Str} (ha : Ev X a σ s x) (hb : Ev X b σ s y) (h1 : (y.length == 0) = false) (h2 : x.length + 2 ≤ sizeLine) (hs : starEach [b] X.env = [(false, eval b X.env)] := by rfl) (hbase : attributeBase a "split" X.env (eval a X.env) = eval a X.env := by rfl) (hline : (p1.endLine == pos.line) = true := by rfl) :
    EvN X (.Call (.Attribute a "split" p1) [b] [] pos) σ s (Txt.split x y) := fun s1 k Q q =>
  we_of (pe_split pe_we pe_we hs hbase hline) (ha s1 k _ fun v s2 k2 r2 => ⟨⟨x, r2⟩, hb s2 (k.trans k2) _ fun u s3 k3 r3 => ⟨x, y, r2, by rw [show u = V.str y from r3], h1, h2, fun l hl =>
    q l (s3.newO l _ hl) ((k2.trans k3).trans (Ex.newO hl)) (fr_back (k2.trans k3) hl) (own_new hl (Reps.of_flat _))⟩⟩)
def JnOk (x : Str) (ys : List Str) : Prop := (ys.map (·.length)).sum + ys.length * x.length ≤ 16777216
theorem ev_join {x : Str} {ys : List Str} (ha : Ev X a σ s x) (hb : EvR X b σ s ys) (h : JnOk x ys) (hs : starEach [b] X.env = [(false, eval b X.env)] := by rfl) (hbase : attributeBase a "join" X.env (eval a X.env) = eval a X.env := by rfl) (hline : (p1.endLine == pos.line) = true := by rfl) :
    Ev X (.Call (.Attribute a "join" p1) [b] [] pos) σ s (Txt.join x ys) := fun s1 k Q q =>
  we_of (pe_join pe_we pe_we hs hbase hline) (ha s1 k _ fun v s2 k2 r2 => ⟨⟨x, r2⟩, hb s2 (k.trans k2) _ fun u s3 k3 r3 => by
    obtain ⟨p, vs, rfl, h1, h2⟩ := r3
    obtain rfl := h2.flat
    exact ⟨x, p, ys, r2, rfl, .inl h1, h, q _ s3 (k2.trans k3) rfl⟩⟩)
def ixOf {τ : Type} [DecidableEq τ] (x : τ) : List τ → Option Nat
  | [] => none
  | y :: ys => if y = x then some 0 else (ixOf x ys).map (· + 1)
theorem ixOf_some {τ : Type} [DecidableEq τ] {x : τ} : ∀ {ys : List τ} {j : Nat}, ixOf x ys = some j → ys[j]? = some x ∧ ∀ m z, m < j → ys[m]? = some z → z ≠ x
  | [], _, h => by cases h
  | y :: ys, j, h => by
    unfold ixOf at h
    split at h
    · rename_i e; cases h; exact ⟨by simp [e], fun m z hm => absurd hm (Nat.not_lt_zero _)⟩
    · rename_i e
      obtain ⟨i, h1, rfl⟩ := Option.map_eq_some_iff.mp h
      obtain ⟨h2, h3⟩ := ixOf_some h1
      refine ⟨by simpa using h2, fun m z hm hz => ?_⟩
      cases m with
      | zero => simp at hz; subst hz; exact e
      | succ m => exact h3 m z (by omega) (by simpa using hz)
theorem ev_index {ε : Type} [Eqs ε] [DecidableEq ε] {x : ε} {xs : List ε} {j : Nat} (ha : EvR X a σ s xs) (hb : Ev X b σ s x) (h : ixOf x xs = some j)
    (hbase : attributeBase a "index" X.env (eval a X.env) = eval a X.env := by rfl)
    (hfew : ((backTo pos (starEach [b] X.env)).all (fun x => !x.1) && (backToKw pos (keywordEach [] X.env)).all (fun x => x.1.isSome) && decide (([b] : List Expr).length + ([] : List Keyword).length + (if ([] : List Keyword).isEmpty then 0 else 1) < 30)) = true := by rfl)
    (hline : (p1.endLine == pos.line) = true := by rfl) (hs : starEach [b] X.env = (false, eval b X.env) :: starEach [] X.env := by rfl) (hplain : (backTo pos (starEach [] X.env)).any (·.1) = false := by rfl) :
    Ev X (.Call (.Attribute a "index" p1) [b] [] pos) σ s (j : Int) := fun s1 k Q q =>
  we_of (pe_bm PySem.F.plainAttrs_list PySem.F.slot_list_index PySem.F.type_list_index mt_index pe_we (pa_cons pe_we pa_nil hs) hbase hfew hline hs hplain) (ha s1 k _ fun v s2 k2 r2 => by
    obtain ⟨p, vs, rfl, h1, h2⟩ := r2
    obtain rfl := h2.flat
    refine ⟨.inl ⟨rfl, _, h1⟩, hb s2 (k.trans k2) _ fun u s3 k3 r3 => ?_⟩
    rw [Flat.iff.mp r3]
    obtain ⟨h3, h4⟩ := ixOf_some h
    refine ⟨p, _, toV x, j, toV x, rfl, rfl, sql_mono k3.h h1, Flat.flat x, flat_all xs, by rw [List.getElem?_map, h3]; rfl, (Flat.inj x x).mpr rfl, fun m z hm hz => ?_, q _ s3 (k2.trans k3) rfl⟩
    rw [List.getElem?_map] at hz
    obtain ⟨y, h5, rfl⟩ := Option.map_eq_some_iff.mp hz
    exact Bool.eq_false_iff.mpr fun z => h4 m y hm h5 ((Flat.inj y x).mp z))

structure Cal (P : Program) (w : World) (K : PySem.W.Frag) (mg : Str → Option Value) (base : Heap) (CX : CXT) (k : Nat) (x : Str) (q : Sp) : Prop where
  ex : ∃ (f : Addr) (fd : FuncData) (ps : List Str), FnOk P w K mg base CX k f fd ps q ∧ mg x = some (.ref f) ∧ PySem.W.keepIn K (.ref f) = true ∧ Binds K fd ps []
theorem pe_c0 {n : Str} {k j : Nat} {q : Sp} {ta : TA} (C : Cal X.prog X.w X.K X.mg X.base CX0 k n q) (hr : Room j X.A) (hk : k ≤ j) (hg : Gl X n) (ha : PA X (e :: es) ta) (hdb : (n == ("__debug__" : Str)) = false := by decide)
    (he : starEach (e :: es) X.env = (false, eval e X.env) :: starEach es X.env := by rfl) (hpl : (backTo pos (starEach es X.env)).any (·.1) = false := by rfl) : PE X (.Call (.Name n p0) (e :: es) [] pos) (tCall q [] E0 ta) := by
  obtain ⟨f, fd, ps, F, hm, kp, b⟩ := C.ex
  exact pe_call F (hr.mono hk) hg hm kp b .nil pass0 ha hdb he hpl
def sp {A : Type} [EncA A] {ρ : Type} [Enc ρ] (K : PySem.W.Frag) (m : A → Option ρ) : Sp := fun vs H Q _ => ∃ (s : S) (x : A) (r : ρ), s.H = H ∧ repA K s.F vs x ∧ m x = some r ∧ ∀ v s', Ex s s' → rep K s'.F v r → Q v s'.H
def spN {A : Type} [EncA A] {ρ : Type} [Enc ρ] (K : PySem.W.Frag) (m : A → Option (List ρ)) : Sp := fun vs H Q _ => ∃ (s : S) (x : A) (r : List ρ), s.H = H ∧ repA K s.F vs x ∧ m x = some r ∧ ∀ p s', Ex s s' → s.H p = none → Own K s' p r → Q (.ref p) s'.H
theorem ev_call {A : Type} [EncA A] {m : A → Option α} {n : Str} {k j : Nat} {x : A} {r : α} (C : Cal X.prog X.w X.K X.mg X.base CX0 k n (sp X.K m)) (hr : Room j X.A) (hk : k ≤ j) (ha : EvA X (e :: es) σ s x) (h : m x = some r) (hg : Gl X n := by rfl)
    (hdb : (n == ("__debug__" : Str)) = false := by decide) (he : starEach (e :: es) X.env = (false, eval e X.env) :: starEach es X.env := by rfl) (hpl : (backTo pos (starEach es X.env)).any (·.1) = false := by rfl) : Ev X (.Call (.Name n p0) (e :: es) [] pos) σ s r := fun s1 k1 Q q =>
  we_of (pe_c0 C hr hk hg pa_wa hdb he hpl) (ha s1 k1 _ fun vs s2 k2 r2 => ⟨s2, x, r, rfl, by rw [List.append_nil]; exact r2, h, fun v s3 k3 r3 => q v s3 (k2.trans k3) r3⟩)
theorem en_call {A : Type} [EncA A] {m : A → Option (List α)} {n : Str} {k j : Nat} {x : A} {r : List α} (C : Cal X.prog X.w X.K X.mg X.base CX0 k n (spN X.K m)) (hr : Room j X.A) (hk : k ≤ j) (ha : EvA X (e :: es) σ s x) (h : m x = some r) (hg : Gl X n := by rfl)
    (hdb : (n == ("__debug__" : Str)) = false := by decide) (he : starEach (e :: es) X.env = (false, eval e X.env) :: starEach es X.env := by rfl) (hpl : (backTo pos (starEach es X.env)).any (·.1) = false := by rfl) : EvN X (.Call (.Name n p0) (e :: es) [] pos) σ s r := fun s1 k1 Q q =>
  we_of (pe_c0 C hr hk hg pa_wa hdb he hpl) (ha s1 k1 _ fun vs s2 k2 r2 => ⟨s2, x, r, rfl, by rw [List.append_nil]; exact r2, h, fun v s3 k3 n3 r3 => q v s3 (k2.trans k3) (fr_back k2 n3) r3⟩)
end
end Dy

namespace Dy
open PySem PySem.Spec L2
open PyProof.Rows hiding St
open Enc (rep)
open Flat (toV)
open EncA (repA)

noncomputable def chk {α : Type} (c : Prop) (m : Option α) : Option α := open Classical in if c then m else none
theorem chk_pos {α : Type} {c : Prop} {m : Option α} (h : c) : chk c m = m := by unfold chk; exact if_pos h
theorem chkE {α : Type} {c : Prop} {m : Option α} {r : α} (h : chk c m = some r) : c ∧ m = some r := by
  unfold chk at h
  split at h
  · rename_i hc; exact ⟨hc, h⟩
  · cases h
def lt {α β : Type} (x : α) (f : α → Option β) : Option β := f x
theorem ltE {α β : Type} {x : α} {f : α → Option β} {r : β} (h : lt x f = some r) : ∃ y, y = x ∧ f y = some r := ⟨x, rfl, h⟩
abbrev bnd {α β : Type} (m : Option α) (f : α → Option β) : Option β := m.bind f
theorem bndE {α β : Type} {m : Option α} {f : α → Option β} {r : β} (h : bnd m f = some r) : ∃ y, m = some y ∧ f y = some r := by
  cases m with
  | none => cases h
  | some y => exact ⟨y, rfl, h⟩
theorem iteE1 {α : Type} {b : Bool} {m k : Option α} {r : α} (h : (if b = true then m else k) = some r) (e : b = true) : m = some r := by rw [if_pos e] at h; exact h
theorem iteE2 {α : Type} {b : Bool} {m k : Option α} {r : α} (h : (if b = true then m else k) = some r) (e : b = false) : k = some r := by rw [if_neg (by rw [e]; exact Bool.false_ne_true)] at h; exact h
def andO (a : Bool) (m : Option Bool) : Option Bool := if a = true then m else some false
def orO (a : Bool) (m : Option Bool) : Option Bool := if a = true then some true else m
theorem andE {a r : Bool} {m : Option Bool} (h : andO a m = some r) : (a = true → m = some r) ∧ (a = false → r = false) := by
  unfold andO at h
  cases a with
  | true => exact ⟨fun _ => h, fun z => Bool.noConfusion z⟩
  | false => exact ⟨fun z => Bool.noConfusion z, fun _ => (Option.some.inj h).symm⟩
theorem orE {a r : Bool} {m : Option Bool} (h : orO a m = some r) : (a = false → m = some r) ∧ (a = true → r = true) := by
  unfold orO at h
  cases a with
  | false => exact ⟨fun _ => h, fun z => Bool.noConfusion z⟩
  | true => exact ⟨fun z => Bool.noConfusion z, fun _ => (Option.some.inj h).symm⟩
inductive Fl (β ρ : Type) where
  | nx (b : β)
  | rt (r : ρ)
def foldO {α β : Type} (f : β → α → Option β) : β → List α → Option β
  | b, [] => some b
  | b, x :: r => (f b x).bind fun b' => foldO f b' r
def foldF {α β ρ : Type} (f : β → α → Option (Fl β ρ)) : β → List α → Option (Fl β ρ)
  | b, [] => some (.nx b)
  | b, x :: r => (f b x).bind fun o => match o with
    | .nx b' => foldF f b' r
    | .rt v => some (.rt v)
def whileO {β : Type} (c : β → Option Bool) (f : β → Option β) : Nat → β → Option β
  | 0, _ => none
  | n + 1, b => (c b).bind fun t => if t = true then (f b).bind fun b' => whileO c f n b' else some b
def whileF {β ρ : Type} (c : β → Option Bool) (f : β → Option (Fl β ρ)) : Nat → β → Option (Fl β ρ)
  | 0, _ => none
  | n + 1, b => (c b).bind fun t => if t = true then (f b).bind fun o => (match o with
    | .nx b' => whileF c f n b'
    | .rt v => some (.rt v)) else some (.nx b)
def compO {α β : Type} (t : α → Option Bool) (f : α → Option β) : List α → Option (List β)
  | [] => some []
  | x :: r => (t x).bind fun b => if b = true then (f x).bind fun y => (compO t f r).bind fun ys => some (y :: ys) else compO t f r
theorem compO_pure {α β : Type} (t : α → Bool) (f : α → β) : ∀ xs : List α, compO (fun x => some (t x)) (fun x => some (f x)) xs = some ((xs.filter t).map f)
  | [] => rfl
  | x :: r => by
    unfold compO
    rw [Option.bind_some, compO_pure t f r, List.filter_cons]
    split
    · rfl
    · rfl
theorem compO_map {α β : Type} (f : α → β) : ∀ xs : List α, compO (fun _ => some true) (fun x => some (f x)) xs = some (xs.map f)
  | [] => rfl
  | x :: r => by
    unfold compO
    rw [Option.bind_some, compO_map f r]
    rfl
def mapO {α β : Type} (f : α → Option β) (xs : List α) : Option (List β) := compO (fun _ => some true) f xs

def WI (X : Cx) (tg iter : Expr) : TI := fun σ H R => ∀ (pins : List (Addr × Obj)) (s : Shared), Inv X pins σ H s →
  wpAny (model X.prog X.w) X.A (eval iter X.env) (fun v s1 => wpAny (model X.prog X.w) X.A (pyIter v) (PIE X pins σ tg R) X.xe s1) X.xe s
theorem pi_wi {X : Cx} {tg iter : Expr} : PI X tg iter (WI X tg iter) := ⟨fun pins s _ _ _ I h => h pins s I⟩
theorem wi_of {X : Cx} {tg iter : Expr} {t : TI} {σ : St} {H : Hp} {R : It → Hp → Prop} (h : PI X tg iter t) (q : t σ H R) : WI X tg iter σ H R := fun pins s I => h.run pins s σ H R I q
section
variable {α β γ δ : Type} [Enc α] [Enc β] [Enc γ] [Enc δ] {X : Cx} {σ : St} {s t : S} {e a b c tg : Expr} {es : List Expr} {pos p0 p1 p2 p3 : Pos}
structure Walk (K : PySem.W.Frag) (F : Hp) (J : It) (xs : List α) : Prop where
  go : ∀ (i : Nat) (t : S) (x : α), Fle F t.F → xs[i]? = some x → J.go i t.H ∧ ∀ v H', J.yld i t.H v H' → ∃ t' : S, t'.H = H' ∧ Ex t t' ∧ rep K t'.F v x
  stop : ∀ (i : Nat) (t : S), Fle F t.F → xs.length ≤ i → J.stop i t.H
def EvI (X : Cx) (tg e : Expr) (σ : St) (s : S) (xs : List α) : Prop := ∀ s1, Ex s s1 → ∀ R : It → Hp → Prop, (∀ J s2, Ex s1 s2 → Walk X.K s2.F J xs → R J s2.H) → WI X tg e σ s1.H R
theorem ei_list {xs : List α} (h : Ev X e σ s xs) : EvI X tg e σ s xs := fun s1 k R q =>
  wi_of (pi_list pe_we) (h s1 k _ fun v s2 k2 r2 => by
    obtain ⟨p, vs, rfl, h1, h2⟩ := r2
    refine ⟨p, rfl, ⟨vs, sql_mono s2.sub h1⟩, q _ s2 k2 ⟨fun i t x f hx => ?_, fun i t f hi => ⟨vs, sql_mono t.sub (sql_mono f h1), by rw [h2.len]; exact hi⟩⟩⟩
    obtain ⟨v, h3, h4⟩ := h2.get hx
    refine ⟨⟨vs, v, sql_mono t.sub (sql_mono f h1), h3⟩, fun w H' ⟨e1, hy⟩ => ⟨t, e1.symm, Ex.refl _, ?_⟩⟩
    have := hy vs (sql_mono t.sub (sql_mono f h1))
    rw [h3] at this
    cases this
    exact Enc.mono f h4)
theorem ei_tup {xs : Tu α} (h : Ev X e σ s xs) : EvI X tg e σ s xs.l := fun s1 k R q =>
  wi_of (pi_tup pe_we) (h s1 k _ fun v s2 k2 r2 => by
    obtain ⟨p, vs, rfl, h1, h2⟩ := r2
    refine ⟨p, rfl, ⟨vs, sqt_mono s2.sub h1⟩, q _ s2 k2 ⟨fun i t x f hx => ?_, fun i t f hi => ⟨vs, sqt_mono t.sub (sqt_mono f h1), by rw [h2.len]; exact hi⟩⟩⟩
    obtain ⟨v, h3, h4⟩ := h2.get hx
    refine ⟨⟨vs, v, sqt_mono t.sub (sqt_mono f h1), h3⟩, fun w H' ⟨e1, hy⟩ => ⟨t, e1.symm, Ex.refl _, ?_⟩⟩
    have := hy vs (sqt_mono t.sub (sqt_mono f h1))
    rw [h3] at this
    cases this
    exact Enc.mono f h4)
theorem rng_get {a b : Int} {i : Nat} {x : Int} (h : (rng a b)[i]? = some x) : i < (b - a).toNat ∧ x = a + (i : Int) := by
  unfold rng at h
  rw [List.getElem?_map] at h
  obtain ⟨j, h1, rfl⟩ := Option.map_eq_some_iff.mp h
  obtain ⟨h2, h3⟩ := List.getElem?_eq_some_iff.mp h1
  rw [List.length_range] at h2
  rw [List.getElem_range] at h3
  subst h3
  exact ⟨h2, rfl⟩
theorem rng_len (a b : Int) : (rng a b).length = (b - a).toNat := by unfold rng; rw [List.length_map, List.length_range]
theorem walk_rng {K : PySem.W.Frag} {F : Hp} {a b : Int} : Walk K F (Itr a (b - a).toNat) (rng a b) :=
  ⟨fun i t x f hx => ⟨(rng_get hx).1, fun v H' ⟨e1, e2⟩ => ⟨t, e1.symm, Ex.refl _, by rw [e2, (rng_get hx).2]; rfl⟩⟩, fun i t f hi => by rw [rng_len] at hi; exact hi⟩
def RgB (x : Int) : Prop := -(2 ^ 62) ≤ x ∧ x < 2 ^ 62
theorem ei_range1 {n : Int} (hm : X.mg "range" = none) (h : Ev X e σ s n) (hb : RgB n) (hg : Gl X "range" := by rfl) (hs : starEach [e] X.env = [(false, eval e X.env)] := by rfl) (hs2 : starEach [e] X.env = (false, eval e X.env) :: starEach [] X.env := by rfl) :
    EvI X tg (.Call (.Name "range" p0) [e] [] pos) σ s (rng 0 n) := fun s1 k R q =>
  wi_of (pi_range1 hg hm (pa_cons pe_we pa_nil hs2) hs) (h s1 k _ fun v s2 k2 r2 => ⟨n, by rw [show v = V.int n from r2], hb.1, hb.2, q _ s2 k2 (by
    have := walk_rng (K := X.K) (F := s2.F) (a := 0) (b := n)
    rw [Int.sub_zero] at this
    exact this)⟩)
theorem ei_range2 {m n : Int} (hm : X.mg "range" = none) (ha : Ev X a σ s m) (hb : Ev X b σ s n) (h1 : RgB m) (h2 : RgB n) (hg : Gl X "range" := by rfl) (hs : starEach [a, b] X.env = [(false, eval a X.env), (false, eval b X.env)] := by rfl) (hs2 : starEach [b] X.env = [(false, eval b X.env)] := by rfl)
    (hs3 : starEach [a, b] X.env = (false, eval a X.env) :: starEach [b] X.env := by rfl) (hs4 : starEach [b] X.env = (false, eval b X.env) :: starEach [] X.env := by rfl) :
    EvI X tg (.Call (.Name "range" p0) [a, b] [] pos) σ s (rng m n) := fun s1 k R q =>
  wi_of (pi_range2 hg hm (pa_cons pe_we (pa_cons pe_we pa_nil hs4) hs3) hs hs2) (ha s1 k _ fun v s2 k2 r2 => hb s2 (k.trans k2) _ fun u s3 k3 r3 => ⟨m, n, by rw [show v = V.int m from r2, show u = V.int n from r3], ⟨h1.1, h1.2, h2.1, h2.2⟩, q _ s3 (k2.trans k3) walk_rng⟩)
def chars (x : Str) : List Str := x.cps.toList.map fun c => ⟨#[c]⟩
theorem ei_str {x : Str} (h : Ev X e σ s x) : EvI X tg e σ s (chars x) := fun s1 k R q =>
  wi_of (pi_str pe_we) (h s1 k _ fun v s2 k2 r2 => ⟨x, r2, q _ s2 k2 ⟨fun i t y f hy => by
    unfold chars at hy
    rw [List.getElem?_map] at hy
    obtain ⟨c, h1, rfl⟩ := Option.map_eq_some_iff.mp hy
    have h1' : x.cps[i]? = some c := by simpa using h1
    refine ⟨?_, fun v H' ⟨e1, d, h2, h3⟩ => ⟨t, e1.symm, Ex.refl _, ?_⟩⟩
    · obtain ⟨z, _⟩ := Array.getElem?_eq_some_iff.mp h1'
      exact z
    · rw [h1'] at h2
      cases h2
      exact h3, fun i t f hi => by
    unfold chars at hi
    rw [List.length_map, Array.length_toList] at hi
    exact hi⟩⟩)
end

structure Tgt {α : Type} [Enc α] (K : PySem.W.Frag) (g : TG) (B : Hp → α → St → St → Prop) : Prop where
  run : ∀ (t : S) (v : V) (x : α) (σ : St) (Q : St → Hp → Prop), rep K t.F v x → (∀ σ2, B t.F x σ σ2 → Q σ2 t.H) → g v σ t.H Q
def BN {α : Type} [Enc α] (K : PySem.W.Frag) (j : Nat) : Hp → α → St → St → Prop := fun F x σ σ2 => ∃ v, rep K F v x ∧ σ2 = σ.set j (some v)
def B2 {α β : Type} [Enc α] [Enc β] (K : PySem.W.Frag) (i j : Nat) : Hp → α × β → St → St → Prop := fun F x σ σ2 => ∃ v w, rep K F v x.1 ∧ rep K F w x.2 ∧ σ2 = (σ.set i (some v)).set j (some w)
def B3 {α β γ : Type} [Enc α] [Enc β] [Enc γ] (K : PySem.W.Frag) (i j k : Nat) : Hp → T3 α β γ → St → St → Prop := fun F x σ σ2 => ∃ v w u, rep K F v x.a ∧ rep K F w x.b ∧ rep K F u x.c ∧ σ2 = ((σ.set i (some v)).set j (some w)).set k (some u)
theorem tg_n {α : Type} [Enc α] {K : PySem.W.Frag} {j : Nat} : Tgt (α := α) K (gName j) (BN K j) := ⟨fun t v x σ Q r h => h _ ⟨v, r, rfl⟩⟩
theorem tg_2 {α β : Type} [Enc α] [Enc β] {K : PySem.W.Frag} {i j : Nat} : Tgt (α := α × β) K (gTup K 2 (gCons (gName i) (gCons (gName j) gNil))) (B2 K i j) := ⟨fun t v x σ Q r h => by
  obtain ⟨p, v1, v2, rfl, h0, h1, h2⟩ := r
  exact ⟨p, _, rfl, sqt_mono t.sub h0, rfl, v1, _, rfl, v2, _, rfl, rfl, h _ ⟨v1, v2, h1, h2, rfl⟩⟩⟩
theorem tg_3 {α β γ : Type} [Enc α] [Enc β] [Enc γ] {K : PySem.W.Frag} {i j k : Nat} : Tgt (α := T3 α β γ) K (gTup K 3 (gCons (gName i) (gCons (gName j) (gCons (gName k) gNil)))) (B3 K i j k) := ⟨fun t v x σ Q r h => by
  obtain ⟨p, v1, v2, v3, rfl, h0, h1, h2, h3⟩ := r
  exact ⟨p, _, rfl, sqt_mono t.sub h0, rfl, v1, _, rfl, v2, _, rfl, v3, _, rfl, rfl, h _ ⟨v1, v2, v3, h1, h2, h3, rfl⟩⟩⟩

section
variable {α β : Type} [Enc α] [Enc β] {X : Cx} {σ : St} {s : S} {elt tg iter c : Expr} {ifs : List Expr} {scope : Scope} {own : List (Str × Nat)} {pos : Pos}
abbrev Blk (X : Cx) (scope : Scope) (s0 : Shared) (H0 : Hp) (C : Addr) (cl : List (Str × Addr)) (fp : List Addr) : Cx := X.blk s0 H0 scope (compEnvC scope cl C X.env) fp
theorem comp_read {xs : List α} {ys : List β} {t : α → Option Bool} {f : α → Option β} {g : TG} {B : Hp → α → St → St → Prop} {tt : TT} (hc : X.calm = true) (hN : X.N.Nodup) (hi : EvI X tg iter σ s xs) (ok : BlkOk X.N X.env.scope scope own)
    (hg : ∀ s0 H0 C cl fp, PG (Blk X scope s0 H0 C cl fp) tg g) (T : Tgt (α := α) X.K g B) (htt : ∀ s0 H0 C cl fp, PTs (Blk X scope s0 H0 C cl fp) ifs tt) (hf : compO t f xs = some ys) (hz : ys.length ≤ sizeLine)
    (hw : ∀ (F : Hp) (x : α) σ2, B F x (wipe σ (own.map (·.2))) σ2 → wipe σ2 (own.map (·.2)) = wipe σ (own.map (·.2)))
    (ht : ∀ (x : α) (b : Bool) (s1 : S) (σ2 : St) (Q : Bool → Hp → Prop), x ∈ xs → Ex s s1 → B s1.F x (wipe σ (own.map (·.2))) σ2 → t x = some b → (∀ s2, Ex s1 s2 → Q b s2.H) → tt σ2 s1.H Q)
    (he : ∀ (x : α) (y : β) (s1 : S) (σ2 : St), x ∈ xs → Ex s s1 → B s1.F x (wipe σ (own.map (·.2))) σ2 → t x = some true → f x = some y → ∀ s0 H0 C cl fp, Ev (Blk X scope s0 H0 C cl fp) elt σ2 s1 y)
    (s1 : S) (k : Ex s s1) (Q : VK) (q : ∀ p s2, Ex s1 s2 → s1.H p = none → Own X.K s2 p ys → Q (.ref p) s2.H) : tLc (WI X tg iter) g tt (fun σ H Q => ∀ s0 H0 C cl fp, WE (Blk X scope s0 H0 C cl fp) elt σ H Q) (own.map (·.2)) σ s1.H Q := by
  refine hi s1 k _ fun J s2 k2 W => ?_
  intro D hD
  refine ⟨fun i m H => ∃ (u : S) (pre : List β) (vs : List V), u.H = H ∧ m = xs.length - i ∧ Ex s2 u ∧ u.F D = none ∧ u.H D = some (.lst vs) ∧ Reps X.K u.F vs pre ∧ (∃ suf, compO t f (xs.drop i) = some suf ∧ pre ++ suf = ys), ⟨xs.length, s2.newO D (.lst []) hD, [], [], rfl, rfl, Ex.newO hD, (fF hD : s2.F D = none), upd_same, trivial, ys, hf, rfl⟩, ?_⟩
  rintro i m H ⟨u, pre, vs, rfl, rfl, ku, n1, n2, n3, suf, h1, h2⟩
  by_cases hi' : i < xs.length
  · right
    have hx : xs[i]? = some xs[i] := List.getElem?_eq_getElem hi'
    obtain ⟨g1, g2⟩ := W.go i u xs[i] ku.f hx
    refine ⟨g1, fun H' => ∃ m', m' < xs.length - i ∧ ∃ (u : S) (pre : List β) (vs : List V), u.H = H' ∧ m' = xs.length - (i + 1) ∧ Ex s2 u ∧ u.F D = none ∧ u.H D = some (.lst vs) ∧ Reps X.K u.F vs pre ∧ (∃ suf, compO t f (xs.drop (i + 1)) = some suf ∧ pre ++ suf = ys), fun H' z => z, fun v H' hy => ?_⟩
    obtain ⟨u', rfl, ku', rv⟩ := g2 v H' hy
    refine T.run u' v xs[i] _ _ rv fun σ2 hB => ⟨hw _ _ _ hB, ?_⟩
    rw [List.drop_eq_getElem_cons hi'] at h1
    unfold compO at h1
    cases hb : t xs[i] with
    | none => rw [hb] at h1; cases h1
    | some b =>
      rw [hb, Option.bind_some] at h1
      have mem : xs[i] ∈ xs := List.getElem_mem hi'
      have base : Ex s u' := (k.trans k2).trans (ku.trans ku')
      refine ht xs[i] b u' σ2 _ mem base hB hb fun u3 k3 => ?_
      have hlt : xs.length - (i + 1) < xs.length - i := by omega
      have kk : Ex u u3 := ku'.trans k3
      cases b with
      | false =>
        rw [if_neg Bool.false_ne_true] at h1 ⊢
        exact ⟨_, hlt, u3, pre, vs, rfl, rfl, ku.trans kk, kk.n _ _ n2 n1, kk.h _ _ n2, n3.mono kk.f, suf, h1, h2⟩
      | true =>
        rw [if_pos rfl] at h1 ⊢
        cases hfx : f xs[i] with
        | none => rw [hfx] at h1; cases h1
        | some y =>
          rw [hfx, Option.bind_some] at h1
          cases hr : compO t f (xs.drop (i + 1)) with
          | none => rw [hr] at h1; cases h1
          | some suf' =>
            rw [hr] at h1
            cases h1
            intro s0 H0 C cl fp
            refine he xs[i] y u' σ2 mem base hB hb hfx s0 H0 C cl fp u3 k3 _ fun w u4 k4 r4 => ?_
            have k5 : Ex u u4 := kk.trans k4
            have hD4 : u4.H D = some (.lst vs) := k5.h _ _ n2
            have hF4 : u4.F D = none := k5.n _ _ n2 n1
            have hlen : vs.length < sizeLine := by
              have e1 := n3.len
              have e2 : ys.length = pre.length + (suf'.length + 1) := by rw [← h2, List.length_append, List.length_cons]
              omega
            refine ⟨vs, hD4, hlen, _, hlt, u4.put D (.lst (vs ++ [w])) hF4, pre ++ [y], vs ++ [w], rfl, rfl, (ku.trans k5).mu1 (Mx.put hF4) hD, hF4, upd_same, (n3.mono k5.f).snoc r4, suf', rfl, by rw [List.append_assoc]; exact h2⟩
  · left
    have hd : xs.drop i = [] := List.drop_eq_nil_of_le (by omega)
    rw [hd] at h1
    cases h1
    refine ⟨W.stop i u ku.f (by omega), q D u (k2.trans ku) (fr_back k2 hD) ⟨n1, vs, n2, ?_⟩⟩
    rw [← h2, List.append_nil]
    exact n3
structure EvL (X : Cx) (elt tg iter : Expr) (ifs : List Expr) (scope : Scope) (σ : St) (s : S) (ys : List β) : Prop where
  calm : X.calm = true
  nd : X.N.Nodup
  fs : ∀ x, foldedSetIterable iter X.env x = pure x
  ex : ∃ (own : List (Str × Nat)) (g : TG) (tt : TT), BlkOk X.N X.env.scope scope own ∧ (∀ s0 H0 C cl fp, PG (Blk X scope s0 H0 C cl fp) tg g) ∧ (∀ s0 H0 C cl fp, PTs (Blk X scope s0 H0 C cl fp) ifs tt) ∧
    ∀ s1, Ex s s1 → ∀ Q : VK, (∀ p s2, Ex s1 s2 → s1.H p = none → Own X.K s2 p ys → Q (.ref p) s2.H) → tLc (WI X tg iter) g tt (fun σ H Q => ∀ s0 H0 C cl fp, WE (Blk X scope s0 H0 C cl fp) elt σ H Q) (own.map (·.2)) σ s1.H Q
theorem EvL.n {ys : List β} (h : EvL X elt tg iter ifs scope σ s ys) : EvN X (.ListComp elt [⟨tg, iter, ifs, 0⟩] scope pos) σ s ys := fun s1 k Q q => by
  obtain ⟨own, g, tt, h1, h2, h3, h4⟩ := h.ex
  exact we_of (pe_lc h.calm h.nd pi_wi h1 h2 h3 (fun s0 H0 C cl fp => ⟨fun pins s _ _ _ I h => h s0 H0 C cl fp pins s I⟩) h.fs) (h4 s1 k Q q)
theorem do_setL (i : Nat) {ys : List β} {n : Str} {py : Pos} {rest : List Stmt} {D : Ends} {spos : Pos} (h : EvL X elt tg iter ifs scope σ s ys) (k : ∀ p s1, Ex s s1 → s.H p = none → Own X.K s1 p ys → WSs X rest D (σ.set i (some (.ref p))) s1.H) (hk : X.env.scope.kind = .function) (hy : X.env.scope.names.lookup n = some .local)
    (hl : (py.line == pos.line) = true := by rfl) (ha : (scope.names.any fun (m, k) => m == n && (k == .local || k == .cell)) = false := by decide +kernel) (hi : X.N[i]? = some n := by rfl) :
    WSs X (.Assign [.Name n py] (.ListComp elt [⟨tg, iter, ifs, 0⟩] scope pos) spos :: rest) D σ s.H := by
  obtain ⟨own, g, tt, h1, h2, h3, h4⟩ := h.ex
  exact ws_of (pss_cons (ps_setLc (te := fun σ H Q => ∀ s0 H0 C cl fp, WE (Blk X scope s0 H0 C cl fp) elt σ H Q) h.calm h.nd hi hy (sw_true hk hy hl ha) pi_wi h1 h2 h3 (fun s0 H0 C cl fp => ⟨fun pins s _ _ _ I h => h s0 H0 C cl fp pins s I⟩) h.fs) pss_ws) (h4 s (Ex.refl _) (fun x H1 => WSs X rest D (σ.set i (some x)) H1) fun p s2 k2 n2 o2 => k p s2 k2 n2 o2)
theorem wipe_set {τ : St} {j : Nat} {o : Option V} : ∀ {vs : List Nat}, j ∈ vs → wipe (τ.set j o) vs = wipe τ vs
  | v :: vs, h => by
    show (wipe (τ.set j o) vs).set v none = (wipe τ vs).set v none
    by_cases e : j ∈ vs
    · rw [wipe_set e]
    · have : j = v := by
        rcases List.mem_cons.mp h with z | z
        · exact z
        · exact absurd z e
      subst this
      have : ∀ {ws : List Nat} {τ : St}, j ∉ ws → wipe (τ.set j o) ws = (wipe τ ws).set j o := by
        intro ws
        induction ws with
        | nil => intro τ _; rfl
        | cons a r ih =>
          intro τ h
          show (wipe (τ.set j o) r).set a none = ((wipe τ r).set a none).set j o
          rw [ih fun z => h (List.mem_cons_of_mem _ z), List.set_comm _ _ (fun z => h (by rw [z]; exact List.mem_cons_self))]
      rw [this e, List.set_set]
theorem wipe_wipe {τ : St} : ∀ {vs ws : List Nat}, (∀ v ∈ vs, v ∈ ws) → wipe (wipe τ vs) ws = wipe τ ws
  | [], _, _ => rfl
  | v :: vs, ws, h => by
    show wipe ((wipe τ vs).set v none) ws = wipe τ ws
    rw [wipe_set (h v List.mem_cons_self)]
    exact wipe_wipe fun u hu => h u (List.mem_cons_of_mem _ hu)
theorem en_comp0 {xs : List α} {ys : List β} {f : α → Option β} {j : Nat} {n : Str} {py : Pos} (hc : X.calm = true) (hN : X.N.Nodup) (hi : EvI X (.Name n py) iter σ s xs) (ok : BlkOk X.N X.env.scope scope own) (hj : X.N[j]? = some n)
    (hjo : j ∈ own.map (·.2)) (hg : ∀ s0 H0 C cl fp, PG (Blk X scope s0 H0 C cl fp) (.Name n py) (gName j)) (hf : mapO f xs = some ys) (hz : ys.length ≤ sizeLine)
    (he : ∀ (x : α) (y : β) (v : V) (s1 : S), x ∈ xs → Ex s s1 → rep X.K s1.F v x → f x = some y → ∀ s0 H0 C cl fp, Ev (Blk X scope s0 H0 C cl fp) elt ((wipe σ (own.map (·.2))).set j (some v)) s1 y)
    (hs : ∀ x, foldedSetIterable iter X.env x = pure x := by intro _; rfl) : EvL X elt (.Name n py) iter [] scope σ s ys :=
  ⟨hc, hN, hs, own, _, _, ok, hg, fun _ _ _ _ _ => pts_nil, fun s1 k Q q => comp_read (t := fun _ => some true) hc hN hi ok hg tg_n (fun _ _ _ _ _ => pts_nil) hf hz (fun F x σ2 ⟨v, _, e⟩ => by rw [e, wipe_set hjo]; exact wipe_wipe fun _ z => z)
    (fun x b s1 σ2 Q _ _ _ hb q => by cases hb; exact q s1 (Ex.refl _)) (fun x y s1 σ2 hx k ⟨v, r, e⟩ _ hfx => by subst e; exact he x y v s1 hx k r hfx) s1 k Q q⟩
theorem en_comp1 {xs : List α} {ys : List β} {t : α → Option Bool} {f : α → Option β} {j : Nat} {n : Str} {py : Pos} (hc : X.calm = true) (hN : X.N.Nodup) (hi : EvI X (.Name n py) iter σ s xs) (ok : BlkOk X.N X.env.scope scope own) (hj : X.N[j]? = some n)
    (hjo : j ∈ own.map (·.2)) (hg : ∀ s0 H0 C cl fp, PG (Blk X scope s0 H0 C cl fp) (.Name n py) (gName j)) (hf : compO t f xs = some ys) (hz : ys.length ≤ sizeLine)
    (ht : ∀ (x : α) (b : Bool) (v : V) (s1 : S), x ∈ xs → Ex s s1 → rep X.K s1.F v x → t x = some b → ∀ s0 H0 C cl fp, EvT (Blk X scope s0 H0 C cl fp) c ((wipe σ (own.map (·.2))).set j (some v)) s1 b)
    (he : ∀ (x : α) (y : β) (v : V) (s1 : S), x ∈ xs → Ex s s1 → rep X.K s1.F v x → t x = some true → f x = some y → ∀ s0 H0 C cl fp, Ev (Blk X scope s0 H0 C cl fp) elt ((wipe σ (own.map (·.2))).set j (some v)) s1 y)
    (hs : ∀ x, foldedSetIterable iter X.env x = pure x := by intro _; rfl) : EvL X elt (.Name n py) iter [c] scope σ s ys :=
  ⟨hc, hN, hs, own, _, _, ok, hg, fun s0 H0 C cl fp => pts_one ⟨fun pins s _ _ _ I h => h s0 H0 C cl fp pins s I⟩, fun s1 k Q q => comp_read (tt := fun σ H Q => ∀ s0 H0 C cl fp, WT (Blk X scope s0 H0 C cl fp) c σ H Q) hc hN hi ok hg tg_n (fun s0 H0 C cl fp => pts_one ⟨fun pins s _ _ _ I h => h s0 H0 C cl fp pins s I⟩) hf hz (fun F x σ2 ⟨v, _, e⟩ => by rw [e, wipe_set hjo]; exact wipe_wipe fun _ z => z)
    (fun x b s1 σ2 Q hx k ⟨v, r, e⟩ hb q => by subst e; intro s0 H0 C cl fp; exact ht x b v s1 hx k r hb s0 H0 C cl fp s1 (Ex.refl _) Q q) (fun x y s1 σ2 hx k ⟨v, r, e⟩ htx hfx => by subst e; exact he x y v s1 hx k r htx hfx) s1 k Q q⟩
end
end Dy

namespace Dy
open PySem PySem.Spec L2
open PyProof.Rows hiding St
open Enc (rep)
open Flat (toV)
open EncA (repA)

abbrev MD (D : Ends) (M : St → S → Prop) : Ends := { D with nx := fun σ H => ∃ s : S, s.H = H ∧ M σ s }
abbrev ND (D : Ends) : Ends := { D with nx := fun _ _ => False }
abbrev LD (D : Ends) (M : St → S → Prop) : Ends := { nx := fun σ H => ∃ s : S, s.H = H ∧ M σ s, rt := D.rt }
abbrev RD (Q : VK) : Ends := { nx := fun _ H' => Q .non H', rt := Q }
section
variable {α β γ δ : Type} [Enc α] [Enc β] [Enc γ] [Enc δ] {X : Cx} {σ : St} {s t : S} {e a b c tg iter : Expr} {es : List Expr} {pos p0 p1 p2 p3 : Pos} {D : Ends} {rest A B : List Stmt}
theorem do_nil (h : D.nx σ s.H) : WSs X [] D σ s.H := ws_of pss_nil h
theorem do_cons {st : Stmt} {ts : TS} (h : PS X st ts) (q : ts { D with nx := fun σ' H' => WSs X rest D σ' H' } σ s.H) : WSs X (st :: rest) D σ s.H := ws_of (pss_cons h pss_ws) q
theorem do_set (i : Nat) {x : α} {n : Str} {py : Pos} (h : Ev X e σ s x) (k : ∀ v s1, Ex s s1 → rep X.K s1.F v x → WSs X rest D (σ.set i (some v)) s1.H) (hN : X.N.Nodup) (hx : Loc X.env.scope n := by first | exact Or.inl rfl | exact Or.inr rfl) (hi : X.N[i]? = some n := by rfl)
    (hs : swapsWith e (some (.Name n py)) pos.line X.env = pure false := by rfl) (hf : X.fn n = true ∨ X.env.scope.names.lookup n = some .local := by first | exact .inl rfl | exact .inr rfl) : WSs X (.Assign [.Name n py] e pos :: rest) D σ s.H :=
  do_cons (ps_set hN hi hx pe_we hs hf) (h s (Ex.refl _) _ fun v s1 k1 r => k v s1 k1 r)
theorem do_setN (i : Nat) {xs : List α} {n : Str} {py : Pos} (h : EvN X e σ s xs) (k : ∀ p s1, Ex s s1 → s.H p = none → Own X.K s1 p xs → WSs X rest D (σ.set i (some (.ref p))) s1.H) (hN : X.N.Nodup) (hx : Loc X.env.scope n := by first | exact Or.inl rfl | exact Or.inr rfl) (hi : X.N[i]? = some n := by rfl)
    (hs : swapsWith e (some (.Name n py)) pos.line X.env = pure false := by rfl) (hf : X.fn n = true ∨ X.env.scope.names.lookup n = some .local := by first | exact .inl rfl | exact .inr rfl) : WSs X (.Assign [.Name n py] e pos :: rest) D σ s.H :=
  do_cons (ps_set hN hi hx pe_we hs hf) (h s (Ex.refl _) _ fun v s1 k1 n1 r => k v s1 k1 n1 r)
theorem do_ret {x : α} (h : Ev X e σ s x) (k : ∀ v s1, Ex s s1 → rep X.K s1.F v x → D.rt v s1.H) : WSs X (.Return (some e) pos :: rest) D σ s.H :=
  do_cons (ps_ret pe_we) (h s (Ex.refl _) _ fun v s1 k1 r => k v s1 k1 r)
theorem do_retN {xs : List α} (h : EvN X e σ s xs) (k : ∀ p s1, Ex s s1 → s.H p = none → Own X.K s1 p xs → D.rt (.ref p) s1.H) : WSs X (.Return (some e) pos :: rest) D σ s.H :=
  do_cons (ps_ret pe_we) (h s (Ex.refl _) _ fun v s1 k1 n1 r => k v s1 k1 n1 r)
theorem do_retO (i : Nat) {p : Addr} {n : Str} (h : σ[i]? = some (some (.ref p))) (k : D.rt (.ref p) s.H) (hN : X.N[i]? = some n := by rfl) (hv : Vis X.env.scope n := by first | exact Or.inl rfl | exact Or.inr (Or.inl rfl) | exact Or.inr (Or.inr rfl)) (hd : (n == ("__debug__" : Str)) = false := by decide)
    (hcd : (n == ("__classdict__" : Str)) = false := by decide) : WSs X (.Return (some (.Name n p0)) pos :: rest) D σ s.H :=
  do_cons (ps_ret (pe_var hN hv hd hcd)) ⟨_, h, k⟩
theorem do_if {x : Bool} (hc : EvT X c σ s x) (M : St → S → Prop) (h1 : x = true → ∀ s1, Ex s s1 → WSs X A (MD D M) σ s1.H) (h2 : x = false → ∀ s1, Ex s s1 → WSs X B (MD D M) σ s1.H)
    (h3 : ∀ σ' s', M σ' s' → WSs X rest D σ' s'.H) : WSs X (.If c A B pos :: rest) D σ s.H :=
  do_cons (ps_if pt_wt pss_ws pss_ws) (hc s (Ex.refl _) _ fun s1 k => by
    cases x with
    | true => exact iteT ((h1 rfl s1 k).imp (fun σ' H' ⟨s', e, m⟩ => e ▸ h3 σ' s' m) (fun _ _ q => q) (fun _ _ q => q) fun _ _ q => q)
    | false => exact iteF ((h2 rfl s1 k).imp (fun σ' H' ⟨s', e, m⟩ => e ▸ h3 σ' s' m) (fun _ _ q => q) (fun _ _ q => q) fun _ _ q => q))
theorem do_ifR {x : Bool} (hc : EvT X c σ s x) (h1 : x = true → ∀ s1, Ex s s1 → WSs X A (ND D) σ s1.H) (h2 : x = false → ∀ s1, Ex s s1 → WSs X rest D σ s1.H) : WSs X (.If c A [] pos :: rest) D σ s.H :=
  do_cons (ps_if pt_wt pss_ws pss_nil) (hc s (Ex.refl _) _ fun s1 k => by
    cases x with
    | true => exact iteT ((h1 rfl s1 k).imp (fun _ _ z => z.elim) (fun _ _ q => q) (fun _ _ q => q) fun _ _ q => q)
    | false => exact iteF (h2 rfl s1 k))
theorem do_ifRR {x : Bool} (hc : EvT X c σ s x) (h1 : x = true → ∀ s1, Ex s s1 → WSs X A (ND D) σ s1.H) (h2 : x = false → ∀ s1, Ex s s1 → WSs X B (ND D) σ s1.H) : WSs X (.If c A B pos :: rest) D σ s.H :=
  do_cons (ps_if pt_wt pss_ws pss_ws) (hc s (Ex.refl _) _ fun s1 k => by
    cases x with
    | true => exact iteT ((h1 rfl s1 k).imp (fun _ _ z => z.elim) (fun _ _ q => q) (fun _ _ q => q) fun _ _ q => q)
    | false => exact iteF ((h2 rfl s1 k).imp (fun _ _ z => z.elim) (fun _ _ q => q) (fun _ _ q => q) fun _ _ q => q))

theorem st_set {l : St} {i : Nat} {v : V} (h : l[i]? = some (some v)) : l[i]? = some (some v) := h
theorem do_append (i : Nat) {p : Addr} {n : Str} {xs : List α} {x : α} (hσ : σ[i]? = some (some (.ref p))) (o : Own X.K s p xs) (he : Ev X e σ s x) (hz : xs.length < sizeLine)
    (k : ∀ s1, Mx (· = p) s s1 → Own X.K s1 p (xs ++ [x]) → WSs X rest D σ s1.H)
    (hN : X.N[i]? = some n := by rfl) (hv : Vis X.env.scope n := by first | exact Or.inl rfl | exact Or.inr (Or.inl rfl) | exact Or.inr (Or.inr rfl)) (hd : (n == ("__debug__" : Str)) = false := by decide) (hcd : (n == ("__classdict__" : Str)) = false := by decide)
    (hbase : attributeBase (.Name n p0) "append" X.env (eval (.Name n p0) X.env) = eval (.Name n p0) X.env := by rfl)
    (hfew : ((backTo p2 (starEach [e] X.env)).all (fun x => !x.1) && (backToKw p2 (keywordEach [] X.env)).all (fun x => x.1.isSome) && decide (([e] : List Expr).length + ([] : List Keyword).length + (if ([] : List Keyword).isEmpty then 0 else 1) < 30)) = true := by rfl)
    (hline : (p1.endLine == p2.line) = true := by rfl) (hs : starEach [e] X.env = (false, eval e X.env) :: starEach [] X.env := by rfl) (hplain : (backTo p2 (starEach [] X.env)).any (·.1) = false := by rfl)
    (hsw : swapsWith (.Call (.Attribute (.Name n p0) "append" p1) [e] [] p2) none p3.line X.env = pure false := by rfl) :
    WSs X (.Expr (.Call (.Attribute (.Name n p0) "append" p1) [e] [] p2) p3 :: rest) D σ s.H :=
  do_cons (ps_expr (pe_bm PySem.F.plainAttrs_list PySem.F.slot_list_append PySem.F.type_list_append mt_append (pe_var hN hv hd hcd) (pa_cons pe_we pa_nil hs) hbase hfew hline hs hplain) hsw) (by
    obtain ⟨h1, vs, h2, h3⟩ := id o
    refine ⟨_, hσ, .inl ⟨rfl, vs, .inl (.inl h2)⟩, he s (Ex.refl _) _ fun v s1 k1 r1 => ?_⟩
    have f1 := k1.n _ _ h2 h1
    have g1 := k1.h _ _ h2
    refine ⟨p, vs, v, rfl, rfl, g1, by rw [h3.len]; exact hz, ?_⟩
    exact k (s1.put p (.lst (vs ++ [v])) f1) (k1.mx.trans (Mx.put f1)) ⟨f1, _, upd_same, (h3.mono k1.f).snoc r1⟩)
theorem do_extend (i : Nat) {p : Addr} {n : Str} {xs ys : List α} (hσ : σ[i]? = some (some (.ref p))) (o : Own X.K s p xs) (he : EvN X e σ s ys) (hz : xs.length + ys.length ≤ sizeLine)
    (k : ∀ s1, Mx (· = p) s s1 → Own X.K s1 p (xs ++ ys) → WSs X rest D σ s1.H)
    (hN : X.N[i]? = some n := by rfl) (hv : Vis X.env.scope n := by first | exact Or.inl rfl | exact Or.inr (Or.inl rfl) | exact Or.inr (Or.inr rfl)) (hd : (n == ("__debug__" : Str)) = false := by decide) (hcd : (n == ("__classdict__" : Str)) = false := by decide)
    (hbase : attributeBase (.Name n p0) "extend" X.env (eval (.Name n p0) X.env) = eval (.Name n p0) X.env := by rfl)
    (hfew : ((backTo p2 (starEach [e] X.env)).all (fun x => !x.1) && (backToKw p2 (keywordEach [] X.env)).all (fun x => x.1.isSome) && decide (([e] : List Expr).length + ([] : List Keyword).length + (if ([] : List Keyword).isEmpty then 0 else 1) < 30)) = true := by rfl)
    (hline : (p1.endLine == p2.line) = true := by rfl) (hs : starEach [e] X.env = (false, eval e X.env) :: starEach [] X.env := by rfl) (hplain : (backTo p2 (starEach [] X.env)).any (·.1) = false := by rfl)
    (hsw : swapsWith (.Call (.Attribute (.Name n p0) "extend" p1) [e] [] p2) none p3.line X.env = pure false := by rfl) :
    WSs X (.Expr (.Call (.Attribute (.Name n p0) "extend" p1) [e] [] p2) p3 :: rest) D σ s.H :=
  do_cons (ps_expr (pe_bm PySem.F.plainAttrs_list PySem.F.slot_list_extend PySem.F.type_list_extend mt_extend (pe_var hN hv hd hcd) (pa_cons pe_we pa_nil hs) hbase hfew hline hs hplain) hsw) (by
    obtain ⟨h1, vs, h2, h3⟩ := id o
    refine ⟨_, hσ, .inl ⟨rfl, vs, .inl (.inl h2)⟩, he s (Ex.refl _) _ fun q s1 k1 n1 o1 => ?_⟩
    obtain ⟨_, ws, h4, h5⟩ := o1
    have f1 := k1.n _ _ h2 h1
    have g1 := k1.h _ _ h2
    refine ⟨p, q, vs, ws, rfl, rfl, g1, h4, by rw [h3.len, h5.len]; exact hz, ?_⟩
    exact k (s1.put p (.lst (vs ++ ws)) f1) (k1.mx.trans (Mx.put f1)) ⟨f1, _, upd_same, (h3.mono k1.f).app h5⟩)
theorem do_setItem (i : Nat) {p : Addr} {n : Str} {xs : List α} {x : α} {z : Int} {j : Nat} (hσ : σ[i]? = some (some (.ref p))) (o : Own X.K s p xs) (he : Ev X e σ s x) (hi : Ev X a σ s z) (hj : ixN xs.length z = some j)
    (k : ∀ s1, Mx (· = p) s s1 → Own X.K s1 p (xs.set j x) → WSs X rest D σ s1.H)
    (hN : X.N[i]? = some n := by rfl) (hv : Vis X.env.scope n := by first | exact Or.inl rfl | exact Or.inr (Or.inl rfl) | exact Or.inr (Or.inr rfl)) (hd : (n == ("__debug__" : Str)) = false := by decide) (hcd : (n == ("__classdict__" : Str)) = false := by decide)
    (ha : ∀ v, assign (.Subscript (.Name n p0) a p1) X.env v = (do
      let ov ← holding [v] (eval (.Name n p0) X.env)
      let iv ← holding [v, ov] (eval a X.env)
      standAt p1
      holding [v, ov, iv] (setItem ov iv v)
      release [v, ov, iv] []) := by intro _; rfl)
    (hs : swapsWithSole [.Subscript (.Name n p0) a p1] e pos.line X.env = pure false := by rfl) (hw : swappedStores [.Subscript (.Name n p0) a p1] e X.env = pure none := by rfl)
    (h1 : (assignEach [.Subscript (.Name n p0) a p1] X.env).map (·.2) = [assign (.Subscript (.Name n p0) a p1) X.env] := by rfl) :
    WSs X (.Assign [.Subscript (.Name n p0) a p1] e pos :: rest) D σ s.H :=
  do_cons (ps_asg pe_we (pg_sub (pe_var hN hv hd hcd) pe_we set_list ha) hs hw h1) (by
    obtain ⟨f0, vs, h2, h3⟩ := id o
    refine he s (Ex.refl _) _ fun v s1 k1 r1 => ⟨_, hσ, hi s1 k1 _ fun u s2 k2 r2 => ?_⟩
    have k3 := k1.trans k2
    have f1 := k3.n _ _ h2 f0
    have g1 := k3.h _ _ h2
    refine ⟨p, vs, z, j, rfl, r2, g1, by rw [h3.len]; exact hj, ?_⟩
    exact k (s2.put p (.lst (vs.set j v)) f1) (k3.mx.trans (Mx.put f1)) ⟨f1, _, upd_same, (h3.mono k3.f).set j (Enc.mono k2.f r1)⟩)
theorem do_frz {p : Addr} {xs : List α} {ss : List Stmt} (o : Own X.K s p xs) (k : ∀ s' : S, s'.H = s.H → Fle s.F s'.F → (∀ q, q ≠ p → s'.F q = s.F q) → rep X.K s'.F (.ref p) xs → WSs X ss D σ s'.H) : WSs X ss D σ s.H := by
  obtain ⟨s', h1, h2, h3, h4⟩ := o.frz
  have := k s' h1 h2 h3 h4
  rw [h1] at this
  exact this

theorem foldO_drop {τ υ : Type} {f : υ → τ → Option υ} {b b1 : υ} {xs : List τ} {i : Nat} (hi : i < xs.length) (h : foldO f b (xs.drop i) = some b1) : ∃ b', f b xs[i] = some b' ∧ foldO f b' (xs.drop (i + 1)) = some b1 := by
  rw [List.drop_eq_getElem_cons hi] at h
  exact bndE h
theorem do_for_core {τ : Type} [Enc τ] {xs : List τ} {body : List Stmt} {g : TG} {B : Hp → τ → St → St → Prop} (hp : PassesOwn (model X.prog X.w) X.A X.env X.xe) (hc : X.calm = true) (hi : EvI X tg iter σ s xs) (hg : PG X tg g) (T : Tgt (α := τ) X.K g B)
    (R : Nat → St → S → Prop) (h0 : ∀ s1, Ex s s1 → R 0 σ s1)
    (hb : ∀ s1, Ex s s1 → ∀ (i : Nat) (x : τ) (σ' σ2 : St) (t t' : S), xs[i]? = some x → Fle s1.F t.F → R i σ' t → Ex t t' → B t'.F x σ' σ2 → WSs X body (LD D fun σ s => Fle t'.F s.F ∧ R (i + 1) σ s) σ2 t'.H)
    (hd : ∀ s1, Ex s s1 → ∀ σ' t, Fle s1.F t.F → R xs.length σ' t → WSs X rest D σ' t.H)
    (hs : ∀ x, foldedSetIterable iter X.env x = pure x := by intro _; rfl) : WSs X (.For tg iter body [] pos :: rest) D σ s.H :=
  do_cons (ps_for hp hc pi_wi hg pss_ws hs) (hi s (Ex.refl _) _ fun J s1 k1 W => by
    refine ⟨fun i m σ' H' => ∃ t : S, t.H = H' ∧ m = xs.length - i ∧ i ≤ xs.length ∧ Fle s1.F t.F ∧ R i σ' t, ⟨xs.length, s1, rfl, rfl, Nat.zero_le _, Fle.refl _, h0 s1 k1⟩, ?_⟩
    rintro i m σ' H' ⟨t, rfl, rfl, hle, f, r⟩
    by_cases hlt : i < xs.length
    · right
      obtain ⟨g1, g2⟩ := W.go i t xs[i] f (List.getElem?_eq_getElem hlt)
      refine ⟨g1, fun σ' H' => ∃ u : S, u.H = H' ∧ Fle s1.F u.F ∧ R (i + 1) σ' u, fun σ' H' ⟨u, e1, f1, r1⟩ => ⟨xs.length - (i + 1), by omega, u, e1, rfl, hlt, f1, r1⟩, fun v H' hy => ?_⟩
      obtain ⟨t', rfl, kt, rv⟩ := g2 v H' hy
      refine T.run t' v xs[i] _ _ rv fun σ2 hB => ?_
      have := hb s1 k1 i xs[i] σ' σ2 t t' (List.getElem?_eq_getElem hlt) f r kt hB
      exact this.imp (fun σ3 H3 ⟨u, e1, f1, r1⟩ => ⟨u, e1, (f.trans kt.f).trans f1, r1⟩) (fun _ _ q => q) (fun _ _ q => q.elim) (fun _ _ q => q.elim)
    · left
      have e : i = xs.length := by omega
      subst e
      exact ⟨W.stop _ t f (Nat.le_refl _), hd s1 k1 σ' t f r⟩)
theorem do_forO {τ υ : Type} [Enc τ] {xs : List τ} {f : υ → τ → Option υ} {b0 b1 : υ} {body : List Stmt} {g : TG} {B : Hp → τ → St → St → Prop} (hp : PassesOwn (model X.prog X.w) X.A X.env X.xe) (hc : X.calm = true) (hi : EvI X tg iter σ s xs) (hg : PG X tg g) (T : Tgt (α := τ) X.K g B)
    (hf : foldO f b0 xs = some b1) (R : υ → St → S → Prop) (h0 : ∀ s1, Ex s s1 → R b0 σ s1)
    (hb : ∀ s1, Ex s s1 → ∀ (x : τ) (b b' : υ) (σ' σ2 : St) (t t' : S), x ∈ xs → f b x = some b' → Fle s1.F t.F → R b σ' t → Ex t t' → B t'.F x σ' σ2 → WSs X body (LD D fun σ s => Fle t'.F s.F ∧ R b' σ s) σ2 t'.H)
    (hd : ∀ s1, Ex s s1 → ∀ σ' t, Fle s1.F t.F → R b1 σ' t → WSs X rest D σ' t.H)
    (hs : ∀ x, foldedSetIterable iter X.env x = pure x := by intro _; rfl) : WSs X (.For tg iter body [] pos :: rest) D σ s.H :=
  do_for_core hp hc hi hg T (fun i σ' t => ∃ b, foldO f b (xs.drop i) = some b1 ∧ R b σ' t) (fun s1 k => ⟨b0, hf, h0 s1 k⟩)
    (fun s1 k i x σ' σ2 t t' hx fl ⟨b, h1, h2⟩ kt hB => by
      obtain ⟨hlt, rfl⟩ := List.getElem?_eq_some_iff.mp hx
      obtain ⟨b', h3, h4⟩ := foldO_drop hlt h1
      exact (hb s1 k xs[i] b b' σ' σ2 t t' (List.getElem_mem hlt) h3 fl h2 kt hB).imp (fun σ3 H3 ⟨u, e1, f1, r1⟩ => ⟨u, e1, f1, b', h4, r1⟩) (fun _ _ q => q) (fun _ _ q => q.elim) (fun _ _ q => q.elim))
    (fun s1 k σ' t fl ⟨b, h1, h2⟩ => by
      rw [List.drop_length] at h1
      cases h1
      exact hd s1 k σ' t fl h2) hs
theorem foldF_drop {τ υ ρ : Type} {f : υ → τ → Option (Fl υ ρ)} {b : υ} {o : Fl υ ρ} {xs : List τ} {i : Nat} (hi : i < xs.length) (h : foldF f b (xs.drop i) = some o) : ∃ q, f b xs[i] = some q ∧ (∀ b', q = .nx b' → foldF f b' (xs.drop (i + 1)) = some o) ∧ ∀ r, q = .rt r → o = .rt r := by
  rw [List.drop_eq_getElem_cons hi] at h
  obtain ⟨q, h1, h2⟩ := bndE h
  refine ⟨q, h1, fun b' e => by subst e; exact h2, fun r e => by subst e; exact (Option.some.inj h2).symm⟩
theorem do_forF {τ υ ρ : Type} [Enc τ] {xs : List τ} {f : υ → τ → Option (Fl υ ρ)} {b0 : υ} {o : Fl υ ρ} {body : List Stmt} {g : TG} {B : Hp → τ → St → St → Prop} (hp : PassesOwn (model X.prog X.w) X.A X.env X.xe) (hc : X.calm = true) (hi : EvI X tg iter σ s xs) (hg : PG X tg g) (T : Tgt (α := τ) X.K g B)
    (hf : foldF f b0 xs = some o) (R : υ → St → S → Prop) (h0 : ∀ s1, Ex s s1 → R b0 σ s1)
    (hb : ∀ s1, Ex s s1 → ∀ (x : τ) (b : υ) (q : Fl υ ρ) (σ' σ2 : St) (t t' : S), x ∈ xs → f b x = some q → (∀ r, q = .rt r → o = .rt r) → Fle s1.F t.F → R b σ' t → Ex t t' → B t'.F x σ' σ2 → WSs X body (LD D fun σ s => ∃ b', q = .nx b' ∧ Fle t'.F s.F ∧ R b' σ s) σ2 t'.H)
    (hd : ∀ s1, Ex s s1 → ∀ b1 σ' t, o = .nx b1 → Fle s1.F t.F → R b1 σ' t → WSs X rest D σ' t.H)
    (hs : ∀ x, foldedSetIterable iter X.env x = pure x := by intro _; rfl) : WSs X (.For tg iter body [] pos :: rest) D σ s.H :=
  do_for_core hp hc hi hg T (fun i σ' t => ∃ b, foldF f b (xs.drop i) = some o ∧ R b σ' t) (fun s1 k => ⟨b0, hf, h0 s1 k⟩)
    (fun s1 k i x σ' σ2 t t' hx fl ⟨b, h1, h2⟩ kt hB => by
      obtain ⟨hlt, rfl⟩ := List.getElem?_eq_some_iff.mp hx
      obtain ⟨q, h3, h4, h5⟩ := foldF_drop hlt h1
      exact (hb s1 k xs[i] b q σ' σ2 t t' (List.getElem_mem hlt) h3 h5 fl h2 kt hB).imp (fun σ3 H3 ⟨u, e1, b', e2, f1, r1⟩ => ⟨u, e1, f1, b', h4 b' e2, r1⟩) (fun _ _ q => q) (fun _ _ q => q.elim) (fun _ _ q => q.elim))
    (fun s1 k σ' t fl ⟨b, h1, h2⟩ => by
      rw [List.drop_length] at h1
      cases h1
      exact hd s1 k b σ' t rfl fl h2) hs
theorem do_whileO {υ : Type} {cf : υ → Option Bool} {f : υ → Option υ} {n : Nat} {b0 b1 : υ} {body : List Stmt} (hp : PassesOwn (model X.prog X.w) X.A X.env X.xe) (hf : whileO cf f n b0 = some b1) (R : υ → St → S → Prop) (h0 : R b0 σ s)
    (hc : ∀ (b : υ) (x : Bool) (σ' : St) (t : S), cf b = some x → Fle s.F t.F → R b σ' t → EvT X c σ' t x)
    (hb : ∀ (b b' : υ) (σ' : St) (t t' : S), cf b = some true → f b = some b' → Fle s.F t.F → R b σ' t → Ex t t' → WSs X body (LD D fun σ s => Fle t'.F s.F ∧ R b' σ s) σ' t'.H)
    (hd : ∀ σ' t t', cf b1 = some false → Fle s.F t.F → R b1 σ' t → Ex t t' → WSs X rest D σ' t'.H) : WSs X (.While c body [] pos :: rest) D σ s.H :=
  do_cons (ps_while hp pt_wt pss_ws) (by
    refine ⟨fun m σ' H' => ∃ (t : S) (b : υ), t.H = H' ∧ Fle s.F t.F ∧ whileO cf f m b = some b1 ∧ R b σ' t, ⟨n, s, b0, rfl, Fle.refl _, hf, h0⟩, ?_⟩
    rintro m σ' H' ⟨t, b, rfl, fl, h1, h2⟩
    cases m with
    | zero => cases h1
    | succ m =>
      obtain ⟨x, h3, h4⟩ := bndE h1
      refine hc b x σ' t h3 fl h2 t (Ex.refl _) _ fun t' kt => ?_
      cases x with
      | true =>
        refine iteT ?_
        rw [if_pos rfl] at h4
        obtain ⟨b', h5, h6⟩ := bndE h4
        refine ⟨fun σ3 H3 => ∃ u : S, u.H = H3 ∧ Fle s.F u.F ∧ R b' σ3 u, fun σ3 H3 ⟨u, e1, f1, r1⟩ => ⟨m, Nat.lt_succ_self _, u, b', e1, f1, h6, r1⟩, ?_⟩
        exact (hb b b' σ' t t' h3 h5 fl h2 kt).imp (fun σ3 H3 ⟨u, e1, f1, r1⟩ => ⟨u, e1, (fl.trans kt.f).trans f1, r1⟩) (fun _ _ q => q) (fun _ _ q => q.elim) (fun _ _ q => q.elim)
      | false =>
        refine iteF ?_
        rw [if_neg Bool.false_ne_true] at h4
        cases h4
        exact hd σ' t t' h3 fl h2 kt)
end
end Dy

namespace Dy
open PySem PySem.Spec L2
open PyProof.Rows hiding St
open Enc (rep)
open Flat (toV)
open EncA (repA)

section
variable {P : Program} {w : World} {K : PySem.W.Frag} {mg : Str → Option Value} {base : Heap}
abbrev FunP (K : PySem.W.Frag) (x : Str) (st : Stmt) (f : Addr) (fd : FuncData) : Prop := FunD K x x (defArgs st) (defBody st) (defScope st) [] [] f fd
theorem mk_fn {A ρ : Type} [EncA A] [Enc ρ] {m : A → Option ρ} {x : Str} {st : Stmt} {f : Addr} {fd : FuncData} {N ps : List Str} {k : Nat} (F : FunP K x st f fd) (Sc : FnScope N ps (defScope st))
    (hl : ∀ (F : Hp) (vs : List V) (a : A), repA K F vs a → vs.length = ps.length)
    (body : ∀ (cdv : Value) (A' : Around) (outer : List Env) (s0 : Shared) (H0 : Hp) (E0 : XK), Room k (A'.deeper (envOfC x (defScope st) s0.heap.objs.size f cdv)) → ∀ (s : S) (vs : List V) (a : A) (r : ρ) (Q : VK), repA K s.F vs a → m a = some r →
      (∀ v s', Ex s s' → rep K s'.F v r → Q v s'.H) → WSs (cxOf CX0 P w K mg base N x (defScope st) f cdv A' outer s0 H0 E0).nox (defBody st) (RD Q) (start N vs) s.H) : FnOk P w K mg base CX0 (k + 1) f fd ps (sp K m) :=
  F.ok Sc (fun vs H Q E ⟨s, a, r, _, h, _⟩ => hl s.F vs a h) (fun cdv A' outer s0 H0 vs Q E hr ⟨s, a, r, e, h1, h2, h3⟩ => ⟨_, pss_ws.nox, by
    have := body cdv A' outer s0 H0 E hr s vs a r Q h1 h2 h3
    rw [e] at this
    exact this⟩)
theorem mk_cal {A ρ : Type} [EncA A] [Enc ρ] {m : A → Option ρ} {x : Str} {st : Stmt} {f : Addr} {fd : FuncData} {N ps : List Str} {k : Nat} (F : FunP K x st f fd) (hm : mg x = some (.ref f)) (b : Binds K fd ps []) (Sc : FnScope N ps (defScope st))
    (hl : ∀ (F : Hp) (vs : List V) (a : A), repA K F vs a → vs.length = ps.length)
    (body : ∀ (cdv : Value) (A' : Around) (outer : List Env) (s0 : Shared) (H0 : Hp) (E0 : XK), Room k (A'.deeper (envOfC x (defScope st) s0.heap.objs.size f cdv)) → ∀ (s : S) (vs : List V) (a : A) (r : ρ) (Q : VK), repA K s.F vs a → m a = some r →
      (∀ v s', Ex s s' → rep K s'.F v r → Q v s'.H) → WSs (cxOf CX0 P w K mg base N x (defScope st) f cdv A' outer s0 H0 E0).nox (defBody st) (RD Q) (start N vs) s.H) : Cal P w K mg base CX0 (k + 1) x (sp K m) :=
  ⟨f, fd, ps, F.ok Sc (fun vs H Q E ⟨s, a, r, _, h, _⟩ => hl s.F vs a h) (fun cdv A' outer s0 H0 vs Q E hr ⟨s, a, r, e, h1, h2, h3⟩ => ⟨_, pss_ws.nox, by
    have := body cdv A' outer s0 H0 E hr s vs a r Q h1 h2 h3
    rw [e] at this
    exact this⟩), hm, F.kp, b⟩
theorem mk_calN {A ρ : Type} [EncA A] [Enc ρ] {m : A → Option (List ρ)} {x : Str} {st : Stmt} {f : Addr} {fd : FuncData} {N ps : List Str} {k : Nat} (F : FunP K x st f fd) (hm : mg x = some (.ref f)) (b : Binds K fd ps []) (Sc : FnScope N ps (defScope st))
    (hl : ∀ (F : Hp) (vs : List V) (a : A), repA K F vs a → vs.length = ps.length)
    (body : ∀ (cdv : Value) (A' : Around) (outer : List Env) (s0 : Shared) (H0 : Hp) (E0 : XK), Room k (A'.deeper (envOfC x (defScope st) s0.heap.objs.size f cdv)) → ∀ (s : S) (vs : List V) (a : A) (r : List ρ) (Q : VK), repA K s.F vs a → m a = some r →
      (∀ p s', Ex s s' → s.H p = none → Own K s' p r → Q (.ref p) s'.H) → WSs (cxOf CX0 P w K mg base N x (defScope st) f cdv A' outer s0 H0 E0).nox (defBody st) (RD Q) (start N vs) s.H) : Cal P w K mg base CX0 (k + 1) x (spN K m) :=
  ⟨f, fd, ps, F.ok Sc (fun vs H Q E ⟨s, a, r, _, h, _⟩ => hl s.F vs a h) (fun cdv A' outer s0 H0 vs Q E hr ⟨s, a, r, e, h1, h2, h3⟩ => ⟨_, pss_ws.nox, by
    have := body cdv A' outer s0 H0 E hr s vs a r Q h1 h2 h3
    rw [e] at this
    exact this⟩), hm, F.kp, b⟩
theorem len1 {α : Type} [Enc α] (F : Hp) (vs : List V) (a : α × Unit) (h : repA K F vs a) : vs.length = 1 := by obtain ⟨_, _, rfl, _, rfl⟩ := h; rfl
theorem len2 {α β : Type} [Enc α] [Enc β] (F : Hp) (vs : List V) (a : α × β × Unit) (h : repA K F vs a) : vs.length = 2 := by obtain ⟨_, _, rfl, _, _, _, rfl, _, rfl⟩ := h; rfl
theorem len3 {α β γ : Type} [Enc α] [Enc β] [Enc γ] (F : Hp) (vs : List V) (a : α × β × γ × Unit) (h : repA K F vs a) : vs.length = 3 := by obtain ⟨_, _, rfl, _, _, _, rfl, _, _, _, rfl, _, rfl⟩ := h; rfl
theorem len4 {α β γ δ : Type} [Enc α] [Enc β] [Enc γ] [Enc δ] (F : Hp) (vs : List V) (a : α × β × γ × δ × Unit) (h : repA K F vs a) : vs.length = 4 := by obtain ⟨_, _, rfl, _, _, _, rfl, _, _, _, rfl, _, _, _, rfl, _, rfl⟩ := h; rfl
theorem len5 {α β γ δ ε : Type} [Enc α] [Enc β] [Enc γ] [Enc δ] [Enc ε] (F : Hp) (vs : List V) (a : α × β × γ × δ × ε × Unit) (h : repA K F vs a) : vs.length = 5 := by obtain ⟨_, _, rfl, _, _, _, rfl, _, _, _, rfl, _, _, _, rfl, _, _, _, rfl, _, rfl⟩ := h; rfl
theorem len6 {α β γ δ ε ζ : Type} [Enc α] [Enc β] [Enc γ] [Enc δ] [Enc ε] [Enc ζ] (F : Hp) (vs : List V) (a : α × β × γ × δ × ε × ζ × Unit) (h : repA K F vs a) : vs.length = 6 := by obtain ⟨_, _, rfl, _, _, _, rfl, _, _, _, rfl, _, _, _, rfl, _, _, _, rfl, _, _, _, rfl, _, rfl⟩ := h; rfl
end

class Ty (α : Type) extends Enc α where
  ty : α → String
  is : ∀ {K : PySem.W.Frag} {F H : Hp} {v : V} {x : α}, rep K F v x → Fle F H → TyX K H v (.type (ty x))
theorem sql_ty {K : PySem.W.Frag} {H : Hp} {p : Addr} {vs : List V} (h : SqL K H p vs) : TyX K H (.ref p) (.type "list") := by
  rcases h with (h | ⟨o, h⟩) | ⟨o, its, n, h, hc, _⟩
  · exact .base (.lst h)
  · exact .base (.frz h)
  · exact .kList h hc
theorem sqt_ty {K : PySem.W.Frag} {H : Hp} {p : Addr} {vs : List V} (h : SqT K H p vs) : TyX K H (.ref p) (.type "tuple") := by
  rcases h with (h | ⟨o, h⟩) | ⟨o, its, n, h, hc, _⟩
  · exact .base (.tup h)
  · exact .fTuple h
  · exact .kTuple h hc
instance : Ty Int := ⟨fun _ => "int", fun {K F H v x} h _ => by rw [show v = V.int x from h]; exact .base (.int _)⟩
instance : Ty Bool := ⟨fun _ => "bool", fun {K F H v x} h _ => by rw [show v = V.bl x from h]; exact .base (.bl _)⟩
instance : Ty Str := ⟨fun _ => "str", fun {K F H v x} h _ => by rw [show v = V.str x from h]; exact .base (.str _)⟩
instance {α : Type} [Ty α] : Ty (Option α) := ⟨fun x => match x with | none => "NoneType" | some y => Ty.ty y, fun {K F H v x} h f => by
  cases x with
  | none => rw [show v = V.non from h]; exact .base .non
  | some y => exact Ty.is (α := α) h f⟩
instance {α : Type} [Enc α] : Ty (List α) := ⟨fun _ => "list", fun h f => by
  obtain ⟨p, vs, rfl, h1, _⟩ := h
  exact sql_ty (sql_mono f h1)⟩
instance {α : Type} [Enc α] : Ty (Tu α) := ⟨fun _ => "tuple", fun h f => by
  obtain ⟨p, vs, rfl, h1, _⟩ := h
  exact sqt_ty (sqt_mono f h1)⟩
instance {α β : Type} [Enc α] [Enc β] : Ty (α × β) := ⟨fun _ => "tuple", fun h f => by
  obtain ⟨p, v1, v2, rfl, h1, _⟩ := h
  exact sqt_ty (sqt_mono f h1)⟩
instance {α : Type} [Enc α] : Ty (T1 α) := ⟨fun _ => "tuple", fun h f => by
  obtain ⟨p, v1, rfl, h1, _⟩ := h
  exact sqt_ty (sqt_mono f h1)⟩
instance {α β γ : Type} [Enc α] [Enc β] [Enc γ] : Ty (T3 α β γ) := ⟨fun _ => "tuple", fun h f => by
  obtain ⟨p, v1, v2, v3, rfl, h1, _⟩ := h
  exact sqt_ty (sqt_mono f h1)⟩
instance {α β γ δ : Type} [Enc α] [Enc β] [Enc γ] [Enc δ] : Ty (T4 α β γ δ) := ⟨fun _ => "tuple", fun h f => by
  obtain ⟨p, v1, v2, v3, v4, rfl, h1, _⟩ := h
  exact sqt_ty (sqt_mono f h1)⟩
instance {α β γ δ ε : Type} [Enc α] [Enc β] [Enc γ] [Enc δ] [Enc ε] : Ty (T5 α β γ δ ε) := ⟨fun _ => "tuple", fun h f => by
  obtain ⟨p, v1, v2, v3, v4, v5, rfl, h1, _⟩ := h
  exact sqt_ty (sqt_mono f h1)⟩
section
variable {α β : Type} {X : Cx} {σ : St} {s : S} {a b : Expr} {pos p0 p1 p2 p3 : Pos}
theorem ev_isi [Ty α] {x : α} {n : Str} {T : String} {r : Bool} (hm : X.mg "isinstance" = none) (hn : X.mg n = none) (hv : bootBuiltins n = some (.type T)) (ha : Ev X a σ s x) (h : kitB (Ty.ty x) T = some r)
    (hg : Gl X "isinstance" := by rfl) (hgn : Gl X n := by rfl) (he : starEach [a, .Name n p1] X.env = (false, eval a X.env) :: starEach [.Name n p1] X.env := by rfl) (he2 : starEach [.Name n p1] X.env = (false, eval (.Name n p1) X.env) :: starEach [] X.env := by rfl) (hpl : (backTo pos (starEach [.Name n p1] X.env)).any (·.1) = false := by rfl)
    (hnn : n ≠ "__name__" := by decide) (hnd : (n == ("__debug__" : Str)) = false := by decide) :
    Ev X (.Call (.Name "isinstance" p0) [a, .Name n p1] [] pos) σ s r := fun s1 k Q q =>
  we_of (pe_callB call_isi hg hm (by decide +kernel) (pa_cons pe_we (pa_cons (pe_bltn (v := .ty T) hgn hn hv rfl hnn hnd) pa_nil he2) he) (he := he) (hpl := hpl)) (ha s1 k _ fun v s2 k2 r2 =>
    ⟨v, .ty T, .type (Ty.ty x), .type T, r, rfl, .ty T, Ty.is r2 s2.sub, kit_ty h, q _ s2 k2 rfl⟩)

class EqD (α : Type) extends Enc α where
  toD : α → PyData
  dp : ∀ {K : PySem.W.Frag} {F H : Hp} {v : V} {x : α}, rep K F v x → Fle F H → Dp K H v (toD x)
  eqv : ∀ x y : α, PyData.eqv (toD x) (toD y) = true ↔ x = y
def DpR {α : Type} [EqD α] {K : PySem.W.Frag} {F H : Hp} (f : Fle F H) : ∀ {vs : List V} {xs : List α}, Reps K F vs xs → DpAll K H vs (xs.map EqD.toD)
  | [], [], _ => .nil
  | _ :: _, _ :: _, ⟨h, t⟩ => .cons (EqD.dp h f) (DpR f t)
  | [], _ :: _, h => h.elim
  | _ :: _, [], h => h.elim
theorem eqv_all {α : Type} [EqD α] : ∀ xs ys : List α, PyData.eqvAll (xs.map EqD.toD) (ys.map EqD.toD) = true ↔ xs = ys
  | [], [] => by simp [PyData.eqvAll]
  | [], _ :: _ => by simp [PyData.eqvAll]
  | _ :: _, [] => by simp [PyData.eqvAll]
  | x :: xs, y :: ys => by
    show (PyData.eqv (EqD.toD x) (EqD.toD y) && PyData.eqvAll (xs.map EqD.toD) (ys.map EqD.toD)) = true ↔ _
    rw [Bool.and_eq_true, EqD.eqv, eqv_all xs ys]
    simp
instance : EqD Int := ⟨PyData.int, fun {K F H v x} h _ => by rw [show v = V.int x from h]; exact .int _, fun x y => by show (x == y) = true ↔ _; simp⟩
instance : EqD Bool := ⟨PyData.bool, fun {K F H v x} h _ => by rw [show v = V.bl x from h]; exact .bl _, fun x y => by show (x == y) = true ↔ _; simp⟩
instance : EqD Str := ⟨PyData.str, fun {K F H v x} h _ => by rw [show v = V.str x from h]; exact .str _, fun x y => by show (x == y) = true ↔ _; simp⟩
instance : EqD (Option Int) := ⟨fun x => match x with | none => .none | some i => .int i, fun {K F H v x} h _ => by
  cases x with
  | none => rw [show v = V.non from h]; exact .non
  | some i => rw [show v = V.int i from h]; exact .int _, fun x y => by cases x <;> cases y <;> simp [PyData.eqv]⟩
instance : EqD (Option Str) := ⟨fun x => match x with | none => .none | some i => .str i, fun {K F H v x} h _ => by
  cases x with
  | none => rw [show v = V.non from h]; exact .non
  | some i => rw [show v = V.str i from h]; exact .str _, fun x y => by cases x <;> cases y <;> simp [PyData.eqv]⟩
instance {α : Type} [EqD α] : EqD (List α) := ⟨fun xs => .list (xs.map EqD.toD), fun h f => by
  obtain ⟨p, vs, rfl, h1, h2⟩ := h
  exact .lst (sql_mono f h1) (DpR f h2), fun x y => eqv_all x y⟩
instance {α : Type} [EqD α] : EqD (Tu α) := ⟨fun xs => .tuple (xs.l.map EqD.toD), fun h f => by
  obtain ⟨p, vs, rfl, h1, h2⟩ := h
  exact .tup (sqt_mono f h1) (DpR f h2), fun x y => by
    obtain ⟨x⟩ := x
    obtain ⟨y⟩ := y
    show PyData.eqvAll _ _ = true ↔ _
    rw [eqv_all]; simp⟩
instance {α β : Type} [EqD α] [EqD β] : EqD (α × β) := ⟨fun x => .tuple [EqD.toD x.1, EqD.toD x.2], fun h f => by
  obtain ⟨p, v1, v2, rfl, h0, h1, h2⟩ := h
  exact .tup (sqt_mono f h0) (.cons (EqD.dp h1 f) (.cons (EqD.dp h2 f) .nil)), fun x y => by
    obtain ⟨x1, x2⟩ := x
    obtain ⟨y1, y2⟩ := y
    show (PyData.eqv _ _ && (PyData.eqv _ _ && true)) = true ↔ _
    rw [Bool.and_eq_true, Bool.and_eq_true, EqD.eqv, EqD.eqv]; simp⟩
instance {α β γ : Type} [EqD α] [EqD β] [EqD γ] : EqD (T3 α β γ) := ⟨fun x => .tuple [EqD.toD x.a, EqD.toD x.b, EqD.toD x.c], fun h f => by
  obtain ⟨p, v1, v2, v3, rfl, h0, h1, h2, h3⟩ := h
  exact .tup (sqt_mono f h0) (.cons (EqD.dp h1 f) (.cons (EqD.dp h2 f) (.cons (EqD.dp h3 f) .nil))), fun x y => by
    obtain ⟨x1, x2, x3⟩ := x
    obtain ⟨y1, y2, y3⟩ := y
    show (PyData.eqv _ _ && (PyData.eqv _ _ && (PyData.eqv _ _ && true))) = true ↔ _
    rw [Bool.and_eq_true, Bool.and_eq_true, Bool.and_eq_true, EqD.eqv, EqD.eqv, EqD.eqv]; simp⟩
instance {α : Type} [EqD α] : EqD (T1 α) := ⟨fun x => .tuple [EqD.toD x.a], fun h f => by
  obtain ⟨p, v1, rfl, h0, h1⟩ := h
  exact .tup (sqt_mono f h0) (.cons (EqD.dp h1 f) .nil), fun x y => by
    obtain ⟨x1⟩ := x
    obtain ⟨y1⟩ := y
    show (PyData.eqv _ _ && true) = true ↔ _
    rw [Bool.and_eq_true, EqD.eqv]; simp⟩
def shp {α : Type} [EqD α] (x : α) : Prop := SeqAt.shaped (EqD.toD x) = true
theorem eqv_dec {α : Type} [EqD α] [DecidableEq α] (x y : α) : PyData.eqv (EqD.toD x) (EqD.toD y) = decide (x = y) := by
  rw [Bool.eq_iff_iff, EqD.eqv, decide_eq_true_eq]
theorem repR_d {α : Type} [EqD α] {K : PySem.W.Frag} {v : V} {xs : List α} (h : RepR K s v xs) : Dp K s.H v (EqD.toD xs) := by
  obtain ⟨p, vs, rfl, h1, h2⟩ := h
  exact .lst h1 (DpR s.sub h2)
theorem hu64 {j : Nat} (hr : Room j X.A) : X.A.units + 64 < cLine := by
  have := hr.un
  omega
theorem eb_eqD [EqD α] [DecidableEq α] {x y : α} {j : Nat} (hr : Room j X.A) (ha : Ev X a σ s x) (hb : Ev X b σ s y) (h1 : shp x) (h2 : shp y) : EvB X (.Compare a [.Eq] [b] pos) σ s (decide (x = y)) :=
  eb_cmp (op_eqD (hu64 hr)) ha hb (fun v u s2 hv hu Q q => ⟨_, _, EqD.dp hv s2.sub, EqD.dp hu s2.sub, h1, h2, by rw [eqv_dec]; exact q⟩) (nomark _)
theorem eb_neD [EqD α] [DecidableEq α] {x y : α} {j : Nat} (hr : Room j X.A) (ha : Ev X a σ s x) (hb : Ev X b σ s y) (h1 : shp x) (h2 : shp y) : EvB X (.Compare a [.NotEq] [b] pos) σ s (!decide (x = y)) :=
  eb_cmp (op_neD (hu64 hr)) ha hb (fun v u s2 hv hu Q q => ⟨_, _, EqD.dp hv s2.sub, EqD.dp hu s2.sub, h1, h2, by rw [eqv_dec]; exact q⟩) (nomark _)
theorem eb_eqL [EqD α] [DecidableEq α] {x y : List α} {j : Nat} (hr : Room j X.A) (ha : EvR X a σ s x) (hb : EvR X b σ s y) (h1 : shp x) (h2 : shp y) : EvB X (.Compare a [.Eq] [b] pos) σ s (decide (x = y)) :=
  eb_cmpRR (op_eqD (hu64 hr)) ha hb (fun v u s2 hv hu Q q => ⟨_, _, repR_d hv, repR_d hu, h1, h2, by rw [eqv_dec]; exact q⟩) (nomark _)
theorem eb_neL [EqD α] [DecidableEq α] {x y : List α} {j : Nat} (hr : Room j X.A) (ha : EvR X a σ s x) (hb : EvR X b σ s y) (h1 : shp x) (h2 : shp y) : EvB X (.Compare a [.NotEq] [b] pos) σ s (!decide (x = y)) :=
  eb_cmpRR (op_neD (hu64 hr)) ha hb (fun v u s2 hv hu Q q => ⟨_, _, repR_d hv, repR_d hu, h1, h2, by rw [eqv_dec]; exact q⟩) (nomark _)
end

class Shp (α : Type) (n : outParam Nat) extends EqD α where
  ok : ∀ x : α, PyData.canLay0 (EqD.toD x) = true ∧ PyData.depth (EqD.toD x) ≤ n
theorem shp_all {α : Type} {n : Nat} [Shp α n] : ∀ xs : List α, PyData.canLayAll0 (xs.map EqD.toD) = true ∧ PyData.depthAll (xs.map EqD.toD) ≤ n
  | [] => ⟨by simp [PyData.canLayAll0], by simp [PyData.depthAll]⟩
  | x :: xs => by
    obtain ⟨h1, h2⟩ := shp_all xs
    obtain ⟨h3, h4⟩ := Shp.ok x
    refine ⟨?_, ?_⟩
    · show PyData.canLayAll0 (EqD.toD x :: xs.map EqD.toD) = true
      unfold PyData.canLayAll0
      rw [h3, h1]; rfl
    · show PyData.depthAll (EqD.toD x :: xs.map EqD.toD) ≤ n
      unfold PyData.depthAll
      omega
instance : Shp Int 0 := ⟨fun x => ⟨by show PyData.canLay0 (.int x) = true; unfold PyData.canLay0; rfl, by show PyData.depth (.int x) ≤ 0; unfold PyData.depth; omega⟩⟩
instance : Shp Bool 0 := ⟨fun x => ⟨by show PyData.canLay0 (.bool x) = true; unfold PyData.canLay0; rfl, by show PyData.depth (.bool x) ≤ 0; unfold PyData.depth; omega⟩⟩
instance : Shp (Option Int) 0 := ⟨fun x => by
  cases x with
  | none => exact ⟨by show PyData.canLay0 .none = true; unfold PyData.canLay0; rfl, by show PyData.depth .none ≤ 0; unfold PyData.depth; omega⟩
  | some i => exact ⟨by show PyData.canLay0 (.int i) = true; unfold PyData.canLay0; rfl, by show PyData.depth (.int i) ≤ 0; unfold PyData.depth; omega⟩⟩
instance {α : Type} {n : Nat} [Shp α n] : Shp (List α) (n + 1) := ⟨fun x => by
  obtain ⟨h1, h2⟩ := shp_all x
  refine ⟨?_, ?_⟩
  · show PyData.canLay0 (.list (x.map EqD.toD)) = true
    unfold PyData.canLay0; exact h1
  · show PyData.depth (.list (x.map EqD.toD)) ≤ n + 1
    unfold PyData.depth; omega⟩
instance {α : Type} {n : Nat} [Shp α n] : Shp (Tu α) (n + 1) := ⟨fun x => by
  obtain ⟨h1, h2⟩ := shp_all x.l
  refine ⟨?_, ?_⟩
  · show PyData.canLay0 (.tuple (x.l.map EqD.toD)) = true
    unfold PyData.canLay0; exact h1
  · show PyData.depth (.tuple (x.l.map EqD.toD)) ≤ n + 1
    unfold PyData.depth; omega⟩
instance {α β : Type} {n m : Nat} [Shp α n] [Shp β m] : Shp (α × β) (n + m + 1) := ⟨fun x => by
  obtain ⟨h1, h2⟩ := Shp.ok x.1
  obtain ⟨h3, h4⟩ := Shp.ok x.2
  refine ⟨?_, ?_⟩
  · show PyData.canLay0 (.tuple [EqD.toD x.1, EqD.toD x.2]) = true
    simp [PyData.canLay0, PyData.canLayAll0, h1, h3]
  · show PyData.depth (.tuple [EqD.toD x.1, EqD.toD x.2]) ≤ n + m + 1
    simp [PyData.depth, PyData.depthAll]
    omega⟩
instance {α : Type} {n : Nat} [Shp α n] : Shp (T1 α) (n + 1) := ⟨fun x => by
  obtain ⟨h1, h2⟩ := Shp.ok x.a
  refine ⟨?_, ?_⟩
  · show PyData.canLay0 (.tuple [EqD.toD x.a]) = true
    simp [PyData.canLay0, PyData.canLayAll0, h1]
  · show PyData.depth (.tuple [EqD.toD x.a]) ≤ n + 1
    simp [PyData.depth, PyData.depthAll]
    omega⟩
theorem shp_of {α : Type} {n : Nat} [Shp α n] (x : α) (h : n ≤ 64 := by decide) : shp x := by
  obtain ⟨h1, h2⟩ := Shp.ok x
  unfold shp SeqAt.shaped
  rw [h1, decide_eq_true (Nat.le_trans h2 h)]; rfl

def spLaw (K : PySem.W.Frag) : Sp := fun vs H Q _ => ∃ (a : Addr) (ns : List Int), vs = [.ref a] ∧ SqL K H a (ns.map V.int) ∧ ns.length ≤ 63 ∧ ∀ H', Q (.bl true) H'
theorem law_of {P : Program} {w : World} {K : PySem.W.Frag} {mg : Str → Option Value} {base : Heap} {CX : CXT} {k : Nat} {f : Addr} {fd : FuncData} {ps : List Str} {m : List Int × Unit → Option Bool} (F : FnOk P w K mg base CX k f fd ps (sp K m)) (h : ∀ ns : List Int, ns.length ≤ 63 → m (ns, ()) = some true) : FnOk P w K mg base CX k f fd ps (spLaw K) :=
  F.imp fun vs H Q E ⟨a, ns, e, hs, hl, q⟩ => by
    subst e
    exact ⟨⟨H, H, fun _ _ h => h⟩, (ns, ()), true, rfl, ⟨.ref a, [], rfl, ⟨a, ns.map V.int, rfl, hs, Reps.of_flat ns⟩, rfl⟩, h ns hl, fun v s' _ r => by rw [show v = V.bl true from r]; exact q _⟩
end Dy

namespace Dy
open PySem PySem.Spec L2
open PyProof.Rows hiding St
open Enc (rep)
open Flat (toV)
open EncA (repA)

def strI (x : Int) : Str := toString x
noncomputable def sortI (xs : List Int) : List Int := xs.mergeSort (fun x y => decide (x ≤ y))
def Fl.go {β ρ γ : Type} (o : Fl β ρ) (k : β → γ) (e : ρ → γ) : γ := match o with
  | .nx b => k b
  | .rt r => e r
@[irreducible] def fuel : Nat := 1000000
theorem rng_mem {a b x : Int} (h : x ∈ rng a b) : a ≤ x ∧ x < b := by
  obtain ⟨i, hi⟩ := List.mem_iff_getElem?.mp h
  obtain ⟨h1, h2⟩ := rng_get hi
  omega
theorem frzE {s0 s s' : S} {p : Addr} (E : Ex s0 s) (n : s0.H p = none) (h1 : s'.H = s.H) (h2 : Fle s.F s'.F) (h3 : ∀ q, q ≠ p → s'.F q = s.F q) : Ex s0 s' :=
  ⟨E.f.trans h2, fun a o h => by rw [h1]; exact E.h a o h, fun a o h m => by rw [h3 a (ne_of_none h n)]; exact E.n a o h m⟩
theorem ownFrz {α : Type} [Enc α] {K : PySem.W.Frag} {s s' : S} {p q : Addr} {xs : List α} (o : Own K s q xs) (hne : q ≠ p) (h1 : s'.H = s.H) (h2 : Fle s.F s'.F) (h3 : ∀ q, q ≠ p → s'.F q = s.F q) : Own K s' q xs := by
  obtain ⟨hn, vs, hp, r⟩ := o
  exact ⟨by rw [h3 q hne]; exact hn, vs, by rw [h1]; exact hp, r.mono h2⟩
section
variable {α β γ δ ε : Type} [Enc α] [Enc β] [Enc γ] [Enc δ] [Enc ε] {X : Cx} {σ : St} {s t : S} {e a b c tg iter : Expr} {es : List Expr} {pos p0 p1 p2 p3 : Pos} {D : Ends} {rest A B body : List Stmt}
theorem ec_andO {x r : Bool} (h : EvB X a σ s x) (h2 : x = true → EvC X (.BoolOp .And (b :: es) pos) σ s r) (h3 : x = false → r = false) : EvC X (.BoolOp .And (a :: b :: es) pos) σ s r := by
  cases x with
  | true => exact (ec_and h h2 : EvC X _ σ s (true && r))
  | false =>
    have := ec_and (y := false) (es := es) (b := b) (pos := pos) h (fun z => Bool.noConfusion z)
    rw [h3 rfl]
    exact this
theorem ec_orO {x r : Bool} (h : EvB X a σ s x) (h2 : x = false → EvC X (.BoolOp .Or (b :: es) pos) σ s r) (h3 : x = true → r = true) : EvC X (.BoolOp .Or (a :: b :: es) pos) σ s r := by
  cases x with
  | false => exact (ec_or h h2 : EvC X _ σ s (false || r))
  | true =>
    have := ec_or (y := true) (es := es) (b := b) (pos := pos) h (fun z => Bool.noConfusion z)
    rw [h3 rfl]
    exact this
theorem et_tru {xs : List α} (h : EvR X e σ s xs) (he : ∀ whole, isTrue e X.env whole = (do let v ← whole; standAt e.pos; holding [v] (truthy v)) := by intro _; rfl) : EvT X e σ s (!xs.isEmpty) := fun s1 k Q q =>
  wt_of (pt_truth pe_we he) (h s1 k _ fun v s2 k2 r => by
    obtain ⟨p, vs, rfl, h1, h2⟩ := r
    refine ⟨_, .inl ⟨vs, h1, ?_⟩, q s2 k2⟩
    have := h2.len
    cases vs <;> cases xs <;> simp at this ⊢)
theorem isi_optT {τ : Type} [Ty τ] (x : Option τ) {T : String} (h1 : ∀ y : τ, kitB (Ty.ty y) T = some true) (h2 : kitB "NoneType" T = some false) : kitB (Ty.ty x) T = some x.isSome := by
  cases x with
  | none => exact h2
  | some y => exact h1 y
theorem isi_optF {τ : Type} [Ty τ] (x : Option τ) {T : String} (h1 : ∀ y : τ, kitB (Ty.ty y) T = some false) (h2 : kitB "NoneType" T = some false) : kitB (Ty.ty x) T = some false := by
  cases x with
  | none => exact h2
  | some y => exact h1 y
theorem en_rev {xs : List α} {k q1 q2 q3} (ha : EvR X e σ s xs) : EvN X (.Subscript e (.Slice none none (some (.UnaryOp .USub (.Constant (.int 1) k q1) q2)) q3) pos) σ s xs.reverse := fun s1 k1 Q q =>
  we_of (pe_revL pe_we) (ha s1 k1 _ fun v s2 k2 r2 => by
    obtain ⟨p, vs, rfl, h1, h2⟩ := r2
    exact ⟨p, vs, rfl, h1, fun l hl => q l (s2.newO l _ hl) (k2.trans (Ex.newO hl)) (fr_back k2 hl) (own_new hl h2.rev)⟩)
theorem do_drop {x : α} (h : Ev X e σ s x) (k : ∀ s1, Ex s s1 → WSs X rest D σ s1.H) (hs : swapsWith e none pos.line X.env = pure false := by rfl) : WSs X (.Expr e pos :: rest) D σ s.H :=
  do_cons (ps_expr pe_we hs) (h s (Ex.refl _) _ fun v s1 k1 r => k s1 k1)
theorem do_unp2 (i j : Nat) {x : α × β} (h : Ev X e σ s x) (k : ∀ v w s1, Ex s s1 → rep X.K s1.F v x.1 → rep X.K s1.F w x.2 → WSs X rest D ((σ.set i (some v)).set j (some w)) s1.H)
    (hg : PG X tg (gTup X.K 2 (gCons (gName i) (gCons (gName j) gNil)))) (hs : swapsWithSole [tg] e pos.line X.env = pure false := by rfl) (hw : swappedStores [tg] e X.env = pure none := by rfl)
    (h1 : (assignEach [tg] X.env).map (·.2) = [assign tg X.env] := by rfl) : WSs X (.Assign [tg] e pos :: rest) D σ s.H :=
  do_cons (ps_asg pe_we hg hs hw h1) (h s (Ex.refl _) _ fun v s1 k1 r => by
    obtain ⟨p, v1, v2, rfl, h0, h1, h2⟩ := r
    exact ⟨p, _, rfl, sqt_mono s1.sub h0, rfl, v1, _, rfl, v2, _, rfl, rfl, k v1 v2 s1 k1 h1 h2⟩)
theorem do_unp3 (i j l : Nat) {x : T3 α β γ} (h : Ev X e σ s x) (k : ∀ v w u s1, Ex s s1 → rep X.K s1.F v x.a → rep X.K s1.F w x.b → rep X.K s1.F u x.c → WSs X rest D (((σ.set i (some v)).set j (some w)).set l (some u)) s1.H)
    (hg : PG X tg (gTup X.K 3 (gCons (gName i) (gCons (gName j) (gCons (gName l) gNil))))) (hs : swapsWithSole [tg] e pos.line X.env = pure false := by rfl) (hw : swappedStores [tg] e X.env = pure none := by rfl)
    (h1 : (assignEach [tg] X.env).map (·.2) = [assign tg X.env] := by rfl) : WSs X (.Assign [tg] e pos :: rest) D σ s.H :=
  do_cons (ps_asg pe_we hg hs hw h1) (h s (Ex.refl _) _ fun v s1 k1 r => by
    obtain ⟨p, v1, v2, v3, rfl, h0, h1, h2, h3⟩ := r
    exact ⟨p, _, rfl, sqt_mono s1.sub h0, rfl, v1, _, rfl, v2, _, rfl, v3, _, rfl, rfl, k v1 v2 v3 s1 k1 h1 h2 h3⟩)
theorem do_whileF {υ ρ : Type} {cf : υ → Option Bool} {f : υ → Option (Fl υ ρ)} {n : Nat} {b0 : υ} {o : Fl υ ρ} (hp : PassesOwn (model X.prog X.w) X.A X.env X.xe) (hf : whileF cf f n b0 = some o) (R : υ → St → S → Prop) (h0 : R b0 σ s)
    (hc : ∀ (b : υ) (x : Bool) (σ' : St) (t : S), cf b = some x → Fle s.F t.F → R b σ' t → EvT X c σ' t x)
    (hb : ∀ (b : υ) (q : Fl υ ρ) (σ' : St) (t t' : S), cf b = some true → f b = some q → (∀ r, q = .rt r → o = .rt r) → Fle s.F t.F → R b σ' t → Ex t t' → WSs X body (LD D fun σ s => ∃ b', q = .nx b' ∧ Fle t'.F s.F ∧ R b' σ s) σ' t'.H)
    (hd : ∀ b1 σ' t t', o = .nx b1 → cf b1 = some false → Fle s.F t.F → R b1 σ' t → Ex t t' → WSs X rest D σ' t'.H) : WSs X (.While c body [] pos :: rest) D σ s.H :=
  do_cons (ps_while hp pt_wt pss_ws) (by
    refine ⟨fun m σ' H' => ∃ (t : S) (b : υ), t.H = H' ∧ Fle s.F t.F ∧ whileF cf f m b = some o ∧ R b σ' t, ⟨n, s, b0, rfl, Fle.refl _, hf, h0⟩, ?_⟩
    rintro m σ' H' ⟨t, b, rfl, fl, h1, h2⟩
    cases m with
    | zero => cases h1
    | succ m =>
      obtain ⟨x, h3, h4⟩ := bndE h1
      refine hc b x σ' t h3 fl h2 t (Ex.refl _) _ fun t' kt => ?_
      cases x with
      | true =>
        refine iteT ?_
        rw [if_pos rfl] at h4
        obtain ⟨q, h5, h6⟩ := bndE h4
        refine ⟨fun σ3 H3 => ∃ b', q = .nx b' ∧ ∃ u : S, u.H = H3 ∧ Fle s.F u.F ∧ R b' σ3 u, fun σ3 H3 ⟨b', e0, u, e1, f1, r1⟩ => ⟨m, Nat.lt_succ_self _, u, b', e1, f1, by subst e0; exact h6, r1⟩, ?_⟩
        exact (hb b q σ' t t' h3 h5 (fun r e0 => by subst e0; exact (Option.some.inj h6).symm) fl h2 kt).imp (fun σ3 H3 ⟨u, e1, b', e2, f1, r1⟩ => ⟨b', e2, u, e1, (fl.trans kt.f).trans f1, r1⟩) (fun _ _ q => q) (fun _ _ q => q.elim) (fun _ _ q => q.elim)
      | false =>
        refine iteF ?_
        rw [if_neg Bool.false_ne_true] at h4
        cases h4
        exact hd b σ' t t' rfl h3 fl h2 kt)
end
end Dy

namespace Dy
open PySem PySem.Spec L2
open PyProof.Rows hiding St

def Ok {α : Type} (m : Option α) (P : α → Prop) : Prop := ∃ r, m = some r ∧ P r
section
variable {α β γ ρ : Type}
theorem Ok.imp {m : Option α} {P Q : α → Prop} (h : Ok m P) (k : ∀ r, P r → Q r) : Ok m Q := let ⟨r, e, p⟩ := h; ⟨r, e, k r p⟩
theorem Ok.eq {m : Option α} {x : α} (h : Ok m (· = x)) : m = some x := by obtain ⟨r, e, rfl⟩ := h; exact e
theorem ok_eq {m : Option α} {x : α} {P : α → Prop} (h : m = some x) (p : P x) : Ok m P := ⟨x, h, p⟩
theorem ok_some {x : α} {P : α → Prop} (p : P x) : Ok (some x) P := ⟨x, rfl, p⟩
theorem ok_bnd {m : Option α} {f : α → Option β} {P : α → Prop} {Q : β → Prop} (h : Ok m P) (k : ∀ r, P r → Ok (f r) Q) : Ok (bnd m f) Q := by
  obtain ⟨r, e, p⟩ := h
  subst e
  exact k r p
theorem ok_chk {c : Prop} {m : Option α} {Q : α → Prop} (h : c) (k : Ok m Q) : Ok (chk c m) Q := by rw [chk_pos h]; exact k
theorem ok_lt {x : α} {f : α → Option β} {Q : β → Prop} (k : ∀ y, y = x → Ok (f y) Q) : Ok (lt x f) Q := k x rfl
theorem ok_ite {b : Bool} {m k : Option α} {Q : α → Prop} (h1 : b = true → Ok m Q) (h2 : b = false → Ok k Q) : Ok (if b = true then m else k) Q := by
  cases b with
  | true => exact h1 rfl
  | false => exact h2 rfl
theorem ok_andO {a : Bool} {m : Option Bool} {Q : Bool → Prop} (h1 : a = true → Ok m Q) (h2 : a = false → Q false) : Ok (andO a m) Q := by
  cases a with
  | true => exact h1 rfl
  | false => exact ⟨false, rfl, h2 rfl⟩
theorem ok_orO {a : Bool} {m : Option Bool} {Q : Bool → Prop} (h1 : a = false → Ok m Q) (h2 : a = true → Q true) : Ok (orO a m) Q := by
  cases a with
  | false => exact h1 rfl
  | true => exact ⟨true, rfl, h2 rfl⟩
theorem ok_foldO {f : β → α → Option β} (I : Nat → β → Prop) : ∀ {xs : List α} {b : β} {Q : β → Prop}, I 0 b → (∀ i b x, xs[i]? = some x → I i b → Ok (f b x) (I (i + 1))) → (∀ b, I xs.length b → Q b) → Ok (foldO f b xs) Q := by
  have key : ∀ (xs : List α) (b : β) (k : Nat), I k b → (∀ i b x, xs[i]? = some x → I (k + i) b → Ok (f b x) (I (k + i + 1))) → Ok (foldO f b xs) (I (k + xs.length)) := by
    intro xs
    induction xs with
    | nil => intro b k h _; exact ⟨b, rfl, h⟩
    | cons x r ih =>
      intro b k h hs
      refine ok_bnd (hs 0 b x rfl h) fun b' h' => ?_
      have := ih b' (k + 1) h' (fun i b y hy hI => by
        have := hs (i + 1) b y (by simpa using hy) (by rw [show k + (i + 1) = k + 1 + i by omega]; exact hI)
        rw [show k + (i + 1) + 1 = k + 1 + i + 1 by omega] at this
        exact this)
      rw [List.length_cons, show k + (r.length + 1) = k + 1 + r.length by omega]
      exact this
  intro xs b Q h0 hs hd
  have := key xs b 0 h0 (fun i b x hx hI => by
    have := hs i b x hx (by rw [Nat.zero_add] at hI; exact hI)
    rw [Nat.zero_add]; exact this)
  rw [Nat.zero_add] at this
  exact this.imp hd
theorem ok_foldF {f : β → α → Option (Fl β ρ)} (I : Nat → β → Prop) (Rr : ρ → Prop) : ∀ {xs : List α} {b : β} {Q : Fl β ρ → Prop}, I 0 b → (∀ i b x, xs[i]? = some x → I i b → Ok (f b x) (fun o => match o with | .nx b' => I (i + 1) b' | .rt r => Rr r)) →
    (∀ b, I xs.length b → Q (.nx b)) → (∀ r, Rr r → Q (.rt r)) → Ok (foldF f b xs) Q := by
  have key : ∀ (xs : List α) (b : β) (k : Nat), I k b → (∀ i b x, xs[i]? = some x → I (k + i) b → Ok (f b x) (fun o => match o with | .nx b' => I (k + i + 1) b' | .rt r => Rr r)) → Ok (foldF f b xs) (fun o => match o with | .nx b' => I (k + xs.length) b' | .rt r => Rr r) := by
    intro xs
    induction xs with
    | nil => intro b k h _; exact ⟨.nx b, rfl, h⟩
    | cons x r ih =>
      intro b k h hs
      refine ok_bnd (hs 0 b x rfl h) fun o h' => ?_
      cases o with
      | rt r => exact ⟨.rt r, rfl, h'⟩
      | nx b' =>
        have := ih b' (k + 1) h' (fun i b y hy hI => by
          have := hs (i + 1) b y (by simpa using hy) (by rw [show k + (i + 1) = k + 1 + i by omega]; exact hI)
          rw [show k + (i + 1) + 1 = k + 1 + i + 1 by omega] at this
          exact this)
        rw [List.length_cons, show k + (r.length + 1) = k + 1 + r.length by omega]
        exact this
  intro xs b Q h0 hs hd hr
  have := key xs b 0 h0 (fun i b x hx hI => by
    have := hs i b x hx (by rw [Nat.zero_add] at hI; exact hI)
    rw [Nat.zero_add]; exact this)
  rw [Nat.zero_add] at this
  refine this.imp fun o h => ?_
  cases o with
  | nx b => exact hd b h
  | rt r => exact hr r h
theorem ok_go {o : Fl β ρ} {k : β → Option γ} {e : ρ → Option γ} {Q : γ → Prop} (h1 : ∀ b, o = .nx b → Ok (k b) Q) (h2 : ∀ r, o = .rt r → Ok (e r) Q) : Ok (o.go k e) Q := by
  cases o with
  | nx b => exact h1 b rfl
  | rt r => exact h2 r rfl
theorem ok_compO {t : α → Option Bool} {f : α → Option β} {P : α → β → Prop} {T : α → Bool} : ∀ {xs : List α}, (∀ x ∈ xs, Ok (t x) (· = T x)) → (∀ x ∈ xs, T x = true → Ok (f x) (P x)) → Ok (compO t f xs) (fun ys => ys.length = (xs.filter T).length ∧ ∀ (i : Nat) (y : β), ys[i]? = some y → ∃ x, (xs.filter T)[i]? = some x ∧ P x y)
  | [], _, _ => ⟨[], rfl, rfl, fun i y h => by simp at h⟩
  | x :: r, h1, h2 => by
    unfold compO
    refine ok_bnd (h1 x List.mem_cons_self) fun b hb => ?_
    subst hb
    have ih := ok_compO (xs := r) (fun z hz => h1 z (List.mem_cons_of_mem _ hz)) (fun z hz => h2 z (List.mem_cons_of_mem _ hz))
    refine ok_ite (fun hb => ?_) (fun hb => ?_)
    · refine ok_bnd (h2 x List.mem_cons_self hb) fun y hy => ?_
      refine ok_bnd ih fun ys ⟨e1, e2⟩ => ok_some ?_
      rw [List.filter_cons, if_pos hb]
      refine ⟨by simp [e1], fun i z hz => ?_⟩
      cases i with
      | zero => simp at hz; subst hz; exact ⟨x, rfl, hy⟩
      | succ i => exact e2 i z (by simpa using hz)
    · rw [List.filter_cons, if_neg (by rw [hb]; exact Bool.false_ne_true)]
      exact ih
theorem ok_mapO {f : α → Option β} {P : α → β → Prop} {xs : List α} (h : ∀ x ∈ xs, Ok (f x) (P x)) : Ok (mapO f xs) (fun ys => ys.length = xs.length ∧ ∀ (i : Nat) (y : β), ys[i]? = some y → ∃ x, xs[i]? = some x ∧ P x y) := by
  have := ok_compO (t := fun _ => some true) (T := fun _ => true) (xs := xs) (fun x _ => ok_some rfl) (fun x hx _ => h x hx)
  rw [show xs.filter (fun _ => true) = xs from List.filter_eq_self.mpr (fun _ _ => rfl)] at this
  exact this
theorem mapO_eq {f : α → Option β} {g : α → β} : ∀ {xs : List α}, (∀ x ∈ xs, f x = some (g x)) → mapO f xs = some (xs.map g)
  | [], _ => rfl
  | x :: r, h => by
    have ih := mapO_eq (xs := r) (fun z hz => h z (List.mem_cons_of_mem _ hz))
    unfold mapO at ih ⊢
    unfold compO
    rw [Option.bind_some, if_pos rfl, h x List.mem_cons_self, Option.bind_some, ih]
    rfl
theorem compO_eq {t : α → Option Bool} {T : α → Bool} {f : α → Option β} {g : α → β} : ∀ {xs : List α}, (∀ x ∈ xs, t x = some (T x)) → (∀ x ∈ xs, T x = true → f x = some (g x)) → compO t f xs = some ((xs.filter T).map g)
  | [], _, _ => rfl
  | x :: r, h1, h2 => by
    have ih := compO_eq (xs := r) (fun z hz => h1 z (List.mem_cons_of_mem _ hz)) (fun z hz => h2 z (List.mem_cons_of_mem _ hz))
    unfold compO
    rw [h1 x List.mem_cons_self, Option.bind_some, List.filter_cons]
    cases hT : T x with
    | true => rw [if_pos rfl, if_pos rfl, h2 x List.mem_cons_self hT, Option.bind_some, ih]; rfl
    | false => rw [if_neg Bool.false_ne_true, if_neg Bool.false_ne_true, ih]
theorem foldO_eq {f : β → α → Option β} {g : β → α → β} : ∀ {xs : List α} {b : β}, (∀ b, ∀ x ∈ xs, f b x = some (g b x)) → foldO f b xs = some (xs.foldl g b)
  | [], _, _ => rfl
  | x :: r, b, h => by
    unfold foldO
    rw [h b x List.mem_cons_self, Option.bind_some, foldO_eq (xs := r) (fun b z hz => h b z (List.mem_cons_of_mem _ hz))]
    rfl
theorem ok_whileO {c : β → Option Bool} {f : β → Option β} (I : β → Prop) (μ : β → Nat) {Q : β → Prop} (hc : ∀ b, I b → Ok (c b) (fun t => if t = true then Ok (f b) (fun b' => I b' ∧ μ b' < μ b) else Q b)) : ∀ (n : Nat) (b : β), I b → μ b < n → Ok (whileO c f n b) Q
  | 0, b, _, h => absurd h (Nat.not_lt_zero _)
  | n + 1, b, hI, h => by
    unfold whileO
    refine ok_bnd (hc b hI) fun t ht => ?_
    cases t with
    | true =>
      rw [if_pos rfl] at ht ⊢
      exact ok_bnd ht fun b' ⟨h1, h2⟩ => ok_whileO I μ hc n b' h1 (by omega)
    | false =>
      rw [if_neg Bool.false_ne_true] at ht ⊢
      exact ok_some ht
theorem ok_whileF {c : β → Option Bool} {f : β → Option (Fl β ρ)} (I : β → Prop) (μ : β → Nat) {Q : Fl β ρ → Prop} (hc : ∀ b, I b → Ok (c b) (fun t => if t = true then Ok (f b) (fun o => match o with | .nx b' => I b' ∧ μ b' < μ b | .rt r => Q (.rt r)) else Q (.nx b))) : ∀ (n : Nat) (b : β), I b → μ b < n → Ok (whileF c f n b) Q
  | 0, b, _, h => absurd h (Nat.not_lt_zero _)
  | n + 1, b, hI, h => by
    unfold whileF
    refine ok_bnd (hc b hI) fun t ht => ?_
    cases t with
    | true =>
      rw [if_pos rfl] at ht ⊢
      refine ok_bnd ht fun o ho => ?_
      cases o with
      | nx b' => exact ok_whileF I μ hc n b' ho.1 (by have := ho.2; omega)
      | rt r => exact ok_some ho
    | false =>
      rw [if_neg Bool.false_ne_true] at ht ⊢
      exact ok_some ht
theorem fuel_eq : fuel = 1000000 := by unfold fuel; rfl
theorem mul_l {x y : Int} (h1 : -1000000000000000000 < x) (h2 : x < 1000000000000000000) : MulOk x y := .inl (.inl ⟨by omega, by omega⟩)
theorem mul_r {x y : Int} (h1 : -1000000000000000000 < y) (h2 : y < 1000000000000000000) : MulOk x y := .inl (.inr ⟨by omega, by omega⟩)
set_option exponentiation.threshold 10000 in
theorem div_small {y : Int} (h1 : 0 < y) (h2 : y < 1000000000000000000) : DivOk y := ⟨h1, PySem.Flt.log2_lt_of (by decide) (show y.natAbs < 2 ^ 9000 from Nat.lt_of_lt_of_le (show y.natAbs < 2 ^ 64 by omega) (Nat.pow_le_pow_right (by decide) (by decide)))⟩
theorem szl : sizeLine = 16777216 := rfl
theorem atI_get {xs : List α} {i : Int} (h0 : 0 ≤ i) (h1 : i < xs.length) : atI xs i = xs[i.toNat]? := by
  unfold atI ixN
  rw [if_pos h0, if_pos h1]; rfl
theorem ok_atI {xs : List α} {i : Int} {Q : α → Prop} (h0 : 0 ≤ i) (h1 : i < xs.length) (h : ∀ x, xs[i.toNat]? = some x → Q x) : Ok (atI xs i) Q := by
  rw [atI_get h0 h1]
  have hl : i.toNat < xs.length := by omega
  exact ⟨xs[i.toNat], List.getElem?_eq_getElem hl, h _ (List.getElem?_eq_getElem hl)⟩
theorem cut_len_le (xs : List α) (lo hi : Option Int) : (cut xs lo hi).length ≤ xs.length := by
  unfold cut
  rw [List.length_take, List.length_drop]
  omega
theorem cut_hi (xs : List α) (n : Nat) : cut xs none (some (n : Int)) = xs.take n := by
  unfold cut
  rw [HT.sIx_none, show HT.sIx xs.length xs.length (some (n : Int)) = min n xs.length from HT.sIx_nat xs.length xs.length n]
  simp only [List.drop_zero, Nat.sub_zero]
  by_cases h : n ≤ xs.length
  · rw [Nat.min_eq_left h]
  · rw [Nat.min_eq_right (by omega), List.take_of_length_le (Nat.le_refl _), List.take_of_length_le (by omega)]
theorem rng_len_nn {n : Int} (h : 0 ≤ n) : (rng 0 n).length = n.toNat := by rw [rng_len]; congr 1; omega
theorem rng_at {a b : Int} {i : Nat} {x : Int} (h : (rng a b)[i]? = some x) : x = a + (i : Int) ∧ a + (i : Int) < b := by
  obtain ⟨h1, h2⟩ := rng_get h
  omega
end
theorem chars_len (x : Str) : (chars x).length = x.length := by
  unfold chars
  rw [List.length_map, Array.length_toList]; rfl
theorem join_len0 (ys : List Str) : (Txt.join ("" : Str) ys).length = (ys.map (·.length)).sum := by
  have h : ∀ z : Str, z.length = (TL.tl z).length := fun z => by show z.cps.size = z.cps.toList.length; rw [Array.length_toList]
  have key : ∀ ps : List (List Nat), (TL.joinL [] ps).length = (ps.map List.length).sum := by
    intro ps
    induction ps with
    | nil => rfl
    | cons p r ih =>
      cases r with
      | nil => simp [TL.joinL]
      | cons q r =>
        have e : TL.joinL [] (p :: q :: r) = p ++ ([] ++ TL.joinL [] (q :: r)) := by simp [TL.joinL]
        rw [e, List.nil_append, List.length_append, ih]; rfl
  rw [h, TL.join_eq, TL.tl_join, show TL.tl ("" : Str) = [] from rfl, key, List.map_map]
  exact congrArg List.sum (List.map_congr_left fun z _ => (h z).symm)
theorem sum_ones {ys : List Str} (h : ∀ y ∈ ys, y.length = 1) : (ys.map (·.length)).sum = ys.length := by
  induction ys with
  | nil => rfl
  | cons y r ih =>
    rw [List.map_cons, List.sum_cons, ih fun z hz => h z (List.mem_cons_of_mem _ hz), h y List.mem_cons_self, List.length_cons]
    omega
theorem foldF_any {α ρ : Type} {p : α → Bool} {f : Unit → α → Option (Fl Unit ρ)} {r : ρ} (h : ∀ x, f () x = if p x = true then some (.rt r) else some (.nx ())) : ∀ xs : List α, foldF f () xs = some (if xs.any p = true then .rt r else .nx ())
  | [] => rfl
  | x :: xs => by
    unfold foldF
    rw [h x, List.any_cons]
    cases hp : p x with
    | true => rfl
    | false =>
      rw [if_neg Bool.false_ne_true]
      show foldF f () xs = _
      rw [foldF_any h xs, Bool.false_or]
end Dy

namespace Dy
open PySem PySem.Spec L2
open PyProof.Rows hiding St
open Enc (rep)
open Flat (toV)
open EncA (repA)

section
variable {α β γ δ : Type} [Enc α] [Enc β] [Enc γ] [Enc δ] {X : Cx} {σ : St} {s t : S} {e a b c tg iter : Expr} {es : List Expr} {pos p0 p1 p2 p3 : Pos} {D : Ends} {rest A B body : List Stmt}
def RepS (x : Str) (n : Int) : Prop := PySem.MulOk x n
def replS (x : Str) (n : Int) : Str := Txt.mul x n
theorem op_repStr : OpR X (binaryOp .Mult) (fun x y H Q => ∃ z n, x = .str z ∧ y = .int n ∧ RepS z n ∧ Q (.str (replS z n)) H) := by
  intro pins s σ H x y v u Q I rx ry h
  obtain ⟨z, n, rfl, rfl, hok, q⟩ := h
  obtain ⟨t, rfl⟩ := rx
  obtain ⟨t', rfl⟩ := ry
  exact PySem.SB.mul hok fun t' k => ⟨.str _, H, I.tok _, ⟨_, rfl⟩, q⟩
theorem ev_repS {x : Str} {n : Int} (ha : Ev X a σ s x) (hb : Ev X b σ s n) (h : RepS x n) : Ev X (.BinOp a .Mult b pos) σ s (replS x n) :=
  ev_op op_repStr ha hb fun v u s2 hv hu Q q => ⟨x, n, hv, hu, h, q _ s2 (Ex.refl _) rfl⟩
theorem repS_small {x : Str} {n : Int} (h0 : x.length ≤ 1000) (h1 : n ≤ 1000) (h2 : -1000 ≤ n) : RepS x n := by
  refine ⟨by rw [Bool.or_eq_false_iff]; exact ⟨decide_eq_false (by omega), decide_eq_false (by omega)⟩, fun h3 _ => ?_, fun h3 _ => ?_⟩
  · intro h
    have : (2 ^ 63 - 1) / n ≥ 1000 := by
      refine (Int.le_ediv_iff_mul_le (by omega)).mpr ?_
      omega
    omega
  · unfold Builtin.Str.tooLong
    have : x.length * n.toNat ≤ 1000 * 1000 := Nat.mul_le_mul h0 (by omega)
    refine decide_eq_false ?_
    have := szl
    omega
def stepN (a b c : Int) : Nat := if a < b then ((b - a - 1) / c + 1).toNat else 0
def rngS (a b c : Int) : List Int := (List.range (stepN a b c)).map fun i : Nat => a + (i : Int) * c
def RgS (a b c : Int) : Prop := (-(2 ^ 61) ≤ a ∧ a < 2 ^ 61) ∧ (-(2 ^ 61) ≤ b ∧ b < 2 ^ 61) ∧ 0 < c ∧ c < 1000000
theorem rgC_of {a b c : Int} (h : RgS a b c) : RgC a b c (stepN a b c) := by
  obtain ⟨⟨h1, h2⟩, ⟨h3, h4⟩, h5, h6⟩ := h
  have hs : Builtin.Range.rangeSize a b c = (stepN a b c : Nat) := by
    unfold Builtin.Range.rangeSize stepN
    rw [if_pos h5]
    split
    · have : 0 ≤ (b - a - 1) / c := Int.ediv_nonneg (by omega) (by omega)
      omega
    · rfl
  refine ⟨by omega, by omega, ?_, hs⟩
  have e1 : a < b → c * ((b - a - 1) / c) ≤ b - a - 1 := fun _ => Int.mul_ediv_self_le (by omega)
  have e2 : a < b → 0 ≤ (b - a - 1) / c := fun _ => Int.ediv_nonneg (by omega) (by omega)
  have e3 : a < b → (b - a - 1) / c ≤ b - a - 1 := fun _ => by
    refine Int.ediv_le_self _ (by omega)
  unfold Builtin.Range.small
  unfold Builtin.Range.rangeSize
  simp only [Builtin.Range.rangeFitsLong, Bool.and_eq_true, Bool.or_eq_true, decide_eq_true_eq, beq_iff_eq, if_pos h5]
  split
  · rename_i hlt
    have e1 := e1 hlt
    have e2 := e2 hlt
    have e3 := e3 hlt
    generalize hq : (b - a - 1) / c = q at *
    have e4 : c * q = q * c := Int.mul_comm _ _
    have e5 : (q + 1) * c = q * c + c := by rw [Int.add_mul]; omega
    have e6 : 0 ≤ c * q := Int.mul_nonneg (by omega) e2
    refine ⟨?_, ?_⟩ <;> omega
  · omega
theorem rngS_get {a b c : Int} {i : Nat} {x : Int} (h : (rngS a b c)[i]? = some x) : i < stepN a b c ∧ x = a + (i : Int) * c := by
  unfold rngS at h
  rw [List.getElem?_map] at h
  obtain ⟨j, h1, rfl⟩ := Option.map_eq_some_iff.mp h
  obtain ⟨h2, h3⟩ := List.getElem?_eq_some_iff.mp h1
  rw [List.length_range] at h2
  rw [List.getElem_range] at h3
  subst h3
  exact ⟨h2, rfl⟩
theorem rngS_len (a b c : Int) : (rngS a b c).length = stepN a b c := by unfold rngS; rw [List.length_map, List.length_range]
theorem ei_range3 {x y z : Int} (hm : X.mg "range" = none) (ha : Ev X a σ s x) (hb : Ev X b σ s y) (hc : Ev X c σ s z) (h : RgS x y z) (hg : Gl X "range" := by rfl)
    (hs : starEach [a, b, c] X.env = (false, eval a X.env) :: starEach [b, c] X.env := by rfl) (hs2 : starEach [b, c] X.env = (false, eval b X.env) :: starEach [c] X.env := by rfl) (hs3 : starEach [c] X.env = (false, eval c X.env) :: starEach [] X.env := by rfl) (hpl : (backTo pos (starEach [b, c] X.env)).any (·.1) = false := by rfl) :
    EvI X tg (.Call (.Name "range" p0) [a, b, c] [] pos) σ s (rngS x y z) := fun s1 k R q =>
  wi_of (pi_range3 hg hm (pa_cons pe_we (pa_cons pe_we (pa_cons pe_we pa_nil hs3) hs2) hs) hs hpl) (ha s1 k _ fun v s2 k2 r2 => hb s2 (k.trans k2) _ fun u s3 k3 r3 => hc s3 ((k.trans k2).trans k3) _ fun w s4 k4 r4 =>
    ⟨x, y, z, stepN x y z, by rw [show v = V.int x from r2, show u = V.int y from r3, show w = V.int z from r4], rgC_of h, q _ s4 ((k2.trans k3).trans k4) ⟨fun i t w f hw => ⟨(rngS_get hw).1, fun v' H' ⟨e1, e2⟩ => ⟨t, e1.symm, Ex.refl _, by rw [e2, (rngS_get hw).2]; rfl⟩⟩, fun i t f hi => by rw [rngS_len] at hi; exact hi⟩⟩)
theorem ev_isiR {xs : List α} {n : Str} {T : String} {r : Bool} (hm : X.mg "isinstance" = none) (hn : X.mg n = none) (hv : bootBuiltins n = some (.type T)) (ha : EvR X a σ s xs) (h : kitB "list" T = some r)
    (hg : Gl X "isinstance" := by rfl) (hgn : Gl X n := by rfl) (he : starEach [a, .Name n p1] X.env = (false, eval a X.env) :: starEach [.Name n p1] X.env := by rfl) (he2 : starEach [.Name n p1] X.env = (false, eval (.Name n p1) X.env) :: starEach [] X.env := by rfl) (hpl : (backTo pos (starEach [.Name n p1] X.env)).any (·.1) = false := by rfl)
    (hnn : n ≠ "__name__" := by decide) (hnd : (n == ("__debug__" : Str)) = false := by decide) :
    Ev X (.Call (.Name "isinstance" p0) [a, .Name n p1] [] pos) σ s r := fun s1 k Q q =>
  we_of (pe_callB call_isi hg hm (by decide +kernel) (pa_cons pe_we (pa_cons (pe_bltn (v := .ty T) hgn hn hv rfl hnn hnd) pa_nil he2) he) (he := he) (hpl := hpl)) (ha s1 k _ fun v s2 k2 r2 => by
    obtain ⟨p, vs, rfl, h1, _⟩ := r2
    exact ⟨.ref p, .ty T, .type "list", .type T, r, rfl, .ty T, sql_ty h1, kit_ty h, q _ s2 k2 rfl⟩)
theorem eb_isB {x y : Bool} (ha : Ev X a σ s x) (hb : Ev X b σ s y) : EvB X (.Compare a [.Is] [b] pos) σ s (decide (x = y)) :=
  eb_cmp op_isBl ha hb (fun v u s2 hv hu Q q => ⟨x, y, hv, hu, q⟩) (nomark _)
theorem eb_isnotB {x y : Bool} (ha : Ev X a σ s x) (hb : Ev X b σ s y) : EvB X (.Compare a [.IsNot] [b] pos) σ s (!decide (x = y)) :=
  eb_cmp op_notBl ha hb (fun v u s2 hv hu Q q => ⟨x, y, hv, hu, q⟩) (nomark _)
theorem ev_sliceT {x : Tu α} {lo hi : Option Expr} {l h : Option Int} (ha : Ev X a σ s x) (hl : EvO X lo σ s l) (hh : EvO X hi σ s h) : Ev X (.Subscript a (.Slice lo hi none p2) pos) σ s (Tu.mk (cut x.l l h)) := fun s1 k Q q => by
  obtain ⟨tl, pl, ql⟩ := po_evo hl
  obtain ⟨th, ph, qh⟩ := po_evo hh
  refine we_of (pe_slice sl_tupA pe_we pl ph) (ha s1 k _ fun v s2 k2 r2 => ql s2 (k.trans k2) _ fun s3 k3 => qh s3 ((k.trans k2).trans k3) _ fun s4 k4 => ?_)
  obtain ⟨p, vs, rfl, h1, h2⟩ := Enc.mono (α := Tu α) (k3.trans k4).f r2
  have kk := (k2.trans k3).trans k4
  refine ⟨p, vs, rfl, sqt_mono s4.sub h1, fun hw => ?_, fun _ l hl => q _ (s4.newF l _ hl) (kk.trans (Ex.newF hl)) ⟨l, _, rfl, tup_new hl, (h2.cut _ _).mono (Ex.newF hl).f⟩⟩
  refine q _ s4 kk ⟨p, vs, rfl, h1, ?_⟩
  have e : cut x.l l h = x.l := by
    unfold cut
    rw [← h2.len, hw.1, hw.2, List.drop_zero, Nat.sub_zero, h2.len, List.take_length]
  show Reps _ _ vs (cut x.l l h)
  rw [e]; exact h2
def popN (n : Nat) (i : Int) : Option Nat := if -(2 ^ 63) ≤ i ∧ i < 2 ^ 63 then seqIndex? i n else none
theorem seqIx_lt {n : Nat} {i : Int} {k : Nat} (h : seqIndex? i n = some k) : k < n := by
  unfold seqIndex? at h
  dsimp only at h
  split at h <;> split at h
  all_goals first | (rename_i h2; simp only [Bool.and_eq_true, decide_eq_true_eq] at h2; cases h; omega) | cases h
theorem do_popAt (i : Nat) {p : Addr} {n : Str} {xs : List α} {z : Int} {j : Nat} (hσ : σ[i]? = some (some (.ref p))) (o : Own X.K s p xs) (he : Ev X e σ s z) (hj : popN xs.length z = some j)
    (k : ∀ s1, Mx (· = p) s s1 → Own X.K s1 p (xs.eraseIdx j) → WSs X rest D σ s1.H)
    (hN : X.N[i]? = some n := by rfl) (hv : Vis X.env.scope n := by first | exact Or.inl rfl | exact Or.inr (Or.inl rfl) | exact Or.inr (Or.inr rfl)) (hd : (n == ("__debug__" : Str)) = false := by decide) (hcd : (n == ("__classdict__" : Str)) = false := by decide)
    (hbase : attributeBase (.Name n p0) "pop" X.env (eval (.Name n p0) X.env) = eval (.Name n p0) X.env := by rfl)
    (hfew : ((backTo p2 (starEach [e] X.env)).all (fun x => !x.1) && (backToKw p2 (keywordEach [] X.env)).all (fun x => x.1.isSome) && decide (([e] : List Expr).length + ([] : List Keyword).length + (if ([] : List Keyword).isEmpty then 0 else 1) < 30)) = true := by rfl)
    (hline : (p1.endLine == p2.line) = true := by rfl) (hs : starEach [e] X.env = (false, eval e X.env) :: starEach [] X.env := by rfl) (hplain : (backTo p2 (starEach [] X.env)).any (·.1) = false := by rfl)
    (hsw : swapsWith (.Call (.Attribute (.Name n p0) "pop" p1) [e] [] p2) none p3.line X.env = pure false := by rfl) :
    WSs X (.Expr (.Call (.Attribute (.Name n p0) "pop" p1) [e] [] p2) p3 :: rest) D σ s.H :=
  do_cons (ps_expr (pe_bm PySem.F.plainAttrs_list PySem.F.slot_list_pop PySem.F.type_list_pop mt_popAt (pe_var hN hv hd hcd) (pa_cons pe_we pa_nil hs) hbase hfew hline hs hplain) hsw) (by
    obtain ⟨h1, vs, h2, h3⟩ := id o
    refine ⟨_, hσ, .inl ⟨rfl, vs, .inl (.inl h2)⟩, he s (Ex.refl _) _ fun v s1 k1 r1 => ?_⟩
    have f1 := k1.n _ _ h2 h1
    have g1 := k1.h _ _ h2
    unfold popN at hj
    split at hj
    · rename_i hb
      have hlt : j < vs.length := by rw [h3.len]; exact seqIx_lt hj
      refine ⟨p, vs, z, j, vs[j], rfl, by rw [show v = V.int z from r1], g1, hb.1, hb.2, by rw [h3.len]; exact hj, List.getElem?_eq_getElem hlt, ?_⟩
      exact k (s1.put p (.lst (vs.eraseIdx j)) f1) (k1.mx.trans (Mx.put f1)) ⟨f1, _, upd_same, (h3.mono k1.f).erase j⟩
    · cases hj)
def InsOk (i : Int) (n : Nat) : Prop := 0 ≤ i ∧ i < 2 ^ 63 ∧ n < sizeLine
def insI {τ : Type} (xs : List τ) (i : Int) (x : τ) : List τ := xs.take i.toNat ++ [x] ++ xs.drop i.toNat
theorem do_insert (i : Nat) {p : Addr} {n : Str} {xs : List α} {z : Int} {x : α} (hσ : σ[i]? = some (some (.ref p))) (o : Own X.K s p xs) (ha : Ev X a σ s z) (hb : Ev X b σ s x) (hj : InsOk z xs.length)
    (k : ∀ s1, Mx (· = p) s s1 → Own X.K s1 p (insI xs z x) → WSs X rest D σ s1.H)
    (hN : X.N[i]? = some n := by rfl) (hv : Vis X.env.scope n := by first | exact Or.inl rfl | exact Or.inr (Or.inl rfl) | exact Or.inr (Or.inr rfl)) (hd : (n == ("__debug__" : Str)) = false := by decide) (hcd : (n == ("__classdict__" : Str)) = false := by decide)
    (hbase : attributeBase (.Name n p0) "insert" X.env (eval (.Name n p0) X.env) = eval (.Name n p0) X.env := by rfl)
    (hfew : ((backTo p2 (starEach [a, b] X.env)).all (fun x => !x.1) && (backToKw p2 (keywordEach [] X.env)).all (fun x => x.1.isSome) && decide (([a, b] : List Expr).length + ([] : List Keyword).length + (if ([] : List Keyword).isEmpty then 0 else 1) < 30)) = true := by rfl)
    (hline : (p1.endLine == p2.line) = true := by rfl) (hs : starEach [a, b] X.env = (false, eval a X.env) :: starEach [b] X.env := by rfl) (hs2 : starEach [b] X.env = (false, eval b X.env) :: starEach [] X.env := by rfl) (hplain : (backTo p2 (starEach [b] X.env)).any (·.1) = false := by rfl)
    (hsw : swapsWith (.Call (.Attribute (.Name n p0) "insert" p1) [a, b] [] p2) none p3.line X.env = pure false := by rfl) :
    WSs X (.Expr (.Call (.Attribute (.Name n p0) "insert" p1) [a, b] [] p2) p3 :: rest) D σ s.H :=
  do_cons (ps_expr (pe_bm PySem.F.plainAttrs_list PySem.F.slot_list_insert PySem.F.type_list_insert mt_insert (pe_var hN hv hd hcd) (pa_cons pe_we (pa_cons pe_we pa_nil hs2) hs) hbase hfew hline hs hplain) hsw) (by
    obtain ⟨h1, vs, h2, h3⟩ := id o
    refine ⟨_, hσ, .inl ⟨rfl, vs, .inl (.inl h2)⟩, ha s (Ex.refl _) _ fun u s1 k1 r1 => hb s1 k1 _ fun v s2 k2 r2 => ?_⟩
    have kk := k1.trans k2
    have f1 := kk.n _ _ h2 h1
    have g1 := kk.h _ _ h2
    refine ⟨p, vs, z, v, rfl, by rw [show u = V.int z from r1], g1, by rw [h3.len]; exact hj.2.2, hj.1, hj.2.1, ?_⟩
    exact k (s2.put p (.lst (vs.take z.toNat ++ [v] ++ vs.drop z.toNat)) f1) (kk.mx.trans (Mx.put f1)) ⟨f1, _, upd_same, (((h3.mono kk.f).take _).snoc r2).app ((h3.mono kk.f).drop _)⟩)
theorem do_reverse (i : Nat) {p : Addr} {n : Str} {xs : List α} (hσ : σ[i]? = some (some (.ref p))) (o : Own X.K s p xs)
    (k : ∀ s1, Mx (· = p) s s1 → Own X.K s1 p xs.reverse → WSs X rest D σ s1.H)
    (hN : X.N[i]? = some n := by rfl) (hv : Vis X.env.scope n := by first | exact Or.inl rfl | exact Or.inr (Or.inl rfl) | exact Or.inr (Or.inr rfl)) (hd : (n == ("__debug__" : Str)) = false := by decide) (hcd : (n == ("__classdict__" : Str)) = false := by decide)
    (hbase : attributeBase (.Name n p0) "reverse" X.env (eval (.Name n p0) X.env) = eval (.Name n p0) X.env := by rfl) (hline : (p1.endLine == p2.line) = true := by rfl)
    (hsw : swapsWith (.Call (.Attribute (.Name n p0) "reverse" p1) [] [] p2) none p3.line X.env = pure false := by rfl) :
    WSs X (.Expr (.Call (.Attribute (.Name n p0) "reverse" p1) [] [] p2) p3 :: rest) D σ s.H :=
  do_cons (ps_expr (pe_bm0 PySem.F.plainAttrs_list PySem.F.slot_list_reverse PySem.F.type_list_reverse mt_reverse (pe_var hN hv hd hcd) hbase hline) hsw) (by
    obtain ⟨h1, vs, h2, h3⟩ := id o
    refine ⟨_, hσ, .inl ⟨rfl, vs, .inl (.inl h2)⟩, p, vs, rfl, rfl, h2, ?_⟩
    exact k (s.put p (.lst vs.reverse) h1) (Mx.put h1) ⟨h1, _, upd_same, h3.rev⟩)
theorem do_clear (i : Nat) {p : Addr} {n : Str} {xs : List α} (hσ : σ[i]? = some (some (.ref p))) (o : Own X.K s p xs)
    (k : ∀ s1, Mx (· = p) s s1 → Own X.K s1 p ([] : List α) → WSs X rest D σ s1.H)
    (hN : X.N[i]? = some n := by rfl) (hv : Vis X.env.scope n := by first | exact Or.inl rfl | exact Or.inr (Or.inl rfl) | exact Or.inr (Or.inr rfl)) (hd : (n == ("__debug__" : Str)) = false := by decide) (hcd : (n == ("__classdict__" : Str)) = false := by decide)
    (hbase : attributeBase (.Name n p0) "clear" X.env (eval (.Name n p0) X.env) = eval (.Name n p0) X.env := by rfl) (hline : (p1.endLine == p2.line) = true := by rfl)
    (hsw : swapsWith (.Call (.Attribute (.Name n p0) "clear" p1) [] [] p2) none p3.line X.env = pure false := by rfl) :
    WSs X (.Expr (.Call (.Attribute (.Name n p0) "clear" p1) [] [] p2) p3 :: rest) D σ s.H :=
  do_cons (ps_expr (pe_bm0 PySem.F.plainAttrs_list PySem.F.slot_list_clear PySem.F.type_list_clear mt_clear (pe_var hN hv hd hcd) hbase hline) hsw) (by
    obtain ⟨h1, vs, h2, h3⟩ := id o
    refine ⟨_, hσ, .inl ⟨rfl, vs, .inl (.inl h2)⟩, p, vs, rfl, rfl, h2, ?_⟩
    exact k (s.put p (.lst []) h1) (Mx.put h1) ⟨h1, _, upd_same, trivial⟩)
theorem ev_catT {x y : Tu α} (ha : Ev X a σ s x) (hb : Ev X b σ s y) (hz : x.l.length + y.l.length ≤ sizeLine) : Ev X (.BinOp a .Add b pos) σ s (Tu.mk (x.l ++ y.l)) := fun s1 k Q q =>
  we_of (pe_op op_catA pe_we pe_we) (ha s1 k _ fun v s2 k2 r2 => hb s2 (k.trans k2) _ fun u s3 k3 r3 => by
    obtain ⟨p, vs, rfl, h1, h2⟩ := Enc.mono (α := Tu α) k3.f r2
    obtain ⟨p', ws, rfl, h3, h4⟩ := r3
    have kk := k2.trans k3
    refine ⟨p, p', vs, ws, rfl, rfl, sqt_mono s3.sub h1, sqt_mono s3.sub h3, by rw [h2.len, h4.len]; exact hz, fun e => ?_, fun _ e => ?_, fun _ _ l hl => q _ (s3.newF l _ hl) (kk.trans (Ex.newF hl)) ⟨l, _, rfl, tup_new hl, (h2.app h4).mono (Ex.newF hl).f⟩⟩
    · refine q _ s3 kk ⟨p', ws, rfl, h3, ?_⟩
      subst e
      have e2 : x.l = [] := List.length_eq_zero_iff.mp h2.len.symm
      show Reps _ _ ws (x.l ++ y.l)
      rw [e2]; exact h4
    · refine q _ s3 kk ⟨p, vs, rfl, h1, ?_⟩
      subst e
      have e2 : y.l = [] := List.length_eq_zero_iff.mp h4.len.symm
      show Reps _ _ vs (x.l ++ y.l)
      rw [e2, List.append_nil]; exact h2)
end
theorem foldO_app {α β : Type} {N : Nat} {f : List β → α → Option (List β)} {g : α → β} : ∀ {xs : List α} {b : List β}, (∀ b x, b.length < N → x ∈ xs → f b x = some (b ++ [g x])) → b.length + xs.length ≤ N → foldO f b xs = some (b ++ xs.map g)
  | [], b, _, _ => by simp [foldO]
  | x :: r, b, h, hl => by
    rw [List.length_cons] at hl
    unfold foldO
    rw [h b x (by omega) List.mem_cons_self, Option.bind_some, foldO_app (xs := r) (b := b ++ [g x]) (fun b y hb hy => h b y hb (List.mem_cons_of_mem _ hy)) (by rw [List.length_append, List.length_singleton]; omega)]
    simp
theorem atI_map {α β : Type} {f : α → β} {xs : List α} {i : Int} {x : α} (h : atI xs i = some x) : atI (xs.map f) i = some (f x) := by
  unfold atI at h ⊢
  rw [List.length_map]
  cases hj : ixN xs.length i with
  | none => rw [hj] at h; cases h
  | some j =>
    rw [hj] at h
    show (xs.map f)[j]? = _
    rw [List.getElem?_map]
    have : xs[j]? = some x := h
    rw [this]; rfl
theorem foldF_none {α ρ : Type} {f : Unit → α → Option (Fl Unit ρ)} : ∀ {xs : List α}, (∀ x ∈ xs, f () x = some (.nx ())) → foldF f () xs = some (.nx ())
  | [], _ => rfl
  | x :: r, h => by
    unfold foldF
    rw [h x List.mem_cons_self]
    exact foldF_none fun y hy => h y (List.mem_cons_of_mem _ hy)
theorem foldF_ok {α ρ : Type} {f : Unit → α → Option (Fl Unit ρ)} {xs : List α} {Q : Fl Unit ρ → Prop} (h : ∀ x ∈ xs, Ok (f () x) (· = .nx ())) (q : Q (.nx ())) : Ok (foldF f () xs) Q :=
  ⟨_, foldF_none fun x hx => (h x hx).eq, q⟩
def Drawn (sizes ds : List Int) : Prop := ds.length = sizes.length ∧ ∀ (j : Nat) (d n : Int), ds[j]? = some d → sizes[j]? = some n → 0 ≤ d ∧ d < n
theorem ok_draw {sizes ds : List Int} (h : Drawn sizes ds) (k : Nat) {n : Int} (hk : sizes[k]? = some n) {Q : Int → Prop} (q : ∀ d, 0 ≤ d → d < n → Q d) : Ok (atI ds (k : Int)) Q := by
  obtain ⟨h1, h2⟩ := h
  have hlt : k < ds.length := by rw [h1]; exact (List.getElem?_eq_some_iff.mp hk).1
  refine ok_atI (by omega) (by omega) fun d hd => ?_
  rw [show (k : Int).toNat = k by omega] at hd
  obtain ⟨a, b⟩ := h2 k d n hd hk
  exact q d a b
theorem ok_sgn {x : Str} {i : Int} {Q : Str → Prop} (hz : x.length ≤ sizeLine) (h0 : 0 ≤ i) (h1 : i < x.length) (h : ∀ c, x.cps.toList[i.toNat]? = some c → Q ⟨#[c]⟩) : Ok (sgn x i) Q := by
  unfold sgn
  rw [if_pos hz]
  have hl : i.toNat < x.cps.toList.length := by
    rw [Array.length_toList]
    show i.toNat < x.length
    omega
  rw [atI_get h0 (by rw [Array.length_toList]; show i < (x.length : Int); exact h1), List.getElem?_eq_getElem hl]
  exact ok_some (h _ (List.getElem?_eq_getElem hl))
theorem bnd_some {α : Type} (m : Option α) : (bnd m fun x => some x) = m := by cases m <;> rfl
theorem ok_ret {α : Type} {m : Option α} {P : α → Prop} (h : Ok m P) : Ok (bnd m fun x => some x) P := by rw [bnd_some]; exact h
def txt (x : Str) : Prop := PyData.strOk x = true
theorem shp_strs {xs : List Str} (h : ∀ x ∈ xs, txt x) : shp xs := by
  unfold shp SeqAt.shaped
  have h1 : PyData.canLay0 (EqD.toD xs) = true := by
    show PyData.canLay0 (.list (xs.map PyData.str)) = true
    unfold PyData.canLay0
    induction xs with
    | nil => simp [PyData.canLayAll0]
    | cons x r ih =>
      rw [List.map_cons]
      unfold PyData.canLayAll0
      rw [ih fun y hy => h y (List.mem_cons_of_mem _ hy)]
      show (PyData.canLay0 (.str x) && true) = true
      unfold PyData.canLay0
      rw [show PyData.strOk x = true from h x List.mem_cons_self]; rfl
  have h2 : PyData.depth (EqD.toD xs) ≤ 64 := by
    show PyData.depth (.list (xs.map PyData.str)) ≤ 64
    unfold PyData.depth
    have : PyData.depthAll (xs.map PyData.str) = 0 := by
      clear h h1
      induction xs with
      | nil => simp [PyData.depthAll]
      | cons x r ih => rw [List.map_cons]; unfold PyData.depthAll; rw [ih]; simp [PyData.depth]
    omega
  rw [h1, decide_eq_true h2]; rfl
end Dy

namespace Dy
open PySem PySem.Spec L2
open PyProof.Rows hiding St
open Enc (rep)
open Flat (toV)
open EncA (repA)

def S.back (s t : S) (h : Fle s.F t.F) : S := ⟨s.F, t.H, fun a o q => t.sub a o (h a o q)⟩
theorem backE {s0 s t : S} (h : Fle s.F t.F) (E : Ex s0 s) (E' : Ex s0 t) : Ex s0 (s.back t h) := ⟨E.f, E'.h, E.n⟩
theorem backOwn {α : Type} [Enc α] {K : PySem.W.Frag} {s s1 t : S} {p : Addr} {xs : List α} (h : Fle s.F t.F) (o : Own K s p xs) (h1 : s1.F p = s.H p) (h2 : Fle s1.F t.F) : Own K (s.back t h) p xs := by
  obtain ⟨n, vs, e, r⟩ := o
  exact ⟨n, vs, t.sub _ _ (h2 _ _ (h1.trans e)), r⟩
theorem backOwn2 {α : Type} [Flat α] {K : PySem.W.Frag} {s t : S} {q : Addr} {xs : List α} (h : Fle s.F t.F) (o : Own K t q xs) : Own K (s.back t h) q xs := by
  obtain ⟨n, vs, e, r⟩ := o
  refine ⟨?_, vs, e, ?_⟩
  · show s.F q = none
    cases z : s.F q with
    | none => rfl
    | some u => rw [h _ _ z] at n; cases n
  · rw [r.flat]; exact Reps.of_flat xs
theorem backFlat {α : Type} [Flat α] {K : PySem.W.Frag} {s t : S} {v : V} {x : α} (h : Fle s.F t.F) (r : rep K t.F v x) : rep K (s.back t h).F v x := Flat.iff.mpr (Flat.iff.mp r)
section
variable {α β γ δ : Type} [Enc α] [Enc β] [Enc γ] [Enc δ] {X : Cx} {σ : St} {s t : S} {e a b c tg iter : Expr} {es : List Expr} {pos p0 p1 p2 p3 p4 p5 : Pos} {D : Ends} {rest A B body : List Stmt}
theorem do_frz2 {p : Addr} {xs : List α} {ss : List Stmt} (o : Own X.K s p xs) (k : ∀ s' : S, s'.H = s.H → Fle s.F s'.F → (∀ q, q ≠ p → s'.F q = s.F q) → rep X.K s'.F (.ref p) xs → s'.F p = s.H p → WSs X ss D σ s'.H) : WSs X ss D σ s.H := by
  obtain ⟨hn, vs, hp, r⟩ := o
  have f : Fle s.F (upd s.F p (.lst vs)) := fun a o q => by rw [upd_ne (ne_of_none q hn)]; exact q
  exact k ⟨upd s.F p (.lst vs), s.H, fun a o q => by
    unfold upd at q
    split at q
    · rename_i e; cases q; rw [e]; exact hp
    · exact s.sub a o q⟩ rfl f (fun q hq => upd_ne hq) ⟨p, vs, rfl, .inl (.inl upd_same), r.mono f⟩ (by show upd s.F p (.lst vs) p = _; rw [upd_same, hp])
theorem do_back {ss : List Stmt} (s : S) {t : S} (h : Fle s.F t.F) (k : WSs X ss D σ (s.back t h).H) : WSs X ss D σ t.H := k

section
variable {p : Addr} {n : Str} {xs : List α}
theorem we_pop (i : Nat) {z : Int} {j : Nat} {y : α} {Q : VK} (hσ : σ[i]? = some (some (.ref p))) (o : Own X.K s p xs) (he : Ev X e σ s z) (hj : popN xs.length z = some j) (hy : xs[j]? = some y)
    (k : ∀ v s1, Mx (· = p) s s1 → Own X.K s1 p (xs.eraseIdx j) → rep X.K s1.F v y → Q v s1.H)
    (hN : X.N[i]? = some n := by rfl) (hv : Vis X.env.scope n := by first | exact Or.inl rfl | exact Or.inr (Or.inl rfl) | exact Or.inr (Or.inr rfl)) (hd : (n == ("__debug__" : Str)) = false := by decide) (hcd : (n == ("__classdict__" : Str)) = false := by decide)
    (hbase : attributeBase (.Name n p0) "pop" X.env (eval (.Name n p0) X.env) = eval (.Name n p0) X.env := by rfl)
    (hfew : ((backTo p2 (starEach [e] X.env)).all (fun x => !x.1) && (backToKw p2 (keywordEach [] X.env)).all (fun x => x.1.isSome) && decide (([e] : List Expr).length + ([] : List Keyword).length + (if ([] : List Keyword).isEmpty then 0 else 1) < 30)) = true := by rfl)
    (hline : (p1.endLine == p2.line) = true := by rfl) (hs : starEach [e] X.env = (false, eval e X.env) :: starEach [] X.env := by rfl) (hplain : (backTo p2 (starEach [] X.env)).any (·.1) = false := by rfl) :
    WE X (.Call (.Attribute (.Name n p0) "pop" p1) [e] [] p2) σ s.H Q :=
  we_of (pe_bm PySem.F.plainAttrs_list PySem.F.slot_list_pop PySem.F.type_list_pop mt_popAt (pe_var hN hv hd hcd) (pa_cons pe_we pa_nil hs) hbase hfew hline hs hplain) (by
    obtain ⟨h1, vs, h2, h3⟩ := id o
    refine ⟨_, hσ, .inl ⟨rfl, vs, .inl (.inl h2)⟩, he s (Ex.refl _) _ fun v s1 k1 r1 => ?_⟩
    have f1 := k1.n _ _ h2 h1
    have g1 := k1.h _ _ h2
    unfold popN at hj
    split at hj
    · rename_i hb
      obtain ⟨w, hw, rw'⟩ := (h3.mono k1.f).get hy
      refine ⟨p, vs, z, j, w, rfl, by rw [show v = V.int z from r1], g1, hb.1, hb.2, by rw [h3.len]; exact hj, hw, ?_⟩
      exact k w (s1.put p (.lst (vs.eraseIdx j)) f1) (k1.mx.trans (Mx.put f1)) ⟨f1, _, upd_same, (h3.mono k1.f).erase j⟩ rw'
    · cases hj)
end
def popAt {τ : Type} (xs : List τ) (z : Int) : Option (τ × List τ) := (popN xs.length z).bind fun j => (xs[j]?).map fun y => (y, xs.eraseIdx j)
theorem popAt_some {τ : Type} {xs ys : List τ} {z : Int} {y : τ} (h : popAt xs z = some (y, ys)) : ∃ j, popN xs.length z = some j ∧ xs[j]? = some y ∧ ys = xs.eraseIdx j := by
  unfold popAt at h
  obtain ⟨j, h1, h2⟩ := bndE h
  obtain ⟨w, h3, h4⟩ := Option.map_eq_some_iff.mp h2
  cases h4
  exact ⟨j, h1, h3, rfl⟩
theorem do_setPop (i l : Nat) {p : Addr} {n m : Str} {xs ys : List α} {z : Int} {y : α} {py : Pos} (hσ : σ[i]? = some (some (.ref p))) (o : Own X.K s p xs) (he : Ev X e σ s z) (hj : popAt xs z = some (y, ys))
    (k : ∀ v s1, Mx (· = p) s s1 → Own X.K s1 p ys → rep X.K s1.F v y → WSs X rest D (σ.set l (some v)) s1.H)
    (hnd : X.N.Nodup) (hN : X.N[i]? = some n := by rfl) (hv : Vis X.env.scope n := by first | exact Or.inl rfl | exact Or.inr (Or.inl rfl) | exact Or.inr (Or.inr rfl)) (hd : (n == ("__debug__" : Str)) = false := by decide) (hcd : (n == ("__classdict__" : Str)) = false := by decide)
    (hbase : attributeBase (.Name n p0) "pop" X.env (eval (.Name n p0) X.env) = eval (.Name n p0) X.env := by rfl)
    (hfew : ((backTo p2 (starEach [e] X.env)).all (fun x => !x.1) && (backToKw p2 (keywordEach [] X.env)).all (fun x => x.1.isSome) && decide (([e] : List Expr).length + ([] : List Keyword).length + (if ([] : List Keyword).isEmpty then 0 else 1) < 30)) = true := by rfl)
    (hline : (p1.endLine == p2.line) = true := by rfl) (hs : starEach [e] X.env = (false, eval e X.env) :: starEach [] X.env := by rfl) (hplain : (backTo p2 (starEach [] X.env)).any (·.1) = false := by rfl)
    (hx : Loc X.env.scope m := by first | exact Or.inl rfl | exact Or.inr rfl) (hi : X.N[l]? = some m := by rfl)
    (hsw : swapsWith (.Call (.Attribute (.Name n p0) "pop" p1) [e] [] p2) (some (.Name m py)) pos.line X.env = pure false := by rfl) (hf : X.fn m = true ∨ X.env.scope.names.lookup m = some .local := by first | exact .inl rfl | exact .inr rfl) :
    WSs X (.Assign [.Name m py] (.Call (.Attribute (.Name n p0) "pop" p1) [e] [] p2) pos :: rest) D σ s.H := by
  obtain ⟨j, h1, h2, rfl⟩ := popAt_some hj
  exact do_cons (ps_set hnd hi hx pe_we hsw hf) (we_pop i hσ o he h1 h2 (fun v s1 m1 o1 r1 => k v s1 m1 o1 r1) hN hv hd hcd hbase hfew hline hs hplain)
theorem do_appPop (i l : Nat) {p q : Addr} {n m : Str} {xs ys zs : List α} {z : Int} {y : α} {py : Pos} (hσ : σ[i]? = some (some (.ref p))) (hσ2 : σ[l]? = some (some (.ref q))) (hpq : q ≠ p) (o : Own X.K s p xs) (o2 : Own X.K s q zs) (hz : zs.length < sizeLine) (he : Ev X e σ s z) (hj : popAt xs z = some (y, ys))
    (k : ∀ s1, Mx (fun a => a = p ∨ a = q) s s1 → Own X.K s1 p ys → Own X.K s1 q (zs ++ [y]) → WSs X rest D σ s1.H)
    (hN : X.N[i]? = some n := by rfl) (hv : Vis X.env.scope n := by first | exact Or.inl rfl | exact Or.inr (Or.inl rfl) | exact Or.inr (Or.inr rfl)) (hd : (n == ("__debug__" : Str)) = false := by decide) (hcd : (n == ("__classdict__" : Str)) = false := by decide)
    (hbase : attributeBase (.Name n p0) "pop" X.env (eval (.Name n p0) X.env) = eval (.Name n p0) X.env := by rfl)
    (hfew : ((backTo p2 (starEach [e] X.env)).all (fun x => !x.1) && (backToKw p2 (keywordEach [] X.env)).all (fun x => x.1.isSome) && decide (([e] : List Expr).length + ([] : List Keyword).length + (if ([] : List Keyword).isEmpty then 0 else 1) < 30)) = true := by rfl)
    (hline : (p1.endLine == p2.line) = true := by rfl) (hs : starEach [e] X.env = (false, eval e X.env) :: starEach [] X.env := by rfl) (hplain : (backTo p2 (starEach [] X.env)).any (·.1) = false := by rfl)
    (hN2 : X.N[l]? = some m := by rfl) (hv2 : Vis X.env.scope m := by first | exact Or.inl rfl | exact Or.inr (Or.inl rfl) | exact Or.inr (Or.inr rfl)) (hd2 : (m == ("__debug__" : Str)) = false := by decide) (hcd2 : (m == ("__classdict__" : Str)) = false := by decide)
    (hbase2 : attributeBase (.Name m py) "append" X.env (eval (.Name m py) X.env) = eval (.Name m py) X.env := by rfl)
    (hfew2 : ((backTo p4 (starEach [.Call (.Attribute (.Name n p0) "pop" p1) [e] [] p2] X.env)).all (fun x => !x.1) && (backToKw p4 (keywordEach [] X.env)).all (fun x => x.1.isSome) && decide (([.Call (.Attribute (.Name n p0) "pop" p1) [e] [] p2] : List Expr).length + ([] : List Keyword).length + (if ([] : List Keyword).isEmpty then 0 else 1) < 30)) = true := by rfl)
    (hline2 : (p3.endLine == p4.line) = true := by rfl) (hs2 : starEach [.Call (.Attribute (.Name n p0) "pop" p1) [e] [] p2] X.env = (false, eval (.Call (.Attribute (.Name n p0) "pop" p1) [e] [] p2) X.env) :: starEach [] X.env := by rfl) (hplain2 : (backTo p4 (starEach [] X.env)).any (·.1) = false := by rfl)
    (hsw : swapsWith (.Call (.Attribute (.Name m py) "append" p3) [.Call (.Attribute (.Name n p0) "pop" p1) [e] [] p2] [] p4) none p5.line X.env = pure false := by rfl) :
    WSs X (.Expr (.Call (.Attribute (.Name m py) "append" p3) [.Call (.Attribute (.Name n p0) "pop" p1) [e] [] p2] [] p4) p5 :: rest) D σ s.H := by
  obtain ⟨j, h1, h2, rfl⟩ := popAt_some hj
  refine do_cons (ps_expr (pe_bm PySem.F.plainAttrs_list PySem.F.slot_list_append PySem.F.type_list_append mt_append (pe_var hN2 hv2 hd2 hcd2) (pa_cons pe_we pa_nil hs2) hbase2 hfew2 hline2 hs2 hplain2) hsw) ?_
  obtain ⟨g1, vs, g2, g3⟩ := id o2
  refine ⟨_, hσ2, .inl ⟨rfl, vs, .inl (.inl g2)⟩, we_pop i hσ o he h1 h2 (fun v s1 m1 o1 r1 => ?_) hN hv hd hcd hbase hfew hline hs hplain⟩
  obtain ⟨f1, ws, f2, f3⟩ := o2.mx m1 hpq
  refine ⟨q, ws, v, rfl, rfl, f2, by rw [f3.len]; exact hz, ?_⟩
  have m2 : Mx (fun a => a = p ∨ a = q) s1 (s1.put q (.lst (ws ++ [v])) f1) := ⟨(Mx.put f1).f, fun a u h nn => (Mx.put f1).h a u h fun z => nn (.inr z), (Mx.put f1).n, (Mx.put f1).d⟩
  have m0 : Mx (fun a => a = p ∨ a = q) s s1 := ⟨m1.f, fun a u h nn => m1.h a u h fun z => nn (.inl z), m1.n, m1.d⟩
  refine k (s1.put q (.lst (ws ++ [v])) f1) (m0.trans m2) (o1.mx (Mx.put f1) fun z => hpq z.symm) ⟨f1, _, upd_same, f3.snoc r1⟩
theorem Ex.mu2 {s t u : S} {p q : Addr} (a : Ex s t) (b : Mx (fun a => a = p ∨ a = q) t u) (h : s.H p = none) (h2 : s.H q = none) : Ex s u := a.mu b fun _ e => e.elim (fun z => z ▸ h) fun z => z ▸ h2
def popAll {σ τ : Type} (f : List τ → σ → Option Int) : List τ → List σ → Option (List τ)
  | _, [] => some []
  | l, x :: r => (f l x).bind fun z => (popAt l z).bind fun y => (popAll f y.2 r).bind fun ys => some (y.1 :: ys)
theorem do_retPop (i j : Nat) {τ : Type} [Enc τ] {zs : List τ} {xs ys : List α} {f : List α → τ → Option Int} {p : Addr} {n x : Str} {px : Pos} {ie : Expr} {scope : Scope} {own : List (Str × Nat)} (hc : X.calm = true) (hN : X.N.Nodup) (hi : EvI X (.Name x px) iter σ s zs) (o : Own X.K s p xs) (ok : BlkOk X.N X.env.scope scope own)
    (hj : X.N[j]? = some x) (hjo : j ∈ own.map (·.2)) (hg : ∀ s0 H0 C cl fp, PG (Blk X scope s0 H0 C cl fp) (.Name x px) (gName j)) (hσ : ∀ v, ((wipe σ (own.map (·.2))).set j (some v))[i]? = some (some (.ref p))) (hf : popAll f xs zs = some ys) (hz : ys.length ≤ sizeLine)
    (he : ∀ (l : List α) (y : τ) (z : Int) (v : V) (s1 : S), y ∈ zs → Mx (· = p) s s1 → Own X.K s1 p l → rep X.K s1.F v y → f l y = some z → ∀ s0 H0 C cl fp, Ev (Blk X scope s0 H0 C cl fp) ie ((wipe σ (own.map (·.2))).set j (some v)) s1 z)
    (k : ∀ q s1, Mx (· = p) s s1 → s.H q = none → Own X.K s1 q ys → D.rt (.ref q) s1.H)
    (hNi : X.N[i]? = some n := by rfl)
    (hv : ∀ s0 H0 C cl fp, Vis (Blk X scope s0 H0 C cl fp).env.scope n := by intros; first | exact Or.inl rfl | exact Or.inr (Or.inl rfl) | exact Or.inr (Or.inr rfl)) (hd : (n == ("__debug__" : Str)) = false := by decide) (hcd : (n == ("__classdict__" : Str)) = false := by decide)
    (hbase : ∀ s0 H0 C cl fp, attributeBase (.Name n p0) "pop" (Blk X scope s0 H0 C cl fp).env (eval (.Name n p0) (Blk X scope s0 H0 C cl fp).env) = eval (.Name n p0) (Blk X scope s0 H0 C cl fp).env := by intros; rfl)
    (hfew : ∀ s0 H0 C cl fp, ((backTo p2 (starEach [ie] (Blk X scope s0 H0 C cl fp).env)).all (fun x => !x.1) && (backToKw p2 (keywordEach [] (Blk X scope s0 H0 C cl fp).env)).all (fun x => x.1.isSome) && decide (([ie] : List Expr).length + ([] : List Keyword).length + (if ([] : List Keyword).isEmpty then 0 else 1) < 30)) = true := by intros; rfl)
    (hline : (p1.endLine == p2.line) = true := by rfl) (hs1 : ∀ s0 H0 C cl fp, starEach [ie] (Blk X scope s0 H0 C cl fp).env = (false, eval ie (Blk X scope s0 H0 C cl fp).env) :: starEach [] (Blk X scope s0 H0 C cl fp).env := by intros; rfl) (hplain : ∀ s0 H0 C cl fp, (backTo p2 (starEach [] (Blk X scope s0 H0 C cl fp).env)).any (·.1) = false := by intros; rfl)
    (hs : ∀ x, foldedSetIterable iter X.env x = pure x := by intro _; rfl) : WSs X (.Return (some (.ListComp (.Call (.Attribute (.Name n p0) "pop" p1) [ie] [] p2) [⟨.Name x px, iter, [], 0⟩] scope p3)) pos :: rest) D σ s.H := by
  have hpe : PE X (.ListComp (.Call (.Attribute (.Name n p0) "pop" p1) [ie] [] p2) [⟨.Name x px, iter, [], 0⟩] scope p3) (tLc (WI X (.Name x px) iter) (gName j) tYes (fun σ H Q => ∀ s0 H0 C cl fp, WE (Blk X scope s0 H0 C cl fp) (.Call (.Attribute (.Name n p0) "pop" p1) [ie] [] p2) σ H Q) (own.map (·.2))) :=
    pe_lc hc hN pi_wi ok hg (fun s0 H0 C cl fp => pts_nil) (fun s0 H0 C cl fp => ⟨fun pins s _ _ _ I h => h s0 H0 C cl fp pins s I⟩) hs
  refine do_cons (ps_ret hpe) ?_
  refine (show EvI X (.Name x px) iter σ s zs from hi) s (Ex.refl _) _ fun J s2 k2 W => ?_
  intro Dd hD
  have o2 : Own X.K s2 p xs := o.ex k2
  have hne : p ≠ Dd := Own.ne o2 hD
  refine ⟨fun i m H => ∃ (u : S) (pre l : List α) (vs : List V), u.H = H ∧ m = zs.length - i ∧ Mx (· = p) s2 u ∧ Own X.K u p l ∧ u.F Dd = none ∧ u.H Dd = some (.lst vs) ∧ Reps X.K u.F vs pre ∧ (∃ suf, popAll f l (zs.drop i) = some suf ∧ pre ++ suf = ys), ⟨zs.length, s2.newO Dd (.lst []) hD, [], xs, [], rfl, rfl, (Ex.newO hD).mx, o2.ex (Ex.newO hD), (fF hD : s2.F Dd = none), upd_same, trivial, ys, hf, rfl⟩, ?_⟩
  rintro i' m H ⟨u, pre, l, vs, rfl, rfl, ku, ol, n1, n2, n3, suf, h1, h2⟩
  by_cases hi' : i' < zs.length
  · right
    obtain ⟨g1, g2⟩ := W.go i' u zs[i'] ku.f (List.getElem?_eq_getElem hi')
    refine ⟨g1, fun H' => ∃ m', m' < zs.length - i' ∧ ∃ (u : S) (pre l : List α) (vs : List V), u.H = H' ∧ m' = zs.length - (i' + 1) ∧ Mx (· = p) s2 u ∧ Own X.K u p l ∧ u.F Dd = none ∧ u.H Dd = some (.lst vs) ∧ Reps X.K u.F vs pre ∧ (∃ suf, popAll f l (zs.drop (i' + 1)) = some suf ∧ pre ++ suf = ys), fun H' z => z, fun v H' hy => ?_⟩
    obtain ⟨u', rfl, ku', rv⟩ := g2 v H' hy
    refine ⟨by show wipe ((wipe σ (own.map (·.2))).set j (some v)) (own.map (·.2)) = _; rw [wipe_set hjo]; exact wipe_wipe fun _ z => z, ?_⟩
    unfold tYes
    dsimp only
    rw [if_pos rfl]
    rw [List.drop_eq_getElem_cons hi'] at h1
    unfold popAll at h1
    obtain ⟨z, hz1, h1⟩ := bndE h1
    obtain ⟨⟨y, l'⟩, hz2, h1⟩ := bndE h1
    obtain ⟨suf', hz3, h1⟩ := bndE h1
    cases h1
    obtain ⟨jj, e1, e2, e3⟩ := popAt_some hz2
    subst e3
    have kk : Mx (· = p) s u' := (k2.mx.trans ku).trans ku'.mx
    intro s0 H0 C cl fp
    refine we_pop (X := Blk X scope s0 H0 C cl fp) (e := ie) i (hσ v) (ol.ex ku') (he l zs[i'] z v u' (List.getElem_mem hi') kk (ol.ex ku') rv hz1 s0 H0 C cl fp) e1 e2 (fun w u4 m4 o4 r4 => ?_) hNi (hv s0 H0 C cl fp) hd hcd (hbase s0 H0 C cl fp) (hfew s0 H0 C cl fp) hline (hs1 s0 H0 C cl fp) (hplain s0 H0 C cl fp)
    have k5 : Mx (· = p) u u4 := ku'.mx.trans m4
    have hD4 : u4.H Dd = some (.lst vs) := k5.h _ _ n2 fun z => hne z.symm
    have hF4 : u4.F Dd = none := k5.n _ _ n2 n1
    have hlen : vs.length < sizeLine := by
      have e1 := n3.len
      have e2 : ys.length = pre.length + (suf'.length + 1) := by rw [← h2, List.length_append, List.length_cons]
      omega
    have hlt : zs.length - (i' + 1) < zs.length - i' := by omega
    have md : Mx (· = p) s2 (u4.put Dd (.lst (vs ++ [w])) hF4) := ⟨(ku.trans k5).f, fun a ob h nn => by
      show upd u4.H Dd _ a = some ob
      rw [upd_ne (ne_of_none h hD)]; exact (ku.trans k5).h a ob h nn, (ku.trans k5).n, fun a ob h => by
      obtain ⟨ob', h'⟩ := (ku.trans k5).d a ob h
      exact ⟨ob', by show upd u4.H Dd _ a = some ob'; rw [upd_ne (ne_of_none h hD)]; exact h'⟩⟩
    exact ⟨vs, hD4, hlen, _, hlt, u4.put Dd (.lst (vs ++ [w])) hF4, pre ++ [y], _, vs ++ [w], rfl, rfl, md, o4.mx (Mx.put hF4) hne, hF4, upd_same, (n3.mono k5.f).snoc r4, suf', hz3, by rw [List.append_assoc]; exact h2⟩
  · left
    have hd : zs.drop i' = [] := List.drop_eq_nil_of_le (by omega)
    rw [hd] at h1
    cases h1
    refine ⟨W.stop i' u ku.f (by omega), k Dd u (k2.mx.trans ku) (fr_back k2 hD) ⟨n1, vs, n2, ?_⟩⟩
    rw [← h2, List.append_nil]
    exact n3
end
end Dy

namespace Dy
open PySem PySem.Spec L2
open PyProof.Rows hiding St

theorem php : ∀ (n : Nat) (l : List Nat), l.Nodup → (∀ x ∈ l, x < n) → l.length ≤ n
  | 0, [], _, _ => Nat.le_refl _
  | 0, x :: _, _, h => absurd (h x List.mem_cons_self) (Nat.not_lt_zero _)
  | n + 1, l, hn, h => by
    by_cases hm : n ∈ l
    · have h1 := php n (l.erase n) (hn.erase n) (fun x hx => by
        have h2 := h x (List.mem_of_mem_erase hx)
        have h3 : x ≠ n := (hn.mem_erase_iff.mp hx).1
        omega)
      rw [List.length_erase_of_mem hm] at h1
      omega
    · have := php n l hn (fun x hx => by
        have h2 := h x hx
        have h3 : x ≠ n := fun e => hm (e ▸ hx)
        omega)
      omega
theorem mem_rng {a b x : Int} : x ∈ rng a b ↔ a ≤ x ∧ x < b := by
  constructor
  · exact rng_mem
  · intro ⟨h1, h2⟩
    unfold rng
    refine List.mem_map.mpr ⟨(x - a).toNat, List.mem_range.mpr (by omega), by omega⟩
theorem rng_nodup (a b : Int) : (rng a b).Nodup := by
  unfold rng
  refine List.Pairwise.map _ (fun x y h e => h (by omega)) List.nodup_range
theorem rng_sorted (a b : Int) : (rng a b).Pairwise (· ≤ ·) := by
  unfold rng
  refine List.Pairwise.map _ (fun x y h => ?_) List.pairwise_lt_range
  omega
theorem sort_perm (xs : List Int) : (sortI xs).Perm xs := List.mergeSort_perm _ _
theorem sort_of_perm {xs ys : List Int} (h : xs.Perm ys) (hs : ys.Pairwise (· ≤ ·)) : sortI xs = ys := by
  refine List.Perm.eq_of_pairwise (le := fun x y : Int => x ≤ y) (fun a b _ _ h h' => Int.le_antisymm h h') ?_ hs ((sort_perm xs).trans h)
  have := List.pairwise_mergeSort (le := fun x y : Int => decide (x ≤ y)) (fun a b c h1 h2 => by simp at *; omega) (fun a b => by simp; omega) xs
  exact this.imp (by simp)
theorem perm_rng {l : List Int} {n : Nat} (h1 : l.Nodup) (h2 : l.length = n) (h3 : ∀ x ∈ l, 0 ≤ x ∧ x < n) : l.Perm (rng 0 n) := by
  refine (List.perm_ext_iff_of_nodup h1 (rng_nodup 0 n)).mpr fun a => ⟨fun h => mem_rng.mpr (h3 a h), fun h => ?_⟩
  obtain ⟨a0, a1⟩ := mem_rng.mp h
  refine Classical.byContradiction fun hn => ?_
  have h4 : ((a :: l).map Int.toNat).Nodup := by
    refine List.Pairwise.map (R := fun x y => x ≠ y ∧ 0 ≤ x ∧ 0 ≤ y) _ (fun x y ⟨h, p, q⟩ e => h (by omega)) ?_
    refine List.pairwise_cons.mpr ⟨fun x hx => ⟨fun e => hn (e ▸ hx), a0, (h3 x hx).1⟩, ?_⟩
    refine List.Pairwise.imp_of_mem (fun {x y} hx hy h => ⟨h, (h3 x hx).1, (h3 y hy).1⟩) h1
  have h5 := php n _ h4 (fun x hx => by
    obtain ⟨y, hy, rfl⟩ := List.mem_map.mp hx
    rcases List.mem_cons.mp hy with rfl | hy
    · omega
    · have := h3 y hy; omega)
  simp at h5
  omega
def nxt (o : List Int) (x : Int) : Int := o.getD x.toNat 0
def it (o : List Int) : Nat → Int → Int
  | 0, x => x
  | k + 1, x => nxt o (it o k x)
theorem it_add (o : List Int) (a b : Nat) (x : Int) : it o (a + b) x = it o a (it o b x) := by
  induction a with
  | zero => rw [Nat.zero_add]; rfl
  | succ a ih => rw [Nat.succ_add]; show nxt o _ = nxt o _; rw [ih]
theorem it_one (o : List Int) (x : Int) : it o 1 x = nxt o x := rfl
theorem it_comm (o : List Int) (a b : Nat) (x : Int) : it o a (it o b x) = it o b (it o a x) := by rw [← it_add, ← it_add, Nat.add_comm]
structure IsOrd (o : List Int) : Prop where
  l1 : 1 ≤ o.length
  l2 : o.length ≤ 40
  pm : o.Perm (rng 0 o.length)
theorem isOrd_sort {o : List Int} (h1 : 1 ≤ o.length) (h2 : o.length ≤ 40) (h3 : sortI o = rng 0 o.length) : IsOrd o := ⟨h1, h2, by rw [← h3]; exact (sort_perm o).symm⟩
section
variable {o : List Int}
theorem IsOrd.sort (h : IsOrd o) : sortI o = rng 0 o.length := sort_of_perm h.pm (rng_sorted _ _)
theorem IsOrd.nd (h : IsOrd o) : o.Nodup := h.pm.nodup_iff.mpr (rng_nodup _ _)
theorem IsOrd.mem (h : IsOrd o) {x : Int} : x ∈ o ↔ 0 ≤ x ∧ x < o.length := h.pm.mem_iff.trans mem_rng
theorem nxt_get {x : Int} (h0 : 0 ≤ x) (h1 : x < o.length) : o[x.toNat]? = some (nxt o x) := by
  unfold nxt
  have : x.toNat < o.length := by omega
  rw [List.getElem?_eq_getElem this, List.getD_eq_getElem?_getD, List.getElem?_eq_getElem this]; rfl
theorem nxt_at {x : Int} (h0 : 0 ≤ x) (h1 : x < o.length) : atI o x = some (nxt o x) := by rw [atI_get h0 h1, nxt_get h0 h1]
theorem IsOrd.nxt (h : IsOrd o) {x : Int} (h0 : 0 ≤ x) (h1 : x < o.length) : 0 ≤ Dy.nxt o x ∧ Dy.nxt o x < o.length := h.mem.mp (List.mem_of_getElem? (nxt_get h0 h1))
theorem IsOrd.it (h : IsOrd o) {x : Int} (h0 : 0 ≤ x) (h1 : x < o.length) : ∀ k, 0 ≤ Dy.it o k x ∧ Dy.it o k x < o.length
  | 0 => ⟨h0, h1⟩
  | k + 1 => h.nxt (h.it h0 h1 k).1 (h.it h0 h1 k).2
theorem IsOrd.inj (h : IsOrd o) {x y : Int} (x0 : 0 ≤ x) (x1 : x < o.length) (y0 : 0 ≤ y) (y1 : y < o.length) (e : Dy.nxt o x = Dy.nxt o y) : x = y := by
  have h1 := nxt_get x0 x1
  have h2 := nxt_get y0 y1
  rw [← e] at h2
  obtain ⟨a1, b1⟩ := List.getElem?_eq_some_iff.mp h1
  obtain ⟨a2, b2⟩ := List.getElem?_eq_some_iff.mp h2
  have := (List.getElem_inj h.nd (i := x.toNat) (j := y.toNat) (h₀ := a1) (h₁ := a2)).mp (b1.trans b2.symm)
  omega
theorem IsOrd.itInj (h : IsOrd o) : ∀ (k : Nat) {x y : Int}, 0 ≤ x → x < o.length → 0 ≤ y → y < o.length → Dy.it o k x = Dy.it o k y → x = y
  | 0, _, _, _, _, _, _, e => e
  | k + 1, _, _, x0, x1, y0, y1, e => h.itInj k x0 x1 y0 y1 (h.inj (h.it x0 x1 k).1 (h.it x0 x1 k).2 (h.it y0 y1 k).1 (h.it y0 y1 k).2 e)
theorem least {p : Nat → Prop} : ∀ n, p n → ∃ m, m ≤ n ∧ p m ∧ ∀ k, k < m → ¬ p k := by
  intro n
  induction n using Nat.strongRecOn with
  | _ n ih =>
    intro h
    by_cases hk : ∃ k, k < n ∧ p k
    · obtain ⟨k, h1, h2⟩ := hk
      obtain ⟨m, h3, h4, h5⟩ := ih k h1 h2
      exact ⟨m, by omega, h4, h5⟩
    · exact ⟨n, Nat.le_refl _, h, fun k hk' hp => hk ⟨k, hk', hp⟩⟩
theorem IsOrd.cycle (h : IsOrd o) {x : Int} (h0 : 0 ≤ x) (h1 : x < o.length) : ∃ L, 1 ≤ L ∧ L ≤ o.length ∧ Dy.it o L x = x ∧ ∀ k, 0 < k → k < L → Dy.it o k x ≠ x := by
  have ex : ∃ L, 1 ≤ L ∧ L ≤ o.length ∧ Dy.it o L x = x := by
    refine Classical.byContradiction fun hn => ?_
    have hne : ∀ i j, i < j → j ≤ o.length → Dy.it o i x ≠ Dy.it o j x := fun i j hij hj e => by
      refine hn ⟨j - i, by omega, by omega, ?_⟩
      have e2 : Dy.it o i x = Dy.it o i (Dy.it o (j - i) x) := by rw [← it_add, show i + (j - i) = j by omega]; exact e
      have := h.it h0 h1 (j - i)
      exact (h.itInj i h0 h1 this.1 this.2 e2).symm
    have h2 : ((List.range (o.length + 1)).map fun k => (Dy.it o k x).toNat).Nodup := by
      refine List.Pairwise.map (R := fun a b => a < b ∧ b ≤ o.length) _ (fun a b ⟨p, q⟩ e => ?_) ?_
      · have e1 := h.it h0 h1 a
        have e2 := h.it h0 h1 b
        exact hne a b p q (by omega)
      · refine List.Pairwise.imp_of_mem (fun {a b} ha hb hlt => ⟨hlt, by have := List.mem_range.mp hb; omega⟩) List.pairwise_lt_range
    have h3 := php o.length _ h2 (fun y hy => by
      obtain ⟨k, _, rfl⟩ := List.mem_map.mp hy
      have := h.it h0 h1 k
      omega)
    rw [List.length_map, List.length_range] at h3
    omega
  obtain ⟨L, a, b, c⟩ := ex
  obtain ⟨m, m1, ⟨m2, m3, m4⟩, m5⟩ := least (p := fun L => 1 ≤ L ∧ L ≤ o.length ∧ Dy.it o L x = x) L ⟨a, b, c⟩
  exact ⟨m, m2, m3, m4, fun k k0 k1 e => m5 k k1 ⟨by omega, by omega, e⟩⟩
theorem it_mul {L : Nat} {x : Int} (h : Dy.it o L x = x) : ∀ q, Dy.it o (L * q) x = x
  | 0 => rfl
  | q + 1 => by rw [Nat.mul_succ, it_add, h, it_mul h q]
theorem it_mod {L : Nat} {x : Int} (h : Dy.it o L x = x) (m : Nat) : Dy.it o (m % L) x = Dy.it o m x := by
  conv => rhs; rw [← Nat.mod_add_div m L, it_add, it_mul h]
def srv (o : List Int) (m : Nat) : List Int := (rng 0 o.length).map (Dy.it o m)
theorem srv_len (o : List Int) (m : Nat) : (srv o m).length = o.length := by unfold srv; rw [List.length_map, rng_len]; omega
theorem rng_getE {a b : Int} {i : Nat} (h : i < (b - a).toNat) : (rng a b)[i]? = some (a + (i : Int)) := by
  unfold rng
  rw [List.getElem?_map, List.getElem?_range h]; rfl
theorem srv_at {m : Nat} {x : Int} (h0 : 0 ≤ x) (h1 : x < o.length) : atI (srv o m) x = some (Dy.it o m x) := by
  rw [atI_get h0 (by rw [srv_len]; exact h1)]
  unfold srv
  rw [List.getElem?_map, rng_getE (by omega)]
  show some (Dy.it o m (0 + (x.toNat : Int))) = _
  rw [show (0 : Int) + (x.toNat : Int) = x by omega]
theorem srv_perm (h : IsOrd o) (m : Nat) : (srv o m).Perm (rng 0 o.length) := by
  refine perm_rng ?_ (srv_len o m) (fun x hx => ?_)
  · refine List.Pairwise.map (R := fun (a b : Int) => a ≠ b ∧ (0 ≤ a ∧ a < (o.length : Int)) ∧ 0 ≤ b ∧ b < (o.length : Int)) _ (fun a b ⟨p, q, r⟩ e => p (h.itInj m q.1 q.2 r.1 r.2 e)) ?_
    exact List.Pairwise.imp_of_mem (fun {a b} ha hb hne => ⟨hne, mem_rng.mp ha, mem_rng.mp hb⟩) (rng_nodup _ _)
  · obtain ⟨y, hy, rfl⟩ := List.mem_map.mp hx
    obtain ⟨a, b⟩ := mem_rng.mp hy
    exact h.it a b m
theorem srv_mem (h : IsOrd o) {m : Nat} {x : Int} (hx : x ∈ srv o m) : 0 ≤ x ∧ x < o.length := mem_rng.mp ((srv_perm h m).mem_iff.mp hx)
theorem srv_zero (o : List Int) : srv o 0 = rng 0 o.length := by
  unfold srv
  have : (Dy.it o 0 : Int → Int) = id := by funext x; rfl
  rw [this, List.map_id]
theorem srv_one (o : List Int) : srv o 1 = o := by
  refine List.ext_getElem? fun i => ?_
  unfold srv
  rw [List.getElem?_map]
  by_cases h : i < o.length
  · rw [rng_getE (by omega)]
    show some (Dy.nxt o (0 + (i : Int))) = _
    have := nxt_get (o := o) (x := (i : Int)) (by omega) (by omega)
    rw [show (0 : Int) + (i : Int) = (i : Int) by omega, ← this]
    congr 1
  · rw [List.getElem?_eq_none (by rw [rng_len]; omega), List.getElem?_eq_none (by omega)]; rfl
theorem srv_add (a b : Nat) : (srv o a).map (Dy.it o b) = srv o (b + a) := by
  unfold srv
  rw [List.map_map]
  exact List.map_congr_left fun x _ => (it_add o b a x).symm
end
theorem erase_perm {τ : Type} : ∀ (l : List τ) (i : Nat) (h : i < l.length), (l[i] :: l.eraseIdx i).Perm l
  | [], i, h => absurd h (Nat.not_lt_zero _)
  | x :: xs, 0, _ => List.Perm.refl _
  | x :: xs, i + 1, h => (List.Perm.swap x _ _).trans (List.Perm.cons x (erase_perm xs i (Nat.lt_of_succ_lt_succ h)))
theorem popAt_ok {τ : Type} {l : List τ} {z : Int} (h0 : 0 ≤ z) (h1 : z < l.length) (h2 : l.length < 1000000) : Ok (popAt l z) (fun r => (r.1 :: r.2).Perm l) := by
  unfold popAt popN seqIndex?
  have hl : z.toNat < l.length := by omega
  rw [if_pos ⟨by omega, by omega⟩]
  simp only
  rw [show (if z < 0 then z + (l.length : Int) else z) = z from if_neg (by omega), if_pos (by rw [Bool.and_eq_true]; exact ⟨decide_eq_true h0, decide_eq_true h1⟩), Option.bind_some, List.getElem?_eq_getElem hl]
  exact ok_some (erase_perm l _ hl)
theorem ok_popAll {σ τ : Type} {f : List τ → σ → Option Int} : ∀ {xs : List σ} {l : List τ}, (∀ l' x, l' ≠ [] → l'.length ≤ l.length → x ∈ xs → Ok (f l' x) (fun z => 0 ≤ z ∧ z < l'.length)) → xs.length ≤ l.length → l.length < 1000000 → Ok (popAll f l xs) (fun ys => ys.length = xs.length ∧ ∃ r, (ys ++ r).Perm l)
  | [], l, _, _, _ => ⟨[], rfl, rfl, l, List.Perm.refl _⟩
  | x :: xs, l, h, hl, hz => by
    rw [List.length_cons] at hl
    have hne : l ≠ [] := fun e => by subst e; simp at hl
    unfold popAll
    refine ok_bnd (h l x hne (Nat.le_refl _) List.mem_cons_self) fun z ⟨z0, z1⟩ => ok_bnd (popAt_ok z0 z1 hz) fun r hr => ?_
    have hlen : r.2.length + 1 = l.length := by have := hr.length_eq; rw [List.length_cons] at this; exact this
    refine ok_bnd (ok_popAll (fun l' y hn hl' hy => h l' y hn (by omega) (List.mem_cons_of_mem _ hy)) (by omega) (by omega)) fun ys ⟨e1, r', e2⟩ => ok_some ⟨by rw [List.length_cons, List.length_cons, e1], r', ?_⟩
    exact (List.Perm.cons r.1 e2).trans hr
theorem repl_one {τ : Type} (n : Int) (x : τ) : repl n [x] = List.replicate n.toNat x := by
  unfold repl
  exact List.flatten_replicate_singleton
end Dy

namespace Dy
open PySem PySem.Spec L2
open PyProof.Rows hiding St
instance {α β : Type} [Enc α] [Enc β] : Opn (α × β) := ⟨fun h => by obtain ⟨_, _, _, e, _⟩ := h; cases e⟩
instance {α β γ : Type} [Enc α] [Enc β] [Enc γ] : Opn (T3 α β γ) := ⟨fun h => by obtain ⟨_, _, _, _, e, _⟩ := h; cases e⟩
instance {α β γ : Type} {n m k : Nat} [Shp α n] [Shp β m] [Shp γ k] : Shp (T3 α β γ) (n + m + k + 1) := ⟨fun x => by
  obtain ⟨h1, h2⟩ := Shp.ok x.a
  obtain ⟨h3, h4⟩ := Shp.ok x.b
  obtain ⟨h5, h6⟩ := Shp.ok x.c
  refine ⟨?_, ?_⟩
  · show PyData.canLay0 (.tuple [EqD.toD x.a, EqD.toD x.b, EqD.toD x.c]) = true
    simp [PyData.canLay0, PyData.canLayAll0, h1, h3, h5]
  · show PyData.depth (.tuple [EqD.toD x.a, EqD.toD x.b, EqD.toD x.c]) ≤ n + m + k + 1
    simp [PyData.depth, PyData.depthAll]
    omega⟩
section
variable {X : Cx} {K : PySem.W.Frag} {a b e : Expr} {σ : St} {s : S} {p0 p1 p2 pos : Pos} {α β : Type} [Enc α] [Enc β]
def ixS (x y : Str) : Option Nat := (Builtin.Str.occurrences y x 0 y.length 1).head?
theorem ev_indexS {x y : Str} {j : Nat} (ha : Ev X a σ s y) (hb : Ev X b σ s x) (h : ixS x y = some j)
    (hs : starEach [b] X.env = [(false, eval b X.env)] := by rfl) (hbase : attributeBase a "index" X.env (eval a X.env) = eval a X.env := by rfl) (hline : (p1.endLine == pos.line) = true := by rfl) :
    Ev X (.Call (.Attribute a "index" p1) [b] [] pos) σ s (j : Int) := fun s1 k Q q =>
  we_of (pe_m1 PySem.F.slot_str_index PySem.F.type_str_index mt_sindex pe_we pe_we hs hbase hline) (ha s1 k _ fun v s2 k2 r2 => ⟨⟨y, r2⟩, hb s2 (k.trans k2) _ fun u s3 k3 r3 => by
    unfold ixS at h
    obtain ⟨rest, hr⟩ : ∃ rest, Builtin.Str.occurrences y x 0 y.length 1 = j :: rest := by
      cases ho : Builtin.Str.occurrences y x 0 y.length 1 with
      | nil => rw [ho] at h; cases h
      | cons i rest => rw [ho] at h; cases h; exact ⟨rest, rfl⟩
    exact ⟨y, x, j, rest, r2, by rw [show u = V.str x from r3], hr, q _ s3 (k2.trans k3) rfl⟩⟩)
end
section
variable {α α' α'' β : Type} [Enc α] [Enc α'] [Enc α''] [Enc β] {X : Cx} {σ : St} {s : S} {elt tg iter c : Expr} {ifs : List Expr} {scope : Scope} {own : List (Str × Nat)} {pos : Pos}
theorem ev_some' {e : Expr} {x : Option α} {y : α} (ha : Ev X e σ s x) (h : x = some y) : Ev X e σ s y := fun s1 k Q q => by
  subst h
  exact ha s1 k Q fun v s2 k2 r2 => q v s2 k2 r2
theorem en_comp0P {xs : List (α × α')} {ys : List β} {f : α × α' → Option β} {i j : Nat} (hc : X.calm = true) (hN : X.N.Nodup) (hi : EvI X tg iter σ s xs) (ok : BlkOk X.N X.env.scope scope own)
    (hio : i ∈ own.map (·.2)) (hjo : j ∈ own.map (·.2)) (hg : ∀ s0 H0 C cl fp, PG (Blk X scope s0 H0 C cl fp) tg (gTup X.K 2 (gCons (gName i) (gCons (gName j) gNil)))) (hf : mapO f xs = some ys) (hz : ys.length ≤ sizeLine)
    (he : ∀ (x : α × α') (y : β) (v u : V) (s1 : S), x ∈ xs → Ex s s1 → Enc.rep X.K s1.F v x.1 → Enc.rep X.K s1.F u x.2 → f x = some y → ∀ s0 H0 C cl fp, Ev (Blk X scope s0 H0 C cl fp) elt (((wipe σ (own.map (·.2))).set i (some v)).set j (some u)) s1 y)
    (hs : ∀ x, foldedSetIterable iter X.env x = pure x := by intro _; rfl) : EvL X elt tg iter [] scope σ s ys :=
  ⟨hc, hN, hs, own, _, _, ok, hg, fun _ _ _ _ _ => pts_nil, fun s1 k Q q => comp_read (t := fun _ => some true) hc hN hi ok hg tg_2 (fun _ _ _ _ _ => pts_nil) hf hz (fun F x σ2 ⟨v, u, _, _, e⟩ => by rw [e, wipe_set hjo, wipe_set hio]; exact wipe_wipe fun _ z => z)
    (fun x b s1 σ2 Q _ _ _ hb q => by cases hb; exact q s1 (Ex.refl _)) (fun x y s1 σ2 hx k ⟨v, u, r, r', e⟩ _ hfx => by subst e; exact he x y v u s1 hx k r r' hfx) s1 k Q q⟩
theorem en_comp1P {xs : List (α × α')} {ys : List β} {t : α × α' → Option Bool} {f : α × α' → Option β} {i j : Nat} (hc : X.calm = true) (hN : X.N.Nodup) (hi : EvI X tg iter σ s xs) (ok : BlkOk X.N X.env.scope scope own)
    (hio : i ∈ own.map (·.2)) (hjo : j ∈ own.map (·.2)) (hg : ∀ s0 H0 C cl fp, PG (Blk X scope s0 H0 C cl fp) tg (gTup X.K 2 (gCons (gName i) (gCons (gName j) gNil)))) (hf : compO t f xs = some ys) (hz : ys.length ≤ sizeLine)
    (ht : ∀ (x : α × α') (b : Bool) (v u : V) (s1 : S), x ∈ xs → Ex s s1 → Enc.rep X.K s1.F v x.1 → Enc.rep X.K s1.F u x.2 → t x = some b → ∀ s0 H0 C cl fp, EvT (Blk X scope s0 H0 C cl fp) c (((wipe σ (own.map (·.2))).set i (some v)).set j (some u)) s1 b)
    (he : ∀ (x : α × α') (y : β) (v u : V) (s1 : S), x ∈ xs → Ex s s1 → Enc.rep X.K s1.F v x.1 → Enc.rep X.K s1.F u x.2 → t x = some true → f x = some y → ∀ s0 H0 C cl fp, Ev (Blk X scope s0 H0 C cl fp) elt (((wipe σ (own.map (·.2))).set i (some v)).set j (some u)) s1 y)
    (hs : ∀ x, foldedSetIterable iter X.env x = pure x := by intro _; rfl) : EvL X elt tg iter [c] scope σ s ys :=
  ⟨hc, hN, hs, own, _, _, ok, hg, fun s0 H0 C cl fp => pts_one ⟨fun pins s _ _ _ I h => h s0 H0 C cl fp pins s I⟩, fun s1 k Q q => comp_read (tt := fun σ H Q => ∀ s0 H0 C cl fp, WT (Blk X scope s0 H0 C cl fp) c σ H Q) hc hN hi ok hg tg_2 (fun s0 H0 C cl fp => pts_one ⟨fun pins s _ _ _ I h => h s0 H0 C cl fp pins s I⟩) hf hz (fun F x σ2 ⟨v, u, _, _, e⟩ => by rw [e, wipe_set hjo, wipe_set hio]; exact wipe_wipe fun _ z => z)
    (fun x b s1 σ2 Q hx k ⟨v, u, r, r', e⟩ hb q => by subst e; intro s0 H0 C cl fp; exact ht x b v u s1 hx k r r' hb s0 H0 C cl fp s1 (Ex.refl _) Q q) (fun x y s1 σ2 hx k ⟨v, u, r, r', e⟩ htx hfx => by subst e; exact he x y v u s1 hx k r r' htx hfx) s1 k Q q⟩
end
end Dy

set_option maxHeartbeats 4000000
namespace K91
open PySem PySem.Spec L2 Dy
open PyProof.Rows hiding St
open Enc (rep)
open Flat (toV)
open EncA (repA)
def topS (i : Nat) : Stmt := PySem.Challenge.pw_deskpairs_k91_whole_pages_and_desks.main.body.getD i (.Pass ⟨0, 0, 0, 0⟩)
abbrev s_l_cell_at : Stmt := topS 18
abbrev N_l_cell_at : List Str := ["_law_script", "_law_k"]
theorem sc_l_cell_at : FnScope N_l_cell_at ["_law_script", "_law_k"] (defScope s_l_cell_at) := ⟨rfl, rfl, rfl, by decide +kernel, rfl, by decide +kernel, by decide +kernel⟩
noncomputable def m_l_cell_at (script1 : (List Int)) (k4 : Int) : Option Int :=
 (if (decide (k4 < ((script1).length : Int))) = true then
 (bnd (atI script1 k4) fun at16 => (some at16))
 else
 (some (0 : Int)))
noncomputable abbrev a_l_cell_at : (List Int) × Int × Unit → Option Int := fun a => m_l_cell_at a.1 a.2.1
theorem ok_l_cell_at {P : Program} {w : World} {K : PySem.W.Frag} {mg : Str → Option Value} {base : Heap} {f : Addr} {fd : FuncData} (F : FunP K "_law_cell_at" s_l_cell_at f fd) (hmg : mg "_law_cell_at" = some (.ref f)) (z_len : mg "len" = none) : Cal P w K mg base CX0 1 "_law_cell_at" (sp K a_l_cell_at) := by
  refine mk_cal (k := 0) F hmg (F.bindsN fun _ _ _ _ _ _ us hl => match us, hl with | [_, _], _ => rfl) sc_l_cell_at len2 ?_
  rintro cdv A' outer sh0 H0 X0 hr s0 vs ⟨script1, k4, _⟩ r0 Q ⟨v2, _, rfl, r3, v5, _, rfl, r6, rfl⟩ hm hQ
  have E7 := Ex.refl s0
  unfold a_l_cell_at m_l_cell_at at hm
  dsimp only at hm
  refine do_ifR (EvB.t (eb_lt (ev_var 1 rfl r6) (ev_len z_len (Ev.r (ev_var 0 rfl r3))))) (fun hb9 s10 e11 => ?_) (fun hb21 s22 e23 => ?_)
  · have hm12 := iteE1 hm hb9
    have E13 := E7.trans e11
    have r14 := Enc.mono e11.f r3
    have r15 := Enc.mono e11.f r6
    obtain ⟨at16, h_at16, hm12⟩ := bndE hm12
    obtain rfl := Option.some.inj hm12
    exact do_ret (ev_ix (Ev.r (ev_var 0 rfl r14)) (ev_var 1 rfl r15) h_at16) fun v17 s18 e19 r20 => hQ _ _ (E13.trans e19) r20
  · have hm24 := iteE2 hm hb21
    have E25 := E7.trans e23
    have r26 := Enc.mono e23.f r3
    have r27 := Enc.mono e23.f r6
    obtain rfl := Option.some.inj hm24
    exact do_ret ev_int fun v28 s29 e30 r31 => hQ _ _ (E25.trans e30) r31
abbrev s_l_row : Stmt := topS 19
abbrev N_l_row : List Str := ["_law_cell", "_law_many", "_law_count", "_law_found", "_law_number", "_law_k", "_law_mixed"]
theorem sc_l_row : FnScope N_l_row ["_law_cell", "_law_many", "_law_count"] (defScope s_l_row) := ⟨rfl, rfl, rfl, by decide +kernel, rfl, by decide +kernel, by decide +kernel⟩
noncomputable def m_l_row (cell32 : Int) (many35 : Int) (count38 : Int) : Option (List Int) :=
 (lt (([] : List Int) : (List Int)) fun found42 =>
 (lt ((cell32 / (2 : Int)) : Int) fun number54 =>
 (chk (RgB count38) (bnd (foldO (fun (b68 : ((List Int) × Int)) (x70 : Int) =>
 (bnd (if (decide ((cell32 % (2 : Int)) = (0 : Int))) = true then
 (chk (0 < many35) (chk ((b68.1).length < sizeLine) (lt ((b68.1 ++ [(b68.2 % many35)]) : (List Int)) fun found120 =>
 (chk (DivOk many35) (lt ((b68.2 / many35) : Int) fun number133 =>
 (some (found120, number133)))))))
 else
 (chk (MulOk x70 x70) (lt (((((cell32 % (1000003 : Int)) + (1 : Int)) * ((x70 * x70) + (48271 : Int))) % (65537 : Int)) : Int) fun mixed161 =>
 (chk (0 < many35) (chk ((b68.1).length < sizeLine) (lt ((b68.1 ++ [((((mixed161 * mixed161) + ((30269 : Int) * x70)) % (65521 : Int)) % many35)]) : (List Int)) fun found179 =>
 (some (found179, b68.2))))))) : Option ((List Int) × Int)) fun b102 =>
 (some (b102.1, b102.2)))) (found42, number54) (rng 0 count38)) fun o66 =>
 (some o66.1)))))
noncomputable abbrev a_l_row : Int × Int × Int × Unit → Option (List Int) := fun a => m_l_row a.1 a.2.1 a.2.2.1
theorem ok_l_row {P : Program} {w : World} {K : PySem.W.Frag} {mg : Str → Option Value} {base : Heap} {f : Addr} {fd : FuncData} (F : FunP K "_law_row" s_l_row f fd) (hmg : mg "_law_row" = some (.ref f)) (z_range : mg "range" = none) : Cal P w K mg base CX0 1 "_law_row" (spN K a_l_row) := by
  refine mk_calN (k := 0) F hmg (F.bindsN fun _ _ _ _ _ _ us hl => match us, hl with | [_, _, _], _ => rfl) sc_l_row len3 ?_
  rintro cdv A' outer sh0 H0 X0 hr s0 vs ⟨cell32, many35, count38, _⟩ r0 Q ⟨v33, _, rfl, r34, v36, _, rfl, r37, v39, _, rfl, r40, rfl⟩ hm hQ
  have E41 := Ex.refl s0
  unfold a_l_row m_l_row at hm
  dsimp only at hm
  refine do_setN 3 (en_list (xs := ([] : List Int)) ee_nil (by simp [sizeLine])) (fun p46 s44 e45 n47 o48 => ?_) sc_l_row.nd
  have n49 := fr_back E41 n47
  have E50 := E41.trans e45
  have r51 := Enc.mono e45.f r34
  have r52 := Enc.mono e45.f r37
  have r53 := Enc.mono e45.f r40
  obtain ⟨found42, q43, hm⟩ := ltE hm
  rw [← q43] at o48
  refine do_set 4 (ev_div (ev_var 0 rfl r51) ev_int ⟨by decide, by decide +kernel⟩) (fun v58 s56 e57 r59 => ?_) sc_l_row.nd
  have E60 := E50.trans e57
  have r61 := Enc.mono e57.f r51
  have r62 := Enc.mono e57.f r52
  have r63 := Enc.mono e57.f r53
  have o64 := Own.ex o48 e57
  obtain ⟨number54, q55, hm⟩ := ltE hm
  rw [← q55] at r59
  obtain ⟨hc65, hm⟩ := chkE hm
  obtain ⟨o66, ho67, hm⟩ := bndE hm
  refine do_forO (υ := ((List Int) × Int)) PassesOwn.never rfl (ei_range1 z_range (ev_var 2 rfl r63) hc65) (pg_name (i := 5) sc_l_row.nd rfl (by first | exact Or.inl rfl | exact Or.inr rfl)) tg_n ho67 (fun (b68 : ((List Int) × Int)) (σ' : L2.St) (t' : S) => Ex s0 t' ∧ ∃ (v_number : V) (y_mixed : Option V) (y_k : Option V), σ' = [some v33, some v36, some v39, some (.ref p46), some v_number, y_k, y_mixed] ∧ Own K t' p46 (b68.1 : (List Int)) ∧ rep K t'.F v_number (b68.2 : Int)) (fun s213 k214 => by have E215 := E60.trans k214; have r216 := Enc.mono k214.f r61; have r217 := Enc.mono k214.f r62; have r218 := Enc.mono k214.f r63; have o219 := Own.ex o64 k214; have r220 := Enc.mono k214.f r59; exact ⟨E215, v58, _, _, rfl, o219, r220⟩) (fun s71 k72 x70 b68 b69 σ81 σ82 t79 t80 hx73 hm74 fl75 hR76 k77 hB78 => ?_) (fun s207 k208 σ209 t210 fl211 hR212 => ?_)
  · have hf83 := Fle.trans k72.f fl75
    obtain ⟨E84, v85, y86, y87, rfl, o88, r89⟩ := hR76
    have r90 := Enc.mono hf83 r61
    have r91 := Enc.mono hf83 r62
    have r92 := Enc.mono hf83 r63
    obtain ⟨v93, r94, rfl⟩ := hB78
    have E95 := E84.trans k77
    have o96 := Own.ex o88 k77
    have r97 := Enc.mono k77.f r89
    have r98 := Enc.mono k77.f r90
    have r99 := Enc.mono k77.f r91
    have r100 := Enc.mono k77.f r92
    obtain ⟨b102, hj103, hm74⟩ := bndE hm74
    refine do_if (EvB.t (eb_eq (ev_mod (ev_var 0 rfl r98) ev_int (by decide)) ev_int)) (fun (σ' : L2.St) (t' : S) => Fle t80.F t'.F ∧ Ex s0 t' ∧ ∃ (v_number : V) (y_mixed : Option V), σ' = [some v33, some v36, some v39, some (.ref p46), some v_number, some v93, y_mixed] ∧ Own K t' p46 (b102.1 : (List Int)) ∧ rep K t'.F v_number (b102.2 : Int)) (fun hb104 s105 e106 => ?_) (fun hb147 s148 e149 => ?_) (fun σ192 s193 hM194 => ?_)
    · have hm107 := iteE1 hj103 hb104
      have E108 := E95.trans e106
      have fl109 := Fle.trans (Fle.refl t80.F) e106.f
      have fl110 := Fle.trans (Fle.refl t80.F) e106.f
      have o111 := Own.ex o96 e106
      have r112 := Enc.mono e106.f r97
      have r113 := Enc.mono e106.f r98
      have r114 := Enc.mono e106.f r99
      have r115 := Enc.mono e106.f r100
      have r116 := Enc.mono e106.f r94
      obtain ⟨hc122, hm107⟩ := chkE hm107
      obtain ⟨hc123, hm107⟩ := chkE hm107
      refine do_append 3 rfl o111 (ev_mod (ev_var 4 rfl r112) (ev_var 1 rfl r114) hc122) hc123 (fun s117 m118 o119 => ?_)
      have E124 := Ex.mu1 E108 m118 n49
      have fl125 := Fle.trans fl109 m118.f
      have fl126 := Fle.trans fl110 m118.f
      have r127 := Enc.mono m118.f r112
      have r128 := Enc.mono m118.f r113
      have r129 := Enc.mono m118.f r114
      have r130 := Enc.mono m118.f r115
      have r131 := Enc.mono m118.f r116
      obtain ⟨found120, q121, hm107⟩ := ltE hm107
      rw [← q121] at o119
      obtain ⟨hc132, hm107⟩ := chkE hm107
      refine do_set 4 (ev_div (ev_var 4 rfl r127) (ev_var 1 rfl r129) hc132) (fun v137 s135 e136 r138 => ?_) sc_l_row.nd
      have E139 := E124.trans e136
      have fl140 := Fle.trans fl125 e136.f
      have fl141 := Fle.trans fl126 e136.f
      have r142 := Enc.mono e136.f r128
      have r143 := Enc.mono e136.f r129
      have r144 := Enc.mono e136.f r130
      have r145 := Enc.mono e136.f r131
      have o146 := Own.ex o119 e136
      obtain ⟨number133, q134, hm107⟩ := ltE hm107
      rw [← q134] at r138
      obtain rfl := Option.some.inj hm107
      exact do_nil ⟨s135, rfl, fl141, ⟨E139, v137, _, rfl, o146, r138⟩⟩
    · have hm150 := iteE2 hj103 hb147
      have E151 := E95.trans e149
      have fl152 := Fle.trans (Fle.refl t80.F) e149.f
      have fl153 := Fle.trans (Fle.refl t80.F) e149.f
      have o154 := Own.ex o96 e149
      have r155 := Enc.mono e149.f r97
      have r156 := Enc.mono e149.f r98
      have r157 := Enc.mono e149.f r99
      have r158 := Enc.mono e149.f r100
      have r159 := Enc.mono e149.f r94
      obtain ⟨hc160, hm150⟩ := chkE hm150
      refine do_set 6 (ev_mod (ev_mul (ev_add (ev_mod (ev_var 0 rfl r156) ev_int (by decide)) ev_int) (ev_add (ev_mul (ev_var 5 rfl r159) (ev_var 5 rfl r159) hc160) ev_int) (Or.inl (Or.inl ⟨by omega, by omega⟩))) ev_int (by decide)) (fun v165 s163 e164 r166 => ?_) sc_l_row.nd
      have E167 := E151.trans e164
      have fl168 := Fle.trans fl152 e164.f
      have fl169 := Fle.trans fl153 e164.f
      have o170 := Own.ex o154 e164
      have r171 := Enc.mono e164.f r155
      have r172 := Enc.mono e164.f r156
      have r173 := Enc.mono e164.f r157
      have r174 := Enc.mono e164.f r158
      have r175 := Enc.mono e164.f r159
      obtain ⟨mixed161, q162, hm150⟩ := ltE hm150
      rw [← q162] at r166
      obtain ⟨hc181, hm150⟩ := chkE hm150
      obtain ⟨hc182, hm150⟩ := chkE hm150
      refine do_append 3 rfl o170 (ev_mod (ev_mod (ev_add (ev_mul (ev_var 6 rfl r166) (ev_var 6 rfl r166) (Or.inl (Or.inl ⟨by omega, by omega⟩))) (ev_mul ev_int (ev_var 5 rfl r175) (Or.inl (Or.inl ⟨by omega, by omega⟩)))) ev_int (by decide)) (ev_var 1 rfl r173) hc181) hc182 (fun s176 m177 o178 => ?_)
      have E183 := Ex.mu1 E167 m177 n49
      have fl184 := Fle.trans fl168 m177.f
      have fl185 := Fle.trans fl169 m177.f
      have r186 := Enc.mono m177.f r171
      have r187 := Enc.mono m177.f r172
      have r188 := Enc.mono m177.f r173
      have r189 := Enc.mono m177.f r174
      have r190 := Enc.mono m177.f r175
      have r191 := Enc.mono m177.f r166
      obtain ⟨found179, q180, hm150⟩ := ltE hm150
      rw [← q180] at o178
      obtain rfl := Option.some.inj hm150
      exact do_nil ⟨s176, rfl, fl185, ⟨E183, v85, _, rfl, o178, r186⟩⟩
    · obtain ⟨hf195, hR196⟩ := hM194
      obtain ⟨E197, v198, y199, rfl, o200, r201⟩ := hR196
      have r202 := Enc.mono hf195 r98
      have r203 := Enc.mono hf195 r99
      have r204 := Enc.mono hf195 r100
      have r205 := Enc.mono hf195 r94
      have fl206 := Fle.trans (Fle.refl t80.F) hf195
      obtain rfl := Option.some.inj hm74
      exact do_nil ⟨s193, rfl, fl206, ⟨E197, v198, _, _, rfl, o200, r201⟩⟩
  · have hf221 := Fle.trans k208.f fl211
    obtain ⟨E222, v223, y224, y225, rfl, o226, r227⟩ := hR212
    have r228 := Enc.mono hf221 r61
    have r229 := Enc.mono hf221 r62
    have r230 := Enc.mono hf221 r63
    obtain rfl := Option.some.inj hm
    exact do_retO 3 rfl (hQ _ _ E222 n49 o226)
abbrev s_l_bars : Stmt := topS 20
abbrev N_l_bars : List Str := ["_law_script", "_law_at", "_law_cell", "_law_size", "_law_one"]
theorem sc_l_bars : FnScope N_l_bars ["_law_script", "_law_at"] (defScope s_l_bars) := ⟨rfl, rfl, rfl, by decide +kernel, rfl, by decide +kernel, by decide +kernel⟩
noncomputable def m_l_bars (script231 : (List Int)) (at234 : Int) : Option (List Int) :=
 (bnd (m_l_cell_at script231 at234) fun cell_at238 => (lt (cell_at238 : Int) fun cell239 =>
 (lt (((1 : Int) + (cell239 % (30 : Int))) : Int) fun size248 =>
 (bnd (if (decide (((cell239 / (30 : Int)) % (16 : Int)) = (7 : Int))) = true then
 (lt (((1 : Int) + ((cell239 / (480 : Int)) % (200 : Int))) : Int) fun size271 =>
 (some size271))
 else
 (some size248) : Option Int) fun b259 =>
 (bnd (m_l_cell_at script231 (at234 + (1 : Int))) fun cell_at303 => (if (decide ((cell_at303 % (3 : Int)) = (1 : Int))) = true then
 (bnd (m_l_cell_at script231 (at234 + (1 : Int))) fun cell_at314 => (bnd (m_l_row (cell_at314 / (3 : Int)) ((10 : Int) ^ ((60 : Int)).toNat) b259) fun row315 => (some row315)))
 else
 (bnd (m_l_cell_at script231 (at234 + (1 : Int))) fun cell_at329 => (bnd (m_l_row (cell_at329 / (3 : Int)) (13 : Int) b259) fun row330 => (chk (((List.map (fun (x331 : Int) => (max (0 : Int) (x331 - (4 : Int)))) row330)).length ≤ sizeLine) (some (List.map (fun (x331 : Int) => (max (0 : Int) (x331 - (4 : Int)))) row330)))))))))))
noncomputable abbrev a_l_bars : (List Int) × Int × Unit → Option (List Int) := fun a => m_l_bars a.1 a.2.1
theorem ok_l_bars {P : Program} {w : World} {K : PySem.W.Frag} {mg : Str → Option Value} {base : Heap} {f : Addr} {fd : FuncData} (F : FunP K "_law_bars" s_l_bars f fd) (hmg : mg "_law_bars" = some (.ref f)) (C_l_cell_at : Cal P w K mg base CX0 1 "_law_cell_at" (sp K a_l_cell_at)) (C_l_row : Cal P w K mg base CX0 1 "_law_row" (spN K a_l_row)) (z_max : mg "max" = none) : Cal P w K mg base CX0 2 "_law_bars" (sp K a_l_bars) := by
  refine mk_cal (k := 1) F hmg (F.bindsN fun _ _ _ _ _ _ us hl => match us, hl with | [_, _], _ => rfl) sc_l_bars len2 ?_
  rintro cdv A' outer sh0 H0 X0 hr s0 vs ⟨script231, at234, _⟩ r0 Q ⟨v232, _, rfl, r233, v235, _, rfl, r236, rfl⟩ hm hQ
  have E237 := Ex.refl s0
  unfold a_l_bars m_l_bars at hm
  dsimp only at hm
  obtain ⟨cell_at238, h_cell_at238, hm⟩ := bndE hm
  refine do_set 2 (ev_call C_l_cell_at hr (by decide) (ea_cons (ev_var 0 rfl r233) (ea_cons (ev_var 1 rfl r236) ea_nil)) h_cell_at238) (fun v243 s241 e242 r244 => ?_) sc_l_bars.nd
  have E245 := E237.trans e242
  have r246 := Enc.mono e242.f r233
  have r247 := Enc.mono e242.f r236
  obtain ⟨cell239, q240, hm⟩ := ltE hm
  rw [← q240] at r244
  refine do_set 3 (ev_add ev_int (ev_mod (ev_var 2 rfl r244) ev_int (by decide))) (fun v252 s250 e251 r253 => ?_) sc_l_bars.nd
  have E254 := E245.trans e251
  have r255 := Enc.mono e251.f r246
  have r256 := Enc.mono e251.f r247
  have r257 := Enc.mono e251.f r244
  obtain ⟨size248, q249, hm⟩ := ltE hm
  rw [← q249] at r253
  obtain ⟨b259, hj260, hm⟩ := bndE hm
  refine do_if (EvB.t (eb_eq (ev_mod (ev_div (ev_var 2 rfl r257) ev_int ⟨by decide, by decide +kernel⟩) ev_int (by decide)) ev_int)) (fun (σ' : L2.St) (t' : S) => Fle s250.F t'.F ∧ Ex s0 t' ∧ ∃ (v_size : V), σ' = [some v232, some v235, some v243, some v_size, none] ∧ rep K t'.F v_size (b259 : Int)) (fun hb261 s262 e263 => ?_) (fun hb282 s283 e284 => ?_) (fun σ292 s293 hM294 => ?_)
  · have hm264 := iteE1 hj260 hb261
    have E265 := E254.trans e263
    have fl266 := Fle.trans (Fle.refl s250.F) e263.f
    have r267 := Enc.mono e263.f r255
    have r268 := Enc.mono e263.f r256
    have r269 := Enc.mono e263.f r257
    have r270 := Enc.mono e263.f r253
    refine do_set 3 (ev_add ev_int (ev_mod (ev_div (ev_var 2 rfl r269) ev_int ⟨by decide, by decide +kernel⟩) ev_int (by decide))) (fun v275 s273 e274 r276 => ?_) sc_l_bars.nd
    have E277 := E265.trans e274
    have fl278 := Fle.trans fl266 e274.f
    have r279 := Enc.mono e274.f r267
    have r280 := Enc.mono e274.f r268
    have r281 := Enc.mono e274.f r269
    obtain ⟨size271, q272, hm264⟩ := ltE hm264
    rw [← q272] at r276
    obtain rfl := Option.some.inj hm264
    exact do_nil ⟨s273, rfl, fl278, ⟨E277, v275, rfl, r276⟩⟩
  · have hm285 := iteE2 hj260 hb282
    have E286 := E254.trans e284
    have fl287 := Fle.trans (Fle.refl s250.F) e284.f
    have r288 := Enc.mono e284.f r255
    have r289 := Enc.mono e284.f r256
    have r290 := Enc.mono e284.f r257
    have r291 := Enc.mono e284.f r253
    obtain rfl := Option.some.inj hm285
    exact do_nil ⟨s283, rfl, fl287, ⟨E286, v252, rfl, r291⟩⟩
  · obtain ⟨hf295, hR296⟩ := hM294
    obtain ⟨E297, v298, rfl, r299⟩ := hR296
    have r300 := Enc.mono hf295 r255
    have r301 := Enc.mono hf295 r256
    have r302 := Enc.mono hf295 r257
    obtain ⟨cell_at303, h_cell_at303, hm⟩ := bndE hm
    refine do_ifR (EvB.t (eb_eq (ev_mod (ev_call C_l_cell_at hr (by decide) (ea_cons (ev_var 0 rfl r300) (ea_cons (ev_add (ev_var 1 rfl r301) ev_int) ea_nil)) h_cell_at303) ev_int (by decide)) ev_int)) (fun hb305 s306 e307 => ?_) (fun hb320 s321 e322 => ?_)
    · have hm308 := iteE1 hm hb305
      have E309 := E297.trans e307
      have r310 := Enc.mono e307.f r299
      have r311 := Enc.mono e307.f r300
      have r312 := Enc.mono e307.f r301
      have r313 := Enc.mono e307.f r302
      obtain ⟨cell_at314, h_cell_at314, hm308⟩ := bndE hm308
      obtain ⟨row315, h_row315, hm308⟩ := bndE hm308
      obtain rfl := Option.some.inj hm308
      exact do_ret (EvN.ev (en_call C_l_row hr (by decide) (ea_cons (ev_div (ev_call C_l_cell_at hr (by decide) (ea_cons (ev_var 0 rfl r311) (ea_cons (ev_add (ev_var 1 rfl r312) ev_int) ea_nil)) h_cell_at314) ev_int ⟨by decide, by decide +kernel⟩) (ea_cons (ev_pow ev_int ev_int ⟨by decide, by decide, by decide⟩) (ea_cons (ev_var 3 rfl r310) ea_nil))) h_row315)) fun v316 s317 e318 r319 => hQ _ _ (E309.trans e318) r319
    · have hm323 := iteE2 hm hb320
      have E324 := E297.trans e322
      have r325 := Enc.mono e322.f r299
      have r326 := Enc.mono e322.f r300
      have r327 := Enc.mono e322.f r301
      have r328 := Enc.mono e322.f r302
      obtain ⟨cell_at329, h_cell_at329, hm323⟩ := bndE hm323
      obtain ⟨row330, h_row330, hm323⟩ := bndE hm323
      obtain ⟨hc343, hm323⟩ := chkE hm323
      obtain rfl := Option.some.inj hm323
      exact do_ret (EvN.ev (EvL.n (en_comp0 (own := [("_law_one", 4)]) (j := 4) (f := fun (x331 : Int) => some (max (0 : Int) (x331 - (4 : Int)))) rfl sc_l_bars.nd (ei_list (EvN.ev (en_call C_l_row hr (by decide) (ea_cons (ev_div (ev_call C_l_cell_at hr (by decide) (ea_cons (ev_var 0 rfl r326) (ea_cons (ev_add (ev_var 1 rfl r327) ev_int) ea_nil)) h_cell_at329) ev_int ⟨by decide, by decide +kernel⟩) (ea_cons ev_int (ea_cons (ev_var 3 rfl r325) ea_nil))) h_row330))) (blkOk_by (own := [("_law_one", 4)]) (N := N_l_bars) (sc := defScope s_l_bars) (by decide +kernel)) rfl (by decide) (fun _ _ _ _ _ => pg_name (i := 4) sc_l_bars.nd rfl (by first | exact Or.inl rfl | exact Or.inr rfl)) (compO_map (fun (x331 : Int) => (max (0 : Int) (x331 - (4 : Int)))) row330) hc343 (fun x331 y332 v341 s333 hx335 e334 r342 hf336 _ _ _ _ _ => by obtain rfl := Option.some.inj hf336; exact (ev_max2 z_max ev_int (ev_sub (ev_var 4 rfl r342) ev_int)))))) fun v344 s345 e346 r347 => hQ _ _ (E324.trans e346) r347
abbrev s_asked_bars : Stmt := topS 8
abbrev N_asked_bars : List Str := ["bars"]
theorem sc_asked_bars : FnScope N_asked_bars ["bars"] (defScope s_asked_bars) := ⟨rfl, rfl, rfl, by decide +kernel, rfl, by decide +kernel, by decide +kernel⟩
noncomputable def m_asked_bars (bars348 : (List Int)) : Option Bool :=
 (bnd (orO (decide (((bars348).length : Int) < (1 : Int))) (orO (decide ((200 : Int) < ((bars348).length : Int))) (bnd (minL bars348) fun min352 => (some (decide (min352 < (0 : Int))))))) fun c353 => (if c353 = true then
 none
 else
 (some true)))
noncomputable abbrev a_asked_bars : (List Int) × Unit → Option Bool := fun a => m_asked_bars a.1
theorem ok_asked_bars {P : Program} {w : World} {K : PySem.W.Frag} {mg : Str → Option Value} {base : Heap} {f : Addr} {fd : FuncData} (F : FunP K "asked_bars" s_asked_bars f fd) (hmg : mg "asked_bars" = some (.ref f)) (z_len : mg "len" = none) (z_min : mg "min" = none) : Cal P w K mg base CX0 1 "asked_bars" (sp K a_asked_bars) := by
  refine mk_cal (k := 0) F hmg (F.bindsN fun _ _ _ _ _ _ us hl => match us, hl with | [_], _ => rfl) sc_asked_bars len1 ?_
  rintro cdv A' outer sh0 H0 X0 hr s0 vs ⟨bars348, _⟩ r0 Q ⟨v349, _, rfl, r350, rfl⟩ hm hQ
  have E351 := Ex.refl s0
  unfold a_asked_bars m_asked_bars at hm
  dsimp only at hm
  obtain ⟨c353, h_c353, hm⟩ := bndE hm
  refine do_ifR (EvW.tt (EvC.w (by skip; exact ec_orO (eb_lt (ev_len z_len (Ev.r (ev_var 0 rfl r350))) ev_int) (fun hb354 => (fun hz => (by skip; exact ec_orO (eb_gt (ev_len z_len (Ev.r (ev_var 0 rfl r350))) ev_int) (fun hb355 => (fun hz => (by obtain ⟨min352, h_min352, hz⟩ := bndE hz; obtain rfl := Option.some.inj hz; exact (ec_or1 (eb_lt (ev_min z_min (Ev.r (ev_var 0 rfl r350)) h_min352) ev_int)))) ((orE hz).1 hb355)) (orE hz).2)) ((orE h_c353).1 hb354)) (orE h_c353).2))) (fun hb357 s358 e359 => ?_) (fun hb363 s364 e365 => ?_)
  · have hm360 := iteE1 hm hb357
    have E361 := E351.trans e359
    have r362 := Enc.mono e359.f r350
    exact absurd hm360 (by intro z; cases z)
  · have hm366 := iteE2 hm hb363
    have E367 := E351.trans e365
    have r368 := Enc.mono e365.f r350
    obtain rfl := Option.some.inj hm366
    exact do_ret ev_bl fun v369 s370 e371 r372 => hQ _ _ (E367.trans e371) r372
abbrev s_asked_break : Stmt := topS 9
abbrev N_asked_break : List Str := ["bars", "place"]
theorem sc_asked_break : FnScope N_asked_break ["bars", "place"] (defScope s_asked_break) := ⟨rfl, rfl, rfl, by decide +kernel, rfl, by decide +kernel, by decide +kernel⟩
noncomputable def m_asked_break (bars373 : (List Int)) (place376 : Int) : Option Unit :=
 (if ((decide (place376 < (1 : Int))) || (decide (((bars373).length : Int) ≤ place376))) = true then
 none
 else
 (some ()))
noncomputable abbrev a_asked_break : (List Int) × Int × Unit → Option Unit := fun a => m_asked_break a.1 a.2.1
theorem ok_asked_break {P : Program} {w : World} {K : PySem.W.Frag} {mg : Str → Option Value} {base : Heap} {f : Addr} {fd : FuncData} (F : FunP K "asked_break" s_asked_break f fd) (hmg : mg "asked_break" = some (.ref f)) (z_len : mg "len" = none) : Cal P w K mg base CX0 1 "asked_break" (sp K a_asked_break) := by
  refine mk_cal (k := 0) F hmg (F.bindsN fun _ _ _ _ _ _ us hl => match us, hl with | [_, _], _ => rfl) sc_asked_break len2 ?_
  rintro cdv A' outer sh0 H0 X0 hr s0 vs ⟨bars373, place376, _⟩ r0 Q ⟨v374, _, rfl, r375, v377, _, rfl, r378, rfl⟩ hm hQ
  have E379 := Ex.refl s0
  unfold a_asked_break m_asked_break at hm
  dsimp only at hm
  refine do_ifR (EvW.tt (EvC.w (ec_or (eb_lt (ev_var 1 rfl r378) ev_int) fun _ => (ec_or1 (eb_ge (ev_var 1 rfl r378) (ev_len z_len (Ev.r (ev_var 0 rfl r375)))))))) (fun hb381 s382 e383 => ?_) (fun hb388 s389 e390 => ?_)
  · have hm384 := iteE1 hm hb381
    have E385 := E379.trans e383
    have r386 := Enc.mono e383.f r375
    have r387 := Enc.mono e383.f r378
    exact absurd hm384 (by intro z; cases z)
  · have hm391 := iteE2 hm hb388
    have E392 := E379.trans e390
    have r393 := Enc.mono e390.f r375
    have r394 := Enc.mono e390.f r378
    obtain rfl := Option.some.inj hm391
    exact do_nil (hQ _ _ E392 rfl)
abbrev s_played_in : Stmt := topS 10
abbrev N_played_in : List Str := ["bars", "first", "end"]
theorem sc_played_in : FnScope N_played_in ["bars", "first", "end"] (defScope s_played_in) := ⟨rfl, rfl, rfl, by decide +kernel, rfl, by decide +kernel, by decide +kernel⟩
noncomputable def m_played_in (bars395 : (List Int)) (first398 : Int) (end401 : Int) : Option Int :=
 (some ((cut bars395 (some (max (0 : Int) first398)) (some (max (0 : Int) end401)))).sum)
noncomputable abbrev a_played_in : (List Int) × Int × Int × Unit → Option Int := fun a => m_played_in a.1 a.2.1 a.2.2.1
theorem ok_played_in {P : Program} {w : World} {K : PySem.W.Frag} {mg : Str → Option Value} {base : Heap} {f : Addr} {fd : FuncData} (F : FunP K "played_in" s_played_in f fd) (hmg : mg "played_in" = some (.ref f)) (z_sum : mg "sum" = none) (z_max : mg "max" = none) : Cal P w K mg base CX0 1 "played_in" (sp K a_played_in) := by
  refine mk_cal (k := 0) F hmg (F.bindsN fun _ _ _ _ _ _ us hl => match us, hl with | [_, _, _], _ => rfl) sc_played_in len3 ?_
  rintro cdv A' outer sh0 H0 X0 hr s0 vs ⟨bars395, first398, end401, _⟩ r0 Q ⟨v396, _, rfl, r397, v399, _, rfl, r400, v402, _, rfl, r403, rfl⟩ hm hQ
  have E404 := Ex.refl s0
  unfold a_played_in m_played_in at hm
  dsimp only at hm
  obtain rfl := Option.some.inj hm
  exact do_ret (ev_sum z_sum (EvN.r (en_slice (Ev.r (ev_var 0 rfl r397)) (eo_some (ev_max2 z_max ev_int (ev_var 1 rfl r400))) (eo_some (ev_max2 z_max ev_int (ev_var 2 rfl r403)))))) fun v405 s406 e407 r408 => hQ _ _ (E404.trans e407) r408
abbrev s_window_at : Stmt := topS 11
abbrev N_window_at : List Str := ["bars", "need", "place", "first", "begin"]
theorem sc_window_at : FnScope N_window_at ["bars", "need", "place"] (defScope s_window_at) := ⟨rfl, rfl, rfl, by decide +kernel, rfl, by decide +kernel, by decide +kernel⟩
noncomputable def m_window_at (bars409 : (List Int)) (need412 : Int) (place415 : Int) : Option (Int × Int) :=
 (bnd (m_asked_bars bars409) fun asked_bars419 => (bnd (m_asked_break bars409 place415) fun asked_break426 => (lt ((place415 - need412) : Int) fun first433 =>
 (chk (RgB ((place415 - need412) + (1 : Int))) (chk (RgB (place415 + (1 : Int))) (bnd (foldO (fun (b447 : Int) (x449 : Int) =>
 (bnd (m_played_in bars409 x449 (x449 + need412)) fun played_in477 => (bnd (m_played_in bars409 b447 (b447 + need412)) fun played_in478 => (bnd (if (decide (played_in477 < played_in478)) = true then
 (lt (x449 : Int) fun first494 =>
 (some first494))
 else
 (some b447) : Option Int) fun b480 =>
 (some b480))))) first433 (rng ((place415 - need412) + (1 : Int)) (place415 + (1 : Int)))) fun o445 =>
 (some (o445, (o445 + need412)))))))))
noncomputable abbrev a_window_at : (List Int) × Int × Int × Unit → Option (Int × Int) := fun a => m_window_at a.1 a.2.1 a.2.2.1
theorem ok_window_at {P : Program} {w : World} {K : PySem.W.Frag} {mg : Str → Option Value} {base : Heap} {f : Addr} {fd : FuncData} (F : FunP K "window_at" s_window_at f fd) (hmg : mg "window_at" = some (.ref f)) (C_asked_bars : Cal P w K mg base CX0 1 "asked_bars" (sp K a_asked_bars)) (C_asked_break : Cal P w K mg base CX0 1 "asked_break" (sp K a_asked_break)) (C_played_in : Cal P w K mg base CX0 1 "played_in" (sp K a_played_in)) (z_range : mg "range" = none) : Cal P w K mg base CX0 2 "window_at" (sp K a_window_at) := by
  refine mk_cal (k := 1) F hmg (F.bindsN fun _ _ _ _ _ _ us hl => match us, hl with | [_, _, _], _ => rfl) sc_window_at len3 ?_
  rintro cdv A' outer sh0 H0 X0 hr s0 vs ⟨bars409, need412, place415, _⟩ r0 Q ⟨v410, _, rfl, r411, v413, _, rfl, r414, v416, _, rfl, r417, rfl⟩ hm hQ
  have E418 := Ex.refl s0
  unfold a_window_at m_window_at at hm
  dsimp only at hm
  obtain ⟨asked_bars419, h_asked_bars419, hm⟩ := bndE hm
  refine do_drop (ev_call C_asked_bars hr (by decide) (ea_cons (ev_var 0 rfl r411) ea_nil) h_asked_bars419) (fun s420 e421 => ?_)
  have E422 := E418.trans e421
  have r423 := Enc.mono e421.f r411
  have r424 := Enc.mono e421.f r414
  have r425 := Enc.mono e421.f r417
  obtain ⟨asked_break426, h_asked_break426, hm⟩ := bndE hm
  refine do_drop (ev_call C_asked_break hr (by decide) (ea_cons (ev_var 0 rfl r423) (ea_cons (ev_var 2 rfl r425) ea_nil)) h_asked_break426) (fun s427 e428 => ?_)
  have E429 := E422.trans e428
  have r430 := Enc.mono e428.f r423
  have r431 := Enc.mono e428.f r424
  have r432 := Enc.mono e428.f r425
  refine do_set 3 (ev_sub (ev_var 2 rfl r432) (ev_var 1 rfl r431)) (fun v437 s435 e436 r438 => ?_) sc_window_at.nd
  have E439 := E429.trans e436
  have r440 := Enc.mono e436.f r430
  have r441 := Enc.mono e436.f r431
  have r442 := Enc.mono e436.f r432
  obtain ⟨first433, q434, hm⟩ := ltE hm
  rw [← q434] at r438
  obtain ⟨hc443, hm⟩ := chkE hm
  obtain ⟨hc444, hm⟩ := chkE hm
  obtain ⟨o445, ho446, hm⟩ := bndE hm
  refine do_forO (υ := Int) PassesOwn.never rfl (ei_range2 z_range (ev_add (ev_sub (ev_var 2 rfl r442) (ev_var 1 rfl r441)) ev_int) (ev_add (ev_var 2 rfl r442) ev_int) hc443 hc444) (pg_name (i := 4) sc_window_at.nd rfl (by first | exact Or.inl rfl | exact Or.inr rfl)) tg_n ho446 (fun (b447 : Int) (σ' : L2.St) (t' : S) => Ex s0 t' ∧ ∃ (v_first : V) (y_begin : Option V), σ' = [some v410, some v413, some v416, some v_first, y_begin] ∧ rep K t'.F v_first (b447 : Int)) (fun s538 k539 => by have E540 := E439.trans k539; have r541 := Enc.mono k539.f r440; have r542 := Enc.mono k539.f r441; have r543 := Enc.mono k539.f r442; have r544 := Enc.mono k539.f r438; exact ⟨E540, v437, _, rfl, r544⟩) (fun s450 k451 x449 b447 b448 σ460 σ461 t458 t459 hx452 hm453 fl454 hR455 k456 hB457 => ?_) (fun s532 k533 σ534 t535 fl536 hR537 => ?_)
  · have hf462 := Fle.trans k451.f fl454
    obtain ⟨E463, v464, y465, rfl, r466⟩ := hR455
    have r467 := Enc.mono hf462 r440
    have r468 := Enc.mono hf462 r441
    have r469 := Enc.mono hf462 r442
    obtain ⟨v470, r471, rfl⟩ := hB457
    have E472 := E463.trans k456
    have r473 := Enc.mono k456.f r466
    have r474 := Enc.mono k456.f r467
    have r475 := Enc.mono k456.f r468
    have r476 := Enc.mono k456.f r469
    obtain ⟨played_in477, h_played_in477, hm453⟩ := bndE hm453
    obtain ⟨played_in478, h_played_in478, hm453⟩ := bndE hm453
    obtain ⟨b480, hj481, hm453⟩ := bndE hm453
    refine do_if (EvB.t (eb_lt (ev_call C_played_in hr (by decide) (ea_cons (ev_var 0 rfl r474) (ea_cons (ev_var 4 rfl r471) (ea_cons (ev_add (ev_var 4 rfl r471) (ev_var 1 rfl r475)) ea_nil))) h_played_in477) (ev_call C_played_in hr (by decide) (ea_cons (ev_var 0 rfl r474) (ea_cons (ev_var 3 rfl r473) (ea_cons (ev_add (ev_var 3 rfl r473) (ev_var 1 rfl r475)) ea_nil))) h_played_in478))) (fun (σ' : L2.St) (t' : S) => Fle t459.F t'.F ∧ Ex s0 t' ∧ ∃ (v_first : V), σ' = [some v410, some v413, some v416, some v_first, some v470] ∧ rep K t'.F v_first (b480 : Int)) (fun hb482 s483 e484 => ?_) (fun hb507 s508 e509 => ?_) (fun σ519 s520 hM521 => ?_)
    · have hm485 := iteE1 hj481 hb482
      have E486 := E472.trans e484
      have fl487 := Fle.trans (Fle.refl t459.F) e484.f
      have fl488 := Fle.trans (Fle.refl t459.F) e484.f
      have r489 := Enc.mono e484.f r473
      have r490 := Enc.mono e484.f r474
      have r491 := Enc.mono e484.f r475
      have r492 := Enc.mono e484.f r476
      have r493 := Enc.mono e484.f r471
      refine do_set 3 (ev_var 4 rfl r493) (fun v498 s496 e497 r499 => ?_) sc_window_at.nd
      have E500 := E486.trans e497
      have fl501 := Fle.trans fl487 e497.f
      have fl502 := Fle.trans fl488 e497.f
      have r503 := Enc.mono e497.f r490
      have r504 := Enc.mono e497.f r491
      have r505 := Enc.mono e497.f r492
      have r506 := Enc.mono e497.f r493
      obtain ⟨first494, q495, hm485⟩ := ltE hm485
      rw [← q495] at r499
      obtain rfl := Option.some.inj hm485
      exact do_nil ⟨s496, rfl, fl502, ⟨E500, v498, rfl, r499⟩⟩
    · have hm510 := iteE2 hj481 hb507
      have E511 := E472.trans e509
      have fl512 := Fle.trans (Fle.refl t459.F) e509.f
      have fl513 := Fle.trans (Fle.refl t459.F) e509.f
      have r514 := Enc.mono e509.f r473
      have r515 := Enc.mono e509.f r474
      have r516 := Enc.mono e509.f r475
      have r517 := Enc.mono e509.f r476
      have r518 := Enc.mono e509.f r471
      obtain rfl := Option.some.inj hm510
      exact do_nil ⟨s508, rfl, fl513, ⟨E511, v464, rfl, r514⟩⟩
    · obtain ⟨hf522, hR523⟩ := hM521
      obtain ⟨E524, v525, rfl, r526⟩ := hR523
      have r527 := Enc.mono hf522 r474
      have r528 := Enc.mono hf522 r475
      have r529 := Enc.mono hf522 r476
      have r530 := Enc.mono hf522 r471
      have fl531 := Fle.trans (Fle.refl t459.F) hf522
      obtain rfl := Option.some.inj hm453
      exact do_nil ⟨s520, rfl, fl531, ⟨E524, v525, _, rfl, r526⟩⟩
  · have hf545 := Fle.trans k533.f fl536
    obtain ⟨E546, v547, y548, rfl, r549⟩ := hR537
    have r550 := Enc.mono hf545 r440
    have r551 := Enc.mono hf545 r441
    have r552 := Enc.mono hf545 r442
    obtain rfl := Option.some.inj hm
    exact do_ret (ev_t2 (ea_cons (ev_var 3 rfl r549) (ea_cons (ev_add (ev_var 3 rfl r549) (ev_var 1 rfl r551)) ea_nil))) fun v553 s554 e555 r556 => hQ _ _ (E546.trans e555) r556
abbrev s_loss_at : Stmt := topS 12
abbrev N_loss_at : List Str := ["bars", "need", "place", "first", "end"]
theorem sc_loss_at : FnScope N_loss_at ["bars", "need", "place"] (defScope s_loss_at) := ⟨rfl, rfl, rfl, by decide +kernel, rfl, by decide +kernel, by decide +kernel⟩
noncomputable def m_loss_at (bars557 : (List Int)) (need560 : Int) (place563 : Int) : Option Int :=
 (bnd (m_window_at bars557 need560 place563) fun window_at567 => (lt (window_at567 : (Int × Int)) fun u574 =>
 (bnd (m_played_in bars557 u574.1 u574.2) fun played_in580 => (some played_in580))))
noncomputable abbrev a_loss_at : (List Int) × Int × Int × Unit → Option Int := fun a => m_loss_at a.1 a.2.1 a.2.2.1
theorem ok_loss_at {P : Program} {w : World} {K : PySem.W.Frag} {mg : Str → Option Value} {base : Heap} {f : Addr} {fd : FuncData} (F : FunP K "loss_at" s_loss_at f fd) (hmg : mg "loss_at" = some (.ref f)) (C_window_at : Cal P w K mg base CX0 2 "window_at" (sp K a_window_at)) (C_played_in : Cal P w K mg base CX0 1 "played_in" (sp K a_played_in)) : Cal P w K mg base CX0 3 "loss_at" (sp K a_loss_at) := by
  refine mk_cal (k := 2) F hmg (F.bindsN fun _ _ _ _ _ _ us hl => match us, hl with | [_, _, _], _ => rfl) sc_loss_at len3 ?_
  rintro cdv A' outer sh0 H0 X0 hr s0 vs ⟨bars557, need560, place563, _⟩ r0 Q ⟨v558, _, rfl, r559, v561, _, rfl, r562, v564, _, rfl, r565, rfl⟩ hm hQ
  have E566 := Ex.refl s0
  unfold a_loss_at m_loss_at at hm
  dsimp only at hm
  obtain ⟨window_at567, h_window_at567, hm⟩ := bndE hm
  refine do_unp2 3 4 (ev_call C_window_at hr (by decide) (ea_cons (ev_var 0 rfl r559) (ea_cons (ev_var 1 rfl r562) (ea_cons (ev_var 2 rfl r565) ea_nil))) h_window_at567) (fun v568 v569 s572 e573 r570 r571 => ?_) (pg_tup rfl (pgs_cons (pg_name (i := 3) sc_loss_at.nd rfl (by first | exact Or.inl rfl | exact Or.inr rfl)) (pgs_cons (pg_name (i := 4) sc_loss_at.nd rfl (by first | exact Or.inl rfl | exact Or.inr rfl)) pgs_nil)))
  have E576 := E566.trans e573
  have r577 := Enc.mono e573.f r559
  have r578 := Enc.mono e573.f r562
  have r579 := Enc.mono e573.f r565
  obtain ⟨u574, q575, hm⟩ := ltE hm
  rw [← q575] at r570
  rw [← q575] at r571
  obtain ⟨played_in580, h_played_in580, hm⟩ := bndE hm
  obtain rfl := Option.some.inj hm
  exact do_ret (ev_call C_played_in hr (by decide) (ea_cons (ev_var 0 rfl r577) (ea_cons (ev_var 3 rfl r570) (ea_cons (ev_var 4 rfl r571) ea_nil))) h_played_in580) fun v581 s582 e583 r584 => hQ _ _ (E576.trans e583) r584
abbrev s_least_book : Stmt := topS 16
abbrev N_least_book : List Str := ["bars", "most", "need", "many", "prices", "came", "place", "breaks", "begin", "other", "loss"]
theorem sc_least_book : FnScope N_least_book ["bars", "most", "need"] (defScope s_least_book) := ⟨rfl, rfl, rfl, by decide +kernel, rfl, by decide +kernel, by decide +kernel⟩
noncomputable def m_least_book (bars585 : (List Int)) (most588 : Int) (need591 : Int) : Option (T3 Int (List Int) (List Int)) :=
 (bnd (m_asked_bars bars585) fun asked_bars595 => (lt (((bars585).length : Int) : Int) fun many602 =>
 (lt (([(0 : Int)] : List Int) : (List Int)) fun prices612 =>
 (lt (([(0 : Int)] : List Int) : (List Int)) fun came625 =>
 (chk (RgB (many602 + (1 : Int))) (bnd (foldO (fun (b643 : ((List Int) × (List Int))) (x645 : Int) =>
 (lt ((max (0 : Int) (x645 - most588)) : Int) fun begin679 =>
 (chk (RgB begin679) (chk (RgB x645) (bnd (foldO (fun (b698 : Int) (x700 : Int) =>
 (bnd (atI b643.1 x700) fun at736 => (bnd (atI b643.1 b698) fun at737 => (bnd (if (decide (at736 < at737)) = true then
 (lt (x700 : Int) fun begin757 =>
 (some begin757))
 else
 (some b698) : Option Int) fun b739 =>
 (some b739))))) begin679 (rng begin679 x645)) fun o696 =>
 (lt ((0 : Int) : Int) fun loss838 =>
 (bnd (if (decide (x645 < many602)) = true then
 (bnd (m_loss_at bars585 need591 x645) fun loss_at873 => (lt (loss_at873 : Int) fun loss874 =>
 (some loss874)))
 else
 (some loss838) : Option Int) fun b855 =>
 (bnd (atI b643.1 o696) fun at929 => (chk ((b643.1).length < sizeLine) (lt ((b643.1 ++ [(at929 + b855)]) : (List Int)) fun prices927 =>
 (chk ((b643.2).length < sizeLine) (lt ((b643.2 ++ [o696]) : (List Int)) fun came944 =>
 (some (prices927, came944)))))))))))))) (prices612, came625) (rng (1 : Int) (many602 + (1 : Int)))) fun o641 =>
 (lt (([] : List Int) : (List Int)) fun breaks984 =>
 (bnd (atI o641.2 many602) fun at1001 => (lt (at1001 : Int) fun place1002 =>
 (bnd (whileO (fun (b1018 : ((List Int) × Int)) => (some (decide ((0 : Int) < b1018.2)))) (fun (b1018 : ((List Int) × Int)) =>
 (chk ((b1018.1).length < sizeLine) (lt ((b1018.1 ++ [b1018.2]) : (List Int)) fun breaks1066 =>
 (bnd (atI o641.2 b1018.2) fun at1078 => (lt (at1078 : Int) fun place1079 =>
 (some (breaks1066, place1079))))))) fuel (breaks984, place1002)) fun o1016 =>
 (lt ((o1016.1).reverse : (List Int)) fun breaks1123 =>
 (bnd (atI o641.1 many602) fun at1163 => (some (⟨at1163, breaks1123, o641.1⟩ : (T3 Int (List Int) (List Int))))))))))))))))
noncomputable abbrev a_least_book : (List Int) × Int × Int × Unit → Option (T3 Int (List Int) (List Int)) := fun a => m_least_book a.1 a.2.1 a.2.2.1
theorem ok_least_book {P : Program} {w : World} {K : PySem.W.Frag} {mg : Str → Option Value} {base : Heap} {f : Addr} {fd : FuncData} (F : FunP K "least_book" s_least_book f fd) (hmg : mg "least_book" = some (.ref f)) (C_asked_bars : Cal P w K mg base CX0 1 "asked_bars" (sp K a_asked_bars)) (C_loss_at : Cal P w K mg base CX0 3 "loss_at" (sp K a_loss_at)) (z_len : mg "len" = none) (z_range : mg "range" = none) (z_max : mg "max" = none) : Cal P w K mg base CX0 4 "least_book" (sp K a_least_book) := by
  refine mk_cal (k := 3) F hmg (F.bindsN fun _ _ _ _ _ _ us hl => match us, hl with | [_, _, _], _ => rfl) sc_least_book len3 ?_
  rintro cdv A' outer sh0 H0 X0 hr s0 vs ⟨bars585, most588, need591, _⟩ r0 Q ⟨v586, _, rfl, r587, v589, _, rfl, r590, v592, _, rfl, r593, rfl⟩ hm hQ
  have E594 := Ex.refl s0
  unfold a_least_book m_least_book at hm
  dsimp only at hm
  obtain ⟨asked_bars595, h_asked_bars595, hm⟩ := bndE hm
  refine do_drop (ev_call C_asked_bars hr (by decide) (ea_cons (ev_var 0 rfl r587) ea_nil) h_asked_bars595) (fun s596 e597 => ?_)
  have E598 := E594.trans e597
  have r599 := Enc.mono e597.f r587
  have r600 := Enc.mono e597.f r590
  have r601 := Enc.mono e597.f r593
  refine do_set 3 (ev_len z_len (Ev.r (ev_var 0 rfl r599))) (fun v606 s604 e605 r607 => ?_) sc_least_book.nd
  have E608 := E598.trans e605
  have r609 := Enc.mono e605.f r599
  have r610 := Enc.mono e605.f r600
  have r611 := Enc.mono e605.f r601
  obtain ⟨many602, q603, hm⟩ := ltE hm
  rw [← q603] at r607
  refine do_setN 4 (en_list (xs := ([(0 : Int)] : List Int)) (ee_cons ev_int ee_nil) (by simp [sizeLine])) (fun p616 s614 e615 n617 o618 => ?_) sc_least_book.nd
  have n619 := fr_back E608 n617
  have E620 := E608.trans e615
  have r621 := Enc.mono e615.f r609
  have r622 := Enc.mono e615.f r610
  have r623 := Enc.mono e615.f r611
  have r624 := Enc.mono e615.f r607
  obtain ⟨prices612, q613, hm⟩ := ltE hm
  rw [← q613] at o618
  refine do_setN 5 (en_list (xs := ([(0 : Int)] : List Int)) (ee_cons ev_int ee_nil) (by simp [sizeLine])) (fun p629 s627 e628 n630 o631 => ?_) sc_least_book.nd
  have ne632 := Own.ne o618 n630
  have n633 := fr_back E620 n630
  have E634 := E620.trans e628
  have r635 := Enc.mono e628.f r621
  have r636 := Enc.mono e628.f r622
  have r637 := Enc.mono e628.f r623
  have r638 := Enc.mono e628.f r624
  have o639 := Own.ex o618 e628
  obtain ⟨came625, q626, hm⟩ := ltE hm
  rw [← q626] at o631
  obtain ⟨hc640, hm⟩ := chkE hm
  obtain ⟨o641, ho642, hm⟩ := bndE hm
  refine do_forO (υ := ((List Int) × (List Int))) PassesOwn.never rfl (ei_range2 z_range ev_int (ev_add (ev_var 3 rfl r638) ev_int) ⟨by omega, by omega⟩ hc640) (pg_name (i := 6) sc_least_book.nd rfl (by first | exact Or.inl rfl | exact Or.inr rfl)) tg_n ho642 (fun (b643 : ((List Int) × (List Int))) (σ' : L2.St) (t' : S) => Ex s0 t' ∧ ∃ (y_begin : Option V) (y_other : Option V) (y_loss : Option V) (y_place : Option V), σ' = [some v586, some v589, some v592, some v606, some (.ref p616), some (.ref p629), y_place, none, y_begin, y_other, y_loss] ∧ Own K t' p616 (b643.1 : (List Int)) ∧ Own K t' p629 (b643.2 : (List Int))) (fun s963 k964 => by have E965 := E634.trans k964; have r966 := Enc.mono k964.f r635; have r967 := Enc.mono k964.f r636; have r968 := Enc.mono k964.f r637; have r969 := Enc.mono k964.f r638; have o970 := Own.ex o639 k964; have o971 := Own.ex o631 k964; exact ⟨E965, _, _, _, _, rfl, o970, o971⟩) (fun s646 k647 x645 b643 b644 σ656 σ657 t654 t655 hx648 hm649 fl650 hR651 k652 hB653 => ?_) (fun s957 k958 σ959 t960 fl961 hR962 => ?_)
  · have hf658 := Fle.trans k647.f fl650
    obtain ⟨E659, y660, y661, y662, y663, rfl, o664, o665⟩ := hR651
    have r666 := Enc.mono hf658 r635
    have r667 := Enc.mono hf658 r636
    have r668 := Enc.mono hf658 r637
    have r669 := Enc.mono hf658 r638
    obtain ⟨v670, r671, rfl⟩ := hB653
    have E672 := E659.trans k652
    have o673 := Own.ex o664 k652
    have o674 := Own.ex o665 k652
    have r675 := Enc.mono k652.f r666
    have r676 := Enc.mono k652.f r667
    have r677 := Enc.mono k652.f r668
    have r678 := Enc.mono k652.f r669
    refine do_set 8 (ev_max2 z_max ev_int (ev_sub (ev_var 6 rfl r671) (ev_var 1 rfl r676))) (fun v683 s681 e682 r684 => ?_) sc_least_book.nd
    have E685 := E672.trans e682
    have fl686 := Fle.trans (Fle.refl t655.F) e682.f
    have o687 := Own.ex o673 e682
    have o688 := Own.ex o674 e682
    have r689 := Enc.mono e682.f r675
    have r690 := Enc.mono e682.f r676
    have r691 := Enc.mono e682.f r677
    have r692 := Enc.mono e682.f r678
    have r693 := Enc.mono e682.f r671
    obtain ⟨begin679, q680, hm649⟩ := ltE hm649
    rw [← q680] at r684
    obtain ⟨hc694, hm649⟩ := chkE hm649
    obtain ⟨hc695, hm649⟩ := chkE hm649
    obtain ⟨o696, ho697, hm649⟩ := bndE hm649
    refine do_forO (υ := Int) PassesOwn.never rfl (ei_range2 z_range (ev_var 8 rfl r684) (ev_var 6 rfl r693) hc694 hc695) (pg_name (i := 9) sc_least_book.nd rfl (by first | exact Or.inl rfl | exact Or.inr rfl)) tg_n ho697 (fun (b698 : Int) (σ' : L2.St) (t' : S) => Ex s0 t' ∧ ∃ (v_begin : V) (y_other : Option V), σ' = [some v586, some v589, some v592, some v606, some (.ref p616), some (.ref p629), some v670, none, some v_begin, y_other, y662] ∧ rep K t'.F v_begin (b698 : Int) ∧ Own K t' p616 (b643.1 : (List Int)) ∧ Own K t' p629 (b643.2 : (List Int))) (fun s813 k814 => by have E815 := E685.trans k814; have fl816 := Fle.trans fl686 k814.f; have o817 := Own.ex o687 k814; have o818 := Own.ex o688 k814; have r819 := Enc.mono k814.f r689; have r820 := Enc.mono k814.f r690; have r821 := Enc.mono k814.f r691; have r822 := Enc.mono k814.f r692; have r823 := Enc.mono k814.f r693; have r824 := Enc.mono k814.f r684; exact ⟨E815, v683, _, rfl, r824, o817, o818⟩) (fun s701 k702 x700 b698 b699 σ711 σ712 t709 t710 hx703 hm704 fl705 hR706 k707 hB708 => ?_) (fun s807 k808 σ809 t810 fl811 hR812 => ?_)
    · have hf713 := Fle.trans k702.f fl705
      obtain ⟨E714, v715, y716, rfl, r717, o718, o719⟩ := hR706
      have r720 := Enc.mono hf713 r689
      have r721 := Enc.mono hf713 r690
      have r722 := Enc.mono hf713 r691
      have r723 := Enc.mono hf713 r692
      have r724 := Enc.mono hf713 r693
      obtain ⟨v725, r726, rfl⟩ := hB708
      have E727 := E714.trans k707
      have r728 := Enc.mono k707.f r717
      have o729 := Own.ex o718 k707
      have o730 := Own.ex o719 k707
      have r731 := Enc.mono k707.f r720
      have r732 := Enc.mono k707.f r721
      have r733 := Enc.mono k707.f r722
      have r734 := Enc.mono k707.f r723
      have r735 := Enc.mono k707.f r724
      obtain ⟨at736, h_at736, hm704⟩ := bndE hm704
      obtain ⟨at737, h_at737, hm704⟩ := bndE hm704
      obtain ⟨b739, hj740, hm704⟩ := bndE hm704
      refine do_if (EvB.t (eb_lt (ev_ix (ev_varR 4 rfl o729) (ev_var 9 rfl r726) h_at736) (ev_ix (ev_varR 4 rfl o729) (ev_var 8 rfl r728) h_at737))) (fun (σ' : L2.St) (t' : S) => Fle t710.F t'.F ∧ Ex s0 t' ∧ ∃ (v_begin : V), σ' = [some v586, some v589, some v592, some v606, some (.ref p616), some (.ref p629), some v670, none, some v_begin, some v725, y662] ∧ rep K t'.F v_begin (b739 : Int) ∧ Own K t' p616 (b643.1 : (List Int)) ∧ Own K t' p629 (b643.2 : (List Int))) (fun hb741 s742 e743 => ?_) (fun hb774 s775 e776 => ?_) (fun σ790 s791 hM792 => ?_)
      · have hm744 := iteE1 hj740 hb741
        have E745 := E727.trans e743
        have fl746 := Fle.trans (Fle.refl t710.F) e743.f
        have fl747 := Fle.trans (Fle.refl t710.F) e743.f
        have r748 := Enc.mono e743.f r728
        have o749 := Own.ex o729 e743
        have o750 := Own.ex o730 e743
        have r751 := Enc.mono e743.f r731
        have r752 := Enc.mono e743.f r732
        have r753 := Enc.mono e743.f r733
        have r754 := Enc.mono e743.f r734
        have r755 := Enc.mono e743.f r735
        have r756 := Enc.mono e743.f r726
        refine do_set 8 (ev_var 9 rfl r756) (fun v761 s759 e760 r762 => ?_) sc_least_book.nd
        have E763 := E745.trans e760
        have fl764 := Fle.trans fl746 e760.f
        have fl765 := Fle.trans fl747 e760.f
        have o766 := Own.ex o749 e760
        have o767 := Own.ex o750 e760
        have r768 := Enc.mono e760.f r751
        have r769 := Enc.mono e760.f r752
        have r770 := Enc.mono e760.f r753
        have r771 := Enc.mono e760.f r754
        have r772 := Enc.mono e760.f r755
        have r773 := Enc.mono e760.f r756
        obtain ⟨begin757, q758, hm744⟩ := ltE hm744
        rw [← q758] at r762
        obtain rfl := Option.some.inj hm744
        exact do_nil ⟨s759, rfl, fl765, ⟨E763, v761, rfl, r762, o766, o767⟩⟩
      · have hm777 := iteE2 hj740 hb774
        have E778 := E727.trans e776
        have fl779 := Fle.trans (Fle.refl t710.F) e776.f
        have fl780 := Fle.trans (Fle.refl t710.F) e776.f
        have r781 := Enc.mono e776.f r728
        have o782 := Own.ex o729 e776
        have o783 := Own.ex o730 e776
        have r784 := Enc.mono e776.f r731
        have r785 := Enc.mono e776.f r732
        have r786 := Enc.mono e776.f r733
        have r787 := Enc.mono e776.f r734
        have r788 := Enc.mono e776.f r735
        have r789 := Enc.mono e776.f r726
        obtain rfl := Option.some.inj hm777
        exact do_nil ⟨s775, rfl, fl780, ⟨E778, v715, rfl, r781, o782, o783⟩⟩
      · obtain ⟨hf793, hR794⟩ := hM792
        obtain ⟨E795, v796, rfl, r797, o798, o799⟩ := hR794
        have r800 := Enc.mono hf793 r731
        have r801 := Enc.mono hf793 r732
        have r802 := Enc.mono hf793 r733
        have r803 := Enc.mono hf793 r734
        have r804 := Enc.mono hf793 r735
        have r805 := Enc.mono hf793 r726
        have fl806 := Fle.trans (Fle.refl t710.F) hf793
        obtain rfl := Option.some.inj hm704
        exact do_nil ⟨s791, rfl, fl806, ⟨E795, v796, _, rfl, r797, o798, o799⟩⟩
    · have hf825 := Fle.trans k808.f fl811
      obtain ⟨E826, v827, y828, rfl, r829, o830, o831⟩ := hR812
      have r832 := Enc.mono hf825 r689
      have r833 := Enc.mono hf825 r690
      have r834 := Enc.mono hf825 r691
      have r835 := Enc.mono hf825 r692
      have r836 := Enc.mono hf825 r693
      have fl837 := Fle.trans fl686 hf825
      refine do_set 10 ev_int (fun v842 s840 e841 r843 => ?_) sc_least_book.nd
      have E844 := E826.trans e841
      have fl845 := Fle.trans fl837 e841.f
      have r846 := Enc.mono e841.f r829
      have o847 := Own.ex o830 e841
      have o848 := Own.ex o831 e841
      have r849 := Enc.mono e841.f r832
      have r850 := Enc.mono e841.f r833
      have r851 := Enc.mono e841.f r834
      have r852 := Enc.mono e841.f r835
      have r853 := Enc.mono e841.f r836
      obtain ⟨loss838, q839, hm649⟩ := ltE hm649
      rw [← q839] at r843
      obtain ⟨b855, hj856, hm649⟩ := bndE hm649
      refine do_if (EvB.t (eb_lt (ev_var 6 rfl r853) (ev_var 3 rfl r852))) (fun (σ' : L2.St) (t' : S) => Fle s840.F t'.F ∧ Ex s0 t' ∧ ∃ (v_loss : V), σ' = [some v586, some v589, some v592, some v606, some (.ref p616), some (.ref p629), some v670, none, some v827, y828, some v_loss] ∧ rep K t'.F v_loss (b855 : Int) ∧ Own K t' p616 (b643.1 : (List Int)) ∧ Own K t' p629 (b643.2 : (List Int))) (fun hb857 s858 e859 => ?_) (fun hb891 s892 e893 => ?_) (fun σ907 s908 hM909 => ?_)
      · have hm860 := iteE1 hj856 hb857
        have E861 := E844.trans e859
        have fl862 := Fle.trans fl845 e859.f
        have fl863 := Fle.trans (Fle.refl s840.F) e859.f
        have r864 := Enc.mono e859.f r846
        have o865 := Own.ex o847 e859
        have o866 := Own.ex o848 e859
        have r867 := Enc.mono e859.f r849
        have r868 := Enc.mono e859.f r850
        have r869 := Enc.mono e859.f r851
        have r870 := Enc.mono e859.f r852
        have r871 := Enc.mono e859.f r853
        have r872 := Enc.mono e859.f r843
        obtain ⟨loss_at873, h_loss_at873, hm860⟩ := bndE hm860
        refine do_set 10 (ev_call C_loss_at hr (by decide) (ea_cons (ev_var 0 rfl r867) (ea_cons (ev_var 2 rfl r869) (ea_cons (ev_var 6 rfl r871) ea_nil))) h_loss_at873) (fun v878 s876 e877 r879 => ?_) sc_least_book.nd
        have E880 := E861.trans e877
        have fl881 := Fle.trans fl862 e877.f
        have fl882 := Fle.trans fl863 e877.f
        have r883 := Enc.mono e877.f r864
        have o884 := Own.ex o865 e877
        have o885 := Own.ex o866 e877
        have r886 := Enc.mono e877.f r867
        have r887 := Enc.mono e877.f r868
        have r888 := Enc.mono e877.f r869
        have r889 := Enc.mono e877.f r870
        have r890 := Enc.mono e877.f r871
        obtain ⟨loss874, q875, hm860⟩ := ltE hm860
        rw [← q875] at r879
        obtain rfl := Option.some.inj hm860
        exact do_nil ⟨s876, rfl, fl882, ⟨E880, v878, rfl, r879, o884, o885⟩⟩
      · have hm894 := iteE2 hj856 hb891
        have E895 := E844.trans e893
        have fl896 := Fle.trans fl845 e893.f
        have fl897 := Fle.trans (Fle.refl s840.F) e893.f
        have r898 := Enc.mono e893.f r846
        have o899 := Own.ex o847 e893
        have o900 := Own.ex o848 e893
        have r901 := Enc.mono e893.f r849
        have r902 := Enc.mono e893.f r850
        have r903 := Enc.mono e893.f r851
        have r904 := Enc.mono e893.f r852
        have r905 := Enc.mono e893.f r853
        have r906 := Enc.mono e893.f r843
        obtain rfl := Option.some.inj hm894
        exact do_nil ⟨s892, rfl, fl897, ⟨E895, v842, rfl, r906, o899, o900⟩⟩
      · obtain ⟨hf910, hR911⟩ := hM909
        obtain ⟨E912, v913, rfl, r914, o915, o916⟩ := hR911
        have r917 := Enc.mono hf910 r846
        have r918 := Enc.mono hf910 r849
        have r919 := Enc.mono hf910 r850
        have r920 := Enc.mono hf910 r851
        have r921 := Enc.mono hf910 r852
        have r922 := Enc.mono hf910 r853
        have fl923 := Fle.trans fl845 hf910
        obtain ⟨at929, h_at929, hm649⟩ := bndE hm649
        obtain ⟨hc930, hm649⟩ := chkE hm649
        refine do_append 4 rfl o915 (ev_add (ev_ix (ev_varR 4 rfl o915) (ev_var 8 rfl r917) h_at929) (ev_var 10 rfl r914)) hc930 (fun s924 m925 o926 => ?_)
        have E931 := Ex.mu1 E912 m925 n619
        have fl932 := Fle.trans fl923 m925.f
        have r933 := Enc.mono m925.f r914
        have o934 := Own.mx o916 m925 (Ne.symm ne632)
        have r935 := Enc.mono m925.f r917
        have r936 := Enc.mono m925.f r918
        have r937 := Enc.mono m925.f r919
        have r938 := Enc.mono m925.f r920
        have r939 := Enc.mono m925.f r921
        have r940 := Enc.mono m925.f r922
        obtain ⟨prices927, q928, hm649⟩ := ltE hm649
        rw [← q928] at o926
        obtain ⟨hc946, hm649⟩ := chkE hm649
        refine do_append 5 rfl o934 (ev_var 8 rfl r935) hc946 (fun s941 m942 o943 => ?_)
        have E947 := Ex.mu1 E931 m942 n633
        have fl948 := Fle.trans fl932 m942.f
        have r949 := Enc.mono m942.f r933
        have r950 := Enc.mono m942.f r935
        have r951 := Enc.mono m942.f r936
        have r952 := Enc.mono m942.f r937
        have r953 := Enc.mono m942.f r938
        have r954 := Enc.mono m942.f r939
        have r955 := Enc.mono m942.f r940
        have o956 := Own.mx o926 m942 ne632
        obtain ⟨came944, q945, hm649⟩ := ltE hm649
        rw [← q945] at o943
        obtain rfl := Option.some.inj hm649
        exact do_nil ⟨s941, rfl, fl948, ⟨E947, _, _, _, _, rfl, o956, o943⟩⟩
  · have hf972 := Fle.trans k958.f fl961
    obtain ⟨E973, y974, y975, y976, y977, rfl, o978, o979⟩ := hR962
    have r980 := Enc.mono hf972 r635
    have r981 := Enc.mono hf972 r636
    have r982 := Enc.mono hf972 r637
    have r983 := Enc.mono hf972 r638
    refine do_setN 7 (en_list (xs := ([] : List Int)) ee_nil (by simp [sizeLine])) (fun p988 s986 e987 n989 o990 => ?_) sc_least_book.nd
    have ne991 := Own.ne o978 n989
    have ne992 := Own.ne o979 n989
    have n993 := fr_back E973 n989
    have E994 := E973.trans e987
    have o995 := Own.ex o978 e987
    have o996 := Own.ex o979 e987
    have r997 := Enc.mono e987.f r980
    have r998 := Enc.mono e987.f r981
    have r999 := Enc.mono e987.f r982
    have r1000 := Enc.mono e987.f r983
    obtain ⟨breaks984, q985, hm⟩ := ltE hm
    rw [← q985] at o990
    obtain ⟨at1001, h_at1001, hm⟩ := bndE hm
    refine do_set 6 (ev_ix (ev_varR 5 rfl o996) (ev_var 3 rfl r1000) h_at1001) (fun v1006 s1004 e1005 r1007 => ?_) sc_least_book.nd
    have E1008 := E994.trans e1005
    have o1009 := Own.ex o995 e1005
    have o1010 := Own.ex o996 e1005
    have r1011 := Enc.mono e1005.f r997
    have r1012 := Enc.mono e1005.f r998
    have r1013 := Enc.mono e1005.f r999
    have r1014 := Enc.mono e1005.f r1000
    have o1015 := Own.ex o990 e1005
    obtain ⟨place1002, q1003, hm⟩ := ltE hm
    rw [← q1003] at r1007
    obtain ⟨o1016, ho1017, hm⟩ := bndE hm
    refine do_whileO (υ := ((List Int) × Int)) PassesOwn.never ho1017 (fun (b1018 : ((List Int) × Int)) (σ' : L2.St) (t' : S) => Ex s0 t' ∧ ∃ (v_place : V), σ' = [some v586, some v589, some v592, some v606, some (.ref p616), some (.ref p629), some v_place, some (.ref p988), y974, y975, y976] ∧ Own K t' p988 (b1018.1 : (List Int)) ∧ rep K t'.F v_place (b1018.2 : Int) ∧ Own K t' p616 (o641.1 : (List Int)) ∧ Own K t' p629 (o641.2 : (List Int))) ⟨E1008, v1006, rfl, o1015, r1007, o1009, o1010⟩ (fun b1018 x1024 σ1021 t1020 hm1025 fl1022 hR1023 => ?_) (fun b1018 b1019 σ1038 t1036 t1037 hc1042 hm1043 fl1039 hR1040 k1041 => ?_) (fun σ1094 t1095 t1096 hc1097 fl1098 hR1099 k1100 => ?_)
    · obtain ⟨E1026, v1027, rfl, o1028, r1029, o1030, o1031⟩ := hR1023
      have r1032 := Enc.mono fl1022 r1011
      have r1033 := Enc.mono fl1022 r1012
      have r1034 := Enc.mono fl1022 r1013
      have r1035 := Enc.mono fl1022 r1014
      obtain rfl := Option.some.inj hm1025
      exact (EvB.t (eb_gt (ev_var 6 rfl r1029) ev_int))
    · obtain ⟨E1044, v1045, rfl, o1046, r1047, o1048, o1049⟩ := hR1040
      have r1050 := Enc.mono fl1039 r1011
      have r1051 := Enc.mono fl1039 r1012
      have r1052 := Enc.mono fl1039 r1013
      have r1053 := Enc.mono fl1039 r1014
      have E1054 := E1044.trans k1041
      have o1055 := Own.ex o1046 k1041
      have r1056 := Enc.mono k1041.f r1047
      have o1057 := Own.ex o1048 k1041
      have o1058 := Own.ex o1049 k1041
      have r1059 := Enc.mono k1041.f r1050
      have r1060 := Enc.mono k1041.f r1051
      have r1061 := Enc.mono k1041.f r1052
      have r1062 := Enc.mono k1041.f r1053
      obtain ⟨hc1068, hm1043⟩ := chkE hm1043
      refine do_append 7 rfl o1055 (ev_var 6 rfl r1056) hc1068 (fun s1063 m1064 o1065 => ?_)
      have E1069 := Ex.mu1 E1054 m1064 n993
      have fl1070 := Fle.trans (Fle.refl t1037.F) m1064.f
      have r1071 := Enc.mono m1064.f r1056
      have o1072 := Own.mx o1057 m1064 ne991
      have o1073 := Own.mx o1058 m1064 ne992
      have r1074 := Enc.mono m1064.f r1059
      have r1075 := Enc.mono m1064.f r1060
      have r1076 := Enc.mono m1064.f r1061
      have r1077 := Enc.mono m1064.f r1062
      obtain ⟨breaks1066, q1067, hm1043⟩ := ltE hm1043
      rw [← q1067] at o1065
      obtain ⟨at1078, h_at1078, hm1043⟩ := bndE hm1043
      refine do_set 6 (ev_ix (ev_varR 5 rfl o1073) (ev_var 6 rfl r1071) h_at1078) (fun v1083 s1081 e1082 r1084 => ?_) sc_least_book.nd
      have E1085 := E1069.trans e1082
      have fl1086 := Fle.trans fl1070 e1082.f
      have o1087 := Own.ex o1072 e1082
      have o1088 := Own.ex o1073 e1082
      have r1089 := Enc.mono e1082.f r1074
      have r1090 := Enc.mono e1082.f r1075
      have r1091 := Enc.mono e1082.f r1076
      have r1092 := Enc.mono e1082.f r1077
      have o1093 := Own.ex o1065 e1082
      obtain ⟨place1079, q1080, hm1043⟩ := ltE hm1043
      rw [← q1080] at r1084
      obtain rfl := Option.some.inj hm1043
      exact do_nil ⟨s1081, rfl, fl1086, ⟨E1085, v1083, rfl, o1093, r1084, o1087, o1088⟩⟩
    · obtain ⟨E1101, v1102, rfl, o1103, r1104, o1105, o1106⟩ := hR1099
      have r1107 := Enc.mono fl1098 r1011
      have r1108 := Enc.mono fl1098 r1012
      have r1109 := Enc.mono fl1098 r1013
      have r1110 := Enc.mono fl1098 r1014
      have E1111 := E1101.trans k1100
      have o1112 := Own.ex o1103 k1100
      have r1113 := Enc.mono k1100.f r1104
      have o1114 := Own.ex o1105 k1100
      have o1115 := Own.ex o1106 k1100
      have r1116 := Enc.mono k1100.f r1107
      have r1117 := Enc.mono k1100.f r1108
      have r1118 := Enc.mono k1100.f r1109
      have r1119 := Enc.mono k1100.f r1110
      refine do_reverse 7 rfl o1112 (fun s1120 m1121 o1122 => ?_)
      have E1125 := Ex.mu1 E1111 m1121 n993
      have r1126 := Enc.mono m1121.f r1113
      have o1127 := Own.mx o1114 m1121 ne991
      have o1128 := Own.mx o1115 m1121 ne992
      have r1129 := Enc.mono m1121.f r1116
      have r1130 := Enc.mono m1121.f r1117
      have r1131 := Enc.mono m1121.f r1118
      have r1132 := Enc.mono m1121.f r1119
      obtain ⟨breaks1123, q1124, hm⟩ := ltE hm
      rw [← q1124] at o1122
      refine do_frz2 o1122 fun s1133 hs1134 hf1135 hg1136 r1137 hx1138 => ?_
      have E1139 := frzE E1125 n993 hs1134 hf1135 hg1136
      have r1140 := Enc.mono hf1135 r1126
      have o1141 := ownFrz o1127 ne991 hs1134 hf1135 hg1136
      have o1142 := ownFrz o1128 ne992 hs1134 hf1135 hg1136
      have r1143 := Enc.mono hf1135 r1129
      have r1144 := Enc.mono hf1135 r1130
      have r1145 := Enc.mono hf1135 r1131
      have r1146 := Enc.mono hf1135 r1132
      refine do_frz2 o1141 fun s1147 hs1148 hf1149 hg1150 r1151 hx1152 => ?_
      have E1153 := frzE E1139 n619 hs1148 hf1149 hg1150
      have fl1154 := Fle.trans hf1135 hf1149
      have fl1155 := Fle.trans (Fle.refl s1133.F) hf1149
      have r1156 := Enc.mono hf1149 r1140
      have o1157 := ownFrz o1142 (Ne.symm ne632) hs1148 hf1149 hg1150
      have r1158 := Enc.mono hf1149 r1143
      have r1159 := Enc.mono hf1149 r1144
      have r1160 := Enc.mono hf1149 r1145
      have r1161 := Enc.mono hf1149 r1146
      have r1162 := Enc.mono hf1149 r1137
      obtain ⟨at1163, h_at1163, hm⟩ := bndE hm
      obtain rfl := Option.some.inj hm
      exact do_ret (ev_t3 (ea_cons (ev_ix (Ev.r (ev_var 4 rfl r1151)) (ev_var 3 rfl r1161) h_at1163) (ea_cons (ev_var 7 rfl r1162) (ea_cons (ev_var 4 rfl r1151) ea_nil)))) fun v1164 s1165 e1166 r1167 => hQ _ _ (E1153.trans e1166) r1167
abbrev s_desks_of : Stmt := topS 5
abbrev N_desks_of : List Str := ["many", "found", "place"]
theorem sc_desks_of : FnScope N_desks_of ["many"] (defScope s_desks_of) := ⟨rfl, rfl, rfl, by decide +kernel, rfl, by decide +kernel, by decide +kernel⟩
noncomputable def m_desks_of (many1168 : Int) : Option (List (Tu Int)) :=
 (lt (([] : List (Tu Int)) : (List (Tu Int))) fun found1172 =>
 (chk (RgS (0 : Int) many1168 (2 : Int)) (bnd (foldO (fun (b1185 : (List (Tu Int))) (x1187 : Int) =>
 (bnd (if (decide ((x1187 + (1 : Int)) < many1168)) = true then
 (chk ((b1185).length < sizeLine) (lt ((b1185 ++ [(⟨[x1187, (x1187 + (1 : Int))]⟩ : Tu Int)]) : (List (Tu Int))) fun found1226 =>
 (some found1226)))
 else
 (chk ((b1185).length < sizeLine) (lt ((b1185 ++ [(⟨[x1187]⟩ : Tu Int)]) : (List (Tu Int))) fun found1247 =>
 (some found1247))) : Option (List (Tu Int))) fun b1211 =>
 (some b1211))) found1172 (rngS (0 : Int) many1168 (2 : Int))) fun o1183 =>
 (some o1183))))
noncomputable abbrev a_desks_of : Int × Unit → Option (List (Tu Int)) := fun a => m_desks_of a.1
theorem ok_desks_of {P : Program} {w : World} {K : PySem.W.Frag} {mg : Str → Option Value} {base : Heap} {f : Addr} {fd : FuncData} (F : FunP K "desks_of" s_desks_of f fd) (hmg : mg "desks_of" = some (.ref f)) (z_range : mg "range" = none) : Cal P w K mg base CX0 1 "desks_of" (spN K a_desks_of) := by
  refine mk_calN (k := 0) F hmg (F.bindsN fun _ _ _ _ _ _ us hl => match us, hl with | [_], _ => rfl) sc_desks_of len1 ?_
  rintro cdv A' outer sh0 H0 X0 hr s0 vs ⟨many1168, _⟩ r0 Q ⟨v1169, _, rfl, r1170, rfl⟩ hm hQ
  have E1171 := Ex.refl s0
  unfold a_desks_of m_desks_of at hm
  dsimp only at hm
  refine do_setN 1 (en_list (xs := ([] : List (Tu Int))) ee_nil (by simp [sizeLine])) (fun p1176 s1174 e1175 n1177 o1178 => ?_) sc_desks_of.nd
  have n1179 := fr_back E1171 n1177
  have E1180 := E1171.trans e1175
  have r1181 := Enc.mono e1175.f r1170
  obtain ⟨found1172, q1173, hm⟩ := ltE hm
  rw [← q1173] at o1178
  obtain ⟨hc1182, hm⟩ := chkE hm
  obtain ⟨o1183, ho1184, hm⟩ := bndE hm
  refine do_forO (υ := (List (Tu Int))) PassesOwn.never rfl (ei_range3 z_range ev_int (ev_var 0 rfl r1181) ev_int hc1182) (pg_name (i := 2) sc_desks_of.nd rfl (by first | exact Or.inl rfl | exact Or.inr rfl)) tg_n ho1184 (fun (b1185 : (List (Tu Int))) (σ' : L2.St) (t' : S) => Ex s0 t' ∧ ∃ (y_place : Option V), σ' = [some v1169, some (.ref p1176), y_place] ∧ Own K t' p1176 (b1185 : (List (Tu Int)))) (fun s1271 k1272 => by have E1273 := E1180.trans k1272; have r1274 := Enc.mono k1272.f r1181; have o1275 := Own.ex o1178 k1272; exact ⟨E1273, _, rfl, o1275⟩) (fun s1188 k1189 x1187 b1185 b1186 σ1198 σ1199 t1196 t1197 hx1190 hm1191 fl1192 hR1193 k1194 hB1195 => ?_) (fun s1265 k1266 σ1267 t1268 fl1269 hR1270 => ?_)
  · have hf1200 := Fle.trans k1189.f fl1192
    obtain ⟨E1201, y1202, rfl, o1203⟩ := hR1193
    have r1204 := Enc.mono hf1200 r1181
    obtain ⟨v1205, r1206, rfl⟩ := hB1195
    have E1207 := E1201.trans k1194
    have o1208 := Own.ex o1203 k1194
    have r1209 := Enc.mono k1194.f r1204
    obtain ⟨b1211, hj1212, hm1191⟩ := bndE hm1191
    refine do_if (EvB.t (eb_lt (ev_add (ev_var 2 rfl r1206) ev_int) (ev_var 0 rfl r1209))) (fun (σ' : L2.St) (t' : S) => Fle t1197.F t'.F ∧ Ex s0 t' ∧ σ' = [some v1169, some (.ref p1176), some v1205] ∧ Own K t' p1176 (b1211 : (List (Tu Int)))) (fun hb1213 s1214 e1215 => ?_) (fun hb1234 s1235 e1236 => ?_) (fun σ1255 s1256 hM1257 => ?_)
    · have hm1216 := iteE1 hj1212 hb1213
      have E1217 := E1207.trans e1215
      have fl1218 := Fle.trans (Fle.refl t1197.F) e1215.f
      have fl1219 := Fle.trans (Fle.refl t1197.F) e1215.f
      have o1220 := Own.ex o1208 e1215
      have r1221 := Enc.mono e1215.f r1209
      have r1222 := Enc.mono e1215.f r1206
      obtain ⟨hc1228, hm1216⟩ := chkE hm1216
      refine do_append 1 rfl o1220 (ev_tu (xs := ([x1187, (x1187 + (1 : Int))] : List Int)) (ee_cons (ev_var 2 rfl r1222) (ee_cons (ev_add (ev_var 2 rfl r1222) ev_int) ee_nil)) (by simp [sizeLine])) hc1228 (fun s1223 m1224 o1225 => ?_)
      have E1229 := Ex.mu1 E1217 m1224 n1179
      have fl1230 := Fle.trans fl1218 m1224.f
      have fl1231 := Fle.trans fl1219 m1224.f
      have r1232 := Enc.mono m1224.f r1221
      have r1233 := Enc.mono m1224.f r1222
      obtain ⟨found1226, q1227, hm1216⟩ := ltE hm1216
      rw [← q1227] at o1225
      obtain rfl := Option.some.inj hm1216
      exact do_nil ⟨s1223, rfl, fl1231, ⟨E1229, rfl, o1225⟩⟩
    · have hm1237 := iteE2 hj1212 hb1234
      have E1238 := E1207.trans e1236
      have fl1239 := Fle.trans (Fle.refl t1197.F) e1236.f
      have fl1240 := Fle.trans (Fle.refl t1197.F) e1236.f
      have o1241 := Own.ex o1208 e1236
      have r1242 := Enc.mono e1236.f r1209
      have r1243 := Enc.mono e1236.f r1206
      obtain ⟨hc1249, hm1237⟩ := chkE hm1237
      refine do_append 1 rfl o1241 (ev_tu (xs := ([x1187] : List Int)) (ee_cons (ev_var 2 rfl r1243) ee_nil) (by simp [sizeLine])) hc1249 (fun s1244 m1245 o1246 => ?_)
      have E1250 := Ex.mu1 E1238 m1245 n1179
      have fl1251 := Fle.trans fl1239 m1245.f
      have fl1252 := Fle.trans fl1240 m1245.f
      have r1253 := Enc.mono m1245.f r1242
      have r1254 := Enc.mono m1245.f r1243
      obtain ⟨found1247, q1248, hm1237⟩ := ltE hm1237
      rw [← q1248] at o1246
      obtain rfl := Option.some.inj hm1237
      exact do_nil ⟨s1244, rfl, fl1252, ⟨E1250, rfl, o1246⟩⟩
    · obtain ⟨hf1258, hR1259⟩ := hM1257
      obtain ⟨E1260, rfl, o1261⟩ := hR1259
      have r1262 := Enc.mono hf1258 r1209
      have r1263 := Enc.mono hf1258 r1206
      have fl1264 := Fle.trans (Fle.refl t1197.F) hf1258
      obtain rfl := Option.some.inj hm1191
      exact do_nil ⟨s1256, rfl, fl1264, ⟨E1260, _, rfl, o1261⟩⟩
  · have hf1276 := Fle.trans k1266.f fl1269
    obtain ⟨E1277, y1278, rfl, o1279⟩ := hR1270
    have r1280 := Enc.mono hf1276 r1181
    obtain rfl := Option.some.inj hm
    exact do_retO 1 rfl (hQ _ _ E1277 n1179 o1279)
abbrev s_heard_by : Stmt := topS 14
abbrev N_heard_by : List Str := ["bars", "need", "breaks", "hands", "spots", "turning", "told", "k", "many", "place", "first", "end"]
theorem sc_heard_by : FnScope N_heard_by ["bars", "need", "breaks", "hands"] (defScope s_heard_by) := ⟨rfl, rfl, rfl, by decide +kernel, rfl, by decide +kernel, by decide +kernel⟩
noncomputable def m_heard_by (bars1281 : (List Int)) (need1284 : Int) (breaks1287 : (List Int)) (hands1290 : Int) : Option (List Int) :=
 (bnd (m_asked_bars bars1281) fun asked_bars1294 => (bnd (mapO (fun (x1302 : Int) => (bnd (m_window_at bars1281 need1284 x1302) fun window_at1314 => (some window_at1314))) breaks1287) fun ys1315 => (chk ((ys1315).length ≤ sizeLine) (lt (ys1315 : (List (Int × Int))) fun spots1317 =>
 (bnd (m_desks_of hands1290) fun desks_of1334 => (lt (((desks_of1334).length : Int) : Int) fun turning1335 =>
 (lt (([] : List Int) : (List Int)) fun told1347 =>
 (chk (RgB ((bars1281).length : Int)) (bnd (foldO (fun (b1365 : (List Int)) (x1367 : Int) =>
 (lt (hands1290 : Int) fun many1401 =>
 (bnd (atI bars1281 x1367) fun at1417 => (bnd (if (decide (at1417 = (0 : Int))) = true then
 (lt ((0 : Int) : Int) fun many1437 =>
 (some many1437))
 else
 (chk (((List.map (fun (x1470 : (Int × Int)) => (decide (x1470.1 ≤ x1367) && decide (x1367 < x1470.2))) spots1317)).length ≤ sizeLine) (bnd (if (((List.map (fun (x1470 : (Int × Int)) => (decide (x1470.1 ≤ x1367) && decide (x1367 < x1470.2))) spots1317)).any id) = true then
 (lt ((hands1290 - turning1335) : Int) fun many1510 =>
 (some many1510))
 else
 (some many1401) : Option Int) fun b1491 =>
 (some b1491))) : Option Int) fun b1419 =>
 (chk ((b1365).length < sizeLine) (lt ((b1365 ++ [b1419]) : (List Int)) fun told1583 =>
 (some told1583))))))) told1347 (rng 0 ((bars1281).length : Int))) fun o1363 =>
 (some o1363))))))))))
noncomputable abbrev a_heard_by : (List Int) × Int × (List Int) × Int × Unit → Option (List Int) := fun a => m_heard_by a.1 a.2.1 a.2.2.1 a.2.2.2.1
theorem ok_heard_by {P : Program} {w : World} {K : PySem.W.Frag} {mg : Str → Option Value} {base : Heap} {f : Addr} {fd : FuncData} (F : FunP K "heard_by" s_heard_by f fd) (hmg : mg "heard_by" = some (.ref f)) (C_asked_bars : Cal P w K mg base CX0 1 "asked_bars" (sp K a_asked_bars)) (C_window_at : Cal P w K mg base CX0 2 "window_at" (sp K a_window_at)) (C_desks_of : Cal P w K mg base CX0 1 "desks_of" (spN K a_desks_of)) (z_len : mg "len" = none) (z_range : mg "range" = none) (z_any : mg "any" = none) : Cal P w K mg base CX0 3 "heard_by" (spN K a_heard_by) := by
  refine mk_calN (k := 2) F hmg (F.bindsN fun _ _ _ _ _ _ us hl => match us, hl with | [_, _, _, _], _ => rfl) sc_heard_by len4 ?_
  rintro cdv A' outer sh0 H0 X0 hr s0 vs ⟨bars1281, need1284, breaks1287, hands1290, _⟩ r0 Q ⟨v1282, _, rfl, r1283, v1285, _, rfl, r1286, v1288, _, rfl, r1289, v1291, _, rfl, r1292, rfl⟩ hm hQ
  have E1293 := Ex.refl s0
  unfold a_heard_by m_heard_by at hm
  dsimp only at hm
  obtain ⟨asked_bars1294, h_asked_bars1294, hm⟩ := bndE hm
  refine do_drop (ev_call C_asked_bars hr (by decide) (ea_cons (ev_var 0 rfl r1283) ea_nil) h_asked_bars1294) (fun s1295 e1296 => ?_)
  have E1297 := E1293.trans e1296
  have r1298 := Enc.mono e1296.f r1283
  have r1299 := Enc.mono e1296.f r1286
  have r1300 := Enc.mono e1296.f r1289
  have r1301 := Enc.mono e1296.f r1292
  obtain ⟨ys1315, h_ys1315, hm⟩ := bndE hm
  obtain ⟨hc1316, hm⟩ := chkE hm
  refine do_setL 4 (en_comp0 (own := [("place", 9)]) (j := 9) (f := fun (x1302 : Int) => (bnd (m_window_at bars1281 need1284 x1302) fun window_at1314 => (some window_at1314))) rfl sc_heard_by.nd (ei_list (ev_var 2 rfl r1300)) (blkOk_by (own := [("place", 9)]) (N := N_heard_by) (sc := defScope s_heard_by) (by decide +kernel)) rfl (by decide) (fun _ _ _ _ _ => pg_name (i := 9) sc_heard_by.nd rfl (by first | exact Or.inl rfl | exact Or.inr rfl)) h_ys1315 hc1316 (fun x1302 y1303 v1312 s1304 hx1306 e1305 r1313 hf1307 _ _ _ _ _ => by have r1308 := Enc.mono e1305.f r1298; have r1309 := Enc.mono e1305.f r1299; obtain ⟨window_at1314, h_window_at1314, hf1307⟩ := bndE hf1307; obtain rfl := Option.some.inj hf1307; exact (ev_call C_window_at hr (by decide) (ea_cons (ev_var 0 rfl r1308) (ea_cons (ev_var 1 rfl r1309) (ea_cons (ev_var 9 rfl r1313) ea_nil))) h_window_at1314))) (fun p1323 s1319 e1320 n1324 o1325 => ?_) rfl rfl
  obtain ⟨s1326, hs1327, e1328, r1322⟩ := frz_ex e1320 n1324 o1325
  rw [← hs1327]
  have E1329 := E1297.trans e1328
  have r1330 := Enc.mono e1328.f r1298
  have r1331 := Enc.mono e1328.f r1299
  have r1332 := Enc.mono e1328.f r1300
  have r1333 := Enc.mono e1328.f r1301
  obtain ⟨spots1317, q1318, hm⟩ := ltE hm
  rw [← q1318] at r1322
  obtain ⟨desks_of1334, h_desks_of1334, hm⟩ := bndE hm
  refine do_set 5 (ev_len z_len (EvN.r (en_call C_desks_of hr (by decide) (ea_cons (ev_var 3 rfl r1333) ea_nil) h_desks_of1334))) (fun v1339 s1337 e1338 r1340 => ?_) sc_heard_by.nd
  have E1341 := E1329.trans e1338
  have r1342 := Enc.mono e1338.f r1330
  have r1343 := Enc.mono e1338.f r1331
  have r1344 := Enc.mono e1338.f r1332
  have r1345 := Enc.mono e1338.f r1333
  have r1346 := Enc.mono e1338.f r1322
  obtain ⟨turning1335, q1336, hm⟩ := ltE hm
  rw [← q1336] at r1340
  refine do_setN 6 (en_list (xs := ([] : List Int)) ee_nil (by simp [sizeLine])) (fun p1351 s1349 e1350 n1352 o1353 => ?_) sc_heard_by.nd
  have n1354 := fr_back E1341 n1352
  have E1355 := E1341.trans e1350
  have r1356 := Enc.mono e1350.f r1342
  have r1357 := Enc.mono e1350.f r1343
  have r1358 := Enc.mono e1350.f r1344
  have r1359 := Enc.mono e1350.f r1345
  have r1360 := Enc.mono e1350.f r1346
  have r1361 := Enc.mono e1350.f r1340
  obtain ⟨told1347, q1348, hm⟩ := ltE hm
  rw [← q1348] at o1353
  obtain ⟨hc1362, hm⟩ := chkE hm
  obtain ⟨o1363, ho1364, hm⟩ := bndE hm
  refine do_forO (υ := (List Int)) PassesOwn.never rfl (ei_range1 z_range (ev_len z_len (Ev.r (ev_var 0 rfl r1356))) hc1362) (pg_name (i := 7) sc_heard_by.nd rfl (by first | exact Or.inl rfl | exact Or.inr rfl)) tg_n ho1364 (fun (b1365 : (List Int)) (σ' : L2.St) (t' : S) => Ex s0 t' ∧ ∃ (y_many : Option V) (y_k : Option V), σ' = [some v1282, some v1285, some v1288, some v1291, some (V.ref p1323), some v1339, some (.ref p1351), y_k, y_many, none, none, none] ∧ Own K t' p1351 (b1365 : (List Int))) (fun s1602 k1603 => by have E1604 := E1355.trans k1603; have r1605 := Enc.mono k1603.f r1356; have r1606 := Enc.mono k1603.f r1357; have r1607 := Enc.mono k1603.f r1358; have r1608 := Enc.mono k1603.f r1359; have r1609 := Enc.mono k1603.f r1360; have r1610 := Enc.mono k1603.f r1361; have o1611 := Own.ex o1353 k1603; exact ⟨E1604, _, _, rfl, o1611⟩) (fun s1368 k1369 x1367 b1365 b1366 σ1378 σ1379 t1376 t1377 hx1370 hm1371 fl1372 hR1373 k1374 hB1375 => ?_) (fun s1596 k1597 σ1598 t1599 fl1600 hR1601 => ?_)
  · have hf1380 := Fle.trans k1369.f fl1372
    obtain ⟨E1381, y1382, y1383, rfl, o1384⟩ := hR1373
    have r1385 := Enc.mono hf1380 r1356
    have r1386 := Enc.mono hf1380 r1357
    have r1387 := Enc.mono hf1380 r1358
    have r1388 := Enc.mono hf1380 r1359
    have r1389 := Enc.mono hf1380 r1360
    have r1390 := Enc.mono hf1380 r1361
    obtain ⟨v1391, r1392, rfl⟩ := hB1375
    have E1393 := E1381.trans k1374
    have o1394 := Own.ex o1384 k1374
    have r1395 := Enc.mono k1374.f r1385
    have r1396 := Enc.mono k1374.f r1386
    have r1397 := Enc.mono k1374.f r1387
    have r1398 := Enc.mono k1374.f r1388
    have r1399 := Enc.mono k1374.f r1389
    have r1400 := Enc.mono k1374.f r1390
    refine do_set 8 (ev_var 3 rfl r1398) (fun v1405 s1403 e1404 r1406 => ?_) sc_heard_by.nd
    have E1407 := E1393.trans e1404
    have fl1408 := Fle.trans (Fle.refl t1377.F) e1404.f
    have o1409 := Own.ex o1394 e1404
    have r1410 := Enc.mono e1404.f r1395
    have r1411 := Enc.mono e1404.f r1396
    have r1412 := Enc.mono e1404.f r1397
    have r1413 := Enc.mono e1404.f r1398
    have r1414 := Enc.mono e1404.f r1399
    have r1415 := Enc.mono e1404.f r1400
    have r1416 := Enc.mono e1404.f r1392
    obtain ⟨many1401, q1402, hm1371⟩ := ltE hm1371
    rw [← q1402] at r1406
    obtain ⟨at1417, h_at1417, hm1371⟩ := bndE hm1371
    obtain ⟨b1419, hj1420, hm1371⟩ := bndE hm1371
    refine do_if (EvB.t (eb_eq (ev_ix (Ev.r (ev_var 0 rfl r1410)) (ev_var 7 rfl r1416) h_at1417) ev_int)) (fun (σ' : L2.St) (t' : S) => Fle s1403.F t'.F ∧ Ex s0 t' ∧ ∃ (v_many : V), σ' = [some v1282, some v1285, some v1288, some v1291, some (V.ref p1323), some v1339, some (.ref p1351), some v1391, some v_many, none, none, none] ∧ rep K t'.F v_many (b1419 : Int) ∧ Own K t' p1351 (b1365 : (List Int))) (fun hb1421 s1422 e1423 => ?_) (fun hb1454 s1455 e1456 => ?_) (fun σ1563 s1564 hM1565 => ?_)
    · have hm1424 := iteE1 hj1420 hb1421
      have E1425 := E1407.trans e1423
      have fl1426 := Fle.trans fl1408 e1423.f
      have fl1427 := Fle.trans (Fle.refl s1403.F) e1423.f
      have o1428 := Own.ex o1409 e1423
      have r1429 := Enc.mono e1423.f r1410
      have r1430 := Enc.mono e1423.f r1411
      have r1431 := Enc.mono e1423.f r1412
      have r1432 := Enc.mono e1423.f r1413
      have r1433 := Enc.mono e1423.f r1414
      have r1434 := Enc.mono e1423.f r1415
      have r1435 := Enc.mono e1423.f r1416
      have r1436 := Enc.mono e1423.f r1406
      refine do_set 8 ev_int (fun v1441 s1439 e1440 r1442 => ?_) sc_heard_by.nd
      have E1443 := E1425.trans e1440
      have fl1444 := Fle.trans fl1426 e1440.f
      have fl1445 := Fle.trans fl1427 e1440.f
      have o1446 := Own.ex o1428 e1440
      have r1447 := Enc.mono e1440.f r1429
      have r1448 := Enc.mono e1440.f r1430
      have r1449 := Enc.mono e1440.f r1431
      have r1450 := Enc.mono e1440.f r1432
      have r1451 := Enc.mono e1440.f r1433
      have r1452 := Enc.mono e1440.f r1434
      have r1453 := Enc.mono e1440.f r1435
      obtain ⟨many1437, q1438, hm1424⟩ := ltE hm1424
      rw [← q1438] at r1442
      obtain rfl := Option.some.inj hm1424
      exact do_nil ⟨s1439, rfl, fl1445, ⟨E1443, v1441, rfl, r1442, o1446⟩⟩
    · have hm1457 := iteE2 hj1420 hb1454
      have E1458 := E1407.trans e1456
      have fl1459 := Fle.trans fl1408 e1456.f
      have fl1460 := Fle.trans (Fle.refl s1403.F) e1456.f
      have o1461 := Own.ex o1409 e1456
      have r1462 := Enc.mono e1456.f r1410
      have r1463 := Enc.mono e1456.f r1411
      have r1464 := Enc.mono e1456.f r1412
      have r1465 := Enc.mono e1456.f r1413
      have r1466 := Enc.mono e1456.f r1414
      have r1467 := Enc.mono e1456.f r1415
      have r1468 := Enc.mono e1456.f r1416
      have r1469 := Enc.mono e1456.f r1406
      obtain ⟨hc1489, hm1457⟩ := chkE hm1457
      obtain ⟨b1491, hj1492, hm1457⟩ := bndE hm1457
      refine do_if (et_v (ev_any z_any (EvN.r (EvL.n (en_comp0P (own := [("first", 10), ("end", 11)]) (i := 10) (j := 11) (f := fun (x1470 : (Int × Int)) => some (decide (x1470.1 ≤ x1367) && decide (x1367 < x1470.2))) rfl sc_heard_by.nd (ei_list (ev_var 4 rfl r1466)) (blkOk_by (own := [("first", 10), ("end", 11)]) (N := N_heard_by) (sc := defScope s_heard_by) (by decide +kernel)) (by decide) (by decide) (fun _ _ _ _ _ => pg_tup rfl (pgs_cons (pg_name (i := 10) sc_heard_by.nd rfl (by first | exact Or.inl rfl | exact Or.inr rfl)) (pgs_cons (pg_name (i := 11) sc_heard_by.nd rfl (by first | exact Or.inl rfl | exact Or.inr rfl)) pgs_nil))) (compO_map (fun (x1470 : (Int × Int)) => (decide (x1470.1 ≤ x1367) && decide (x1367 < x1470.2))) spots1317) hc1489 (fun x1470 y1471 v1485 v1486 s1472 hx1474 e1473 r1487 r1488 hf1475 _ _ _ _ _ => by have r1483 := Enc.mono e1473.f r1468; obtain rfl := Option.some.inj hf1475; exact (EvB.v (eb_chain op_le rfl op_lt rfl (ev_var 10 rfl r1487) (ev_var 7 rfl r1483) (ev_var 11 rfl r1488))))))))) (fun (σ' : L2.St) (t' : S) => Fle s1455.F t'.F ∧ Ex s0 t' ∧ ∃ (v_many : V), σ' = [some v1282, some v1285, some v1288, some v1291, some (V.ref p1323), some v1339, some (.ref p1351), some v1391, some v_many, none, none, none] ∧ rep K t'.F v_many (b1491 : Int) ∧ Own K t' p1351 (b1365 : (List Int))) (fun hb1493 s1494 e1495 => ?_) (fun hb1528 s1529 e1530 => ?_) (fun σ1545 s1546 hM1547 => ?_)
      · have hm1496 := iteE1 hj1492 hb1493
        have E1497 := E1458.trans e1495
        have fl1498 := Fle.trans fl1459 e1495.f
        have fl1499 := Fle.trans fl1460 e1495.f
        have fl1500 := Fle.trans (Fle.refl s1455.F) e1495.f
        have o1501 := Own.ex o1461 e1495
        have r1502 := Enc.mono e1495.f r1462
        have r1503 := Enc.mono e1495.f r1463
        have r1504 := Enc.mono e1495.f r1464
        have r1505 := Enc.mono e1495.f r1465
        have r1506 := Enc.mono e1495.f r1466
        have r1507 := Enc.mono e1495.f r1467
        have r1508 := Enc.mono e1495.f r1468
        have r1509 := Enc.mono e1495.f r1469
        refine do_set 8 (ev_sub (ev_var 3 rfl r1505) (ev_var 5 rfl r1507)) (fun v1514 s1512 e1513 r1515 => ?_) sc_heard_by.nd
        have E1516 := E1497.trans e1513
        have fl1517 := Fle.trans fl1498 e1513.f
        have fl1518 := Fle.trans fl1499 e1513.f
        have fl1519 := Fle.trans fl1500 e1513.f
        have o1520 := Own.ex o1501 e1513
        have r1521 := Enc.mono e1513.f r1502
        have r1522 := Enc.mono e1513.f r1503
        have r1523 := Enc.mono e1513.f r1504
        have r1524 := Enc.mono e1513.f r1505
        have r1525 := Enc.mono e1513.f r1506
        have r1526 := Enc.mono e1513.f r1507
        have r1527 := Enc.mono e1513.f r1508
        obtain ⟨many1510, q1511, hm1496⟩ := ltE hm1496
        rw [← q1511] at r1515
        obtain rfl := Option.some.inj hm1496
        exact do_nil ⟨s1512, rfl, fl1519, ⟨E1516, v1514, rfl, r1515, o1520⟩⟩
      · have hm1531 := iteE2 hj1492 hb1528
        have E1532 := E1458.trans e1530
        have fl1533 := Fle.trans fl1459 e1530.f
        have fl1534 := Fle.trans fl1460 e1530.f
        have fl1535 := Fle.trans (Fle.refl s1455.F) e1530.f
        have o1536 := Own.ex o1461 e1530
        have r1537 := Enc.mono e1530.f r1462
        have r1538 := Enc.mono e1530.f r1463
        have r1539 := Enc.mono e1530.f r1464
        have r1540 := Enc.mono e1530.f r1465
        have r1541 := Enc.mono e1530.f r1466
        have r1542 := Enc.mono e1530.f r1467
        have r1543 := Enc.mono e1530.f r1468
        have r1544 := Enc.mono e1530.f r1469
        obtain rfl := Option.some.inj hm1531
        exact do_nil ⟨s1529, rfl, fl1535, ⟨E1532, v1405, rfl, r1544, o1536⟩⟩
      · obtain ⟨hf1548, hR1549⟩ := hM1547
        obtain ⟨E1550, v1551, rfl, r1552, o1553⟩ := hR1549
        have r1554 := Enc.mono hf1548 r1462
        have r1555 := Enc.mono hf1548 r1463
        have r1556 := Enc.mono hf1548 r1464
        have r1557 := Enc.mono hf1548 r1465
        have r1558 := Enc.mono hf1548 r1466
        have r1559 := Enc.mono hf1548 r1467
        have r1560 := Enc.mono hf1548 r1468
        have fl1561 := Fle.trans fl1459 hf1548
        have fl1562 := Fle.trans fl1460 hf1548
        obtain rfl := Option.some.inj hm1457
        exact do_nil ⟨s1546, rfl, fl1562, ⟨E1550, v1551, rfl, r1552, o1553⟩⟩
    · obtain ⟨hf1566, hR1567⟩ := hM1565
      obtain ⟨E1568, v1569, rfl, r1570, o1571⟩ := hR1567
      have r1572 := Enc.mono hf1566 r1410
      have r1573 := Enc.mono hf1566 r1411
      have r1574 := Enc.mono hf1566 r1412
      have r1575 := Enc.mono hf1566 r1413
      have r1576 := Enc.mono hf1566 r1414
      have r1577 := Enc.mono hf1566 r1415
      have r1578 := Enc.mono hf1566 r1416
      have fl1579 := Fle.trans fl1408 hf1566
      obtain ⟨hc1585, hm1371⟩ := chkE hm1371
      refine do_append 6 rfl o1571 (ev_var 8 rfl r1570) hc1585 (fun s1580 m1581 o1582 => ?_)
      have E1586 := Ex.mu1 E1568 m1581 n1354
      have fl1587 := Fle.trans fl1579 m1581.f
      have r1588 := Enc.mono m1581.f r1570
      have r1589 := Enc.mono m1581.f r1572
      have r1590 := Enc.mono m1581.f r1573
      have r1591 := Enc.mono m1581.f r1574
      have r1592 := Enc.mono m1581.f r1575
      have r1593 := Enc.mono m1581.f r1576
      have r1594 := Enc.mono m1581.f r1577
      have r1595 := Enc.mono m1581.f r1578
      obtain ⟨told1583, q1584, hm1371⟩ := ltE hm1371
      rw [← q1584] at o1582
      obtain rfl := Option.some.inj hm1371
      exact do_nil ⟨s1580, rfl, fl1587, ⟨E1586, _, _, rfl, o1582⟩⟩
  · have hf1612 := Fle.trans k1597.f fl1600
    obtain ⟨E1613, y1614, y1615, rfl, o1616⟩ := hR1601
    have r1617 := Enc.mono hf1612 r1356
    have r1618 := Enc.mono hf1612 r1357
    have r1619 := Enc.mono hf1612 r1358
    have r1620 := Enc.mono hf1612 r1359
    have r1621 := Enc.mono hf1612 r1360
    have r1622 := Enc.mono hf1612 r1361
    obtain rfl := Option.some.inj hm
    exact do_retO 6 rfl (hQ _ _ E1613 n1354 o1616)
abbrev s_l_in_windows : Stmt := topS 22
abbrev N_l_in_windows : List Str := ["_law_bars_here", "_law_need", "_law_breaks", "_law_many", "_law_place", "_law_k", "_law_first", "_law_end"]
theorem sc_l_in_windows : FnScope N_l_in_windows ["_law_bars_here", "_law_need", "_law_breaks"] (defScope s_l_in_windows) := ⟨rfl, rfl, rfl, by decide +kernel, rfl, by decide +kernel, by decide +kernel⟩
noncomputable def m_l_in_windows (bars_here1623 : (List Int)) (need1626 : Int) (breaks1629 : (List Int)) : Option (List Int) :=
 (chk (RepOk ((bars_here1623).length : Int) (([(0 : Int)] : List Int)).length) (lt ((repl ((bars_here1623).length : Int) ([(0 : Int)] : List Int)) : (List Int)) fun many1634 =>
 (bnd (foldO (fun (b1648 : (List Int)) (x1650 : Int) =>
 (bnd (m_window_at bars_here1623 need1626 x1650) fun window_at1680 => (lt (window_at1680 : (Int × Int)) fun u1687 =>
 (chk (RgB (max (0 : Int) u1687.1)) (chk (RgB (min ((bars_here1623).length : Int) u1687.2)) (bnd (foldO (fun (b1700 : (List Int)) (x1702 : Int) =>
 (bnd (atI b1700 x1702) fun at1735 => (bnd (ixN (b1700).length x1702) fun j1736 => (lt ((b1700).set j1736 (at1735 + (1 : Int))) fun many1740 =>
 (some many1740))))) b1648 (rng (max (0 : Int) u1687.1) (min ((bars_here1623).length : Int) u1687.2))) fun o1698 =>
 (some o1698))))))) many1634 breaks1629) fun o1646 =>
 (some o1646))))
noncomputable abbrev a_l_in_windows : (List Int) × Int × (List Int) × Unit → Option (List Int) := fun a => m_l_in_windows a.1 a.2.1 a.2.2.1
theorem ok_l_in_windows {P : Program} {w : World} {K : PySem.W.Frag} {mg : Str → Option Value} {base : Heap} {f : Addr} {fd : FuncData} (F : FunP K "_law_in_windows" s_l_in_windows f fd) (hmg : mg "_law_in_windows" = some (.ref f)) (C_window_at : Cal P w K mg base CX0 2 "window_at" (sp K a_window_at)) (z_len : mg "len" = none) (z_range : mg "range" = none) (z_max : mg "max" = none) (z_min : mg "min" = none) : Cal P w K mg base CX0 3 "_law_in_windows" (spN K a_l_in_windows) := by
  refine mk_calN (k := 2) F hmg (F.bindsN fun _ _ _ _ _ _ us hl => match us, hl with | [_, _, _], _ => rfl) sc_l_in_windows len3 ?_
  rintro cdv A' outer sh0 H0 X0 hr s0 vs ⟨bars_here1623, need1626, breaks1629, _⟩ r0 Q ⟨v1624, _, rfl, r1625, v1627, _, rfl, r1628, v1630, _, rfl, r1631, rfl⟩ hm hQ
  have E1632 := Ex.refl s0
  unfold a_l_in_windows m_l_in_windows at hm
  dsimp only at hm
  obtain ⟨hc1633, hm⟩ := chkE hm
  refine do_setN 3 (en_rep (en_list (xs := ([(0 : Int)] : List Int)) (ee_cons ev_int ee_nil) (by simp [sizeLine])) (fun _ hk => Ev.mono (ev_len z_len (Ev.r (ev_var 0 rfl r1625))) hk) hc1633) (fun p1638 s1636 e1637 n1639 o1640 => ?_) sc_l_in_windows.nd
  have n1641 := fr_back E1632 n1639
  have E1642 := E1632.trans e1637
  have r1643 := Enc.mono e1637.f r1625
  have r1644 := Enc.mono e1637.f r1628
  have r1645 := Enc.mono e1637.f r1631
  obtain ⟨many1634, q1635, hm⟩ := ltE hm
  rw [← q1635] at o1640
  obtain ⟨o1646, ho1647, hm⟩ := bndE hm
  refine do_forO (υ := (List Int)) PassesOwn.never rfl (ei_list (ev_var 2 rfl r1645)) (pg_name (i := 4) sc_l_in_windows.nd rfl (by first | exact Or.inl rfl | exact Or.inr rfl)) tg_n ho1647 (fun (b1648 : (List Int)) (σ' : L2.St) (t' : S) => Ex s0 t' ∧ ∃ (y_first : Option V) (y_end : Option V) (y_k : Option V) (y_place : Option V), σ' = [some v1624, some v1627, some v1630, some (.ref p1638), y_place, y_k, y_first, y_end] ∧ Own K t' p1638 (b1648 : (List Int))) (fun s1785 k1786 => by have E1787 := E1642.trans k1786; have r1788 := Enc.mono k1786.f r1643; have r1789 := Enc.mono k1786.f r1644; have r1790 := Enc.mono k1786.f r1645; have o1791 := Own.ex o1640 k1786; exact ⟨E1787, _, _, _, _, rfl, o1791⟩) (fun s1651 k1652 x1650 b1648 b1649 σ1661 σ1662 t1659 t1660 hx1653 hm1654 fl1655 hR1656 k1657 hB1658 => ?_) (fun s1779 k1780 σ1781 t1782 fl1783 hR1784 => ?_)
  · have hf1663 := Fle.trans k1652.f fl1655
    obtain ⟨E1664, y1665, y1666, y1667, y1668, rfl, o1669⟩ := hR1656
    have r1670 := Enc.mono hf1663 r1643
    have r1671 := Enc.mono hf1663 r1644
    have r1672 := Enc.mono hf1663 r1645
    obtain ⟨v1673, r1674, rfl⟩ := hB1658
    have E1675 := E1664.trans k1657
    have o1676 := Own.ex o1669 k1657
    have r1677 := Enc.mono k1657.f r1670
    have r1678 := Enc.mono k1657.f r1671
    have r1679 := Enc.mono k1657.f r1672
    obtain ⟨window_at1680, h_window_at1680, hm1654⟩ := bndE hm1654
    refine do_unp2 6 7 (ev_call C_window_at hr (by decide) (ea_cons (ev_var 0 rfl r1677) (ea_cons (ev_var 1 rfl r1678) (ea_cons (ev_var 4 rfl r1674) ea_nil))) h_window_at1680) (fun v1681 v1682 s1685 e1686 r1683 r1684 => ?_) (pg_tup rfl (pgs_cons (pg_name (i := 6) sc_l_in_windows.nd rfl (by first | exact Or.inl rfl | exact Or.inr rfl)) (pgs_cons (pg_name (i := 7) sc_l_in_windows.nd rfl (by first | exact Or.inl rfl | exact Or.inr rfl)) pgs_nil)))
    have E1689 := E1675.trans e1686
    have fl1690 := Fle.trans (Fle.refl t1660.F) e1686.f
    have o1691 := Own.ex o1676 e1686
    have r1692 := Enc.mono e1686.f r1677
    have r1693 := Enc.mono e1686.f r1678
    have r1694 := Enc.mono e1686.f r1679
    have r1695 := Enc.mono e1686.f r1674
    obtain ⟨u1687, q1688, hm1654⟩ := ltE hm1654
    rw [← q1688] at r1683
    rw [← q1688] at r1684
    obtain ⟨hc1696, hm1654⟩ := chkE hm1654
    obtain ⟨hc1697, hm1654⟩ := chkE hm1654
    obtain ⟨o1698, ho1699, hm1654⟩ := bndE hm1654
    refine do_forO (υ := (List Int)) PassesOwn.never rfl (ei_range2 z_range (ev_max2 z_max ev_int (ev_var 6 rfl r1683)) (ev_min2 z_min (ev_len z_len (Ev.r (ev_var 0 rfl r1692))) (ev_var 7 rfl r1684)) hc1696 hc1697) (pg_name (i := 5) sc_l_in_windows.nd rfl (by first | exact Or.inl rfl | exact Or.inr rfl)) tg_n ho1699 (fun (b1700 : (List Int)) (σ' : L2.St) (t' : S) => Ex s0 t' ∧ ∃ (y_k : Option V), σ' = [some v1624, some v1627, some v1630, some (.ref p1638), some v1673, y_k, some v1681, some v1682] ∧ Own K t' p1638 (b1700 : (List Int))) (fun s1757 k1758 => by have E1759 := E1689.trans k1758; have fl1760 := Fle.trans fl1690 k1758.f; have o1761 := Own.ex o1691 k1758; have r1762 := Enc.mono k1758.f r1692; have r1763 := Enc.mono k1758.f r1693; have r1764 := Enc.mono k1758.f r1694; have r1765 := Enc.mono k1758.f r1695; have r1766 := Enc.mono k1758.f r1683; have r1767 := Enc.mono k1758.f r1684; exact ⟨E1759, _, rfl, o1761⟩) (fun s1703 k1704 x1702 b1700 b1701 σ1713 σ1714 t1711 t1712 hx1705 hm1706 fl1707 hR1708 k1709 hB1710 => ?_) (fun s1751 k1752 σ1753 t1754 fl1755 hR1756 => ?_)
    · have hf1715 := Fle.trans k1704.f fl1707
      obtain ⟨E1716, y1717, rfl, o1718⟩ := hR1708
      have r1719 := Enc.mono hf1715 r1692
      have r1720 := Enc.mono hf1715 r1693
      have r1721 := Enc.mono hf1715 r1694
      have r1722 := Enc.mono hf1715 r1695
      have r1723 := Enc.mono hf1715 r1683
      have r1724 := Enc.mono hf1715 r1684
      obtain ⟨v1725, r1726, rfl⟩ := hB1710
      have E1727 := E1716.trans k1709
      have o1728 := Own.ex o1718 k1709
      have r1729 := Enc.mono k1709.f r1719
      have r1730 := Enc.mono k1709.f r1720
      have r1731 := Enc.mono k1709.f r1721
      have r1732 := Enc.mono k1709.f r1722
      have r1733 := Enc.mono k1709.f r1723
      have r1734 := Enc.mono k1709.f r1724
      obtain ⟨at1735, h_at1735, hm1706⟩ := bndE hm1706
      obtain ⟨j1736, h_j1736, hm1706⟩ := bndE hm1706
      refine do_setItem 3 rfl o1728 (ev_add (ev_ix (ev_varR 3 rfl o1728) (ev_var 5 rfl r1726) h_at1735) ev_int) (ev_var 5 rfl r1726) h_j1736 (fun s1737 m1738 o1739 => ?_)
      have E1742 := Ex.mu1 E1727 m1738 n1641
      have fl1743 := Fle.trans (Fle.refl t1712.F) m1738.f
      have r1744 := Enc.mono m1738.f r1729
      have r1745 := Enc.mono m1738.f r1730
      have r1746 := Enc.mono m1738.f r1731
      have r1747 := Enc.mono m1738.f r1732
      have r1748 := Enc.mono m1738.f r1733
      have r1749 := Enc.mono m1738.f r1734
      have r1750 := Enc.mono m1738.f r1726
      obtain ⟨many1740, q1741, hm1706⟩ := ltE hm1706
      rw [← q1741] at o1739
      obtain rfl := Option.some.inj hm1706
      exact do_nil ⟨s1737, rfl, fl1743, ⟨E1742, _, rfl, o1739⟩⟩
    · have hf1768 := Fle.trans k1752.f fl1755
      obtain ⟨E1769, y1770, rfl, o1771⟩ := hR1756
      have r1772 := Enc.mono hf1768 r1692
      have r1773 := Enc.mono hf1768 r1693
      have r1774 := Enc.mono hf1768 r1694
      have r1775 := Enc.mono hf1768 r1695
      have r1776 := Enc.mono hf1768 r1683
      have r1777 := Enc.mono hf1768 r1684
      have fl1778 := Fle.trans fl1690 hf1768
      obtain rfl := Option.some.inj hm1654
      exact do_nil ⟨t1754, rfl, fl1778, ⟨E1769, _, _, _, _, rfl, o1771⟩⟩
  · have hf1792 := Fle.trans k1780.f fl1783
    obtain ⟨E1793, y1794, y1795, y1796, y1797, rfl, o1798⟩ := hR1784
    have r1799 := Enc.mono hf1792 r1643
    have r1800 := Enc.mono hf1792 r1644
    have r1801 := Enc.mono hf1792 r1645
    obtain rfl := Option.some.inj hm
    exact do_retO 3 rfl (hQ _ _ E1793 n1641 o1798)
abbrev s_turner_at : Stmt := topS 6
abbrev N_turner_at : List Str := ["desk"]
theorem sc_turner_at : FnScope N_turner_at ["desk"] (defScope s_turner_at) := ⟨rfl, rfl, rfl, by decide +kernel, rfl, by decide +kernel, by decide +kernel⟩
noncomputable def m_turner_at (desk1802 : (Tu Int)) : Option Int :=
 (bnd (atI (desk1802).l (-(1 : Int))) fun at1806 => (some at1806))
noncomputable abbrev a_turner_at : (Tu Int) × Unit → Option Int := fun a => m_turner_at a.1
theorem ok_turner_at {P : Program} {w : World} {K : PySem.W.Frag} {mg : Str → Option Value} {base : Heap} {f : Addr} {fd : FuncData} (F : FunP K "turner_at" s_turner_at f fd) (hmg : mg "turner_at" = some (.ref f))  : Cal P w K mg base CX0 1 "turner_at" (sp K a_turner_at) := by
  refine mk_cal (k := 0) F hmg (F.bindsN fun _ _ _ _ _ _ us hl => match us, hl with | [_], _ => rfl) sc_turner_at len1 ?_
  rintro cdv A' outer sh0 H0 X0 hr s0 vs ⟨desk1802, _⟩ r0 Q ⟨v1803, _, rfl, r1804, rfl⟩ hm hQ
  have E1805 := Ex.refl s0
  unfold a_turner_at m_turner_at at hm
  dsimp only at hm
  obtain ⟨at1806, h_at1806, hm⟩ := bndE hm
  obtain rfl := Option.some.inj hm
  exact do_ret (ev_ixT (ev_var 0 rfl r1804) (ev_neg ev_int) h_at1806) fun v1807 s1808 e1809 r1810 => hQ _ _ (E1805.trans e1809) r1810
abbrev s_l_desks_right : Stmt := topS 21
abbrev N_l_desks_right : List Str := ["_law_hands", "_law_desks", "_law_places", "_law_desk"]
theorem sc_l_desks_right : FnScope N_l_desks_right ["_law_hands"] (defScope s_l_desks_right) := ⟨rfl, rfl, rfl, by decide +kernel, rfl, by decide +kernel, by decide +kernel⟩
noncomputable def m_l_desks_right (hands1811 : Int) : Option Bool :=
 (bnd (m_desks_of hands1811) fun desks_of1815 => (lt (desks_of1815 : (List (Tu Int))) fun desks1816 =>
 (lt (([] : List Int) : (List Int)) fun places1824 =>
 (bnd (foldF (ρ := Bool) (fun (b1835 : (List Int)) (x1837 : (Tu Int)) =>
 (bnd (orO (!true) (bnd (m_turner_at x1837) fun turner_at1865 => (bnd (atI (x1837).l (-(1 : Int))) fun at1866 => (some (!decide (turner_at1865 = at1866)))))) fun c1867 => (if c1867 = true then
 (some (Fl.rt false))
 else
 (chk ((b1835).length + ((x1837).l).length ≤ sizeLine) (lt ((b1835 ++ (x1837).l) : (List Int)) fun places1895 =>
 (some (Fl.nx places1895))))))) places1824 desks1816) fun o1833 =>
 (Fl.go o1833 (fun b1918 => (chk (RgOk 0 hands1811) (if (!decide (b1918 = (rng 0 hands1811))) = true then
 (some false)
 else
 (chk (((List.map (fun (x1949 : (Tu Int)) => ((x1949).l.length : Int)) desks1816)).length ≤ sizeLine) (chk (RepOk (hands1811 / (2 : Int)) (([(2 : Int)] : List Int)).length) (chk (RepOk (hands1811 % (2 : Int)) (([(1 : Int)] : List Int)).length) (chk (((repl (hands1811 / (2 : Int)) ([(2 : Int)] : List Int))).length + ((repl (hands1811 % (2 : Int)) ([(1 : Int)] : List Int))).length ≤ sizeLine) (some (decide ((List.map (fun (x1949 : (Tu Int)) => ((x1949).l.length : Int)) desks1816) = ((repl (hands1811 / (2 : Int)) ([(2 : Int)] : List Int)) ++ (repl (hands1811 % (2 : Int)) ([(1 : Int)] : List Int))))))))))))) (fun rr => (some rr)))))))
noncomputable abbrev a_l_desks_right : Int × Unit → Option Bool := fun a => m_l_desks_right a.1
theorem ok_l_desks_right {P : Program} {w : World} {K : PySem.W.Frag} {mg : Str → Option Value} {base : Heap} {f : Addr} {fd : FuncData} (F : FunP K "_law_desks_right" s_l_desks_right f fd) (hmg : mg "_law_desks_right" = some (.ref f)) (C_desks_of : Cal P w K mg base CX0 1 "desks_of" (spN K a_desks_of)) (C_turner_at : Cal P w K mg base CX0 1 "turner_at" (sp K a_turner_at)) (z_isinstance : mg "isinstance" = none) (z_tuple : mg "tuple" = none) (z_list : mg "list" = none) (z_range : mg "range" = none) (z_len : mg "len" = none) : Cal P w K mg base CX0 2 "_law_desks_right" (sp K a_l_desks_right) := by
  refine mk_cal (k := 1) F hmg (F.bindsN fun _ _ _ _ _ _ us hl => match us, hl with | [_], _ => rfl) sc_l_desks_right len1 ?_
  rintro cdv A' outer sh0 H0 X0 hr s0 vs ⟨hands1811, _⟩ r0 Q ⟨v1812, _, rfl, r1813, rfl⟩ hm hQ
  have E1814 := Ex.refl s0
  unfold a_l_desks_right m_l_desks_right at hm
  dsimp only at hm
  obtain ⟨desks_of1815, h_desks_of1815, hm⟩ := bndE hm
  refine do_set 1 (EvN.ev (en_call C_desks_of hr (by decide) (ea_cons (ev_var 0 rfl r1813) ea_nil) h_desks_of1815)) (fun v1820 s1818 e1819 r1821 => ?_) sc_l_desks_right.nd
  have E1822 := E1814.trans e1819
  have r1823 := Enc.mono e1819.f r1813
  obtain ⟨desks1816, q1817, hm⟩ := ltE hm
  rw [← q1817] at r1821
  refine do_set 2 (EvN.ev (en_list (xs := ([] : List Int)) ee_nil (by simp [sizeLine]))) (fun v1828 s1826 e1827 r1829 => ?_) sc_l_desks_right.nd
  have E1830 := E1822.trans e1827
  have r1831 := Enc.mono e1827.f r1823
  have r1832 := Enc.mono e1827.f r1821
  obtain ⟨places1824, q1825, hm⟩ := ltE hm
  rw [← q1825] at r1829
  obtain ⟨o1833, ho1834, hm⟩ := bndE hm
  refine do_forF (ρ := Bool) (υ := (List Int)) PassesOwn.never rfl (ei_list (ev_var 1 rfl r1832)) (pg_name (i := 3) sc_l_desks_right.nd rfl (by first | exact Or.inl rfl | exact Or.inr rfl)) tg_n ho1834 (fun (b1835 : (List Int)) (σ' : L2.St) (t' : S) => Ex s0 t' ∧ ∃ (v_places : V) (y_desk : Option V), σ' = [some v1812, some v1820, some v_places, y_desk] ∧ rep K t'.F v_places (b1835 : (List Int))) (fun s1912 k1913 => by have E1914 := E1830.trans k1913; have r1915 := Enc.mono k1913.f r1831; have r1916 := Enc.mono k1913.f r1832; have r1917 := Enc.mono k1913.f r1829; exact ⟨E1914, v1828, _, rfl, r1917⟩) (fun s1838 k1839 x1837 b1835 q1863 σ1848 σ1849 t1846 t1847 hx1840 hm1841 hq1864 fl1842 hR1843 k1844 hB1845 => ?_) (fun s1906 k1907 b1918 σ1908 t1909 ho1919 fl1910 hR1911 => ?_)
  · have hf1850 := Fle.trans k1839.f fl1842
    obtain ⟨E1851, v1852, y1853, rfl, r1854⟩ := hR1843
    have r1855 := Enc.mono hf1850 r1831
    have r1856 := Enc.mono hf1850 r1832
    obtain ⟨v1857, r1858, rfl⟩ := hB1845
    have E1859 := E1851.trans k1844
    have r1860 := Enc.mono k1844.f r1854
    have r1861 := Enc.mono k1844.f r1855
    have r1862 := Enc.mono k1844.f r1856
    obtain ⟨c1867, h_c1867, hm1841⟩ := bndE hm1841
    refine do_ifR (EvW.tt (EvC.w (by skip; exact ec_orO (eb_not (eb_v (ev_isi (T := "tuple") (r := true) z_isinstance z_tuple (by decide +kernel) (ev_var 3 rfl r1858) (by show kitB "tuple" "tuple" = _; decide +kernel)))) (fun hb1868 => (fun hz => (by obtain ⟨turner_at1865, h_turner_at1865, hz⟩ := bndE hz; obtain ⟨at1866, h_at1866, hz⟩ := bndE hz; obtain rfl := Option.some.inj hz; exact (ec_or1 (eb_ne (ev_call C_turner_at hr (by decide) (ea_cons (ev_var 3 rfl r1858) ea_nil) h_turner_at1865) (ev_ixT (ev_var 3 rfl r1858) (ev_neg ev_int) h_at1866))))) ((orE h_c1867).1 hb1868)) (orE h_c1867).2))) (fun hb1870 s1871 e1872 => ?_) (fun hb1884 s1885 e1886 => ?_)
    · have hm1873 := iteE1 hm1841 hb1870
      have E1874 := E1859.trans e1872
      have fl1875 := Fle.trans (Fle.refl t1847.F) e1872.f
      have r1876 := Enc.mono e1872.f r1860
      have r1877 := Enc.mono e1872.f r1861
      have r1878 := Enc.mono e1872.f r1862
      have r1879 := Enc.mono e1872.f r1858
      obtain rfl := Option.some.inj hm1873
      obtain rfl := hq1864 _ rfl
      obtain rfl := Option.some.inj hm
      exact do_ret ev_bl fun v1880 s1881 e1882 r1883 => hQ _ _ (E1874.trans e1882) r1883
    · have hm1887 := iteE2 hm1841 hb1884
      have E1888 := E1859.trans e1886
      have fl1889 := Fle.trans (Fle.refl t1847.F) e1886.f
      have r1890 := Enc.mono e1886.f r1860
      have r1891 := Enc.mono e1886.f r1861
      have r1892 := Enc.mono e1886.f r1862
      have r1893 := Enc.mono e1886.f r1858
      obtain ⟨hc1894, hm1887⟩ := chkE hm1887
      refine do_set 2 (EvN.ev (en_cat (Ev.r (ev_var 2 rfl r1890)) (EvN.r (en_copyT z_list (ev_var 3 rfl r1893))) hc1894)) (fun v1899 s1897 e1898 r1900 => ?_) sc_l_desks_right.nd
      have E1901 := E1888.trans e1898
      have fl1902 := Fle.trans fl1889 e1898.f
      have r1903 := Enc.mono e1898.f r1891
      have r1904 := Enc.mono e1898.f r1892
      have r1905 := Enc.mono e1898.f r1893
      obtain ⟨places1895, q1896, hm1887⟩ := ltE hm1887
      rw [← q1896] at r1900
      obtain rfl := Option.some.inj hm1887
      exact do_nil ⟨s1897, rfl, _, rfl, fl1902, ⟨E1901, v1899, _, rfl, r1900⟩⟩
  · subst ho1919
    have hf1920 := Fle.trans k1907.f fl1910
    obtain ⟨E1921, v1922, y1923, rfl, r1924⟩ := hR1911
    have r1925 := Enc.mono hf1920 r1831
    have r1926 := Enc.mono hf1920 r1832
    obtain ⟨hc1927, hm⟩ := chkE hm
    refine do_ifR (EvB.t (eb_neL hr (Ev.r (ev_var 2 rfl r1924)) (EvN.r (en_listRg1 z_list z_range (ev_var 0 rfl r1925) hc1927)) (shp_of _) (shp_of _))) (fun hb1929 s1930 e1931 => ?_) (fun hb1941 s1942 e1943 => ?_)
    · have hm1932 := iteE1 hm hb1929
      have E1933 := E1921.trans e1931
      have r1934 := Enc.mono e1931.f r1924
      have r1935 := Enc.mono e1931.f r1925
      have r1936 := Enc.mono e1931.f r1926
      obtain rfl := Option.some.inj hm1932
      exact do_ret ev_bl fun v1937 s1938 e1939 r1940 => hQ _ _ (E1933.trans e1939) r1940
    · have hm1944 := iteE2 hm hb1941
      have E1945 := E1921.trans e1943
      have r1946 := Enc.mono e1943.f r1924
      have r1947 := Enc.mono e1943.f r1925
      have r1948 := Enc.mono e1943.f r1926
      obtain ⟨hc1960, hm1944⟩ := chkE hm1944
      obtain ⟨hc1961, hm1944⟩ := chkE hm1944
      obtain ⟨hc1962, hm1944⟩ := chkE hm1944
      obtain ⟨hc1963, hm1944⟩ := chkE hm1944
      obtain rfl := Option.some.inj hm1944
      exact do_ret (EvB.v (eb_eqL hr (EvN.r (EvL.n (en_comp0 (own := [("_law_desk", 3)]) (j := 3) (f := fun (x1949 : (Tu Int)) => some ((x1949).l.length : Int)) rfl sc_l_desks_right.nd (ei_list (ev_var 1 rfl r1948)) (blkOk_by (own := [("_law_desk", 3)]) (N := N_l_desks_right) (sc := defScope s_l_desks_right) (by decide +kernel)) rfl (by decide) (fun _ _ _ _ _ => pg_name (i := 3) sc_l_desks_right.nd rfl (by first | exact Or.inl rfl | exact Or.inr rfl)) (compO_map (fun (x1949 : (Tu Int)) => ((x1949).l.length : Int)) desks1816) hc1960 (fun x1949 y1950 v1958 s1951 hx1953 e1952 r1959 hf1954 _ _ _ _ _ => by obtain rfl := Option.some.inj hf1954; exact (ev_lenT z_len (ev_var 3 rfl r1959)))))) (EvN.r (en_cat (EvN.r (en_rep (en_list (xs := ([(2 : Int)] : List Int)) (ee_cons ev_int ee_nil) (by simp [sizeLine])) (fun _ hk => Ev.mono (ev_div (ev_var 0 rfl r1947) ev_int ⟨by decide, by decide +kernel⟩) hk) hc1961)) (EvN.r (en_rep (en_list (xs := ([(1 : Int)] : List Int)) (ee_cons ev_int ee_nil) (by simp [sizeLine])) (fun _ hk => Ev.mono (ev_mod (ev_var 0 rfl r1947) ev_int (by decide)) hk) hc1962)) hc1963)) (shp_of _) (shp_of _))) fun v1964 s1965 e1966 r1967 => hQ _ _ (E1945.trans e1966) r1967
abbrev s_law : Stmt := topS 23
abbrev N_law : List Str := ["_law_script", "_law_bars_here", "_law_cell", "_law_most", "_law_need", "_law_hands", "_law_desks", "_law_heard", "_law_many", "_law_due", "_law_k", "_law_silent", "_law_alone", "_law_loss", "_law_breaks", "_law_prices"]
theorem sc_law : FnScope N_law ["_law_script"] (defScope s_law) := ⟨rfl, rfl, rfl, by decide +kernel, rfl, by decide +kernel, by decide +kernel⟩
noncomputable def m_law (script1968 : (List Int)) : Option Bool :=
 (bnd (m_l_bars script1968 (0 : Int)) fun bars1972 => (lt (bars1972 : (List Int)) fun bars_here1973 =>
 (bnd (m_l_cell_at script1968 (2 : Int)) fun cell_at1981 => (lt (cell_at1981 : Int) fun cell1982 =>
 (bnd (atI ([((1 : Int) + (cell1982 % (40 : Int))), ((1 : Int) + (cell1982 % (5 : Int)))] : List Int) ((cell1982 / (40 : Int)) % (2 : Int))) fun at1991 => (lt (at1991 : Int) fun most1992 =>
 (lt (((cell1982 / (80 : Int)) % (13 : Int)) : Int) fun need2002 =>
 (lt (((1 : Int) + ((cell1982 / (1040 : Int)) % (40 : Int))) : Int) fun hands2013 =>
 (lt (((hands2013 + (1 : Int)) / (2 : Int)) : Int) fun desks2025 =>
 (bnd (m_least_book bars_here1973 most1992 need2002) fun least_book2038 => (lt (least_book2038 : (T3 Int (List Int) (List Int))) fun u2047 =>
 (bnd (m_heard_by bars_here1973 need2002 u2047.b hands2013) fun heard_by2057 => (lt (heard_by2057 : (List Int)) fun heard2058 =>
 (bnd (m_l_in_windows bars_here1973 need2002 u2047.b) fun in_windows2075 => (lt (in_windows2075 : (List Int)) fun many2076 =>
 (lt (([] : List Int) : (List Int)) fun due2094 =>
 (chk (RgB ((bars_here1973).length : Int)) (bnd (foldO (fun (b2118 : (List Int)) (x2120 : Int) =>
 (bnd (atI bars_here1973 x2120) fun at2170 => (bnd (atI many2076 x2120) fun at2171 => (chk (MulOk (if (decide ((0 : Int) < at2170)) = true then (1 : Int) else 0) (hands2013 - (desks2025 * (if (decide ((0 : Int) < at2171)) = true then (1 : Int) else 0)))) (chk ((b2118).length < sizeLine) (lt ((b2118 ++ [((if (decide ((0 : Int) < at2170)) = true then (1 : Int) else 0) * (hands2013 - (desks2025 * (if (decide ((0 : Int) < at2171)) = true then (1 : Int) else 0))))]) : (List Int)) fun due2168 =>
 (some due2168))))))) due2094 (rng 0 ((bars_here1973).length : Int))) fun o2116 =>
 (bnd (orO (!true) (orO (!decide (heard2058 = o2116)) (bnd (m_l_desks_right hands2013) fun desks_right2227 => (some (!desks_right2227))))) fun c2228 => (if c2228 = true then
 (some false)
 else
 (chk (RgB ((bars_here1973).length : Int)) (bnd (mapO (fun (x2273 : Int) => (bnd (atI bars_here1973 x2273) fun at2294 => (bnd (atI heard2058 x2273) fun at2295 => (chk (MulOk at2294 (hands2013 - at2295)) (some (at2294 * (hands2013 - at2295))))))) (rng 0 ((bars_here1973).length : Int))) fun ys2297 => (chk ((ys2297).length ≤ sizeLine) (lt ((ys2297).sum : Int) fun silent2299 =>
 (if (decide ((desks2025 * u2047.a) < silent2299)) = true then
 (some false)
 else
 (chk (RgB ((bars_here1973).length : Int)) (bnd (mapO (fun (x2363 : Int) => (bnd (atI bars_here1973 x2363) fun at2385 => (bnd (orO (decide (at2385 = (0 : Int))) (bnd (atI many2076 x2363) fun at2386 => (some (decide (at2386 < (2 : Int)))))) fun c2387 => (some c2387)))) (rng 0 ((bars_here1973).length : Int))) fun ys2389 => (chk ((ys2389).length ≤ sizeLine) (lt (((ys2389).all id) : Bool) fun alone2391 =>
 (some ((decide (silent2299 = (desks2025 * u2047.a))) || (!alone2391))))))))))))))))))))))))))))))))
noncomputable abbrev a_law : (List Int) × Unit → Option Bool := fun a => m_law a.1
theorem ok_law_fn {P : Program} {w : World} {K : PySem.W.Frag} {mg : Str → Option Value} {base : Heap} {f : Addr} {fd : FuncData} (F : FunP K "law" s_law f fd) (hmg : mg "law" = some (.ref f)) (C_l_bars : Cal P w K mg base CX0 2 "_law_bars" (sp K a_l_bars)) (C_l_cell_at : Cal P w K mg base CX0 1 "_law_cell_at" (sp K a_l_cell_at)) (C_least_book : Cal P w K mg base CX0 4 "least_book" (sp K a_least_book)) (C_heard_by : Cal P w K mg base CX0 3 "heard_by" (spN K a_heard_by)) (C_l_in_windows : Cal P w K mg base CX0 3 "_law_in_windows" (spN K a_l_in_windows)) (C_l_desks_right : Cal P w K mg base CX0 2 "_law_desks_right" (sp K a_l_desks_right)) (z_list : mg "list" = none) (z_range : mg "range" = none) (z_len : mg "len" = none) (z_int : mg "int" = none) (z_isinstance : mg "isinstance" = none) (z_sum : mg "sum" = none) (z_all : mg "all" = none) : FnOk P w K mg base CX0 5 f fd ["_law_script"] (sp K a_law) := by
  refine mk_fn (k := 4) F sc_law len1 ?_
  rintro cdv A' outer sh0 H0 X0 hr s0 vs ⟨script1968, _⟩ r0 Q ⟨v1969, _, rfl, r1970, rfl⟩ hm hQ
  have E1971 := Ex.refl s0
  unfold a_law m_law at hm
  dsimp only at hm
  obtain ⟨bars1972, h_bars1972, hm⟩ := bndE hm
  refine do_set 1 (ev_call C_l_bars hr (by decide) (ea_cons (ev_var 0 rfl r1970) (ea_cons ev_int ea_nil)) h_bars1972) (fun v1977 s1975 e1976 r1978 => ?_) sc_law.nd
  have E1979 := E1971.trans e1976
  have r1980 := Enc.mono e1976.f r1970
  obtain ⟨bars_here1973, q1974, hm⟩ := ltE hm
  rw [← q1974] at r1978
  obtain ⟨cell_at1981, h_cell_at1981, hm⟩ := bndE hm
  refine do_set 2 (ev_call C_l_cell_at hr (by decide) (ea_cons (ev_var 0 rfl r1980) (ea_cons ev_int ea_nil)) h_cell_at1981) (fun v1986 s1984 e1985 r1987 => ?_) sc_law.nd
  have E1988 := E1979.trans e1985
  have r1989 := Enc.mono e1985.f r1980
  have r1990 := Enc.mono e1985.f r1978
  obtain ⟨cell1982, q1983, hm⟩ := ltE hm
  rw [← q1983] at r1987
  obtain ⟨at1991, h_at1991, hm⟩ := bndE hm
  refine do_set 3 (ev_ix (EvN.r (en_list (xs := ([((1 : Int) + (cell1982 % (40 : Int))), ((1 : Int) + (cell1982 % (5 : Int)))] : List Int)) (ee_cons (ev_add ev_int (ev_mod (ev_var 2 rfl r1987) ev_int (by decide))) (ee_cons (ev_add ev_int (ev_mod (ev_var 2 rfl r1987) ev_int (by decide))) ee_nil)) (by simp [sizeLine]))) (ev_mod (ev_div (ev_var 2 rfl r1987) ev_int ⟨by decide, by decide +kernel⟩) ev_int (by decide)) h_at1991) (fun v1996 s1994 e1995 r1997 => ?_) sc_law.nd
  have E1998 := E1988.trans e1995
  have r1999 := Enc.mono e1995.f r1989
  have r2000 := Enc.mono e1995.f r1990
  have r2001 := Enc.mono e1995.f r1987
  obtain ⟨most1992, q1993, hm⟩ := ltE hm
  rw [← q1993] at r1997
  refine do_set 4 (ev_mod (ev_div (ev_var 2 rfl r2001) ev_int ⟨by decide, by decide +kernel⟩) ev_int (by decide)) (fun v2006 s2004 e2005 r2007 => ?_) sc_law.nd
  have E2008 := E1998.trans e2005
  have r2009 := Enc.mono e2005.f r1999
  have r2010 := Enc.mono e2005.f r2000
  have r2011 := Enc.mono e2005.f r2001
  have r2012 := Enc.mono e2005.f r1997
  obtain ⟨need2002, q2003, hm⟩ := ltE hm
  rw [← q2003] at r2007
  refine do_set 5 (ev_add ev_int (ev_mod (ev_div (ev_var 2 rfl r2011) ev_int ⟨by decide, by decide +kernel⟩) ev_int (by decide))) (fun v2017 s2015 e2016 r2018 => ?_) sc_law.nd
  have E2019 := E2008.trans e2016
  have r2020 := Enc.mono e2016.f r2009
  have r2021 := Enc.mono e2016.f r2010
  have r2022 := Enc.mono e2016.f r2011
  have r2023 := Enc.mono e2016.f r2012
  have r2024 := Enc.mono e2016.f r2007
  obtain ⟨hands2013, q2014, hm⟩ := ltE hm
  rw [← q2014] at r2018
  refine do_set 6 (ev_div (ev_add (ev_var 5 rfl r2018) ev_int) ev_int ⟨by decide, by decide +kernel⟩) (fun v2029 s2027 e2028 r2030 => ?_) sc_law.nd
  have E2031 := E2019.trans e2028
  have r2032 := Enc.mono e2028.f r2020
  have r2033 := Enc.mono e2028.f r2021
  have r2034 := Enc.mono e2028.f r2022
  have r2035 := Enc.mono e2028.f r2023
  have r2036 := Enc.mono e2028.f r2024
  have r2037 := Enc.mono e2028.f r2018
  obtain ⟨desks2025, q2026, hm⟩ := ltE hm
  rw [← q2026] at r2030
  obtain ⟨least_book2038, h_least_book2038, hm⟩ := bndE hm
  refine do_unp3 13 14 15 (ev_call C_least_book hr (by decide) (ea_cons (ev_var 1 rfl r2033) (ea_cons (ev_var 3 rfl r2035) (ea_cons (ev_var 4 rfl r2036) ea_nil))) h_least_book2038) (fun v2039 v2040 v2041 s2045 e2046 r2042 r2043 r2044 => ?_) (pg_tup rfl (pgs_cons (pg_name (i := 13) sc_law.nd rfl (by first | exact Or.inl rfl | exact Or.inr rfl)) (pgs_cons (pg_name (i := 14) sc_law.nd rfl (by first | exact Or.inl rfl | exact Or.inr rfl)) (pgs_cons (pg_name (i := 15) sc_law.nd rfl (by first | exact Or.inl rfl | exact Or.inr rfl)) pgs_nil))))
  have E2049 := E2031.trans e2046
  have r2050 := Enc.mono e2046.f r2032
  have r2051 := Enc.mono e2046.f r2033
  have r2052 := Enc.mono e2046.f r2034
  have r2053 := Enc.mono e2046.f r2035
  have r2054 := Enc.mono e2046.f r2036
  have r2055 := Enc.mono e2046.f r2037
  have r2056 := Enc.mono e2046.f r2030
  obtain ⟨u2047, q2048, hm⟩ := ltE hm
  rw [← q2048] at r2042
  rw [← q2048] at r2043
  rw [← q2048] at r2044
  obtain ⟨heard_by2057, h_heard_by2057, hm⟩ := bndE hm
  refine do_set 7 (EvN.ev (en_call C_heard_by hr (by decide) (ea_cons (ev_var 1 rfl r2051) (ea_cons (ev_var 4 rfl r2054) (ea_cons (EvN.ev (en_copy z_list (Ev.r (ev_var 14 rfl r2043)))) (ea_cons (ev_var 5 rfl r2055) ea_nil)))) h_heard_by2057)) (fun v2062 s2060 e2061 r2063 => ?_) sc_law.nd
  have E2064 := E2049.trans e2061
  have r2065 := Enc.mono e2061.f r2050
  have r2066 := Enc.mono e2061.f r2051
  have r2067 := Enc.mono e2061.f r2052
  have r2068 := Enc.mono e2061.f r2053
  have r2069 := Enc.mono e2061.f r2054
  have r2070 := Enc.mono e2061.f r2055
  have r2071 := Enc.mono e2061.f r2056
  have r2072 := Enc.mono e2061.f r2042
  have r2073 := Enc.mono e2061.f r2043
  have r2074 := Enc.mono e2061.f r2044
  obtain ⟨heard2058, q2059, hm⟩ := ltE hm
  rw [← q2059] at r2063
  obtain ⟨in_windows2075, h_in_windows2075, hm⟩ := bndE hm
  refine do_set 8 (EvN.ev (en_call C_l_in_windows hr (by decide) (ea_cons (ev_var 1 rfl r2066) (ea_cons (ev_var 4 rfl r2069) (ea_cons (ev_var 14 rfl r2073) ea_nil))) h_in_windows2075)) (fun v2080 s2078 e2079 r2081 => ?_) sc_law.nd
  have E2082 := E2064.trans e2079
  have r2083 := Enc.mono e2079.f r2065
  have r2084 := Enc.mono e2079.f r2066
  have r2085 := Enc.mono e2079.f r2067
  have r2086 := Enc.mono e2079.f r2068
  have r2087 := Enc.mono e2079.f r2069
  have r2088 := Enc.mono e2079.f r2070
  have r2089 := Enc.mono e2079.f r2071
  have r2090 := Enc.mono e2079.f r2072
  have r2091 := Enc.mono e2079.f r2073
  have r2092 := Enc.mono e2079.f r2074
  have r2093 := Enc.mono e2079.f r2063
  obtain ⟨many2076, q2077, hm⟩ := ltE hm
  rw [← q2077] at r2081
  refine do_setN 9 (en_list (xs := ([] : List Int)) ee_nil (by simp [sizeLine])) (fun p2098 s2096 e2097 n2099 o2100 => ?_) sc_law.nd
  have n2101 := fr_back E2082 n2099
  have E2102 := E2082.trans e2097
  have r2103 := Enc.mono e2097.f r2083
  have r2104 := Enc.mono e2097.f r2084
  have r2105 := Enc.mono e2097.f r2085
  have r2106 := Enc.mono e2097.f r2086
  have r2107 := Enc.mono e2097.f r2087
  have r2108 := Enc.mono e2097.f r2088
  have r2109 := Enc.mono e2097.f r2089
  have r2110 := Enc.mono e2097.f r2090
  have r2111 := Enc.mono e2097.f r2091
  have r2112 := Enc.mono e2097.f r2092
  have r2113 := Enc.mono e2097.f r2093
  have r2114 := Enc.mono e2097.f r2081
  obtain ⟨due2094, q2095, hm⟩ := ltE hm
  rw [← q2095] at o2100
  obtain ⟨hc2115, hm⟩ := chkE hm
  obtain ⟨o2116, ho2117, hm⟩ := bndE hm
  refine do_forO (υ := (List Int)) PassesOwn.never rfl (ei_range1 z_range (ev_len z_len (Ev.r (ev_var 1 rfl r2104))) hc2115) (pg_name (i := 10) sc_law.nd rfl (by first | exact Or.inl rfl | exact Or.inr rfl)) tg_n ho2117 (fun (b2118 : (List Int)) (σ' : L2.St) (t' : S) => Ex s0 t' ∧ ∃ (y_k : Option V), σ' = [some v1969, some v1977, some v1986, some v1996, some v2006, some v2017, some v2029, some v2062, some v2080, some (.ref p2098), y_k, none, none, some v2039, some v2040, some v2041] ∧ Own K t' p2098 (b2118 : (List Int))) (fun s2195 k2196 => by have E2197 := E2102.trans k2196; have r2198 := Enc.mono k2196.f r2103; have r2199 := Enc.mono k2196.f r2104; have r2200 := Enc.mono k2196.f r2105; have r2201 := Enc.mono k2196.f r2106; have r2202 := Enc.mono k2196.f r2107; have r2203 := Enc.mono k2196.f r2108; have r2204 := Enc.mono k2196.f r2109; have r2205 := Enc.mono k2196.f r2110; have r2206 := Enc.mono k2196.f r2111; have r2207 := Enc.mono k2196.f r2112; have r2208 := Enc.mono k2196.f r2113; have r2209 := Enc.mono k2196.f r2114; have o2210 := Own.ex o2100 k2196; exact ⟨E2197, _, rfl, o2210⟩) (fun s2121 k2122 x2120 b2118 b2119 σ2131 σ2132 t2129 t2130 hx2123 hm2124 fl2125 hR2126 k2127 hB2128 => ?_) (fun s2189 k2190 σ2191 t2192 fl2193 hR2194 => ?_)
  · have hf2133 := Fle.trans k2122.f fl2125
    obtain ⟨E2134, y2135, rfl, o2136⟩ := hR2126
    have r2137 := Enc.mono hf2133 r2103
    have r2138 := Enc.mono hf2133 r2104
    have r2139 := Enc.mono hf2133 r2105
    have r2140 := Enc.mono hf2133 r2106
    have r2141 := Enc.mono hf2133 r2107
    have r2142 := Enc.mono hf2133 r2108
    have r2143 := Enc.mono hf2133 r2109
    have r2144 := Enc.mono hf2133 r2110
    have r2145 := Enc.mono hf2133 r2111
    have r2146 := Enc.mono hf2133 r2112
    have r2147 := Enc.mono hf2133 r2113
    have r2148 := Enc.mono hf2133 r2114
    obtain ⟨v2149, r2150, rfl⟩ := hB2128
    have E2151 := E2134.trans k2127
    have o2152 := Own.ex o2136 k2127
    have r2153 := Enc.mono k2127.f r2137
    have r2154 := Enc.mono k2127.f r2138
    have r2155 := Enc.mono k2127.f r2139
    have r2156 := Enc.mono k2127.f r2140
    have r2157 := Enc.mono k2127.f r2141
    have r2158 := Enc.mono k2127.f r2142
    have r2159 := Enc.mono k2127.f r2143
    have r2160 := Enc.mono k2127.f r2144
    have r2161 := Enc.mono k2127.f r2145
    have r2162 := Enc.mono k2127.f r2146
    have r2163 := Enc.mono k2127.f r2147
    have r2164 := Enc.mono k2127.f r2148
    obtain ⟨at2170, h_at2170, hm2124⟩ := bndE hm2124
    obtain ⟨at2171, h_at2171, hm2124⟩ := bndE hm2124
    obtain ⟨hc2172, hm2124⟩ := chkE hm2124
    obtain ⟨hc2173, hm2124⟩ := chkE hm2124
    refine do_append 9 rfl o2152 (ev_mul (ev_intB z_int (EvB.v (eb_gt (ev_ix (Ev.r (ev_var 1 rfl r2154)) (ev_var 10 rfl r2150) h_at2170) ev_int))) (ev_sub (ev_var 5 rfl r2158) (ev_mul (ev_var 6 rfl r2159) (ev_intB z_int (EvB.v (eb_gt (ev_ix (Ev.r (ev_var 8 rfl r2164)) (ev_var 10 rfl r2150) h_at2171) ev_int))) (Or.inl (Or.inl ⟨by omega, by omega⟩)))) hc2172) hc2173 (fun s2165 m2166 o2167 => ?_)
    have E2174 := Ex.mu1 E2151 m2166 n2101
    have fl2175 := Fle.trans (Fle.refl t2130.F) m2166.f
    have r2176 := Enc.mono m2166.f r2153
    have r2177 := Enc.mono m2166.f r2154
    have r2178 := Enc.mono m2166.f r2155
    have r2179 := Enc.mono m2166.f r2156
    have r2180 := Enc.mono m2166.f r2157
    have r2181 := Enc.mono m2166.f r2158
    have r2182 := Enc.mono m2166.f r2159
    have r2183 := Enc.mono m2166.f r2160
    have r2184 := Enc.mono m2166.f r2161
    have r2185 := Enc.mono m2166.f r2162
    have r2186 := Enc.mono m2166.f r2163
    have r2187 := Enc.mono m2166.f r2164
    have r2188 := Enc.mono m2166.f r2150
    obtain ⟨due2168, q2169, hm2124⟩ := ltE hm2124
    rw [← q2169] at o2167
    obtain rfl := Option.some.inj hm2124
    exact do_nil ⟨s2165, rfl, fl2175, ⟨E2174, _, rfl, o2167⟩⟩
  · have hf2211 := Fle.trans k2190.f fl2193
    obtain ⟨E2212, y2213, rfl, o2214⟩ := hR2194
    have r2215 := Enc.mono hf2211 r2103
    have r2216 := Enc.mono hf2211 r2104
    have r2217 := Enc.mono hf2211 r2105
    have r2218 := Enc.mono hf2211 r2106
    have r2219 := Enc.mono hf2211 r2107
    have r2220 := Enc.mono hf2211 r2108
    have r2221 := Enc.mono hf2211 r2109
    have r2222 := Enc.mono hf2211 r2110
    have r2223 := Enc.mono hf2211 r2111
    have r2224 := Enc.mono hf2211 r2112
    have r2225 := Enc.mono hf2211 r2113
    have r2226 := Enc.mono hf2211 r2114
    obtain ⟨c2228, h_c2228, hm⟩ := bndE hm
    refine do_ifR (EvW.tt (EvC.w (by skip; exact ec_orO (eb_not (eb_v (ev_isi (T := "list") (r := true) z_isinstance z_list (by decide +kernel) (ev_var 7 rfl r2225) (by show kitB "list" "list" = _; decide +kernel)))) (fun hb2229 => (fun hz => (by skip; exact ec_orO (eb_neL hr (Ev.r (ev_var 7 rfl r2225)) (ev_varR 9 rfl o2214) (shp_of _) (shp_of _)) (fun hb2230 => (fun hz => (by obtain ⟨desks_right2227, h_desks_right2227, hz⟩ := bndE hz; obtain rfl := Option.some.inj hz; exact (ec_or1 (eb_not (eb_v (ev_call C_l_desks_right hr (by decide) (ea_cons (ev_var 5 rfl r2220) ea_nil) h_desks_right2227)))))) ((orE hz).1 hb2230)) (orE hz).2)) ((orE h_c2228).1 hb2229)) (orE h_c2228).2))) (fun hb2232 s2233 e2234 => ?_) (fun hb2254 s2255 e2256 => ?_)
    · have hm2235 := iteE1 hm hb2232
      have E2236 := E2212.trans e2234
      have o2237 := Own.ex o2214 e2234
      have r2238 := Enc.mono e2234.f r2215
      have r2239 := Enc.mono e2234.f r2216
      have r2240 := Enc.mono e2234.f r2217
      have r2241 := Enc.mono e2234.f r2218
      have r2242 := Enc.mono e2234.f r2219
      have r2243 := Enc.mono e2234.f r2220
      have r2244 := Enc.mono e2234.f r2221
      have r2245 := Enc.mono e2234.f r2222
      have r2246 := Enc.mono e2234.f r2223
      have r2247 := Enc.mono e2234.f r2224
      have r2248 := Enc.mono e2234.f r2225
      have r2249 := Enc.mono e2234.f r2226
      obtain rfl := Option.some.inj hm2235
      exact do_ret ev_bl fun v2250 s2251 e2252 r2253 => hQ _ _ (E2236.trans e2252) r2253
    · have hm2257 := iteE2 hm hb2254
      have E2258 := E2212.trans e2256
      have o2259 := Own.ex o2214 e2256
      have r2260 := Enc.mono e2256.f r2215
      have r2261 := Enc.mono e2256.f r2216
      have r2262 := Enc.mono e2256.f r2217
      have r2263 := Enc.mono e2256.f r2218
      have r2264 := Enc.mono e2256.f r2219
      have r2265 := Enc.mono e2256.f r2220
      have r2266 := Enc.mono e2256.f r2221
      have r2267 := Enc.mono e2256.f r2222
      have r2268 := Enc.mono e2256.f r2223
      have r2269 := Enc.mono e2256.f r2224
      have r2270 := Enc.mono e2256.f r2225
      have r2271 := Enc.mono e2256.f r2226
      obtain ⟨hc2272, hm2257⟩ := chkE hm2257
      obtain ⟨ys2297, h_ys2297, hm2257⟩ := bndE hm2257
      obtain ⟨hc2298, hm2257⟩ := chkE hm2257
      refine do_set 11 (ev_sum z_sum (EvN.r (EvL.n (en_comp0 (own := [("_law_k", 10)]) (j := 10) (f := fun (x2273 : Int) => (bnd (atI bars_here1973 x2273) fun at2294 => (bnd (atI heard2058 x2273) fun at2295 => (chk (MulOk at2294 (hands2013 - at2295)) (some (at2294 * (hands2013 - at2295))))))) rfl sc_law.nd (ei_range1 z_range (ev_len z_len (Ev.r (ev_var 1 rfl r2261))) hc2272) (blkOk_by (own := [("_law_k", 10)]) (N := N_law) (sc := defScope s_law) (by decide +kernel)) rfl (by decide) (fun _ _ _ _ _ => pg_name (i := 10) sc_law.nd rfl (by first | exact Or.inl rfl | exact Or.inr rfl)) h_ys2297 hc2298 (fun x2273 y2274 v2292 s2275 hx2277 e2276 r2293 hf2278 _ _ _ _ _ => by have r2281 := Enc.mono e2276.f r2261; have r2285 := Enc.mono e2276.f r2265; have r2290 := Enc.mono e2276.f r2270; obtain ⟨at2294, h_at2294, hf2278⟩ := bndE hf2278; obtain ⟨at2295, h_at2295, hf2278⟩ := bndE hf2278; obtain ⟨hc2296, hf2278⟩ := chkE hf2278; obtain rfl := Option.some.inj hf2278; exact (ev_mul (ev_ix (Ev.r (ev_var 1 rfl r2281)) (ev_var 10 rfl r2293) h_at2294) (ev_sub (ev_var 5 rfl r2285) (ev_ix (Ev.r (ev_var 7 rfl r2290)) (ev_var 10 rfl r2293) h_at2295)) hc2296)))))) (fun v2303 s2301 e2302 r2304 => ?_) sc_law.nd
      have E2305 := E2258.trans e2302
      have o2306 := Own.ex o2259 e2302
      have r2307 := Enc.mono e2302.f r2260
      have r2308 := Enc.mono e2302.f r2261
      have r2309 := Enc.mono e2302.f r2262
      have r2310 := Enc.mono e2302.f r2263
      have r2311 := Enc.mono e2302.f r2264
      have r2312 := Enc.mono e2302.f r2265
      have r2313 := Enc.mono e2302.f r2266
      have r2314 := Enc.mono e2302.f r2267
      have r2315 := Enc.mono e2302.f r2268
      have r2316 := Enc.mono e2302.f r2269
      have r2317 := Enc.mono e2302.f r2270
      have r2318 := Enc.mono e2302.f r2271
      obtain ⟨silent2299, q2300, hm2257⟩ := ltE hm2257
      rw [← q2300] at r2304
      refine do_ifR (EvB.t (eb_gt (ev_var 11 rfl r2304) (ev_mul (ev_var 6 rfl r2313) (ev_var 13 rfl r2314) (Or.inl (Or.inl ⟨by omega, by omega⟩))))) (fun hb2320 s2321 e2322 => ?_) (fun hb2343 s2344 e2345 => ?_)
      · have hm2323 := iteE1 hm2257 hb2320
        have E2324 := E2305.trans e2322
        have o2325 := Own.ex o2306 e2322
        have r2326 := Enc.mono e2322.f r2307
        have r2327 := Enc.mono e2322.f r2308
        have r2328 := Enc.mono e2322.f r2309
        have r2329 := Enc.mono e2322.f r2310
        have r2330 := Enc.mono e2322.f r2311
        have r2331 := Enc.mono e2322.f r2312
        have r2332 := Enc.mono e2322.f r2313
        have r2333 := Enc.mono e2322.f r2314
        have r2334 := Enc.mono e2322.f r2315
        have r2335 := Enc.mono e2322.f r2316
        have r2336 := Enc.mono e2322.f r2317
        have r2337 := Enc.mono e2322.f r2318
        have r2338 := Enc.mono e2322.f r2304
        obtain rfl := Option.some.inj hm2323
        exact do_ret ev_bl fun v2339 s2340 e2341 r2342 => hQ _ _ (E2324.trans e2341) r2342
      · have hm2346 := iteE2 hm2257 hb2343
        have E2347 := E2305.trans e2345
        have o2348 := Own.ex o2306 e2345
        have r2349 := Enc.mono e2345.f r2307
        have r2350 := Enc.mono e2345.f r2308
        have r2351 := Enc.mono e2345.f r2309
        have r2352 := Enc.mono e2345.f r2310
        have r2353 := Enc.mono e2345.f r2311
        have r2354 := Enc.mono e2345.f r2312
        have r2355 := Enc.mono e2345.f r2313
        have r2356 := Enc.mono e2345.f r2314
        have r2357 := Enc.mono e2345.f r2315
        have r2358 := Enc.mono e2345.f r2316
        have r2359 := Enc.mono e2345.f r2317
        have r2360 := Enc.mono e2345.f r2318
        have r2361 := Enc.mono e2345.f r2304
        obtain ⟨hc2362, hm2346⟩ := chkE hm2346
        obtain ⟨ys2389, h_ys2389, hm2346⟩ := bndE hm2346
        obtain ⟨hc2390, hm2346⟩ := chkE hm2346
        refine do_set 12 (ev_all z_all (EvN.r (EvL.n (en_comp0 (own := [("_law_k", 10)]) (j := 10) (f := fun (x2363 : Int) => (bnd (atI bars_here1973 x2363) fun at2385 => (bnd (orO (decide (at2385 = (0 : Int))) (bnd (atI many2076 x2363) fun at2386 => (some (decide (at2386 < (2 : Int)))))) fun c2387 => (some c2387)))) rfl sc_law.nd (ei_range1 z_range (ev_len z_len (Ev.r (ev_var 1 rfl r2350))) hc2362) (blkOk_by (own := [("_law_k", 10)]) (N := N_law) (sc := defScope s_law) (by decide +kernel)) rfl (by decide) (fun _ _ _ _ _ => pg_name (i := 10) sc_law.nd rfl (by first | exact Or.inl rfl | exact Or.inr rfl)) h_ys2389 hc2390 (fun x2363 y2364 v2383 s2365 hx2367 e2366 r2384 hf2368 _ _ _ _ _ => by have r2371 := Enc.mono e2366.f r2350; have r2381 := Enc.mono e2366.f r2360; obtain ⟨at2385, h_at2385, hf2368⟩ := bndE hf2368; obtain ⟨c2387, h_c2387, hf2368⟩ := bndE hf2368; obtain rfl := Option.some.inj hf2368; exact (EvC.v (by skip; exact ec_orO (eb_eq (ev_ix (Ev.r (ev_var 1 rfl r2371)) (ev_var 10 rfl r2384) h_at2385) ev_int) (fun hb2388 => (fun hz => (by obtain ⟨at2386, h_at2386, hz⟩ := bndE hz; obtain rfl := Option.some.inj hz; exact (ec_or1 (eb_lt (ev_ix (Ev.r (ev_var 8 rfl r2381)) (ev_var 10 rfl r2384) h_at2386) ev_int)))) ((orE h_c2387).1 hb2388)) (orE h_c2387).2))))))) (fun v2395 s2393 e2394 r2396 => ?_) sc_law.nd
        have E2397 := E2347.trans e2394
        have o2398 := Own.ex o2348 e2394
        have r2399 := Enc.mono e2394.f r2349
        have r2400 := Enc.mono e2394.f r2350
        have r2401 := Enc.mono e2394.f r2351
        have r2402 := Enc.mono e2394.f r2352
        have r2403 := Enc.mono e2394.f r2353
        have r2404 := Enc.mono e2394.f r2354
        have r2405 := Enc.mono e2394.f r2355
        have r2406 := Enc.mono e2394.f r2356
        have r2407 := Enc.mono e2394.f r2357
        have r2408 := Enc.mono e2394.f r2358
        have r2409 := Enc.mono e2394.f r2359
        have r2410 := Enc.mono e2394.f r2360
        have r2411 := Enc.mono e2394.f r2361
        obtain ⟨alone2391, q2392, hm2346⟩ := ltE hm2346
        rw [← q2392] at r2396
        obtain rfl := Option.some.inj hm2346
        exact do_ret (EvC.v (ec_or (eb_eq (ev_var 11 rfl r2411) (ev_mul (ev_var 6 rfl r2405) (ev_var 13 rfl r2406) (Or.inl (Or.inl ⟨by omega, by omega⟩)))) fun _ => (ec_or1 (eb_not (eb_v (ev_var 12 rfl r2396)))))) fun v2412 s2413 e2414 r2415 => hQ _ _ (E2397.trans e2414) r2415
def d_l_cell_at : He.DefD := ⟨("_law_cell_at", none), "_law_cell_at", "_law_cell_at", defArgs s_l_cell_at, defBody s_l_cell_at, defScope s_l_cell_at, [], []⟩
def d_l_row : He.DefD := ⟨("_law_row", none), "_law_row", "_law_row", defArgs s_l_row, defBody s_l_row, defScope s_l_row, [], []⟩
def d_l_bars : He.DefD := ⟨("_law_bars", none), "_law_bars", "_law_bars", defArgs s_l_bars, defBody s_l_bars, defScope s_l_bars, [], []⟩
def d_asked_bars : He.DefD := ⟨("asked_bars", none), "asked_bars", "asked_bars", defArgs s_asked_bars, defBody s_asked_bars, defScope s_asked_bars, [], []⟩
def d_asked_break : He.DefD := ⟨("asked_break", none), "asked_break", "asked_break", defArgs s_asked_break, defBody s_asked_break, defScope s_asked_break, [], []⟩
def d_played_in : He.DefD := ⟨("played_in", none), "played_in", "played_in", defArgs s_played_in, defBody s_played_in, defScope s_played_in, [], []⟩
def d_window_at : He.DefD := ⟨("window_at", none), "window_at", "window_at", defArgs s_window_at, defBody s_window_at, defScope s_window_at, [], []⟩
def d_loss_at : He.DefD := ⟨("loss_at", none), "loss_at", "loss_at", defArgs s_loss_at, defBody s_loss_at, defScope s_loss_at, [], []⟩
def d_least_book : He.DefD := ⟨("least_book", none), "least_book", "least_book", defArgs s_least_book, defBody s_least_book, defScope s_least_book, [], []⟩
def d_desks_of : He.DefD := ⟨("desks_of", none), "desks_of", "desks_of", defArgs s_desks_of, defBody s_desks_of, defScope s_desks_of, [], []⟩
def d_heard_by : He.DefD := ⟨("heard_by", none), "heard_by", "heard_by", defArgs s_heard_by, defBody s_heard_by, defScope s_heard_by, [], []⟩
def d_l_in_windows : He.DefD := ⟨("_law_in_windows", none), "_law_in_windows", "_law_in_windows", defArgs s_l_in_windows, defBody s_l_in_windows, defScope s_l_in_windows, [], []⟩
def d_turner_at : He.DefD := ⟨("turner_at", none), "turner_at", "turner_at", defArgs s_turner_at, defBody s_turner_at, defScope s_turner_at, [], []⟩
def d_l_desks_right : He.DefD := ⟨("_law_desks_right", none), "_law_desks_right", "_law_desks_right", defArgs s_l_desks_right, defBody s_l_desks_right, defScope s_l_desks_right, [], []⟩
def d_law : He.DefD := ⟨("law", none), "law", "law", defArgs s_law, defBody s_law, defScope s_law, [], []⟩
def fn : List He.DefD := [d_l_cell_at, d_l_row, d_l_bars, d_asked_bars, d_asked_break, d_played_in, d_window_at, d_loss_at, d_least_book, d_desks_of, d_heard_by, d_l_in_windows, d_turner_at, d_l_desks_right, d_law]
def fa : List He.Fa := [.glo "_law_cell_at", .glo "_law_row", .glo "_law_bars", .glo "asked_bars", .glo "asked_break", .glo "played_in", .glo "window_at", .glo "loss_at", .glo "least_book", .glo "desks_of", .glo "heard_by", .glo "_law_in_windows", .glo "turner_at", .glo "_law_desks_right", .glo "law", .free "len", .free "range", .free "max", .free "min", .free "sum", .free "any", .free "isinstance", .free "tuple", .free "list", .free "int", .free "all"]
abbrev R : PySem.W.OpenRow := PySem.W.OpenLaw.row PySem.Challenge.rw_deskpairs_k91_whole_pages_and_desks
abbrev hk : PySem.W.Hook := He.hookD 4 fa fn
def ob (s : PySem.W.SharedT) : He.AlD := He.obsDG 4 fa fn (HandSHeadRun.getT s)
theorem ob_eq (s : PySem.W.SharedT) : ob s = hk.obs s.abs := He.obsDG_eq (HandSHeadRun.getT_eq s)
def loose0 : List Str := ["PairsError", "NoBars", "NoBreak", "desks_of", "turner_at", "asked_bars", "asked_break", "played_in", "window_at", "loss_at", "heard_by", "least_book", "_law_cell_at", "_law_row", "_law_bars", "_law_desks_right", "_law_in_windows"]
def loose : List Str := loose0
theorem run (w : World) : HandSHeadRun.RunEq R (PySem.W.view R.prog [23]) hk ob 1360 loose w := by
  intro os
  kernel_rfl
theorem facts {P : Program} {w : World} {K : PySem.W.Frag} {h : Heap} {mg : Str → Option Value} {f : Addr} (X : K.In h) (G : h.Ns mainGlobals mg) (hfa : mg ("law" : Str) = some (.ref f)) (c : He.SaysD fa fn K) :
    ∃ fd : FuncData, (∀ (s : Shared) (v : Value), BindsTo s fd ⟨[v], []⟩ [("_law_script", v)]) ∧ ∀ base : Heap, K.In base → base.Ns mainGlobals mg → FnOk P w K mg base CX0 5 f fd ["_law_script"] (sp K a_law) := by
  obtain ⟨fd_l_cell_at, F_l_cell_at⟩ := c.def_ 0 (d := d_l_cell_at) rfl
  have g_l_cell_at : mg "_law_cell_at" = some (.ref (He.fAd K ("_law_cell_at", none))) := He.glo_ok X G (c.fact 0 (f := .glo "_law_cell_at") rfl)
  obtain ⟨fd_l_row, F_l_row⟩ := c.def_ 1 (d := d_l_row) rfl
  have g_l_row : mg "_law_row" = some (.ref (He.fAd K ("_law_row", none))) := He.glo_ok X G (c.fact 1 (f := .glo "_law_row") rfl)
  obtain ⟨fd_l_bars, F_l_bars⟩ := c.def_ 2 (d := d_l_bars) rfl
  have g_l_bars : mg "_law_bars" = some (.ref (He.fAd K ("_law_bars", none))) := He.glo_ok X G (c.fact 2 (f := .glo "_law_bars") rfl)
  obtain ⟨fd_asked_bars, F_asked_bars⟩ := c.def_ 3 (d := d_asked_bars) rfl
  have g_asked_bars : mg "asked_bars" = some (.ref (He.fAd K ("asked_bars", none))) := He.glo_ok X G (c.fact 3 (f := .glo "asked_bars") rfl)
  obtain ⟨fd_asked_break, F_asked_break⟩ := c.def_ 4 (d := d_asked_break) rfl
  have g_asked_break : mg "asked_break" = some (.ref (He.fAd K ("asked_break", none))) := He.glo_ok X G (c.fact 4 (f := .glo "asked_break") rfl)
  obtain ⟨fd_played_in, F_played_in⟩ := c.def_ 5 (d := d_played_in) rfl
  have g_played_in : mg "played_in" = some (.ref (He.fAd K ("played_in", none))) := He.glo_ok X G (c.fact 5 (f := .glo "played_in") rfl)
  obtain ⟨fd_window_at, F_window_at⟩ := c.def_ 6 (d := d_window_at) rfl
  have g_window_at : mg "window_at" = some (.ref (He.fAd K ("window_at", none))) := He.glo_ok X G (c.fact 6 (f := .glo "window_at") rfl)
  obtain ⟨fd_loss_at, F_loss_at⟩ := c.def_ 7 (d := d_loss_at) rfl
  have g_loss_at : mg "loss_at" = some (.ref (He.fAd K ("loss_at", none))) := He.glo_ok X G (c.fact 7 (f := .glo "loss_at") rfl)
  obtain ⟨fd_least_book, F_least_book⟩ := c.def_ 8 (d := d_least_book) rfl
  have g_least_book : mg "least_book" = some (.ref (He.fAd K ("least_book", none))) := He.glo_ok X G (c.fact 8 (f := .glo "least_book") rfl)
  obtain ⟨fd_desks_of, F_desks_of⟩ := c.def_ 9 (d := d_desks_of) rfl
  have g_desks_of : mg "desks_of" = some (.ref (He.fAd K ("desks_of", none))) := He.glo_ok X G (c.fact 9 (f := .glo "desks_of") rfl)
  obtain ⟨fd_heard_by, F_heard_by⟩ := c.def_ 10 (d := d_heard_by) rfl
  have g_heard_by : mg "heard_by" = some (.ref (He.fAd K ("heard_by", none))) := He.glo_ok X G (c.fact 10 (f := .glo "heard_by") rfl)
  obtain ⟨fd_l_in_windows, F_l_in_windows⟩ := c.def_ 11 (d := d_l_in_windows) rfl
  have g_l_in_windows : mg "_law_in_windows" = some (.ref (He.fAd K ("_law_in_windows", none))) := He.glo_ok X G (c.fact 11 (f := .glo "_law_in_windows") rfl)
  obtain ⟨fd_turner_at, F_turner_at⟩ := c.def_ 12 (d := d_turner_at) rfl
  have g_turner_at : mg "turner_at" = some (.ref (He.fAd K ("turner_at", none))) := He.glo_ok X G (c.fact 12 (f := .glo "turner_at") rfl)
  obtain ⟨fd_l_desks_right, F_l_desks_right⟩ := c.def_ 13 (d := d_l_desks_right) rfl
  have g_l_desks_right : mg "_law_desks_right" = some (.ref (He.fAd K ("_law_desks_right", none))) := He.glo_ok X G (c.fact 13 (f := .glo "_law_desks_right") rfl)
  obtain ⟨fd_law, F_law⟩ := c.def_ 14 (d := d_law) rfl
  have g_law : mg "law" = some (.ref (He.fAd K ("law", none))) := He.glo_ok X G (c.fact 14 (f := .glo "law") rfl)
  have z_len : mg "len" = none := He.free_ok X G (c.fact 15 (f := .free "len") rfl)
  have z_range : mg "range" = none := He.free_ok X G (c.fact 16 (f := .free "range") rfl)
  have z_max : mg "max" = none := He.free_ok X G (c.fact 17 (f := .free "max") rfl)
  have z_min : mg "min" = none := He.free_ok X G (c.fact 18 (f := .free "min") rfl)
  have z_sum : mg "sum" = none := He.free_ok X G (c.fact 19 (f := .free "sum") rfl)
  have z_any : mg "any" = none := He.free_ok X G (c.fact 20 (f := .free "any") rfl)
  have z_isinstance : mg "isinstance" = none := He.free_ok X G (c.fact 21 (f := .free "isinstance") rfl)
  have z_tuple : mg "tuple" = none := He.free_ok X G (c.fact 22 (f := .free "tuple") rfl)
  have z_list : mg "list" = none := He.free_ok X G (c.fact 23 (f := .free "list") rfl)
  have z_int : mg "int" = none := He.free_ok X G (c.fact 24 (f := .free "int") rfl)
  have z_all : mg "all" = none := He.free_ok X G (c.fact 25 (f := .free "all") rfl)
  have e := hfa.symm.trans g_law
  cases e
  have b := FunD.bindsA (ps := ["_law_script"]) F_law fun _ _ _ _ _ _ us hl => match us, hl with | [_], _ => rfl
  refine ⟨fd_law, fun s v => b s [v] rfl, fun base _ _ => ?_⟩
  have C_l_cell_at := ok_l_cell_at (P := P) (w := w) (base := base) F_l_cell_at g_l_cell_at z_len
  have C_l_row := ok_l_row (P := P) (w := w) (base := base) F_l_row g_l_row z_range
  have C_l_bars := ok_l_bars (P := P) (w := w) (base := base) F_l_bars g_l_bars C_l_cell_at C_l_row z_max
  have C_asked_bars := ok_asked_bars (P := P) (w := w) (base := base) F_asked_bars g_asked_bars z_len z_min
  have C_asked_break := ok_asked_break (P := P) (w := w) (base := base) F_asked_break g_asked_break z_len
  have C_played_in := ok_played_in (P := P) (w := w) (base := base) F_played_in g_played_in z_sum z_max
  have C_window_at := ok_window_at (P := P) (w := w) (base := base) F_window_at g_window_at C_asked_bars C_asked_break C_played_in z_range
  have C_loss_at := ok_loss_at (P := P) (w := w) (base := base) F_loss_at g_loss_at C_window_at C_played_in
  have C_least_book := ok_least_book (P := P) (w := w) (base := base) F_least_book g_least_book C_asked_bars C_loss_at z_len z_range z_max
  have C_desks_of := ok_desks_of (P := P) (w := w) (base := base) F_desks_of g_desks_of z_range
  have C_heard_by := ok_heard_by (P := P) (w := w) (base := base) F_heard_by g_heard_by C_asked_bars C_window_at C_desks_of z_len z_range z_any
  have C_l_in_windows := ok_l_in_windows (P := P) (w := w) (base := base) F_l_in_windows g_l_in_windows C_window_at z_len z_range z_max z_min
  have C_turner_at := ok_turner_at (P := P) (w := w) (base := base) F_turner_at g_turner_at 
  have C_l_desks_right := ok_l_desks_right (P := P) (w := w) (base := base) F_l_desks_right g_l_desks_right C_desks_of C_turner_at z_isinstance z_tuple z_list z_range z_len
  exact ok_law_fn (P := P) (w := w) (base := base) F_law g_law C_l_bars C_l_cell_at C_least_book C_heard_by C_l_in_windows C_l_desks_right z_list z_range z_len z_int z_isinstance z_sum z_all
def val (l : List Int) (k : Int) : Int := if 0 ≤ k ∧ k < l.length then l.getD k.toNat 0 else 0
def spr (l : List Int) (b : Int) : Int := (l.take b.toNat).sum
theorem isum_append : ∀ xs ys : List Int, (xs ++ ys).sum = xs.sum + ys.sum
  | [], ys => by simp
  | x :: xs, ys => by
    rw [List.cons_append, List.sum_cons, List.sum_cons, isum_append xs ys]; omega
theorem take_min (l : List Int) (k : Nat) : l.take (min k l.length) = l.take k := by
  by_cases h : k ≤ l.length
  · rw [Nat.min_eq_left h]
  · rw [Nat.min_eq_right (by omega), List.take_of_length_le (Nat.le_refl _), List.take_of_length_le (by omega)]
theorem part_sum (l : List Int) {i j : Nat} (h : i ≤ j) : ((l.drop i).take (j - i)).sum = (l.take j).sum - (l.take i).sum := by
  have : l.take j = l.take i ++ (l.drop i).take (j - i) := by rw [← List.take_add, Nat.add_sub_cancel' h]
  rw [this, isum_append]; omega
theorem cut_sum (l : List Int) {a b : Int} (h : a ≤ b) : (cut l (some (max 0 a)) (some (max 0 b))).sum = spr l b - spr l a := by
  unfold cut spr
  rw [show max 0 a = ((a.toNat : Nat) : Int) by omega, show max 0 b = ((b.toNat : Nat) : Int) by omega, HT.sIx_nat, HT.sIx_nat, part_sum l (by omega), take_min, take_min]
theorem spr_step (l : List Int) (b : Int) : spr l (b + 1) = spr l b + val l b := by
  unfold spr val
  by_cases h0 : 0 ≤ b
  · by_cases h1 : b < l.length
    · have h2 : b.toNat < l.length := by omega
      rw [if_pos ⟨h0, h1⟩, show (b + 1).toNat = b.toNat + 1 by omega, List.take_succ_eq_append_getElem h2, isum_append, List.getD_eq_getElem?_getD, List.getElem?_eq_getElem h2]
      simp
    · rw [if_neg (fun h => h1 h.2), List.take_of_length_le (by omega), List.take_of_length_le (by omega)]; omega
  · rw [if_neg (fun h => h0 h.1), show (b + 1).toNat = b.toNat by omega]; omega
theorem spr_mono {l : List Int} (h : ∀ x ∈ l, 0 ≤ x) (a : Int) : ∀ n : Nat, spr l a ≤ spr l (a + n)
  | 0 => by rw [show a + ((0 : Nat) : Int) = a by omega]; exact Int.le_refl _
  | n + 1 => by
    have h1 := spr_mono h a n
    have h2 := spr_step l (a + n)
    have h3 : 0 ≤ val l (a + n) := by
      unfold val
      split
      · rename_i h5
        rw [List.getD_eq_getElem?_getD, List.getElem?_eq_getElem (by omega)]
        exact h _ (List.getElem_mem _)
      · exact Int.le_refl _
    rw [show a + ((n + 1 : Nat) : Int) = a + n + 1 by omega]
    omega
theorem rng_cons {a b : Int} (h : a < b) : rng a b = a :: rng (a + 1) b := by
  unfold rng
  rw [show (b - a).toNat = (b - (a + 1)).toNat + 1 by omega, List.range_succ_eq_map, List.map_cons, List.map_map]
  congr 1
  · omega
  · refine List.map_congr_left fun i _ => ?_
    show a + ((i + 1 : Nat) : Int) = a + 1 + (i : Int)
    omega
theorem fold_val (l : List Int) {f : Int → Int → Option Int} (hf : ∀ c k, f c k = some (c + val l k)) {a b : Int} (h : a ≤ b) (c : Int) : foldO f c (rng a b) = some (c + (spr l b - spr l a)) := by
  refine Ok.eq (ok_foldO (fun i x => x = c + (spr l (a + i) - spr l a)) (by simp) (fun i x k hk e => ?_) (fun x e => ?_))
  · obtain ⟨e1, e2⟩ := rng_at hk
    subst e e1
    rw [hf]
    refine ok_some ?_
    have := spr_step l (a + i)
    rw [show a + ((i + 1 : Nat) : Int) = a + i + 1 by omega]
    omega
  · rw [e, rng_len, show a + (((b - a).toNat : Nat) : Int) = b by omega]
theorem foldO_emb {β γ τ : Type} {f : γ → τ → Option γ} {g : β → τ → β} (em : β → γ) : ∀ {xs : List τ} {b : β}, (∀ b x, x ∈ xs → f (em b) x = some (em (g b x))) → foldO f (em b) xs = some (em (xs.foldl g b))
  | [], b, _ => rfl
  | x :: xs, b, h => by
    unfold foldO
    rw [h b x List.mem_cons_self, Option.bind_some, List.foldl_cons]
    exact foldO_emb em (fun b y hy => h b y (List.mem_cons_of_mem _ hy))
def wn (l : List Int) (need a : Int) : Int := spr l (a + need) - spr l a
def better (l : List Int) (need : Int) (b x : Int) : Int := if wn l need x < wn l need b then x else b
def wat (l : List Int) (need place : Int) : Int := (rng (place - need + 1) (place + 1)).foldl (better l need) (place - need)
def Bars (l : List Int) : Prop := 1 ≤ l.length ∧ l.length ≤ 200 ∧ ∀ x ∈ l, 0 ≤ x
theorem minL_ok {l : List Int} (h : Bars l) : Ok (minL l) (fun m => 0 ≤ m) := by
  obtain ⟨h1, _, h2⟩ := h
  cases l with
  | nil => simp at h1
  | cons x xs =>
    show Ok (some (xs.foldl min x)) _
    refine ok_some ?_
    obtain ⟨h3, _⟩ := foldl_min xs x
    exact h2 _ h3
theorem wat_rng {l : List Int} {need p : Int} (n0 : 0 ≤ need) : p - need ≤ wat l need p ∧ wat l need p ≤ p := by
  unfold wat
  have : ∀ (xs : List Int) (b : Int), p - need ≤ b → b ≤ p → (∀ x ∈ xs, p - need ≤ x ∧ x ≤ p) → p - need ≤ xs.foldl (better l need) b ∧ xs.foldl (better l need) b ≤ p := by
    intro xs
    induction xs with
    | nil => intro b h0 h1 _; exact ⟨h0, h1⟩
    | cons x xs ih =>
      intro b h0 h1 h
      rw [List.foldl_cons]
      have hx := h x List.mem_cons_self
      refine ih _ ?_ ?_ fun y hy => h y (List.mem_cons_of_mem _ hy)
      · unfold better; split <;> omega
      · unfold better; split <;> omega
  exact this _ _ (by omega) (by omega) fun x hx => by have := mem_rng.mp hx; omega
theorem take_succ_of {τ : Type} {l : List τ} {i : Nat} {x : τ} (h : l[i]? = some x) : l.take i ++ [x] = l.take (i + 1) := by
  rw [List.take_add_one, h]; rfl
theorem asked_ok {l : List Int} (h : Bars l) : m_asked_bars l = some true := by
  refine Ok.eq ?_
  unfold m_asked_bars
  have h1 := h.1
  have h2 := h.2.1
  refine ok_bnd (P := fun c => c = false) (ok_orO (fun _ => ok_orO (fun _ => ok_bnd (minL_ok h) fun m hm => ok_some (decide_eq_false (by omega))) (fun hc => ?_)) (fun hc => ?_)) fun c hc => by subst hc; exact ok_some rfl
  · have := of_decide_eq_true hc; omega
  · have := of_decide_eq_true hc; omega
theorem brk_ok {l : List Int} {p : Int} (h1 : 1 ≤ p) (h2 : p < l.length) : m_asked_break l p = some () := by
  unfold m_asked_break
  rw [decide_eq_false (show ¬ p < 1 by omega), decide_eq_false (show ¬ (l.length : Int) ≤ p by omega)]
  rfl
theorem played_eq (l : List Int) {a need : Int} (h : 0 ≤ need) : m_played_in l a (a + need) = some (wn l need a) := by
  unfold m_played_in wn
  rw [cut_sum l (by omega)]
theorem window_eq {l : List Int} (h : Bars l) {need p : Int} (n0 : 0 ≤ need) (n1 : need ≤ 12) (h1 : 1 ≤ p) (h2 : p < l.length) : m_window_at l need p = some (wat l need p, wat l need p + need) := by
  refine Ok.eq ?_
  unfold m_window_at
  have h3 := h.2.1
  rw [asked_ok h, brk_ok h1 h2]
  refine ok_bnd (ok_some (P := fun _ => True) trivial) fun _ _ => ok_bnd (ok_some (P := fun _ => True) trivial) fun _ _ => ok_lt fun f hf => ok_chk ⟨by omega, by omega⟩ (ok_chk ⟨by omega, by omega⟩ (ok_bnd (P := fun b => b = wat l need p) (ok_eq (foldO_eq (g := better l need) fun b x _ => ?_) (by rw [hf]; rfl)) fun b hb => ok_some (by rw [hb])))
  rw [played_eq l n0, played_eq l n0]
  unfold better
  by_cases hw : wn l need x < wn l need b
  · rw [if_pos hw]
    show bnd (if decide (wn l need x < wn l need b) = true then _ else _) _ = _
    rw [decide_eq_true hw]; rfl
  · rw [if_neg hw]
    show bnd (if decide (wn l need x < wn l need b) = true then _ else _) _ = _
    rw [decide_eq_false hw]; rfl
def gg (xs : List Int) (p : Int) : Int := xs.getD p.toNat 0
theorem at_gg {xs : List Int} {p : Int} (h0 : 0 ≤ p) (h1 : p < xs.length) : atI xs p = some (gg xs p) := by
  unfold gg
  rw [atI_get h0 h1, List.getD_eq_getElem?_getD, List.getElem?_eq_getElem (by omega)]; rfl
theorem gg_app {xs : List Int} {p y : Int} (h0 : 0 ≤ p) (h1 : p < xs.length) : gg (xs ++ [y]) p = gg xs p := by
  unfold gg
  rw [List.getD_eq_getElem?_getD, List.getD_eq_getElem?_getD, List.getElem?_append_left (by omega)]
theorem gg_last {xs : List Int} {p y : Int} (h : p = xs.length) : gg (xs ++ [y]) p = y := by
  unfold gg
  rw [List.getD_eq_getElem?_getD, h, Int.toNat_natCast, List.getElem?_append_right (Nat.le_refl _), Nat.sub_self]; rfl
def lossP (l : List Int) (need p : Int) : Int := if p < l.length then wn l need (wat l need p) else 0
structure DP (l : List Int) (most need : Int) (i : Nat) (pr cm : List Int) : Prop where
  pl : pr.length = i + 1
  cl : cm.length = i + 1
  z : gg pr 0 = 0
  st : ∀ p : Int, 1 ≤ p → p ≤ i → 0 ≤ gg cm p ∧ p - most ≤ gg cm p ∧ gg cm p < p ∧ gg pr p = gg pr (gg cm p) + lossP l need p ∧ ∀ o, 0 ≤ o → p - most ≤ o → o < p → gg pr (gg cm p) ≤ gg pr o
theorem DP.step {l : List Int} {most need : Int} {i : Nat} {pr cm : List Int} (h : DP l most need i pr cm) {c : Int} (c0 : 0 ≤ c) (c1 : (i : Int) + 1 - most ≤ c) (c2 : c < (i : Int) + 1) (hc : ∀ o, 0 ≤ o → (i : Int) + 1 - most ≤ o → o < (i : Int) + 1 → gg pr c ≤ gg pr o) : DP l most need (i + 1) (pr ++ [gg pr c + lossP l need ((i : Int) + 1)]) (cm ++ [c]) := by
  have hp := h.pl
  have hcl := h.cl
  refine ⟨by rw [List.length_append, hp]; rfl, by rw [List.length_append, hcl]; rfl, by rw [gg_app (Int.le_refl 0) (by omega)]; exact h.z, fun p p0 p1 => ?_⟩
  by_cases hpi : p ≤ i
  · obtain ⟨s0, s1, s2, s3, s4⟩ := h.st p p0 hpi
    rw [gg_app (xs := cm) (by omega) (by omega), gg_app (xs := pr) (p := p) (by omega) (by omega), gg_app (xs := pr) (p := gg cm p) s0 (by omega)]
    refine ⟨s0, s1, s2, s3, fun o o0 o1 o2 => ?_⟩
    rw [gg_app o0 (by omega)]
    exact s4 o o0 o1 o2
  · have e : p = (i : Int) + 1 := by omega
    subst e
    rw [gg_last (xs := cm) (by omega), gg_last (xs := pr) (by omega), gg_app (xs := pr) c0 (by omega)]
    refine ⟨c0, c1, c2, rfl, fun o o0 o1 o2 => ?_⟩
    rw [gg_app o0 (by omega)]
    exact hc o o0 o1 o2
def Link (pr : List Int) (l : List Int) (most need : Int) : Int → List Int → Int → Prop
  | a, [], z => a < z ∧ z - a ≤ most ∧ gg pr z = gg pr a + lossP l need z
  | a, b :: bs, z => (a < b ∧ b - a ≤ most ∧ gg pr b = gg pr a + lossP l need b) ∧ Link pr l most need b bs z
theorem Link.sum {pr l : List Int} {most need : Int} : ∀ {bs : List Int} {a z : Int}, Link pr l most need a bs z → gg pr z = gg pr a + (bs.map (lossP l need)).sum + lossP l need z
  | [], a, z, h => by rw [h.2.2]; simp
  | b :: bs, a, z, h => by
    have := Link.sum h.2
    have h1 := h.1.2.2
    rw [List.map_cons, List.sum_cons]; omega
theorem Link.lt {pr l : List Int} {most need : Int} : ∀ {bs : List Int} {a z : Int}, Link pr l most need a bs z → a < z ∧ ∀ b ∈ bs, a < b ∧ b < z
  | [], a, z, h => ⟨h.1, fun b hb => by simp at hb⟩
  | b :: bs, a, z, h => by
    obtain ⟨h1, h2⟩ := Link.lt h.2
    have h3 := h.1.1
    refine ⟨by omega, fun c hc => ?_⟩
    rcases List.mem_cons.mp hc with rfl | hc
    · exact ⟨h3, h1⟩
    · have := h2 c hc; omega
theorem Link.len {pr l : List Int} {most need : Int} : ∀ {bs : List Int} {a z : Int}, Link pr l most need a bs z → (bs.length : Int) < z - a
  | [], a, z, h => by have := h.1; simp; omega
  | b :: bs, a, z, h => by
    have := Link.len h.2
    have h3 := h.1.1
    rw [List.length_cons]; omega
structure Book (l : List Int) (most need : Int) (r : T3 Int (List Int) (List Int)) : Prop where
  pl : r.c.length = l.length + 1
  z : gg r.c 0 = 0
  loss : r.a = gg r.c l.length
  opt : ∀ p o : Int, 1 ≤ p → p ≤ l.length → 0 ≤ o → p - most ≤ o → o < p → gg r.c p ≤ gg r.c o + lossP l need p
  link : Link r.c l most need 0 r.b l.length
theorem Book.sum {l : List Int} {most need : Int} {r : T3 Int (List Int) (List Int)} (h : Book l most need r) : r.a = (r.b.map (lossP l need)).sum := by
  have h1 := h.link.sum
  have h2 : lossP l need l.length = 0 := if_neg (by omega)
  rw [h.z, h2] at h1
  rw [h.loss, h1]; omega
theorem Book.brk {l : List Int} {most need : Int} {r : T3 Int (List Int) (List Int)} (h : Book l most need r) : ∀ p ∈ r.b, 1 ≤ p ∧ p < l.length := fun p hp => by
  have := h.link.lt.2 p hp
  omega
theorem lossat_eq {l : List Int} (h : Bars l) {need p : Int} (n0 : 0 ≤ need) (n1 : need ≤ 12) (h1 : 1 ≤ p) (h2 : p < l.length) : m_loss_at l need p = some (wn l need (wat l need p)) := by
  unfold m_loss_at
  rw [window_eq h n0 n1 h1 h2]
  show bnd (m_played_in l (wat l need p) (wat l need p + need)) _ = _
  rw [played_eq l n0]; rfl
theorem least_ok {l : List Int} (h : Bars l) {most need : Int} (hm : 1 ≤ most) (n0 : 0 ≤ need) (n1 : need ≤ 12) : Ok (m_least_book l most need) (Book l most need) := by
  unfold m_least_book
  have hz := szl
  have hl1 := h.1
  have hl2 := h.2.1
  rw [asked_ok h]
  refine ok_bnd (ok_some (P := fun _ => True) trivial) fun _ _ => ok_lt fun many hmany => ok_lt fun pr0 hpr0 => ok_lt fun cm0 hcm0 => ok_chk ⟨by omega, by omega⟩ (ok_bnd (P := fun b => DP l most need l.length b.1 b.2) (ok_foldO (fun i b => DP l most need i b.1 b.2) ?_ ?_ ?_) fun o ho => ?_)
  · subst hpr0 hcm0
    exact ⟨rfl, rfl, rfl, fun p p0 p1 => by omega⟩
  · rintro i ⟨pr, cm⟩ x hx hD
    obtain ⟨e1, e2⟩ := rng_at hx
    have e1 : x = (i : Int) + 1 := by omega
    dsimp only at hD ⊢
    have hpl := hD.pl
    have hcl := hD.cl
    refine ok_lt fun beg hbeg => ok_chk ⟨by omega, by omega⟩ (ok_chk ⟨by omega, by omega⟩ ?_)
    refine ok_bnd (P := fun c => (0 ≤ c ∧ x - most ≤ c ∧ c < x) ∧ ∀ o, beg ≤ o → o < x → gg pr c ≤ gg pr o) (ok_foldO (fun j c => (0 ≤ c ∧ x - most ≤ c ∧ c < x) ∧ ∀ o, beg ≤ o → o < beg + j → gg pr c ≤ gg pr o) ⟨⟨by omega, by omega, by omega⟩, fun o o0 o1 => by omega⟩ ?_ ?_) fun c ⟨hc, hmin⟩ => ok_lt fun ls hls => ok_bnd (P := fun v => v = lossP l need x) (ok_ite (fun hlt => ?_) (fun hlt => ?_)) fun v hv => ?_
    · rintro j c y hy ⟨hc, hmin⟩
      obtain ⟨f1, f2⟩ := rng_at hy
      rw [at_gg (xs := pr) (p := y) (by omega) (by omega), at_gg (xs := pr) (p := c) hc.1 (by omega)]
      refine ok_bnd (P := fun z => z = gg pr y) (ok_some rfl) fun u hu => ok_bnd (P := fun z => z = gg pr c) (ok_some rfl) fun w hw => ok_bnd (P := fun c' => (0 ≤ c' ∧ x - most ≤ c' ∧ c' < x) ∧ ∀ o, beg ≤ o → o < beg + ((j + 1 : Nat) : Int) → gg pr c' ≤ gg pr o) (ok_ite (fun hlt => ok_lt fun z hz2 => ok_some ?_) (fun hlt => ok_some ?_)) fun c' hc' => ok_some hc'
      · have hlt := of_decide_eq_true hlt
        subst hz2 hu hw
        refine ⟨⟨by omega, by omega, by omega⟩, fun o o0 o1 => ?_⟩
        by_cases ho : o < beg + j
        · have := hmin o o0 ho; omega
        · have : o = z := by omega
          rw [this]; exact Int.le_refl _
      · have hlt := of_decide_eq_false hlt
        subst hu hw
        refine ⟨hc, fun o o0 o1 => ?_⟩
        by_cases ho : o < beg + j
        · exact hmin o o0 ho
        · have : o = y := by omega
          rw [this]; omega
    · rintro c ⟨hc, hmin⟩
      refine ⟨hc, fun o o0 o1 => hmin o o0 ?_⟩
      rw [rng_len]; omega
    · have hlt := of_decide_eq_true hlt
      rw [lossat_eq h n0 n1 (by omega) (by omega)]
      refine ok_bnd (P := fun z => z = wn l need (wat l need x)) (ok_some rfl) fun z hz2 => ok_lt fun z' hz3 => ok_some ?_
      unfold lossP
      rw [if_pos (by omega), hz3, hz2]
    · have hlt := of_decide_eq_false hlt
      refine ok_some ?_
      unfold lossP
      rw [if_neg (by omega), hls]
    · rw [at_gg (xs := pr) (p := c) hc.1 (by omega)]
      refine ok_bnd (P := fun z => z = gg pr c) (ok_some rfl) fun z hz2 => ok_chk (by omega) (ok_lt fun pr2 hpr2 => ok_chk (by omega) (ok_lt fun cm2 hcm2 => ok_some ?_))
      rw [hpr2, hcm2, hz2, hv, e1]
      exact hD.step hc.1 (by omega) (by omega) (fun o o0 o1 o2 => hmin o (by omega) (by omega))
  · intro b hb
    rw [rng_len] at hb
    have : (many + 1 - 1).toNat = l.length := by omega
    rw [this] at hb
    exact hb
  · have hpl := ho.pl
    have hcl := ho.cl
    have hst := ho.st
    refine ok_lt fun br hbr => ?_
    rw [at_gg (xs := o.2) (p := many) (by omega) (by omega)]
    obtain ⟨s0, s1, s2, s3, s4⟩ := hst many (by omega) (by omega)
    refine ok_bnd (P := fun z => z = gg o.2 many) (ok_some rfl) fun pl hp1 => ok_lt fun place hp2 => ok_bnd (P := fun b => Link o.1 l most need 0 b.1.reverse many) (ok_whileO (fun b => Link o.1 l most need b.2 b.1.reverse many ∧ 0 ≤ b.2) (fun b => b.2.toNat) ?_ _ _ ⟨?_, ?_⟩ ?_) fun b hb => ok_lt fun rv hrv => ?_
    · rintro ⟨b1, b2⟩ ⟨hk, hb0⟩
      dsimp only at hk hb0 ⊢
      refine ok_some ?_
      have hlt := hk.lt.1
      have hlen := hk.len
      rw [List.length_reverse] at hlen
      split
      · rename_i hc
        have hc := of_decide_eq_true hc
        obtain ⟨t0, t1, t2, t3, t4⟩ := hst b2 (by omega) (by omega)
        rw [at_gg (xs := o.2) (p := b2) (by omega) (by omega)]
        refine ok_chk (by omega) (ok_lt fun b3 hb3 => ok_bnd (P := fun z => z = gg o.2 b2) (ok_some rfl) fun z hz2 => ok_lt fun z' hz3 => ok_some ⟨⟨?_, by omega⟩, by omega⟩)
        rw [hb3, List.reverse_append, hz3, hz2]
        exact ⟨⟨t2, by omega, t3⟩, hk⟩
      · rename_i hc
        have hc : ¬ 0 < b2 := fun h' => hc (decide_eq_true h')
        have : b2 = 0 := by omega
        rw [this] at hk
        exact hk
    · rw [hbr, hp2, hp1]
      exact ⟨s2, by omega, s3⟩
    · show 0 ≤ place
      omega
    · rw [fuel_eq]
      show place.toNat < 1000000
      omega
    · rw [at_gg (xs := o.1) (p := many) (by omega) (by omega)]
      refine ok_bnd (P := fun z => z = gg o.1 many) (ok_some rfl) fun z hz2 => ok_some ⟨hpl, ho.z, by rw [hz2, hmany], fun p q p0 p1 q0 q1 q2 => ?_, by rw [hrv, ← hmany]; exact hb⟩
      obtain ⟨t0, t1, t2, t3, t4⟩ := hst p p0 p1
      have := t4 q q0 q1 q2
      show gg o.1 p ≤ gg o.1 q + _
      omega
theorem div_big {y : Int} (h1 : 0 < y) (h2 : y ≤ 10 ^ 60) : DivOk y := ⟨h1, PySem.Flt.log2_lt_of (by decide) (Nat.lt_of_le_of_lt (show y.natAbs ≤ 10 ^ 60 by omega) (Nat.lt_of_lt_of_le (show 10 ^ 60 < 2 ^ 200 by decide +kernel) (Nat.pow_le_pow_right (by decide) (by decide))))⟩
theorem row_ok {cell many count : Int} (h1 : 0 < many) (h2 : many ≤ 10 ^ 60) (h3 : 0 ≤ count) (h4 : count ≤ 1000) : Ok (m_l_row cell many count) (fun r => (r.length : Int) = count ∧ ∀ x ∈ r, 0 ≤ x ∧ x < many) := by
  unfold m_l_row
  refine ok_lt fun f hf => ok_lt fun n _ => ok_chk ⟨by omega, by omega⟩ (ok_bnd (P := fun b => (b.1.length : Int) = count ∧ ∀ x ∈ b.1, 0 ≤ x ∧ x < many) (ok_foldO (fun i b => b.1.length = i ∧ ∀ x ∈ b.1, 0 ≤ x ∧ x < many) ⟨by rw [hf]; rfl, by rw [hf]; simp⟩ ?_ ?_) ?_)
  · rintro i ⟨b1, b2⟩ x hx ⟨hl, hm⟩
    obtain ⟨e1, e2⟩ := rng_at hx
    dsimp only at hl hm ⊢
    have hz := szl
    have key : ∀ v : Int, (b1 ++ [v % many]).length = i + 1 ∧ ∀ z ∈ b1 ++ [v % many], 0 ≤ z ∧ z < many := fun v => by
      refine ⟨by rw [List.length_append, hl]; rfl, fun z hz => ?_⟩
      rcases List.mem_append.mp hz with h | h
      · exact hm z h
      · rw [List.mem_singleton.mp h]
        exact ⟨Int.emod_nonneg _ (by omega), Int.emod_lt_of_pos _ h1⟩
    refine ok_bnd (P := fun b => b.1.length = i + 1 ∧ ∀ z ∈ b.1, 0 ≤ z ∧ z < many) (ok_ite (fun _ => ?_) (fun _ => ?_)) (fun r hr => ok_some hr)
    · refine ok_chk h1 (ok_chk (by omega) (ok_lt fun y hy => ok_chk (div_big h1 h2) (ok_lt fun _ _ => ok_some ?_)))
      rw [hy]; exact key _
    · refine ok_chk (mul_l (by omega) (by omega)) (ok_lt fun w _ => ok_chk h1 (ok_chk (by omega) (ok_lt fun y hy => ok_some ?_)))
      rw [hy]; exact key _
  · rintro b ⟨hl, hm⟩
    exact ⟨by rw [hl, rng_len_nn h3]; omega, hm⟩
  · exact fun b hb => ok_some hb
theorem cell_ok (sc : List Int) {k : Int} (h : 0 ≤ k) : Ok (m_l_cell_at sc k) (fun _ => True) := by
  unfold m_l_cell_at
  exact ok_ite (fun h2 => ok_ret (ok_atI h (of_decide_eq_true h2) fun _ _ => trivial)) (fun _ => ok_some trivial)
theorem bars_ok (sc : List Int) {at' : Int} (h : 0 ≤ at') : Ok (m_l_bars sc at') Bars := by
  unfold m_l_bars
  have hz := szl
  have p60 : (10 : Int) ^ ((60 : Int)).toNat = 10 ^ 60 := rfl
  refine ok_bnd (cell_ok sc h) fun c _ => ok_lt fun cell hcell => ok_lt fun size hsize => ok_bnd (P := fun s => 1 ≤ s ∧ s ≤ 200) (ok_ite (fun _ => ok_lt fun s hs => ok_some (by omega)) fun _ => ok_some (by omega)) fun s ⟨s0, s1⟩ => ok_bnd (cell_ok sc (by omega)) fun c2 _ => ok_ite (fun _ => ok_bnd (cell_ok sc (by omega)) fun c3 _ => ok_bnd (row_ok (by rw [p60]; decide) (by rw [p60]; exact Int.le_refl _) (by omega) (by omega)) fun r ⟨r1, r2⟩ => ok_some ⟨by omega, by omega, fun x hx => (r2 x hx).1⟩) fun _ => ok_bnd (cell_ok sc (by omega)) fun c3 _ => ok_bnd (row_ok (by decide) (by decide) (by omega) (by omega)) fun r ⟨r1, r2⟩ => ok_chk (by rw [List.length_map]; omega) (ok_some ⟨by rw [List.length_map]; omega, by rw [List.length_map]; omega, fun x hx => ?_⟩)
  obtain ⟨y, hy, rfl⟩ := List.mem_map.mp hx
  exact Int.le_max_left _ _
def dsk (many x : Int) : Tu Int := if x + 1 < many then ⟨[x, x + 1]⟩ else ⟨[x]⟩
theorem desks_eq {many : Int} (h0 : 0 ≤ many) (h1 : many ≤ 1000) : m_desks_of many = some ((rngS 0 many 2).map (dsk many)) := by
  unfold m_desks_of
  have hz := szl
  have hN : stepN 0 many 2 ≤ 1000 := by unfold stepN; split <;> omega
  show chk _ _ = _
  rw [chk_pos ⟨⟨by omega, by omega⟩, ⟨by omega, by omega⟩, by omega, by omega⟩, foldO_app (N := 1000) (g := dsk many) ?_ (by rw [rngS_len]; simpa using hN)]
  · rfl
  · intro b x hb _
    unfold dsk
    by_cases h : x + 1 < many
    · rw [if_pos h, decide_eq_true h]
      show bnd (chk _ _) _ = _
      rw [chk_pos (show b.length < sizeLine by omega)]; rfl
    · rw [if_neg h, decide_eq_false h]
      show bnd (chk _ _) _ = _
      rw [chk_pos (show b.length < sizeLine by omega)]; rfl
def inw (l : List Int) (need k p : Int) : Bool := decide (wat l need p ≤ k) && decide (k < wat l need p + need)
def dueL (l : List Int) (need : Int) (bs : List Int) (hands : Int) : List Int := (rng 0 l.length).map fun k => if l.getD k.toNat 0 = 0 then 0 else if bs.any (inw l need k) = true then hands / 2 else hands
theorem at_bar {l : List Int} {k : Int} (h : k ∈ rng 0 l.length) : atI l k = some (l.getD k.toNat 0) := by
  obtain ⟨h0, h1⟩ := mem_rng.mp h
  rw [atI_get h0 h1, List.getD_eq_getElem?_getD, List.getElem?_eq_getElem (by omega)]; rfl
theorem heard_eq {l : List Int} (h : Bars l) {need hands : Int} {bs : List Int} (n0 : 0 ≤ need) (n1 : need ≤ 12) (hb : ∀ p ∈ bs, 1 ≤ p ∧ p < l.length) (hl : bs.length ≤ 1000) (m0 : 0 ≤ hands) (m1 : hands ≤ 1000) : m_heard_by l need bs hands = some (dueL l need bs hands) := by
  refine Ok.eq ?_
  unfold m_heard_by
  have hz := szl
  have h2 := h.2.1
  rw [asked_ok h, desks_eq m0 m1]
  refine ok_bnd (ok_some (P := fun _ => True) trivial) fun _ _ => ok_bnd (P := fun ys => ys = bs.map fun p => (wat l need p, wat l need p + need)) (ok_eq (mapO_eq fun p hp => by rw [window_eq h n0 n1 (hb p hp).1 (hb p hp).2]; rfl) rfl) fun ys hys => ok_chk (by rw [hys, List.length_map]; omega) (ok_lt fun sp hsp => ok_bnd (P := fun d => (d.length : Int) = (hands + 1) / 2) (ok_some ?_) fun d hd => ok_lt fun tn htn => ok_lt fun td htd => ok_chk ⟨by omega, by omega⟩ ?_)
  · rw [List.length_map, rngS_len]
    unfold stepN
    split <;> omega
  · subst hys hsp htn htd
    rw [foldO_app (N := 1000) (g := fun k => if l.getD k.toNat 0 = 0 then 0 else if bs.any (inw l need k) = true then hands / 2 else hands) ?_ (by rw [rng_len_nn (by omega)]; simp; omega)]
    · exact ok_some rfl
    · intro b k hbl hk
      have e : ((bs.map fun p => (wat l need p, wat l need p + need)).map (fun x : Int × Int => decide (x.1 ≤ k) && decide (k < x.2))).any id = bs.any (inw l need k) := by
        rw [List.map_map, List.any_map]; rfl
      show bnd (atI l k) _ = _
      rw [at_bar hk, e]
      show bnd (if decide (l.getD k.toNat 0 = 0) = true then _ else _) _ = _
      by_cases h0 : l.getD k.toNat 0 = 0
      · rw [decide_eq_true h0, if_pos rfl]
        simp only [if_pos h0]
        show chk _ _ = _
        rw [chk_pos (by omega)]; rfl
      · rw [decide_eq_false h0, if_neg Bool.false_ne_true, chk_pos (by rw [List.length_map, List.length_map]; omega)]
        simp only [if_neg h0]
        cases ha : bs.any (inw l need k)
        · show chk _ _ = _
          rw [chk_pos (by omega)]; rfl
        · show chk _ _ = _
          rw [chk_pos (by omega), if_pos rfl]
          have : hands - (d.length : Int) = hands / 2 := by omega
          rw [this]; rfl
theorem sum_le {f g : Int → Int} : ∀ {xs : List Int}, (∀ x ∈ xs, f x ≤ g x) → (xs.map f).sum ≤ (xs.map g).sum
  | [], _ => Int.le_refl _
  | x :: xs, h => by
    rw [List.map_cons, List.map_cons, List.sum_cons, List.sum_cons]
    have h1 := h x List.mem_cons_self
    have h2 := sum_le (f := f) (g := g) (xs := xs) fun y hy => h y (List.mem_cons_of_mem _ hy)
    omega
theorem sum_add (f g : Int → Int) : ∀ xs : List Int, (xs.map fun x => f x + g x).sum = (xs.map f).sum + (xs.map g).sum
  | [] => rfl
  | x :: xs => by
    rw [List.map_cons, List.map_cons, List.map_cons, List.sum_cons, List.sum_cons, List.sum_cons, sum_add f g xs]; omega
theorem sum_mul (c : Int) (f : Int → Int) : ∀ xs : List Int, (xs.map fun x => c * f x).sum = c * (xs.map f).sum
  | [] => by simp
  | x :: xs => by
    rw [List.map_cons, List.map_cons, List.sum_cons, List.sum_cons, sum_mul c f xs, Int.mul_add]
theorem sum_zero : ∀ xs : List Int, (xs.map fun _ => (0 : Int)).sum = 0
  | [] => rfl
  | x :: xs => by rw [List.map_cons, List.sum_cons, sum_zero xs]; rfl
theorem sum_in (l : List Int) {lo hi : Int} (h : lo ≤ hi) : ∀ n : Nat, ((rng 0 n).map fun k => if lo ≤ k ∧ k < hi then val l k else 0).sum = spr l (min hi n) - spr l (min lo n)
  | 0 => by
    have e : rng 0 ((0 : Nat) : Int) = [] := rfl
    rw [e]
    unfold spr
    rw [show (min hi ((0 : Nat) : Int)).toNat = 0 by omega, show (min lo ((0 : Nat) : Int)).toNat = 0 by omega]
    simp
  | n + 1 => by
    have e : rng 0 ((n + 1 : Nat) : Int) = rng 0 (n : Int) ++ [(n : Int)] := by
      unfold rng
      rw [show (((n + 1 : Nat) : Int) - 0).toNat = n + 1 by omega, show (((n : Nat) : Int) - 0).toNat = n by omega, List.range_succ, List.map_append]
      simp
    rw [e, List.map_append, isum_append, sum_in l h n]
    have s := spr_step l n
    show _ + ((if lo ≤ (n : Int) ∧ (n : Int) < hi then val l n else 0) + 0) = _
    by_cases h1 : lo ≤ (n : Int)
    · by_cases h2 : (n : Int) < hi
      · rw [if_pos ⟨h1, h2⟩, show min hi ((n + 1 : Nat) : Int) = (n : Int) + 1 by omega, show min hi (n : Int) = (n : Int) by omega, show min lo ((n + 1 : Nat) : Int) = lo by omega, show min lo (n : Int) = lo by omega]
        omega
      · rw [if_neg (fun h => h2 h.2), show min hi ((n + 1 : Nat) : Int) = hi by omega, show min hi (n : Int) = hi by omega, show min lo ((n + 1 : Nat) : Int) = lo by omega, show min lo (n : Int) = lo by omega]
        omega
    · rw [if_neg (fun h => h1 h.1), show min hi ((n + 1 : Nat) : Int) = (n : Int) + 1 by omega, show min hi (n : Int) = (n : Int) by omega, show min lo ((n + 1 : Nat) : Int) = (n : Int) + 1 by omega, show min lo (n : Int) = (n : Int) by omega]
      omega
theorem spr_all (l : List Int) {b : Int} (h : (l.length : Int) ≤ b) : spr l b = spr l l.length := by
  unfold spr
  rw [List.take_of_length_le (by omega), List.take_of_length_le (by omega)]
theorem spr_min (l : List Int) (b : Int) : spr l (min b l.length) = spr l b := by
  by_cases h : b ≤ l.length
  · rw [show min b (l.length : Int) = b by omega]
  · rw [show min b (l.length : Int) = l.length by omega, spr_all l (b := b) (by omega)]
def cnt (l : List Int) (need : Int) (bs : List Int) (k : Int) : Int := (bs.countP (inw l need k) : Nat)
theorem loss_sum (l : List Int) {need : Int} (n0 : 0 ≤ need) : ∀ bs : List Int, (bs.map fun p => wn l need (wat l need p)).sum = ((rng 0 l.length).map fun k => val l k * cnt l need bs k).sum
  | [] => by
    have : ((rng 0 l.length).map fun k => val l k * cnt l need [] k) = (rng 0 l.length).map fun _ => 0 := List.map_congr_left fun k _ => Int.mul_zero _
    rw [this, sum_zero]; rfl
  | p :: bs => by
    rw [List.map_cons, List.sum_cons, loss_sum l n0 bs]
    have e1 := sum_in l (lo := wat l need p) (hi := wat l need p + need) (by omega) l.length
    rw [spr_min, spr_min] at e1
    have e2 : wn l need (wat l need p) = ((rng 0 (l.length : Int)).map fun k => if wat l need p ≤ k ∧ k < wat l need p + need then val l k else 0).sum := by rw [e1]; rfl
    rw [e2, ← sum_add]
    congr 1
    refine List.map_congr_left fun k _ => ?_
    unfold cnt
    rw [List.countP_cons]
    by_cases h : wat l need p ≤ k ∧ k < wat l need p + need
    · have : inw l need k p = true := by unfold inw; rw [decide_eq_true h.1, decide_eq_true h.2]; rfl
      rw [if_pos h, this, if_pos rfl, Int.natCast_add, Int.mul_add]
      simp; omega
    · have : inw l need k p = false := by
        cases hi : inw l need k p with
        | false => rfl
        | true =>
          unfold inw at hi
          rw [Bool.and_eq_true] at hi
          exact absurd ⟨of_decide_eq_true hi.1, of_decide_eq_true hi.2⟩ h
      rw [if_neg h, this, if_neg Bool.false_ne_true]
      simp
theorem cnt_pos (l : List Int) (need : Int) (bs : List Int) (k : Int) : 0 < cnt l need bs k ↔ bs.any (inw l need k) = true := by
  unfold cnt
  rw [List.any_eq_true]
  have h : 0 < bs.countP (inw l need k) ↔ ∃ a ∈ bs, inw l need k a = true := List.countP_pos_iff
  exact ⟨fun z => h.mp (by omega), fun z => by have := h.mpr z; omega⟩
theorem cnt_nn (l : List Int) (need : Int) (bs : List Int) (k : Int) : 0 ≤ cnt l need bs k := by unfold cnt; omega
theorem val_in {l : List Int} {k : Int} (h : k ∈ rng 0 l.length) : val l k = l.getD k.toNat 0 := if_pos (mem_rng.mp h)
theorem desks_right_ok {h : Int} (h0 : 1 ≤ h) (h1 : h ≤ 40) : m_l_desks_right h = some true := by
  refine Ok.eq ?_
  unfold m_l_desks_right
  have hz := szl
  have hN : stepN 0 h 2 = ((h + 1) / 2).toNat := by unfold stepN; split <;> omega
  have hget : ∀ i : Nat, i < ((h + 1) / 2).toNat → ((rngS 0 h 2).map (dsk h))[i]? = some (dsk h (2 * i)) := fun i hi => by
    unfold rngS
    rw [List.getElem?_map, List.getElem?_map, List.getElem?_range (by rw [hN]; exact hi)]
    show some (dsk h (0 + (i : Int) * 2)) = _
    rw [show 0 + (i : Int) * 2 = 2 * i by omega]
  have hln : ((rngS 0 h 2).map (dsk h)).length = ((h + 1) / 2).toNat := by rw [List.length_map, rngS_len, hN]
  have hdl : ∀ x, (dsk h x).l = rng x (min (x + 2) h) ∨ h ≤ x := fun x => by
    by_cases hx : h ≤ x
    · exact .inr hx
    · refine .inl ?_
      unfold dsk
      by_cases h2 : x + 1 < h
      · rw [if_pos h2, rng_cons (show x < min (x + 2) h by omega), rng_cons (show x + 1 < min (x + 2) h by omega)]
        have : rng (x + 1 + 1) (min (x + 2) h) = [] := by unfold rng; rw [show (min (x + 2) h - (x + 1 + 1)).toNat = 0 by omega]; rfl
        rw [this]
      · rw [if_neg h2, rng_cons (show x < min (x + 2) h by omega)]
        have : rng (x + 1) (min (x + 2) h) = [] := by unfold rng; rw [show (min (x + 2) h - (x + 1)).toNat = 0 by omega]; rfl
        rw [this]
  rw [desks_eq (by omega) (by omega)]
  refine ok_bnd (P := fun d => d = _) (ok_some rfl) fun d hd => ok_lt fun ds hds => ok_lt fun pl hpl => ?_
  subst hd hds
  refine ok_bnd (P := fun q => q = .nx (rng 0 h)) (ok_foldF (fun i b => b = rng 0 (min (2 * (i : Int)) h)) (fun _ => False) (by rw [hpl]; unfold rng; rw [show (min (2 * ((0 : Nat) : Int)) h - 0).toNat = 0 by omega]; rfl) ?_ ?_ (fun _ hf => hf.elim)) fun q hq => ?_
  · rintro i b x hx rfl
    have hi : i < ((h + 1) / 2).toNat := by
      have := (List.getElem?_eq_some_iff.mp hx).1
      rwa [hln] at this
    rw [hget i hi] at hx
    have hx := (Option.some.inj hx).symm
    subst hx
    have hl := (hdl (2 * i)).resolve_right (by omega)
    have hlen : ((dsk h (2 * i)).l.length : Int) = min (2 * (i : Int) + 2) h - 2 * (i : Int) := by rw [hl, rng_len]; omega
    have hat : ∃ z, atI (dsk h (2 * (i : Int))).l (-1) = some z := by
      unfold dsk
      split
      · exact ⟨_, rfl⟩
      · exact ⟨_, rfl⟩
    obtain ⟨z, hzz⟩ := hat
    refine ok_bnd (P := fun c => c = false) (ok_orO (fun _ => ok_bnd (P := fun y => y = z) (by unfold m_turner_at; rw [hzz]; exact ok_some rfl) fun y hy => ok_bnd (P := fun y => y = z) (by rw [hzz]; exact ok_some rfl) fun y2 hy2 => ok_some (by rw [hy, hy2, decide_eq_true rfl]; rfl)) (fun hf => Bool.noConfusion hf)) fun c hc => ?_
    subst hc
    refine ok_ite (fun hf => Bool.noConfusion hf) fun _ => ok_chk (by rw [rng_len]; omega) (ok_lt fun p2 hp2 => ok_some ?_)
    show p2 = _
    rw [hp2, hl]
    have : rng 0 (min (2 * (i : Int)) h) ++ rng (2 * (i : Int)) (min (2 * (i : Int) + 2) h) = rng 0 (min (2 * (i : Int) + 2) h) := by
      refine List.ext_getElem? fun j => ?_
      by_cases hj : j < 2 * i
      · rw [List.getElem?_append_left (by rw [rng_len]; omega), rng_getE (by omega), rng_getE (by omega)]
      · by_cases hj2 : (j : Int) < min (2 * (i : Int) + 2) h
        · rw [List.getElem?_append_right (by rw [rng_len]; omega), rng_len, rng_getE (by omega), rng_getE (by omega)]
          congr 1; omega
        · rw [List.getElem?_eq_none (by rw [List.length_append, rng_len, rng_len]; omega), List.getElem?_eq_none (by rw [rng_len]; omega)]
    rw [this, show (2 * ((i + 1 : Nat) : Int)) = 2 * (i : Int) + 2 by omega]
  · intro b hb
    rw [hb, hln, show min (2 * ((((h + 1) / 2).toNat : Nat) : Int)) h = h by omega]
  · subst hq
    show Ok (chk _ _) _
    refine ok_chk ⟨by omega, by omega⟩ (ok_ite (fun hf => ?_) fun _ => ?_)
    · rw [decide_eq_true rfl] at hf; exact Bool.noConfusion hf
    · refine ok_chk (by rw [List.length_map, hln]; omega) (ok_chk ⟨by omega, by simp; omega⟩ (ok_chk ⟨by omega, by simp; omega⟩ (ok_chk ?_ (ok_some (decide_eq_true ?_)))))
      · rw [repl_one, repl_one, List.length_replicate, List.length_replicate]; omega
      · rw [repl_one, repl_one]
        refine List.ext_getElem? fun j => ?_
        by_cases hj : j < ((h + 1) / 2).toNat
        · rw [List.getElem?_map, hget j hj]
          have hl := (hdl (2 * j)).resolve_right (by omega)
          show some (((dsk h (2 * j)).l.length : Nat) : Int) = _
          rw [hl, rng_len]
          by_cases hj2 : j < (h / 2).toNat
          · rw [List.getElem?_append_left (by rw [List.length_replicate]; exact hj2), List.getElem?_replicate, if_pos hj2]
            congr 1; omega
          · rw [List.getElem?_append_right (by rw [List.length_replicate]; omega), List.getElem?_replicate, if_pos (by rw [List.length_replicate]; omega)]
            congr 1; omega
        · rw [List.getElem?_eq_none (by rw [List.length_map, hln]; omega), List.getElem?_eq_none (by rw [List.length_append, List.length_replicate, List.length_replicate]; omega)]
theorem gg_set {xs : List Int} {j : Nat} {v k : Int} (hj : j < xs.length) (h0 : 0 ≤ k) : gg (xs.set j v) k = if k = j then v else gg xs k := by
  unfold gg
  rw [List.getD_eq_getElem?_getD, List.getElem?_set]
  by_cases h : k = j
  · rw [if_pos (show j = k.toNat by omega), if_pos (by omega), if_pos h]; rfl
  · rw [if_neg (show ¬ j = k.toNat by omega), if_neg h, List.getD_eq_getElem?_getD]
theorem ixN_nn {n : Nat} {x : Int} (h0 : 0 ≤ x) (h1 : x < n) : ixN n x = some x.toNat := by
  unfold ixN
  rw [if_pos h0, if_pos h1]
theorem windows_ok {l : List Int} (h : Bars l) {need : Int} {bs : List Int} (n0 : 0 ≤ need) (n1 : need ≤ 12) (hb : ∀ p ∈ bs, 1 ≤ p ∧ p < l.length) : Ok (m_l_in_windows l need bs) (fun cs => cs.length = l.length ∧ ∀ k : Int, 0 ≤ k → k < l.length → gg cs k = cnt l need bs k) := by
  unfold m_l_in_windows
  have hz := szl
  have hl1 := h.1
  have hl2 := h.2.1
  refine ok_chk ⟨by omega, by simp; omega⟩ (ok_lt fun ms hms => ok_bnd (ok_foldO (fun i b => b.length = l.length ∧ ∀ k : Int, 0 ≤ k → k < l.length → gg b k = cnt l need (bs.take i) k) ?_ ?_ fun b hb => hb) fun b hb => ok_some ?_)
  · subst hms
    rw [repl_one]
    refine ⟨by rw [List.length_replicate]; omega, fun k k0 k1 => ?_⟩
    unfold gg cnt
    rw [List.getD_eq_getElem?_getD, List.getElem?_replicate, if_pos (by omega)]; rfl
  · rintro i b p hp ⟨b1, b2⟩
    have hp1 := hb p (List.mem_of_getElem? hp)
    rw [window_eq h n0 n1 hp1.1 hp1.2]
    refine ok_bnd (P := fun w => w = (wat l need p, wat l need p + need)) (ok_some rfl) fun w hw => ok_lt fun u hu => ?_
    subst hw hu
    have hwr : -(2 ^ 60) ≤ wat l need p ∧ wat l need p < 2 ^ 60 := by
      have := wat_rng (l := l) (need := need) (p := p) n0
      omega
    refine ok_chk ⟨by dsimp only; omega, by dsimp only; omega⟩ (ok_chk ⟨by dsimp only; omega, by dsimp only; omega⟩ (ok_bnd (P := fun c => c.length = l.length ∧ ∀ k : Int, 0 ≤ k → k < l.length → gg c k = gg b k + if inw l need k p = true then 1 else 0) (ok_foldO (fun j c => c.length = l.length ∧ ∀ k : Int, 0 ≤ k → k < l.length → gg c k = gg b k + if max 0 (wat l need p) ≤ k ∧ k < max 0 (wat l need p) + j then 1 else 0) ⟨b1, fun k k0 k1 => by rw [if_neg (by omega)]; omega⟩ ?_ ?_) fun c hc => ok_some ⟨hc.1, fun k k0 k1 => ?_⟩))
    · rintro j c x hx ⟨c1, c2⟩
      obtain ⟨f1, f2⟩ := rng_at hx
      dsimp only at f1 f2
      rw [at_gg (xs := c) (p := x) (by omega) (by omega), ixN_nn (n := c.length) (x := x) (by omega) (by omega)]
      refine ok_bnd (P := fun z => z = gg c x) (ok_some rfl) fun z hz2 => ok_bnd (P := fun z => z = x.toNat) (ok_some rfl) fun j2 hj2 => ok_lt fun c3 hc3 => ok_some ?_
      subst hz2 hj2 hc3
      refine ⟨by rw [List.length_set]; exact c1, fun k k0 k1 => ?_⟩
      rw [gg_set (by omega) k0]
      by_cases hk : k = ((x.toNat : Nat) : Int)
      · rw [if_pos hk, if_pos (by omega), c2 x (by omega) (by omega), if_neg (by omega), show k = x by omega]; omega
      · rw [if_neg hk, c2 k k0 k1]
        congr 1
        by_cases h5 : max 0 (wat l need p) ≤ k ∧ k < max 0 (wat l need p) + j
        · rw [if_pos h5, if_pos (by omega)]
        · rw [if_neg h5, if_neg (by omega)]
    · rintro c ⟨c1, c2⟩
      refine ⟨c1, fun k k0 k1 => ?_⟩
      rw [c2 k k0 k1, rng_len]
      congr 1
      by_cases h5 : wat l need p ≤ k ∧ k < wat l need p + need
      · have : inw l need k p = true := by unfold inw; rw [decide_eq_true h5.1, decide_eq_true h5.2]; rfl
        rw [this, if_pos rfl, if_pos (by omega)]
      · have : inw l need k p = false := by
          cases hi : inw l need k p with
          | false => rfl
          | true =>
            unfold inw at hi
            rw [Bool.and_eq_true] at hi
            exact absurd ⟨of_decide_eq_true hi.1, of_decide_eq_true hi.2⟩ h5
        rw [this, if_neg Bool.false_ne_true, if_neg (by omega)]
    · rw [hc.2 k k0 k1, b2 k k0 k1, ← take_succ_of hp]
      unfold cnt
      rw [List.countP_append, List.countP_singleton, Int.natCast_add]
      congr 1
      split <;> rfl
  · rw [List.take_of_length_le (Nat.le_refl _)] at hb
    exact hb
theorem law_true : ∀ ns : List Int, ns.length ≤ 63 → a_law (ns, ()) = some true := by
  intro ns hn
  refine Ok.eq ?_
  show Ok (m_law ns) _
  unfold m_law
  have hz := szl
  refine ok_bnd (bars_ok ns (by decide)) fun l hl => ok_lt fun l' e => ?_
  subst e
  have hl1 := hl.1
  have hl2 := hl.2.1
  refine ok_bnd (cell_ok ns (by decide)) fun c _ => ok_lt fun cell hcell => ok_bnd (P := fun m => 1 ≤ m) (ok_atI (by omega) (by simp; omega) fun x hx => ?_) fun m hm => ok_lt fun most hmost => ok_lt fun need hneed => ok_lt fun hands hhands => ok_lt fun desks hdesks => ?_
  · have := List.mem_of_getElem? hx
    simp only [List.mem_cons, List.not_mem_nil, or_false] at this
    omega
  have n0 : 0 ≤ need := by omega
  have n1 : need ≤ 12 := by omega
  have m0 : 1 ≤ hands := by omega
  have m1 : hands ≤ 40 := by omega
  refine ok_bnd (least_ok hl (by omega) n0 n1) fun r hr => ok_lt fun r' e => ?_
  subst e
  have hbrk := hr.brk
  have hblen : r'.b.length ≤ 200 := by have := hr.link.len; omega
  rw [heard_eq hl n0 n1 hbrk (by omega) (by omega) (by omega)]
  refine ok_bnd (P := fun x => x = _) (ok_some rfl) fun he hhe => ok_lt fun heard hheard => ok_bnd (windows_ok hl n0 n1 hbrk) fun cs ⟨cs1, cs2⟩ => ok_lt fun many hmany => ok_lt fun du hdu => ok_chk ⟨by omega, by omega⟩ ?_
  subst hhe hheard hmany hdu
  have hv : ∀ k ∈ rng 0 (l'.length : Int), 0 ≤ l'.getD k.toNat 0 := fun k hk => by
    have h5 := mem_rng.mp hk
    rw [List.getD_eq_getElem?_getD, List.getElem?_eq_getElem (by omega)]
    exact hl.2.2 _ (List.getElem_mem _)
  have ecs : ∀ k ∈ rng 0 (l'.length : Int), atI many k = some (cnt l' need r'.b k) := fun k hk => by
    have h5 := mem_rng.mp hk
    rw [at_gg h5.1 (by omega), cs2 k h5.1 h5.2]
  have edue : ∀ k ∈ rng 0 (l'.length : Int), (if (decide ((0 : Int) < l'.getD k.toNat 0)) = true then (1 : Int) else 0) * (hands - (desks * (if (decide ((0 : Int) < cnt l' need r'.b k)) = true then (1 : Int) else 0))) = if l'.getD k.toNat 0 = 0 then 0 else if r'.b.any (inw l' need k) = true then hands / 2 else hands := fun k hk => by
    have h5 := hv k hk
    by_cases h6 : l'.getD k.toNat 0 = 0
    · rw [if_pos h6, if_neg (by rw [h6]; decide), Int.zero_mul]
    · rw [if_neg h6, if_pos (decide_eq_true (by omega)), Int.one_mul]
      by_cases h7 : r'.b.any (inw l' need k) = true
      · rw [if_pos h7, if_pos (decide_eq_true ((cnt_pos _ _ _ _).mpr h7))]; omega
      · rw [if_neg h7, if_neg (by rw [decide_eq_true_iff, cnt_pos]; exact h7)]; omega
  rw [foldO_app (N := 1000) (g := fun k => if l'.getD k.toNat 0 = 0 then 0 else if r'.b.any (inw l' need k) = true then hands / 2 else hands) ?_ (by rw [rng_len_nn (by omega)]; simp; omega)]
  rotate_left
  · intro b k hbl hk
    rw [at_bar hk]
    show bnd (atI many k) _ = _
    rw [ecs k hk]
    show chk _ (chk _ _) = _
    rw [chk_pos (mul_l (by split <;> omega) (by split <;> omega)), chk_pos (by omega), edue k hk]
    rfl
  refine ok_bnd (P := fun x => x = dueL l' need r'.b hands) (ok_some rfl) fun due hdue => ?_
  subst hdue
  rw [desks_right_ok m0 m1, decide_eq_true rfl]
  refine ok_bnd (P := fun c => c = false) (ok_some rfl) fun c hc => ?_
  subst hc
  refine ok_ite (fun hf => Bool.noConfusion hf) fun _ => ok_chk ⟨by omega, by omega⟩ ?_
  have hdue : ∀ k ∈ rng 0 (l'.length : Int), atI (dueL l' need r'.b hands) k = some (if l'.getD k.toNat 0 = 0 then 0 else if r'.b.any (inw l' need k) = true then hands / 2 else hands) := fun k hk => by
    have h5 := mem_rng.mp hk
    unfold dueL
    rw [atI_get h5.1 (by rw [List.length_map, rng_len]; omega), List.getElem?_map, rng_getE (by omega), show (0 : Int) + ((k.toNat : Nat) : Int) = k by omega]
    rfl
  have hdr : ∀ k, 0 ≤ (if l'.getD k.toNat 0 = 0 then 0 else if r'.b.any (inw l' need k) = true then hands / 2 else hands) ∧ (if l'.getD k.toNat 0 = 0 then 0 else if r'.b.any (inw l' need k) = true then hands / 2 else hands) ≤ 40 := fun k => by
    split
    · omega
    · split <;> omega
  refine ok_bnd (P := fun ys => ys = (rng 0 (l'.length : Int)).map fun k => l'.getD k.toNat 0 * (hands - if l'.getD k.toNat 0 = 0 then 0 else if r'.b.any (inw l' need k) = true then hands / 2 else hands)) (ok_eq (mapO_eq fun k hk => ?_) rfl) fun ys hys => ok_chk (by rw [hys, List.length_map, rng_len]; omega) (ok_lt fun si hsi => ?_)
  · rw [at_bar hk, hdue k hk]
    show chk _ _ = _
    have := hdr k
    rw [chk_pos (mul_r (by omega) (by omega))]
  have hterm : ∀ k ∈ rng 0 (l'.length : Int), l'.getD k.toNat 0 * (hands - if l'.getD k.toNat 0 = 0 then 0 else if r'.b.any (inw l' need k) = true then hands / 2 else hands) = desks * (val l' k * if r'.b.any (inw l' need k) = true then 1 else 0) := fun k hk => by
    rw [val_in hk]
    by_cases h6 : l'.getD k.toNat 0 = 0
    · rw [h6, Int.zero_mul, Int.zero_mul, Int.mul_zero]
    · rw [if_neg h6]
      by_cases h7 : r'.b.any (inw l' need k) = true
      · rw [if_pos h7, if_pos h7, Int.mul_one, Int.mul_comm, show hands - hands / 2 = desks by omega]
      · rw [if_neg h7, if_neg h7, Int.sub_self, Int.mul_zero, Int.mul_zero]
  have hs : si = desks * ((rng 0 (l'.length : Int)).map fun k => val l' k * if r'.b.any (inw l' need k) = true then 1 else 0).sum := by
    rw [hsi, hys, List.map_congr_left hterm, sum_mul]
  have hloss : r'.a = ((rng 0 (l'.length : Int)).map fun k => val l' k * cnt l' need r'.b k).sum := by
    rw [hr.sum, ← loss_sum l' n0]
    congr 1
    refine List.map_congr_left fun p hp => ?_
    unfold lossP
    rw [if_pos (hbrk p hp).2]
  have hone : ∀ k, (if r'.b.any (inw l' need k) = true then (1 : Int) else 0) ≤ cnt l' need r'.b k := fun k => by
    have := cnt_pos l' need r'.b k
    have := cnt_nn l' need r'.b k
    split
    · rename_i h7; have := (cnt_pos l' need r'.b k).mpr h7; omega
    · omega
  have hle : ((rng 0 (l'.length : Int)).map fun k => val l' k * if r'.b.any (inw l' need k) = true then 1 else 0).sum ≤ r'.a := by
    rw [hloss]
    refine sum_le fun k hk => ?_
    rw [val_in hk]
    exact Int.mul_le_mul_of_nonneg_left (hone k) (hv k hk)
  have hmul := Int.mul_le_mul_of_nonneg_left hle (show 0 ≤ desks by omega)
  refine ok_ite (fun hf => ?_) fun _ => ok_chk ⟨by omega, by omega⟩ ?_
  · have := of_decide_eq_true hf
    omega
  refine ok_bnd (P := fun ys => ys = (rng 0 (l'.length : Int)).map fun k => decide (l'.getD k.toNat 0 = 0) || decide (cnt l' need r'.b k < 2)) (ok_eq (mapO_eq fun k hk => ?_) rfl) fun zs hzs => ok_chk (by rw [hzs, List.length_map, rng_len]; omega) (ok_lt fun al hal => ok_some ?_)
  · rw [at_bar hk, ecs k hk]
    show bnd (orO _ (bnd (some _) _)) _ = _
    cases decide (l'.getD k.toNat 0 = 0) <;> rfl
  rw [Bool.or_eq_true]
  by_cases hq : al = true
  · refine .inl (decide_eq_true ?_)
    rw [hs, hloss]
    congr 1
    congr 1
    refine List.map_congr_left fun k hk => ?_
    rw [hal, hzs, List.all_map, List.all_eq_true] at hq
    have h8 : (decide (l'.getD k.toNat 0 = 0) || decide (cnt l' need r'.b k < 2)) = true := hq k hk
    rw [val_in hk]
    by_cases h6 : l'.getD k.toNat 0 = 0
    · rw [h6, Int.zero_mul, Int.zero_mul]
    · rw [decide_eq_false h6, Bool.false_or] at h8
      have h8 := of_decide_eq_true h8
      congr 1
      have h9 := cnt_nn l' need r'.b k
      by_cases h7 : r'.b.any (inw l' need k) = true
      · rw [if_pos h7]; have := (cnt_pos l' need r'.b k).mpr h7; omega
      · rw [if_neg h7]
        have : ¬ 0 < cnt l' need r'.b k := fun h => h7 ((cnt_pos _ _ _ _).mp h)
        omega
  · refine .inr ?_
    rw [Bool.not_eq_true] at hq
    rw [hq]; rfl

end K91

open PySem PySem.W PySem.Calls PyProof.Rows
set_option maxHeartbeats 0 in
theorem PySem.Challenge.cw_deskpairs_k91_whole_pages_and_desks_holds : PySem.Challenge.rw_deskpairs_k91_whole_pages_and_desks.Holds := by
  w_on; o_law
  refine HandSHeadRun.head_any (r := OpenLaw.row PySem.Challenge.rw_deskpairs_k91_whole_pages_and_desks) (q := view (OpenLaw.row PySem.Challenge.rw_deskpairs_k91_whole_pages_and_desks).prog [23]) (H := K91.hk) (ob := K91.ob) (M := 1360) (loose := K91.loose) (d := HandSHeadRun.topDef (OpenLaw.row PySem.Challenge.rw_deskpairs_k91_whole_pages_and_desks).prog 23) (kwd := []) K91.ob_eq
    (by kernel_rfl) (fun s => by kernel_rfl) K91.run (by kernel_rfl) (by kernel_rfl) (by kernel_rfl) (by rfl) (by first | assumption | decide +kernel) (by decide +kernel) ⟨rfl, rfl, rfl, rfl, rfl, by decide +kernel⟩ ?hw ?hc
  case hw => w_witness2
  case hc =>
    refine L2.walk_ofE (l := PySem.Challenge.rw_deskpairs_k91_whole_pages_and_desks) (n := 63) (k := 5) (x := "_law_script") (CX := L2.CX0) rfl (by decide) (by kernel_rfl) ⟨rfl, by decide, by decide⟩ ?F (fun _ _ _ _ z => z)
    intro w mg fa h Y G hmg0
    obtain ⟨K, KX, c⟩ := Y
    have hmg : mg ("law" : PySem.Str) = some (.ref fa) := by
      have e : (HandSHeadRun.topDef (OpenLaw.row PySem.Challenge.rw_deskpairs_k91_whole_pages_and_desks).prog 23).name = ("law" : PySem.Str) := by kernel_rfl
      rw [← e]
      exact hmg0
    obtain ⟨fd, hb, hF⟩ := K91.facts (P := (PySem.Challenge.rw_deskpairs_k91_whole_pages_and_desks).prog) (w := w) KX G hmg c
    exact ⟨K, fd, Dy.spLaw K, KX, hb, fun H a ns hl _ hS => ⟨a, ns, rfl, hS, hl, fun _ => rfl⟩, fun base h1 h2 => Dy.law_of (hF base h1 h2) K91.law_true⟩

