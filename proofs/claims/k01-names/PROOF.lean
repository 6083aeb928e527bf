import PyProof.Rows.All
import Wide.All
import OpenK.AllK
import Wide.FinOn
import HandS.ForMost
import HandS.Codes
import HandS.Wide
import HandS.SortInts
import HandS.Conv
import HandS.IsInst
import HandS.Defaults
import HandS.Head0
import HandS.Head1
import HandS.Head2
import HandS.HeadEnd
import HandS.HeadHook1
import HandS.HeadHook2
import HandS.Zip
import HandS.Exc
import HandS.TryOnly
import HandS.ExcOwn
import HandS.WordsExc
import HandS.ExcInit
import HandS.ExcIs
import HandS.ExcField
import HandS.Style
import PySem.Challenge.RW_deskpairs_k01_names
set_option Elab.async false
set_option linter.all false
set_option maxRecDepth 100000
namespace Dy
open PySem PySem.Spec PyProof.Rows L2

structure S where
  F : Hp
  H : Hp
  sub : ∀ a o, F a = some o → H a = some o
abbrev Fle (F F' : Hp) : Prop := ∀ a o, F a = some o → F' a = some o
theorem Fle.refl (F : Hp) : Fle F F := fun _ _ h => h
theorem Fle.trans {F G I : Hp} (a : Fle F G) (b : Fle G I) : Fle F I := fun x o h => b x o (a x o h)
structure Ex (s t : S) : Prop where
  f : Fle s.F t.F
  h : ∀ a o, s.H a = some o → t.H a = some o
  n : ∀ a o, s.H a = some o → s.F a = none → t.F a = none
theorem Ex.refl (s : S) : Ex s s := ⟨fun _ _ h => h, fun _ _ h => h, fun _ _ _ h => h⟩
theorem Ex.trans {s t u : S} (a : Ex s t) (b : Ex t u) : Ex s u :=
  ⟨fun x o h => b.f x o (a.f x o h), fun x o h => b.h x o (a.h x o h), fun x o h n => b.n x o (a.h x o h) (a.n x o h n)⟩
theorem fr_back {s t : S} (e : Ex s t) {p : Addr} (h : t.H p = none) : s.H p = none := by
  cases q : s.H p with
  | none => rfl
  | some o => rw [e.h p o q] at h; cases h
theorem fF {s : S} {p : Addr} (h : s.H p = none) : s.F p = none := by
  cases q : s.F p with
  | none => rfl
  | some o => rw [s.sub p o q] at h; cases h
def S.newF (s : S) (p : Addr) (o : HO) (h : s.H p = none) : S := ⟨upd s.F p o, upd s.H p o, fun a u q => by
  unfold upd at q ⊢
  split
  · rename_i e; rw [if_pos e] at q; exact q
  · rename_i e; rw [if_neg e] at q; exact s.sub a u q⟩
def S.newO (s : S) (p : Addr) (o : HO) (h : s.H p = none) : S := ⟨s.F, upd s.H p o, fun a u q => by
  rw [upd_ne (ne_of_none (s.sub a u q) h)]; exact s.sub a u q⟩
def S.put (s : S) (p : Addr) (o : HO) (h : s.F p = none) : S := ⟨s.F, upd s.H p o, fun a u q => by
  rw [upd_ne (ne_of_none q h)]; exact s.sub a u q⟩
theorem Ex.newF {s : S} {p : Addr} {o : HO} (h : s.H p = none) : Ex s (s.newF p o h) :=
  ⟨fun a u q => by show upd s.F p o a = some u; rw [upd_ne (ne_of_none (s.sub a u q) h)]; exact q,
   fun a u q => by show upd s.H p o a = some u; rw [upd_ne (ne_of_none q h)]; exact q,
   fun a u q n => by show upd s.F p o a = none; rw [upd_ne (ne_of_none q h)]; exact n⟩
theorem Ex.newO {s : S} {p : Addr} {o : HO} (h : s.H p = none) : Ex s (s.newO p o h) :=
  ⟨fun a u q => q, fun a u q => by show upd s.H p o a = some u; rw [upd_ne (ne_of_none q h)]; exact q, fun a u q n => n⟩
structure Mx (P : Addr → Prop) (s t : S) : Prop where
  f : Fle s.F t.F
  h : ∀ a o, s.H a = some o → ¬ P a → t.H a = some o
  n : ∀ a o, s.H a = some o → s.F a = none → t.F a = none
  d : ∀ a o, s.H a = some o → ∃ u, t.H a = some u
theorem Ex.mx {P : Addr → Prop} {s t : S} (e : Ex s t) : Mx P s t := ⟨e.f, fun a o h _ => e.h a o h, e.n, fun a o h => ⟨o, e.h a o h⟩⟩
theorem Mx.trans {P : Addr → Prop} {s t u : S} (a : Mx P s t) (b : Mx P t u) : Mx P s u :=
  ⟨fun x o h => b.f x o (a.f x o h), fun x o h n => b.h x o (a.h x o h n) n,
   fun x o h n => by obtain ⟨v, hv⟩ := a.d x o h; exact b.n x v hv (a.n x o h n),
   fun x o h => by obtain ⟨v, hv⟩ := a.d x o h; exact b.d x v hv⟩
theorem Mx.put {s : S} {p : Addr} {o : HO} (h : s.F p = none) : Mx (· = p) s (s.put p o h) :=
  ⟨fun a u q => q, fun a u q n => by show upd s.H p o a = some u; rw [upd_ne n]; exact q, fun a u q n => n,
   fun a u q => by
    by_cases e : a = p
    · exact ⟨o, by rw [e]; exact upd_same⟩
    · exact ⟨u, by show upd s.H p o a = some u; rw [upd_ne e]; exact q⟩⟩
theorem Mx.fr_back {P : Addr → Prop} {s t : S} (e : Mx P s t) {p : Addr} (h : t.H p = none) : s.H p = none := by
  cases q : s.H p with
  | none => rfl
  | some o => obtain ⟨u, z⟩ := e.d p o q; rw [z] at h; cases h
theorem Ex.mu {s t u : S} {P : Addr → Prop} (a : Ex s t) (b : Mx P t u) (h : ∀ p, P p → s.H p = none) : Ex s u :=
  ⟨fun x o q => b.f x o (a.f x o q), fun x o q => b.h x o (a.h x o q) fun z => (by rw [h x z] at q; cases q), fun x o q n => b.n x o (a.h x o q) (a.n x o q n)⟩
theorem Ex.mu1 {s t u : S} {p : Addr} (a : Ex s t) (b : Mx (· = p) t u) (h : s.H p = none) : Ex s u := a.mu b fun _ e => e ▸ h

class Enc (α : Type) where
  rep : PySem.W.Frag → Hp → V → α → Prop
  mono : ∀ {K : PySem.W.Frag} {F F' : Hp} {v : V} {x : α}, Fle F F' → rep K F v x → rep K F' v x
open Enc (rep)
def Reps {α : Type} [Enc α] (K : PySem.W.Frag) (F : Hp) : List V → List α → Prop
  | [], [] => True
  | v :: vs, x :: xs => rep K F v x ∧ Reps K F vs xs
  | _, _ => False
section
variable {α β : Type} [Enc α] [Enc β] {K : PySem.W.Frag} {F F' : Hp}
theorem Reps.mono (e : Fle F F') : ∀ {vs : List V} {xs : List α}, Reps K F vs xs → Reps K F' vs xs
  | [], [], _ => trivial
  | _ :: _, _ :: _, ⟨h, t⟩ => ⟨Enc.mono e h, Reps.mono e t⟩
  | [], _ :: _, h => h.elim
  | _ :: _, [], h => h.elim
theorem Reps.len : ∀ {vs : List V} {xs : List α}, Reps K F vs xs → vs.length = xs.length
  | [], [], _ => rfl
  | _ :: _, _ :: _, ⟨_, t⟩ => congrArg (· + 1) (Reps.len t)
  | [], _ :: _, h => h.elim
  | _ :: _, [], h => h.elim
theorem Reps.get : ∀ {vs : List V} {xs : List α} {i : Nat} {x : α}, Reps K F vs xs → xs[i]? = some x → ∃ v, vs[i]? = some v ∧ rep K F v x
  | [], [], _, _, _, e => by simp at e
  | v :: _, y :: _, 0, x, ⟨h, _⟩, e => by
    have : y = x := Option.some.inj e
    subst this
    exact ⟨v, rfl, h⟩
  | _ :: vs, _ :: xs, i + 1, x, ⟨_, t⟩, e => by
    obtain ⟨v, h1, h2⟩ := Reps.get (i := i) t (by simpa using e)
    exact ⟨v, by simpa using h1, h2⟩
  | [], _ :: _, _, _, h, _ => h.elim
  | _ :: _, [], _, _, h, _ => h.elim
theorem Reps.get' : ∀ {vs : List V} {xs : List α} {i : Nat} {v : V}, Reps K F vs xs → vs[i]? = some v → ∃ x, xs[i]? = some x ∧ rep K F v x
  | [], [], _, _, _, e => by simp at e
  | v :: _, y :: _, 0, w, ⟨h, _⟩, e => by
    have : v = w := Option.some.inj e
    subst this
    exact ⟨y, rfl, h⟩
  | _ :: vs, _ :: xs, i + 1, w, ⟨_, t⟩, e => by
    obtain ⟨x, h1, h2⟩ := Reps.get' (i := i) t (by simpa using e)
    exact ⟨x, by simpa using h1, h2⟩
  | [], _ :: _, _, _, h, _ => h.elim
  | _ :: _, [], _, _, h, _ => h.elim
theorem Reps.app : ∀ {vs ws : List V} {xs ys : List α}, Reps K F vs xs → Reps K F ws ys → Reps K F (vs ++ ws) (xs ++ ys)
  | [], _, [], _, _, t => t
  | _ :: _, _, _ :: _, _, ⟨h, t⟩, u => ⟨h, Reps.app t u⟩
  | [], _, _ :: _, _, h, _ => h.elim
  | _ :: _, _, [], _, h, _ => h.elim
theorem Reps.snoc {vs : List V} {xs : List α} {v : V} {x : α} (h : Reps K F vs xs) (r : rep K F v x) : Reps K F (vs ++ [v]) (xs ++ [x]) := h.app ⟨r, trivial⟩
theorem Reps.take : ∀ {vs : List V} {xs : List α} (n : Nat), Reps K F vs xs → Reps K F (vs.take n) (xs.take n)
  | _, _, 0, _ => by rw [List.take_zero, List.take_zero]; trivial
  | [], [], _ + 1, _ => trivial
  | _ :: _, _ :: _, n + 1, ⟨h, t⟩ => ⟨h, Reps.take n t⟩
  | [], _ :: _, _ + 1, h => h.elim
  | _ :: _, [], _ + 1, h => h.elim
theorem Reps.drop : ∀ {vs : List V} {xs : List α} (n : Nat), Reps K F vs xs → Reps K F (vs.drop n) (xs.drop n)
  | _, _, 0, h => h
  | [], [], _ + 1, _ => trivial
  | _ :: _, _ :: _, n + 1, ⟨_, t⟩ => Reps.drop n t
  | [], _ :: _, _ + 1, h => h.elim
  | _ :: _, [], _ + 1, h => h.elim
theorem Reps.set : ∀ {vs : List V} {xs : List α} {v : V} {x : α} (i : Nat), Reps K F vs xs → rep K F v x → Reps K F (vs.set i v) (xs.set i x)
  | [], [], _, _, _, _, _ => trivial
  | _ :: _, _ :: _, _, _, 0, ⟨_, t⟩, r => ⟨r, t⟩
  | _ :: _, _ :: _, _, _, i + 1, ⟨h, t⟩, r => ⟨h, Reps.set i t r⟩
  | [], _ :: _, _, _, _, h, _ => h.elim
  | _ :: _, [], _, _, _, h, _ => h.elim
theorem Reps.erase : ∀ {vs : List V} {xs : List α} (i : Nat), Reps K F vs xs → Reps K F (vs.eraseIdx i) (xs.eraseIdx i)
  | [], [], _, _ => trivial
  | _ :: _, _ :: _, 0, ⟨_, t⟩ => t
  | _ :: _, _ :: _, i + 1, ⟨h, t⟩ => ⟨h, Reps.erase i t⟩
  | [], _ :: _, _, h => h.elim
  | _ :: _, [], _, h => h.elim
theorem Reps.rev : ∀ {vs : List V} {xs : List α}, Reps K F vs xs → Reps K F vs.reverse xs.reverse
  | [], [], _ => trivial
  | _ :: _, _ :: _, ⟨h, t⟩ => by rw [List.reverse_cons, List.reverse_cons]; exact (Reps.rev t).snoc h
  | [], _ :: _, h => h.elim
  | _ :: _, [], h => h.elim
theorem Reps.mem : ∀ {vs : List V} {xs : List α} {x : α}, Reps K F vs xs → x ∈ xs → ∃ v, v ∈ vs ∧ rep K F v x
  | v :: _, y :: _, x, ⟨h, t⟩, e => by
    rcases List.mem_cons.mp e with rfl | e
    · exact ⟨v, List.mem_cons_self, h⟩
    · obtain ⟨w, a, b⟩ := Reps.mem t e
      exact ⟨w, List.mem_cons_of_mem _ a, b⟩
  | [], _ :: _, _, h, _ => h.elim
theorem Reps.repl {v : V} {x : α} (r : rep K F v x) : ∀ n : Nat, Reps K F (List.replicate n v) (List.replicate n x)
  | 0 => trivial
  | n + 1 => ⟨r, Reps.repl r n⟩
end
instance : Enc Int := ⟨fun _ _ v x => v = .int x, fun _ h => h⟩
instance : Enc Bool := ⟨fun _ _ v x => v = .bl x, fun _ h => h⟩
instance : Enc Str := ⟨fun _ _ v x => v = .str x, fun _ h => h⟩
instance : Enc Unit := ⟨fun _ _ v _ => v = .non, fun _ h => h⟩
class Opn (α : Type) extends Enc α where
  notNon : ∀ {K : PySem.W.Frag} {F : Hp} {x : α}, ¬ rep K F .non x
instance : Opn Int := ⟨fun {K F x} h => nomatch (show V.non = V.int x from h)⟩
instance : Opn Str := ⟨fun {K F x} h => nomatch (show V.non = V.str x from h)⟩
instance : Opn Bool := ⟨fun {K F x} h => nomatch (show V.non = V.bl x from h)⟩
instance {α : Type} [Enc α] : Enc (Option α) := ⟨fun K F v x => match x with | none => v = .non | some y => rep K F v y, fun {K F F' v x} e h => by
  cases x with
  | none => exact h
  | some y => exact Enc.mono (α := α) e h⟩
theorem sql_mono {K : PySem.W.Frag} {F F' : Hp} {a : Addr} {vs : List V} (e : Fle F F') (h : SqL K F a vs) : SqL K F' a vs := by
  rcases h with (h | ⟨o, h⟩) | h
  · exact .inl (.inl (e _ _ h))
  · exact .inl (.inr ⟨o, e _ _ h⟩)
  · exact .inr h
theorem sqt_mono {K : PySem.W.Frag} {F F' : Hp} {a : Addr} {vs : List V} (e : Fle F F') (h : SqT K F a vs) : SqT K F' a vs := by
  rcases h with (h | ⟨o, h⟩) | h
  · exact .inl (.inl (e _ _ h))
  · exact .inl (.inr ⟨o, e _ _ h⟩)
  · exact .inr h
def RepL {α : Type} [Enc α] (K : PySem.W.Frag) (F : Hp) (v : V) (xs : List α) : Prop := ∃ a vs, v = .ref a ∧ SqL K F a vs ∧ Reps K F vs xs
instance {α : Type} [Enc α] : Enc (List α) := ⟨RepL, fun e h => by
  obtain ⟨a, vs, rfl, h1, h2⟩ := h
  exact ⟨a, vs, rfl, sql_mono e h1, h2.mono e⟩⟩
structure T1 (α : Type) where
  a : α
structure T3 (α β γ : Type) where
  a : α
  b : β
  c : γ
structure T4 (α β γ δ : Type) where
  a : α
  b : β
  c : γ
  d : δ
structure T5 (α β γ δ ε : Type) where
  a : α
  b : β
  c : γ
  d : δ
  e : ε
structure Tu (α : Type) where
  l : List α
instance {α β : Type} [Enc α] [Enc β] : Enc (α × β) := ⟨fun K F v x => ∃ p v1 v2, v = .ref p ∧ SqT K F p [v1, v2] ∧ rep K F v1 x.1 ∧ rep K F v2 x.2, fun e h => by
  obtain ⟨p, v1, v2, rfl, h0, h1, h2⟩ := h
  exact ⟨p, v1, v2, rfl, sqt_mono e h0, Enc.mono e h1, Enc.mono e h2⟩⟩
instance {α : Type} [Enc α] : Enc (T1 α) := ⟨fun K F v x => ∃ p v1, v = .ref p ∧ SqT K F p [v1] ∧ rep K F v1 x.a, fun e h => by
  obtain ⟨p, v1, rfl, h0, h1⟩ := h
  exact ⟨p, v1, rfl, sqt_mono e h0, Enc.mono e h1⟩⟩
instance {α β γ : Type} [Enc α] [Enc β] [Enc γ] : Enc (T3 α β γ) := ⟨fun K F v x => ∃ p v1 v2 v3, v = .ref p ∧ SqT K F p [v1, v2, v3] ∧ rep K F v1 x.a ∧ rep K F v2 x.b ∧ rep K F v3 x.c, fun e h => by
  obtain ⟨p, v1, v2, v3, rfl, h0, h1, h2, h3⟩ := h
  exact ⟨p, v1, v2, v3, rfl, sqt_mono e h0, Enc.mono e h1, Enc.mono e h2, Enc.mono e h3⟩⟩
instance {α β γ δ : Type} [Enc α] [Enc β] [Enc γ] [Enc δ] : Enc (T4 α β γ δ) := ⟨fun K F v x => ∃ p v1 v2 v3 v4, v = .ref p ∧ SqT K F p [v1, v2, v3, v4] ∧ rep K F v1 x.a ∧ rep K F v2 x.b ∧ rep K F v3 x.c ∧ rep K F v4 x.d, fun e h => by
  obtain ⟨p, v1, v2, v3, v4, rfl, h0, h1, h2, h3, h4⟩ := h
  exact ⟨p, v1, v2, v3, v4, rfl, sqt_mono e h0, Enc.mono e h1, Enc.mono e h2, Enc.mono e h3, Enc.mono e h4⟩⟩
instance {α β γ δ ε : Type} [Enc α] [Enc β] [Enc γ] [Enc δ] [Enc ε] : Enc (T5 α β γ δ ε) := ⟨fun K F v x => ∃ p v1 v2 v3 v4 v5, v = .ref p ∧ SqT K F p [v1, v2, v3, v4, v5] ∧ rep K F v1 x.a ∧ rep K F v2 x.b ∧ rep K F v3 x.c ∧ rep K F v4 x.d ∧ rep K F v5 x.e, fun e h => by
  obtain ⟨p, v1, v2, v3, v4, v5, rfl, h0, h1, h2, h3, h4, h5⟩ := h
  exact ⟨p, v1, v2, v3, v4, v5, rfl, sqt_mono e h0, Enc.mono e h1, Enc.mono e h2, Enc.mono e h3, Enc.mono e h4, Enc.mono e h5⟩⟩
def RepT {α : Type} [Enc α] (K : PySem.W.Frag) (F : Hp) (v : V) (xs : List α) : Prop := ∃ a vs, v = .ref a ∧ SqT K F a vs ∧ Reps K F vs xs
instance {α : Type} [Enc α] : Enc (Tu α) := ⟨fun K F v x => RepT K F v x.l, fun e h => by
  obtain ⟨a, vs, rfl, h1, h2⟩ := h
  exact ⟨a, vs, rfl, sqt_mono e h1, h2.mono e⟩⟩
instance {α : Type} [Enc α] : Opn (List α) := ⟨fun h => by obtain ⟨_, _, e, _⟩ := h; cases e⟩
instance {α : Type} [Enc α] : Opn (Tu α) := ⟨fun h => by obtain ⟨_, _, e, _⟩ := h; cases e⟩
class Flat (α : Type) extends Enc α where
  toV : α → V
  iff : ∀ {K : PySem.W.Frag} {F : Hp} {v : V} {x : α}, rep K F v x ↔ v = toV x
  flat : ∀ x, flatV (toV x) = true
  inj : ∀ x y, eqV (toV x) (toV y) = true ↔ x = y
open Flat (toV)
instance : Flat Int := ⟨V.int, Iff.rfl, fun _ => rfl, fun x y => by show (x == y) = true ↔ _; simp⟩
instance : Flat Bool := ⟨V.bl, Iff.rfl, fun _ => rfl, fun x y => by show (x == y) = true ↔ _; simp⟩
instance : Flat Str := ⟨V.str, Iff.rfl, fun _ => rfl, fun x y => by show (x == y) = true ↔ _; simp⟩
instance : Flat (Option Int) := ⟨fun x => match x with | none => .non | some i => .int i, fun {K F v x} => by cases x <;> exact Iff.rfl, fun x => by cases x <;> rfl, fun x y => by
  cases x <;> cases y <;> simp [eqV]⟩
instance : Flat (Option Str) := ⟨fun x => match x with | none => .non | some i => .str i, fun {K F v x} => by cases x <;> exact Iff.rfl, fun x => by cases x <;> rfl, fun x y => by
  cases x <;> cases y <;> simp [eqV]⟩
section
variable {α : Type} [Flat α] {K : PySem.W.Frag} {F : Hp}
theorem Reps.flat : ∀ {vs : List V} {xs : List α}, Reps K F vs xs → vs = xs.map toV
  | [], [], _ => rfl
  | _ :: _, _ :: _, ⟨h, t⟩ => by rw [List.map_cons, ← Flat.iff.mp h, ← Reps.flat t]
  | [], _ :: _, h => h.elim
  | _ :: _, [], h => h.elim
theorem Reps.of_flat : ∀ (xs : List α), Reps K F (xs.map toV) xs
  | [] => trivial
  | _ :: xs => ⟨Flat.iff.mpr rfl, Reps.of_flat xs⟩
theorem flat_all (xs : List α) : (xs.map toV).all flatV = true := by
  rw [List.all_eq_true]
  intro v hv
  obtain ⟨x, _, rfl⟩ := List.mem_map.mp hv
  exact Flat.flat x
theorem inV_flat [DecidableEq α] (x : α) (xs : List α) : inV (toV x) (xs.map toV) = decide (x ∈ xs) := by
  rw [Bool.eq_iff_iff, decide_eq_true_eq]
  unfold inV
  rw [List.any_eq_true]
  constructor
  · rintro ⟨v, hv, e⟩
    obtain ⟨y, hy, rfl⟩ := List.mem_map.mp hv
    rw [Flat.inj] at e
    rw [← e]; exact hy
  · intro h
    exact ⟨_, List.mem_map.mpr ⟨x, h, rfl⟩, (Flat.inj x x).mpr rfl⟩
end
end Dy

namespace Dy
open PySem PySem.Spec L2
open PyProof.Rows hiding St
open Enc (rep)
open Flat (toV)

def WE (X : Cx) (e : Expr) : TE := fun σ H Q => ∀ (pins : List (Addr × Obj)) (s : Shared), Inv X pins σ H s → wpAny (model X.prog X.w) X.A (eval e X.env) (EP X pins σ Q) X.xe s
def WT (X : Cx) (e : Expr) : TT := fun σ H Q => ∀ (pins : List (Addr × Obj)) (s : Shared), Inv X pins σ H s → wpAny (model X.prog X.w) X.A (isTrue e X.env (eval e X.env)) (TP X pins σ Q) X.xe s
def WW (X : Cx) (e : Expr) : TT := fun σ H Q => ∀ (whole : Sem Value) (pins : List (Addr × Obj)) (s : Shared), Inv X pins σ H s → wpAny (model X.prog X.w) X.A (isTrue e X.env whole) (TP X pins σ Q) X.xe s
def WA (X : Cx) (es : List Expr) : TA := fun σ H Q => ∀ (pos : Pos) (pins : List (Addr × Obj)) (s : Shared), Inv X pins σ H s → wpAny (model X.prog X.w) X.A (spliced (backTo pos (starEach es X.env))) (AP X pins σ Q) X.xe s
def WSs (X : Cx) (ss : List Stmt) : TS := fun D σ H => ∀ (pins : List (Addr × Obj)) (s : Shared), Inv X pins σ H s → wpAny (model X.prog X.w) X.A (execs ss X.env) (SP X pins D) X.xe s
theorem pe_we {X : Cx} {e : Expr} : PE X e (WE X e) := ⟨fun pins s _ _ _ I h => h pins s I⟩
theorem pt_wt {X : Cx} {e : Expr} : PT X e (WT X e) := ⟨fun pins s _ _ _ I h => h pins s I⟩
theorem pw_ww {X : Cx} {e : Expr} : PW X e (WW X e) := ⟨fun whole pins s _ _ _ I h => h whole pins s I⟩
theorem pa_wa {X : Cx} {es : List Expr} : PA X es (WA X es) := ⟨fun pos pins s _ _ _ I h => h pos pins s I⟩
theorem pss_ws {X : Cx} {ss : List Stmt} : PSs X ss (WSs X ss) := ⟨fun pins s _ _ _ I h => h pins s I⟩
theorem we_of {X : Cx} {e : Expr} {t : TE} {σ : St} {H : Hp} {Q : VK} (h : PE X e t) (q : t σ H Q) : WE X e σ H Q := fun pins s I => h.run pins s σ H Q I q
theorem wt_of {X : Cx} {e : Expr} {t : TT} {σ : St} {H : Hp} {Q : Bool → Hp → Prop} (h : PT X e t) (q : t σ H Q) : WT X e σ H Q := fun pins s I => h.run pins s σ H Q I q
theorem ww_of {X : Cx} {e : Expr} {t : TT} {σ : St} {H : Hp} {Q : Bool → Hp → Prop} (h : PW X e t) (q : t σ H Q) : WW X e σ H Q := fun w pins s I => h.run w pins s σ H Q I q
theorem wa_of {X : Cx} {es : List Expr} {t : TA} {σ : St} {H : Hp} {Q : List V → Hp → Prop} (h : PA X es t) (q : t σ H Q) : WA X es σ H Q := fun pos pins s I => h.run pos pins s σ H Q I q
theorem ws_of {X : Cx} {ss : List Stmt} {t : TS} {D : Ends} {σ : St} {H : Hp} (h : PSs X ss t) (q : t D σ H) : WSs X ss D σ H := fun pins s I => h.run pins s σ H D I q
theorem WSs.imp {X : Cx} {ss : List Stmt} {D D' : Ends} {σ : St} {H : Hp} (h : WSs X ss D σ H) (h1 : ∀ σ H, D.nx σ H → D'.nx σ H) (h2 : ∀ v H, D.rt v H → D'.rt v H) (h3 : ∀ σ H, D.bk σ H → D'.bk σ H) (h4 : ∀ σ H, D.ct σ H → D'.ct σ H) : WSs X ss D' σ H := fun pins s I => thn (h pins s I) fun f s1 q => by
  cases f with
  | next => obtain ⟨a, b, c, d⟩ := q; exact ⟨a, b, c, h1 _ _ d⟩
  | brk => obtain ⟨a, b, c, d⟩ := q; exact ⟨a, b, c, h3 _ _ d⟩
  | cont => obtain ⟨a, b, c, d⟩ := q; exact ⟨a, b, c, h4 _ _ d⟩
  | ret u => obtain ⟨a, b, c, d, e, f⟩ := q; exact ⟨a, b, c, d, e, h2 _ _ f⟩

section
variable {α β γ δ : Type} [Enc α] [Enc β] [Enc γ] [Enc δ]
def Ev (X : Cx) (e : Expr) (σ : St) (s : S) (x : α) : Prop := ∀ s1, Ex s s1 → ∀ Q : VK, (∀ v s2, Ex s1 s2 → rep X.K s2.F v x → Q v s2.H) → WE X e σ s1.H Q
def RepR (K : PySem.W.Frag) (s : S) (v : V) (xs : List α) : Prop := ∃ a vs, v = .ref a ∧ SqL K s.H a vs ∧ Reps K s.F vs xs
def EvR (X : Cx) (e : Expr) (σ : St) (s : S) (xs : List α) : Prop := ∀ s1, Ex s s1 → ∀ Q : VK, (∀ v s2, Ex s1 s2 → RepR X.K s2 v xs → Q v s2.H) → WE X e σ s1.H Q
def Own (K : PySem.W.Frag) (s : S) (p : Addr) (xs : List α) : Prop := s.F p = none ∧ ∃ vs, s.H p = some (.lst vs) ∧ Reps K s.F vs xs
def EvN (X : Cx) (e : Expr) (σ : St) (s : S) (xs : List α) : Prop := ∀ s1, Ex s s1 → ∀ Q : VK, (∀ p s2, Ex s1 s2 → s1.H p = none → Own X.K s2 p xs → Q (.ref p) s2.H) → WE X e σ s1.H Q
def EvT (X : Cx) (e : Expr) (σ : St) (s : S) (b : Bool) : Prop := ∀ s1, Ex s s1 → ∀ Q : Bool → Hp → Prop, (∀ s2, Ex s1 s2 → Q b s2.H) → WT X e σ s1.H Q
def EvW (X : Cx) (e : Expr) (σ : St) (s : S) (b : Bool) : Prop := ∀ s1, Ex s s1 → ∀ Q : Bool → Hp → Prop, (∀ s2, Ex s1 s2 → Q b s2.H) → WW X e σ s1.H Q
structure EvB (X : Cx) (e : Expr) (σ : St) (s : S) (b : Bool) : Prop where
  v : Ev X e σ s b
  t : EvT X e σ s b
structure EvC (X : Cx) (e : Expr) (σ : St) (s : S) (b : Bool) : Prop where
  v : Ev X e σ s b
  w : EvW X e σ s b
end
class EncA (A : Type) where
  repA : PySem.W.Frag → Hp → List V → A → Prop
  monoA : ∀ {K : PySem.W.Frag} {F F' : Hp} {vs : List V} {x : A}, Fle F F' → repA K F vs x → repA K F' vs x
open EncA (repA)
instance : EncA Unit := ⟨fun _ _ vs _ => vs = [], fun _ h => h⟩
instance {α A : Type} [Enc α] [EncA A] : EncA (α × A) := ⟨fun K F vs x => ∃ v r, vs = v :: r ∧ rep K F v x.1 ∧ repA K F r x.2, fun e h => by
  obtain ⟨v, r, rfl, h1, h2⟩ := h
  exact ⟨v, r, rfl, Enc.mono e h1, EncA.monoA e h2⟩⟩
def EvA {A : Type} [EncA A] (X : Cx) (es : List Expr) (σ : St) (s : S) (a : A) : Prop := ∀ s1, Ex s s1 → ∀ Q : List V → Hp → Prop, (∀ vs s2, Ex s1 s2 → repA X.K s2.F vs a → Q vs s2.H) → WA X es σ s1.H Q

section
variable {α β γ δ : Type} [Enc α] [Enc β] [Enc γ] [Enc δ] {X : Cx} {σ : St} {s t : S} {e a b c : Expr} {es : List Expr} {pos p0 p1 p2 p3 : Pos}
theorem Own.frz {K : PySem.W.Frag} {p : Addr} {xs : List α} (h : Own K s p xs) : ∃ s' : S, s'.H = s.H ∧ Fle s.F s'.F ∧ (∀ q, q ≠ p → s'.F q = s.F q) ∧ rep K s'.F (.ref p) xs := by
  obtain ⟨hn, vs, hp, r⟩ := h
  have f : Fle s.F (upd s.F p (.lst vs)) := fun a o q => by rw [upd_ne (ne_of_none q hn)]; exact q
  refine ⟨⟨upd s.F p (.lst vs), s.H, fun a o q => ?_⟩, rfl, f, fun q hq => upd_ne hq, p, vs, rfl, .inl (.inl upd_same), r.mono f⟩
  unfold upd at q
  split at q
  · rename_i e; cases q; rw [e]; exact hp
  · exact s.sub a o q
theorem Own.ex {K : PySem.W.Frag} {p : Addr} {xs : List α} (h : Own K s p xs) (e : Ex s t) : Own K t p xs := by
  obtain ⟨hn, vs, hp, r⟩ := h
  exact ⟨e.n _ _ hp hn, vs, e.h _ _ hp, r.mono e.f⟩
theorem Own.mx {K : PySem.W.Frag} {p : Addr} {P : Addr → Prop} {xs : List α} (h : Own K s p xs) (e : Mx P s t) (n : ¬ P p) : Own K t p xs := by
  obtain ⟨hn, vs, hp, r⟩ := h
  exact ⟨e.n _ _ hp hn, vs, e.h _ _ hp n, r.mono e.f⟩
theorem Own.ne {K : PySem.W.Frag} {p q : Addr} {xs : List α} (h : Own K s p xs) (n : s.H q = none) : p ≠ q := by
  obtain ⟨_, vs, hp, _⟩ := h
  exact ne_of_none hp n
theorem Own.r {K : PySem.W.Frag} {p : Addr} {xs : List α} (h : Own K s p xs) : RepR K s (.ref p) xs := by
  obtain ⟨hn, vs, hp, r⟩ := h
  exact ⟨p, vs, rfl, .inl (.inl hp), r⟩
theorem RepR.ex {K : PySem.W.Frag} {v : V} {xs : List α} (h : RepR K s v xs) (e : Ex s t) : RepR K t v xs := by
  obtain ⟨p, vs, rfl, h1, h2⟩ := h
  exact ⟨p, vs, rfl, sql_mono e.h h1, h2.mono e.f⟩
theorem rep_r {K : PySem.W.Frag} {v : V} {xs : List α} (h : rep K s.F v xs) : RepR K s v xs := by
  obtain ⟨p, vs, rfl, h1, h2⟩ := h
  exact ⟨p, vs, rfl, sql_mono s.sub h1, h2⟩
theorem Ev.mono {x : α} (h : Ev X e σ s x) (k : Ex s t) : Ev X e σ t x := fun s1 k1 Q q => h s1 (k.trans k1) Q q
theorem EvT.mono {x : Bool} (h : EvT X e σ s x) (k : Ex s t) : EvT X e σ t x := fun s1 k1 Q q => h s1 (k.trans k1) Q q
theorem Ev.r {xs : List α} (h : Ev X e σ s xs) : EvR X e σ s xs := fun s1 k Q q => h s1 k Q fun v s2 k2 r => q v s2 k2 (rep_r r)
theorem EvN.r {xs : List α} (h : EvN X e σ s xs) : EvR X e σ s xs := fun s1 k Q q => h s1 k Q fun p s2 k2 _ o => q (.ref p) s2 k2 o.r
theorem frz_ex {K : PySem.W.Frag} {p : Addr} {xs : List α} (k : Ex s t) (n : s.H p = none) (o : Own K t p xs) : ∃ t' : S, t'.H = t.H ∧ Ex s t' ∧ rep K t'.F (.ref p) xs := by
  obtain ⟨t', h1, h2, h3, h4⟩ := o.frz
  refine ⟨t', h1, ⟨k.f.trans h2, fun a u q => by rw [h1]; exact k.h a u q, fun a u q m => ?_⟩, h4⟩
  have : a ≠ p := ne_of_none q n
  rw [h3 a this]
  exact k.n a u q m
theorem EvN.ev {xs : List α} (h : EvN X e σ s xs) : Ev X e σ s xs := fun s1 k Q q => h s1 k Q fun p s2 k2 n o => by
  obtain ⟨t', h1, h2, h3⟩ := frz_ex k2 n o
  rw [← h1]
  exact q _ t' h2 h3
theorem Ev.cast {x y : α} (h : Ev X e σ s x) (k : x = y) : Ev X e σ s y := k ▸ h

theorem ev_var (i : Nat) {v : V} {x : α} {n : Str} (h : σ[i]? = some (some v)) (r : rep X.K s.F v x) (hN : X.N[i]? = some n := by rfl) (hv : Vis X.env.scope n := by first | exact Or.inl rfl | exact Or.inr (Or.inl rfl) | exact Or.inr (Or.inr rfl)) (hd : (n == ("__debug__" : Str)) = false := by decide)
    (hcd : (n == ("__classdict__" : Str)) = false := by decide) : Ev X (.Name n pos) σ s x := fun s1 k Q q => we_of (pe_var hN hv hd hcd) ⟨v, h, q v s1 (Ex.refl _) (Enc.mono k.f r)⟩
theorem ev_varR (i : Nat) {p : Addr} {xs : List α} {n : Str} (h : σ[i]? = some (some (.ref p))) (r : Own X.K s p xs) (hN : X.N[i]? = some n := by rfl) (hv : Vis X.env.scope n := by first | exact Or.inl rfl | exact Or.inr (Or.inl rfl) | exact Or.inr (Or.inr rfl)) (hd : (n == ("__debug__" : Str)) = false := by decide)
    (hcd : (n == ("__classdict__" : Str)) = false := by decide) : EvR X (.Name n pos) σ s xs := fun s1 k Q q => we_of (pe_var hN hv hd hcd) ⟨_, h, q _ s1 (Ex.refl _) (r.ex k).r⟩
theorem ev_int {i : Int} {j} : Ev X (.Constant (.int i) j pos) σ s i := fun s1 k Q q => we_of pe_int (q _ s1 (Ex.refl _) rfl)
theorem ev_bl {i : Bool} {j} : Ev X (.Constant (.bool i) j pos) σ s i := fun s1 k Q q => we_of pe_bl (q _ s1 (Ex.refl _) rfl)
theorem ev_str {i : Str} {j} : Ev X (.Constant (.str i) j pos) σ s i := fun s1 k Q q => we_of pe_str (q _ s1 (Ex.refl _) rfl)
theorem ev_non {j} : Ev X (.Constant .none j pos) σ s () := fun s1 k Q q => we_of pe_non (q _ s1 (Ex.refl _) rfl)
theorem ev_nonO {j} : Ev X (.Constant .none j pos) σ s (none : Option α) := fun s1 k Q q => we_of pe_non (q _ s1 (Ex.refl _) rfl)
theorem ev_some {x : α} (h : Ev X e σ s x) : Ev X e σ s (some x) := h
theorem ev_glob {n : Str} {x : α} (h : ∃ v u, X.mg n = some u ∧ RelV v u ∧ ∀ F, rep X.K F v x) (hg : Gl X n := by rfl) (hd : (n == ("__debug__" : Str)) = false := by decide) : Ev X (.Name n pos) σ s x := fun s1 k Q q => by
  obtain ⟨v, u, h1, h2, h3⟩ := h
  exact we_of (pe_glob hg h1 h2 hd) (q v s1 (Ex.refl _) (h3 _))

theorem ev_op {op : Operator} {r : R2} {x : α} {y : β} {z : γ} (ho : OpR X (binaryOp op) r) (ha : Ev X a σ s x) (hb : Ev X b σ s y)
    (hr : ∀ v u s2, rep X.K s2.F v x → rep X.K s2.F u y → ∀ Q : VK, (∀ v' s3, Ex s2 s3 → rep X.K s3.F v' z → Q v' s3.H) → r v u s2.H Q) : Ev X (.BinOp a op b pos) σ s z := fun s1 k Q q =>
  we_of (pe_op ho pe_we pe_we) (ha s1 k _ fun v s2 k2 r2 => hb s2 (k.trans k2) _ fun u s3 k3 r3 => hr v u s3 (Enc.mono k3.f r2) r3 Q fun w s4 k4 r4 => q w s4 ((k2.trans k3).trans k4) r4)
theorem ev_I0 {op : Operator} {g : Int → Int → V} {x y : Int} {z : γ} (ho : OpR X (binaryOp op) (rI0 g)) (ha : Ev X a σ s x) (hb : Ev X b σ s y) (hz : ∀ K F, rep K F (g x y) z) : Ev X (.BinOp a op b pos) σ s z :=
  ev_op ho ha hb fun v u s2 hv hu Q q => ⟨x, y, hv, hu, q _ s2 (Ex.refl _) (hz _ _)⟩
theorem ev_I {op : Operator} {C : Int → Int → Prop} {g : Int → Int → V} {x y : Int} {z : γ} (ho : OpR X (binaryOp op) (rI C g)) (ha : Ev X a σ s x) (hb : Ev X b σ s y) (hc : C x y) (hz : ∀ K F, rep K F (g x y) z) : Ev X (.BinOp a op b pos) σ s z :=
  ev_op ho ha hb fun v u s2 hv hu Q q => ⟨x, y, hv, hu, hc, q _ s2 (Ex.refl _) (hz _ _)⟩
theorem ev_add {x y : Int} (ha : Ev X a σ s x) (hb : Ev X b σ s y) : Ev X (.BinOp a .Add b pos) σ s (x + y) := ev_I0 op_add ha hb fun _ _ => rfl
theorem ev_sub {x y : Int} (ha : Ev X a σ s x) (hb : Ev X b σ s y) : Ev X (.BinOp a .Sub b pos) σ s (x - y) := ev_I0 op_sub ha hb fun _ _ => rfl
def MulOk (x y : Int) : Prop := CMul x y ∨ CMulW x y
theorem ev_mul {x y : Int} (ha : Ev X a σ s x) (hb : Ev X b σ s y) (hc : MulOk x y) : Ev X (.BinOp a .Mult b pos) σ s (x * y) := by
  rcases hc with hc | hc
  · exact ev_I op_mul ha hb hc fun _ _ => rfl
  · exact ev_I op_mulW ha hb hc fun _ _ => rfl
theorem ev_mod {x y : Int} (ha : Ev X a σ s x) (hb : Ev X b σ s y) (hc : 0 < y) : Ev X (.BinOp a .Mod b pos) σ s (x % y) := ev_I op_mod ha hb hc fun _ _ => rfl
def DivOk (y : Int) : Prop := 0 < y ∧ y.natAbs.log2 < 9000
theorem ev_div {x y : Int} (ha : Ev X a σ s x) (hb : Ev X b σ s y) (hc : DivOk y) : Ev X (.BinOp a .FloorDiv b pos) σ s (x / y) := ev_I op_fdivW ha hb hc fun _ _ => rfl
theorem ev_pow {x y : Int} (ha : Ev X a σ s x) (hb : Ev X b σ s y) (hc : CPow x y) : Ev X (.BinOp a .Pow b pos) σ s (x ^ y.toNat) := ev_I op_pow ha hb hc fun _ _ => rfl
theorem ev_adds {x y : Str} (ha : Ev X a σ s x) (hb : Ev X b σ s y) (hc : x.length + y.length ≤ sizeLine) : Ev X (.BinOp a .Add b pos) σ s (x ++ y) :=
  ev_op op_add_str ha hb fun v u s2 hv hu Q q => ⟨x, y, hv, hu, hc, q _ s2 (Ex.refl _) rfl⟩
theorem ev_neg {x : Int} (ha : Ev X a σ s x) : Ev X (.UnaryOp .USub a pos) σ s (-x) := fun s1 k Q q =>
  we_of (pe_un un_neg pe_we) (ha s1 k _ fun v s2 k2 r2 => ⟨x, r2, q _ s2 k2 rfl⟩)

theorem atI_rep {K : PySem.W.Frag} {F : Hp} {vs : List V} {xs : List α} {i : Int} {x : α} (r : Reps K F vs xs) (h : atI xs i = some x) : ∃ v, atI vs i = some v ∧ rep K F v x := by
  unfold atI at h ⊢
  rw [r.len]
  cases hj : ixN xs.length i with
  | none => rw [hj] at h; cases h
  | some j =>
    rw [hj] at h
    obtain ⟨v, h1, h2⟩ := r.get (i := j) h
    exact ⟨v, h1, h2⟩
theorem ev_ix {xs : List α} {i : Int} {x : α} (ha : EvR X a σ s xs) (hb : Ev X b σ s i) (h : atI xs i = some x) (hp : PlainIx b := by intro _ _; rfl) : Ev X (.Subscript a b pos) σ s x := fun s1 k Q q =>
  we_of (pe_ix ix_list pe_we pe_we hp) (ha s1 k _ fun v s2 k2 r2 => hb s2 (k.trans k2) _ fun u s3 k3 r3 => by
    obtain ⟨p, vs, rfl, h1, h2⟩ := r2.ex k3
    obtain ⟨w, h3, h4⟩ := atI_rep h2 h
    exact ⟨p, vs, i, w, rfl, r3, h1, h3, q w s3 (k2.trans k3) h4⟩)
theorem ev_ixT {xs : Tu α} {i : Int} {x : α} (ha : Ev X a σ s xs) (hb : Ev X b σ s i) (h : atI xs.l i = some x) (hp : PlainIx b := by intro _ _; rfl) : Ev X (.Subscript a b pos) σ s x := fun s1 k Q q =>
  we_of (pe_ix ix_tup pe_we pe_we hp) (ha s1 k _ fun v s2 k2 r2 => hb s2 (k.trans k2) _ fun u s3 k3 r3 => by
    obtain ⟨p, vs, rfl, h1, h2⟩ := Enc.mono (α := Tu α) k3.f r2
    obtain ⟨w, h3, h4⟩ := atI_rep h2 h
    exact ⟨p, vs, i, w, rfl, r3, sqt_mono s3.sub h1, h3, q w s3 (k2.trans k3) h4⟩)
theorem ev_ixP {x : β} {i : Int} {y : α} (ha : Ev X a σ s x) (hb : Ev X b σ s i) (h : ∀ {F : Hp} {v : V}, rep X.K F v x → ∃ p vs w, v = .ref p ∧ SqT X.K F p vs ∧ atI vs i = some w ∧ rep X.K F w y) (hp : PlainIx b := by intro _ _; rfl) : Ev X (.Subscript a b pos) σ s y := fun s1 k Q q =>
  we_of (pe_ix ix_tup pe_we pe_we hp) (ha s1 k _ fun v s2 k2 r2 => hb s2 (k.trans k2) _ fun u s3 k3 r3 => by
    obtain ⟨p, vs, w, rfl, h1, h2, h3⟩ := h (Enc.mono k3.f r2)
    exact ⟨p, vs, i, w, rfl, r3, sqt_mono s3.sub h1, h2, q w s3 (k2.trans k3) h3⟩)
theorem p2_0 {K : PySem.W.Frag} {x : α × β} {F : Hp} {v : V} (h : rep K F v x) : ∃ p vs w, v = .ref p ∧ SqT K F p vs ∧ atI vs 0 = some w ∧ rep K F w x.1 := by
  obtain ⟨p, v1, v2, rfl, h0, h1, h2⟩ := h
  exact ⟨p, _, v1, rfl, h0, rfl, h1⟩
theorem p2_1 {K : PySem.W.Frag} {x : α × β} {F : Hp} {v : V} (h : rep K F v x) : ∃ p vs w, v = .ref p ∧ SqT K F p vs ∧ atI vs 1 = some w ∧ rep K F w x.2 := by
  obtain ⟨p, v1, v2, rfl, h0, h1, h2⟩ := h
  exact ⟨p, _, v2, rfl, h0, rfl, h2⟩
theorem p3_0 {K : PySem.W.Frag} {x : T3 α β γ} {F : Hp} {v : V} (h : rep K F v x) : ∃ p vs w, v = .ref p ∧ SqT K F p vs ∧ atI vs 0 = some w ∧ rep K F w x.a := by
  obtain ⟨p, v1, v2, v3, rfl, h0, h1, h2, h3⟩ := h
  exact ⟨p, _, v1, rfl, h0, rfl, h1⟩
theorem p3_1 {K : PySem.W.Frag} {x : T3 α β γ} {F : Hp} {v : V} (h : rep K F v x) : ∃ p vs w, v = .ref p ∧ SqT K F p vs ∧ atI vs 1 = some w ∧ rep K F w x.b := by
  obtain ⟨p, v1, v2, v3, rfl, h0, h1, h2, h3⟩ := h
  exact ⟨p, _, v2, rfl, h0, rfl, h2⟩
theorem p3_2 {K : PySem.W.Frag} {x : T3 α β γ} {F : Hp} {v : V} (h : rep K F v x) : ∃ p vs w, v = .ref p ∧ SqT K F p vs ∧ atI vs 2 = some w ∧ rep K F w x.c := by
  obtain ⟨p, v1, v2, v3, rfl, h0, h1, h2, h3⟩ := h
  exact ⟨p, _, v3, rfl, h0, rfl, h3⟩
def sgn (x : Str) (i : Int) : Option Str := if x.length ≤ sizeLine then (atI x.cps.toList i).map fun c => ⟨#[c]⟩ else none
theorem ev_ixS {x : Str} {i : Int} {y : Str} (ha : Ev X a σ s x) (hb : Ev X b σ s i) (h : sgn x i = some y) (hp : PlainIx b := by intro _ _; rfl) : Ev X (.Subscript a b pos) σ s y := fun s1 k Q q =>
  we_of (pe_ix ix_str pe_we pe_we hp) (ha s1 k _ fun v s2 k2 r2 => hb s2 (k.trans k2) _ fun u s3 k3 r3 => by
    unfold sgn at h
    split at h
    · rename_i hz
      obtain ⟨c, h1, h2⟩ := Option.map_eq_some_iff.mp h
      exact ⟨x, i, c, r2, r3, hz, h1, q _ s3 (k2.trans k3) (by rw [h2]; rfl)⟩
    · cases h)
end
end Dy

namespace Dy
open PySem PySem.Spec L2
open PyProof.Rows hiding St
open Enc (rep)
open Flat (toV)
open EncA (repA)

section
variable {α β γ δ : Type} [Enc α] [Enc β] [Enc γ] [Enc δ] {X : Cx} {σ : St} {s t : S} {e a b c : Expr} {es : List Expr} {pos p0 p1 p2 p3 : Pos}

theorem et_v {x : Bool} (h : Ev X e σ s x) (he : ∀ whole, isTrue e X.env whole = (do let v ← whole; standAt e.pos; holding [v] (truthy v)) := by intro _; rfl) : EvT X e σ s x := fun s1 k Q q =>
  wt_of (pt_val pe_we he) (h s1 k _ fun v s2 k2 r => ⟨x, r, q s2 k2⟩)
theorem eb_v {x : Bool} (h : Ev X e σ s x) (he : ∀ whole, isTrue e X.env whole = (do let v ← whole; standAt e.pos; holding [v] (truthy v)) := by intro _; rfl) : EvB X e σ s x := ⟨h, et_v h he⟩
theorem EvW.tt {x : Bool} (h : EvW X e σ s x) : EvT X e σ s x := fun s1 k Q q => wt_of pw_ww.pt (h s1 k Q q)
theorem EvC.bb {x : Bool} (h : EvC X e σ s x) : EvB X e σ s x := ⟨h.v, h.w.tt⟩
theorem EvB.cast {x y : Bool} (h : EvB X e σ s x) (k : x = y) : EvB X e σ s y := k ▸ h
theorem ec_and1 {x : Bool} (h : EvB X a σ s x) : EvC X (.BoolOp .And [a] pos) σ s x :=
  ⟨fun s1 k Q q => we_of (pe_one pe_we) (h.v s1 k Q q), fun s1 k Q q => ww_of (pw_and1 pt_wt) (h.t s1 k Q q)⟩
theorem ec_or1 {x : Bool} (h : EvB X a σ s x) : EvC X (.BoolOp .Or [a] pos) σ s x :=
  ⟨fun s1 k Q q => we_of (pe_one pe_we) (h.v s1 k Q q), fun s1 k Q q => ww_of (pw_or1 pt_wt) (h.t s1 k Q q)⟩
theorem ec_and {x y : Bool} (h : EvB X a σ s x) (h2 : x = true → EvC X (.BoolOp .And (b :: es) pos) σ s y) : EvC X (.BoolOp .And (a :: b :: es) pos) σ s (x && y) :=
  ⟨fun s1 k Q q => we_of (pe_and pe_we pe_we) (h.v s1 k _ fun v s2 k2 r => ⟨x, r, by
    cases x with
    | true => exact iteT ((h2 rfl).v s2 (k.trans k2) Q fun v s3 k3 r3 => q v s3 (k2.trans k3) r3)
    | false => exact iteF (q _ s2 k2 rfl)⟩),
   fun s1 k Q q => ww_of (pw_and pt_wt pw_ww) (h.t s1 k _ fun s2 k2 => by
    cases x with
    | true => exact iteT ((h2 rfl).w s2 (k.trans k2) Q fun s3 k3 => q s3 (k2.trans k3))
    | false => exact iteF (q s2 k2))⟩
theorem ec_or {x y : Bool} (h : EvB X a σ s x) (h2 : x = false → EvC X (.BoolOp .Or (b :: es) pos) σ s y) : EvC X (.BoolOp .Or (a :: b :: es) pos) σ s (x || y) :=
  ⟨fun s1 k Q q => we_of (pe_or pe_we pe_we) (h.v s1 k _ fun v s2 k2 r => ⟨x, r, by
    cases x with
    | true => exact iteT (q _ s2 k2 rfl)
    | false => exact iteF ((h2 rfl).v s2 (k.trans k2) Q fun v s3 k3 r3 => q v s3 (k2.trans k3) r3)⟩),
   fun s1 k Q q => ww_of (pw_or pt_wt pw_ww) (h.t s1 k _ fun s2 k2 => by
    cases x with
    | true => exact iteT (q s2 k2)
    | false => exact iteF ((h2 rfl).w s2 (k.trans k2) Q fun s3 k3 => q s3 (k2.trans k3)))⟩
theorem eb_not {x : Bool} (h : EvB X a σ s x) : EvB X (.UnaryOp .Not a pos) σ s (!x) :=
  ⟨fun s1 k Q q => we_of (pe_not pe_we) (h.v s1 k _ fun v s2 k2 r => ⟨x, r, q _ s2 k2 rfl⟩), fun s1 k Q q => wt_of (pt_not pt_wt) (h.t s1 k _ fun s2 k2 => q s2 k2)⟩
theorem ev_ifE {x : Bool} {y z : α} (h : EvT X c σ s x) (h1 : x = true → Ev X a σ s y) (h2 : x = false → Ev X b σ s z) : Ev X (.IfExp c a b pos) σ s (if x = true then y else z) := fun s1 k Q q =>
  we_of (pe_ifExp pt_wt pe_we pe_we) (h s1 k _ fun s2 k2 => by
    cases x with
    | true => exact iteT (h1 rfl s2 (k.trans k2) Q fun v s3 k3 r => q v s3 (k2.trans k3) r)
    | false => exact iteF (h2 rfl s2 (k.trans k2) Q fun v s3 k3 r => q v s3 (k2.trans k3) r))

theorem eb_cmp {op : CmpOp} {r : R2} {x : α} {y : β} {z : Bool} (ho : OpR X (compareOp op) r) (ha : Ev X a σ s x) (hb : Ev X b σ s y)
    (hr : ∀ (v u : V) (s2 : S), rep X.K s2.F v x → rep X.K s2.F u y → ∀ Q : VK, Q (.bl z) s2.H → r v u s2.H Q) (hm : behindInMarks op b = false) : EvB X (.Compare a [op] [b] pos) σ s z :=
  ⟨fun s1 k Q q => we_of (pe_cmpR ho pe_we pe_we hm) (ha s1 k _ fun v s2 k2 r2 => hb s2 (k.trans k2) _ fun u s3 k3 r3 => hr v u s3 (Enc.mono k3.f r2) r3 Q (q _ s3 (k2.trans k3) rfl)),
   fun s1 k Q q => wt_of (pt_cmpR ho pe_we pe_we hm) (ha s1 k _ fun v s2 k2 r2 => hb s2 (k.trans k2) _ fun u s3 k3 r3 => hr v u s3 (Enc.mono k3.f r2) r3 _ ⟨z, rfl, q s3 (k2.trans k3)⟩)⟩
theorem eb_cmpR {op : CmpOp} {r : R2} {x : α} {ys : List β} {z : Bool} (ho : OpR X (compareOp op) r) (ha : Ev X a σ s x) (hb : EvR X b σ s ys)
    (hr : ∀ (v u : V) (s2 : S), rep X.K s2.F v x → RepR X.K s2 u ys → ∀ Q : VK, Q (.bl z) s2.H → r v u s2.H Q) (hm : behindInMarks op b = false) : EvB X (.Compare a [op] [b] pos) σ s z :=
  ⟨fun s1 k Q q => we_of (pe_cmpR ho pe_we pe_we hm) (ha s1 k _ fun v s2 k2 r2 => hb s2 (k.trans k2) _ fun u s3 k3 r3 => hr v u s3 (Enc.mono k3.f r2) r3 Q (q _ s3 (k2.trans k3) rfl)),
   fun s1 k Q q => wt_of (pt_cmpR ho pe_we pe_we hm) (ha s1 k _ fun v s2 k2 r2 => hb s2 (k.trans k2) _ fun u s3 k3 r3 => hr v u s3 (Enc.mono k3.f r2) r3 _ ⟨z, rfl, q s3 (k2.trans k3)⟩)⟩
theorem eb_cmpRR {op : CmpOp} {r : R2} {xs : List α} {ys : List β} {z : Bool} (ho : OpR X (compareOp op) r) (ha : EvR X a σ s xs) (hb : EvR X b σ s ys)
    (hr : ∀ (v u : V) (s2 : S), RepR X.K s2 v xs → RepR X.K s2 u ys → ∀ Q : VK, Q (.bl z) s2.H → r v u s2.H Q) (hm : behindInMarks op b = false) : EvB X (.Compare a [op] [b] pos) σ s z :=
  ⟨fun s1 k Q q => we_of (pe_cmpR ho pe_we pe_we hm) (ha s1 k _ fun v s2 k2 r2 => hb s2 (k.trans k2) _ fun u s3 k3 r3 => hr v u s3 (r2.ex k3) r3 Q (q _ s3 (k2.trans k3) rfl)),
   fun s1 k Q q => wt_of (pt_cmpR ho pe_we pe_we hm) (ha s1 k _ fun v s2 k2 r2 => hb s2 (k.trans k2) _ fun u s3 k3 r3 => hr v u s3 (r2.ex k3) r3 _ ⟨z, rfl, q s3 (k2.trans k3)⟩)⟩
theorem eb_I0 {op : CmpOp} {g : Int → Int → V} {x y : Int} {z : Bool} (ho : OpR X (compareOp op) (rI0 g)) (hg : g x y = .bl z) (hm : behindInMarks op b = false) (ha : Ev X a σ s x) (hb : Ev X b σ s y) : EvB X (.Compare a [op] [b] pos) σ s z :=
  eb_cmp ho ha hb (fun v u s2 hv hu Q q => ⟨x, y, hv, hu, by rw [hg]; exact q⟩) hm
theorem eb_lt {x y : Int} (ha : Ev X a σ s x) (hb : Ev X b σ s y) : EvB X (.Compare a [.Lt] [b] pos) σ s (decide (x < y)) := eb_I0 op_lt rfl (nomark _) ha hb
theorem eb_le {x y : Int} (ha : Ev X a σ s x) (hb : Ev X b σ s y) : EvB X (.Compare a [.LtE] [b] pos) σ s (decide (x ≤ y)) := eb_I0 op_le rfl (nomark _) ha hb
theorem eb_gt {x y : Int} (ha : Ev X a σ s x) (hb : Ev X b σ s y) : EvB X (.Compare a [.Gt] [b] pos) σ s (decide (y < x)) := eb_I0 op_gt rfl (nomark _) ha hb
theorem eb_ge {x y : Int} (ha : Ev X a σ s x) (hb : Ev X b σ s y) : EvB X (.Compare a [.GtE] [b] pos) σ s (decide (y ≤ x)) := eb_I0 op_ge rfl (nomark _) ha hb
class Eqs (α : Type) extends Flat α where
  sc : ∀ x y : α, scal (toV x) (toV y) = true
  ij : ∀ x y : α, toV x = toV y ↔ x = y
instance : Eqs Int := { sc := fun _ _ => rfl, ij := fun x y => by show V.int x = V.int y ↔ _; simp }
instance : Eqs Bool := { sc := fun _ _ => rfl, ij := fun x y => by show V.bl x = V.bl y ↔ _; simp }
instance : Eqs Str := { sc := fun _ _ => rfl, ij := fun x y => by show V.str x = V.str y ↔ _; simp }
theorem eb_eq {ε : Type} [Eqs ε] [DecidableEq ε] {x y : ε} (ha : Ev X a σ s x) (hb : Ev X b σ s y) : EvB X (.Compare a [.Eq] [b] pos) σ s (decide (x = y)) :=
  eb_cmp op_eq ha hb (fun v u s2 hv hu Q q => by
    rw [Flat.iff.mp hv, Flat.iff.mp hu]
    refine ⟨Eqs.sc x y, ?_⟩
    rw [show decide (toV x = toV y) = decide (x = y) from decide_eq_decide.mpr (Eqs.ij x y)]
    exact q) (nomark _)
theorem eb_ne {ε : Type} [Eqs ε] [DecidableEq ε] {x y : ε} (ha : Ev X a σ s x) (hb : Ev X b σ s y) : EvB X (.Compare a [.NotEq] [b] pos) σ s (!decide (x = y)) :=
  eb_cmp op_ne ha hb (fun v u s2 hv hu Q q => by
    rw [Flat.iff.mp hv, Flat.iff.mp hu]
    refine ⟨Eqs.sc x y, ?_⟩
    rw [show decide (toV x = toV y) = decide (x = y) from decide_eq_decide.mpr (Eqs.ij x y)]
    exact q) (nomark _)
theorem eb_isN {o : Type} [Opn o] {x : Option o} {j} (ha : Ev X a σ s x) : EvB X (.Compare a [.Is] [.Constant .none j p1] pos) σ s x.isNone :=
  eb_cmp op_isN ha ev_non (fun v u s2 hv hu Q q => by
    refine ⟨hu, ?_⟩
    have : decide (v = V.non) = x.isNone := by
      cases x with
      | none => cases (show v = V.non from hv); rfl
      | some y => exact decide_eq_false fun z => Opn.notNon (z ▸ (show rep X.K s2.F v y from hv))
    rw [this]; exact q) (nomark _)
theorem eb_notN {o : Type} [Opn o] {x : Option o} {j} (ha : Ev X a σ s x) : EvB X (.Compare a [.IsNot] [.Constant .none j p1] pos) σ s x.isSome :=
  eb_cmp op_notN ha ev_non (fun v u s2 hv hu Q q => by
    refine ⟨hu, ?_⟩
    have : (!decide (v = V.non)) = x.isSome := by
      cases x with
      | none => cases (show v = V.non from hv); rfl
      | some y => rw [decide_eq_false fun z => Opn.notNon (z ▸ (show rep X.K s2.F v y from hv))]; rfl
    rw [this]; exact q) (nomark _)
theorem eb_in {ε : Type} [Eqs ε] [DecidableEq ε] {x : ε} {xs : List ε} (ha : Ev X a σ s x) (hb : EvR X b σ s xs) (hm : behindInMarks .In b = false := by rfl) : EvB X (.Compare a [.In] [b] pos) σ s (decide (x ∈ xs)) :=
  eb_cmpR op_in_seq ha hb (fun v u s2 hv hu Q q => by
    obtain ⟨p, vs, rfl, h1, h2⟩ := hu
    rw [Flat.iff.mp hv]
    obtain rfl := h2.flat
    refine ⟨p, _, rfl, .inl h1, Flat.flat x, flat_all xs, ?_⟩
    rw [inV_flat]; exact q) hm
theorem eb_notIn {ε : Type} [Eqs ε] [DecidableEq ε] {x : ε} {xs : List ε} (ha : Ev X a σ s x) (hb : EvR X b σ s xs) (hm : behindInMarks .NotIn b = false := by rfl) : EvB X (.Compare a [.NotIn] [b] pos) σ s (!decide (x ∈ xs)) :=
  eb_cmpR op_notIn_seq ha hb (fun v u s2 hv hu Q q => by
    obtain ⟨p, vs, rfl, h1, h2⟩ := hu
    rw [Flat.iff.mp hv]
    obtain rfl := h2.flat
    refine ⟨p, _, rfl, .inl h1, Flat.flat x, flat_all xs, ?_⟩
    rw [inV_flat]; exact q) hm
theorem eb_inT {ε : Type} [Eqs ε] [DecidableEq ε] {x : ε} {xs : Tu ε} (ha : Ev X a σ s x) (hb : Ev X b σ s xs) (hm : behindInMarks .In b = false := by rfl) : EvB X (.Compare a [.In] [b] pos) σ s (decide (x ∈ xs.l)) :=
  eb_cmp op_in_seq ha hb (fun v u s2 hv hu Q q => by
    obtain ⟨p, vs, rfl, h1, h2⟩ := hu
    rw [Flat.iff.mp hv]
    obtain rfl := h2.flat
    refine ⟨p, _, rfl, .inr (sqt_mono s2.sub h1), Flat.flat x, flat_all xs.l, ?_⟩
    rw [inV_flat]; exact q) hm
theorem eb_notInT {ε : Type} [Eqs ε] [DecidableEq ε] {x : ε} {xs : Tu ε} (ha : Ev X a σ s x) (hb : Ev X b σ s xs) (hm : behindInMarks .NotIn b = false := by rfl) : EvB X (.Compare a [.NotIn] [b] pos) σ s (!decide (x ∈ xs.l)) :=
  eb_cmp op_notIn_seq ha hb (fun v u s2 hv hu Q q => by
    obtain ⟨p, vs, rfl, h1, h2⟩ := hu
    rw [Flat.iff.mp hv]
    obtain rfl := h2.flat
    refine ⟨p, _, rfl, .inr (sqt_mono s2.sub h1), Flat.flat x, flat_all xs.l, ?_⟩
    rw [inV_flat]; exact q) hm
def inS (x y : Str) : Bool := !(Builtin.Str.occurrences y x 0 y.length 1).isEmpty
theorem eb_inS {x y : Str} (ha : Ev X a σ s x) (hb : Ev X b σ s y) (hm : behindInMarks .In b = false := by rfl) : EvB X (.Compare a [.In] [b] pos) σ s (inS x y) :=
  eb_cmp op_in_str ha hb (fun v u s2 hv hu Q q => ⟨x, y, hv, hu, q⟩) hm
theorem eb_notInS {x y : Str} (ha : Ev X a σ s x) (hb : Ev X b σ s y) (hm : behindInMarks .NotIn b = false := by rfl) : EvB X (.Compare a [.NotIn] [b] pos) σ s (!inS x y) :=
  eb_cmp op_notIn_str ha hb (fun v u s2 hv hu Q q => ⟨x, y, hv, hu, q⟩) hm
theorem eb_chain {op op' : CmpOp} {g g' : Int → Int → V} {x y z : Int} {k1 k2 : Bool} (ho : OpR X (compareOp op) (rI0 g)) (hg : g x y = .bl k1) (ho' : OpR X (compareOp op') (rI0 g')) (hg' : g' y z = .bl k2) (ha : Ev X a σ s x) (hb : Ev X b σ s y) (hc : Ev X c σ s z)
    (hm : lastMarks [op, op'] [b, c] = false := by with_unfolding_all rfl) : EvB X (.Compare a [op, op'] [b, c] pos) σ s (k1 && k2) :=
  ⟨fun s1 k Q q => we_of (pe_chain ho ho' pe_we pe_we pe_we hm) (ha s1 k _ fun v s2 j2 r2 => hb s2 (k.trans j2) _ fun u s3 j3 r3 => ⟨x, y, r2, r3, k1, hg, by
    cases k1 with
    | true => exact iteT (hc s3 ((k.trans j2).trans j3) _ fun w s4 j4 r4 => ⟨y, z, r3, r4, by rw [hg']; exact q _ s4 ((j2.trans j3).trans j4) rfl⟩)
    | false => exact iteF (q _ s3 (j2.trans j3) rfl)⟩),
   fun s1 k Q q => wt_of (pt_chain ho ho' pe_we pe_we pe_we hm) (ha s1 k _ fun v s2 j2 r2 => hb s2 (k.trans j2) _ fun u s3 j3 r3 => ⟨x, y, r2, r3, k1, hg, by
    cases k1 with
    | true => exact iteT (hc s3 ((k.trans j2).trans j3) _ fun w s4 j4 r4 => ⟨y, z, r3, r4, by rw [hg']; exact ⟨_, rfl, q s4 ((j2.trans j3).trans j4)⟩⟩)
    | false => exact iteF ⟨_, rfl, q s3 (j2.trans j3)⟩⟩)⟩

theorem ea_nil : EvA X [] σ s () := fun s1 k Q q => wa_of pa_nil (q [] s1 (Ex.refl _) rfl)
theorem ea_cons {A : Type} [EncA A] {x : α} {r : A} (h : Ev X e σ s x) (hr : EvA X es σ s r) (hs : starEach (e :: es) X.env = (false, eval e X.env) :: starEach es X.env := by rfl) : EvA X (e :: es) σ s (x, r) := fun s1 k Q q =>
  wa_of (pa_cons pe_we pa_wa hs) (h s1 k _ fun v s2 k2 r2 => hr s2 (k.trans k2) _ fun vs s3 k3 r3 => q _ s3 (k2.trans k3) ⟨v, vs, rfl, Enc.mono k3.f r2, r3⟩)
theorem ev_B1 {id : String} {n : Str} {r : List V → Hp → VK → Prop} {x : β} {y : α} (hc : CallR X (.builtin id) r) (hg : Gl X n) (hm : X.mg n = none) (hv : bootBuiltins n = some (.builtin id)) (ha : Ev X e σ s x)
    (hr : ∀ (v : V) (s2 : S), rep X.K s2.F v x → ∀ Q : VK, (∀ w s3, Ex s2 s3 → rep X.K s3.F w y → Q w s3.H) → r [v] s2.H Q) (hn : n ≠ "__name__" := by decide) (hdb : (n == ("__debug__" : Str)) = false := by decide)
    (he : starEach [e] X.env = (false, eval e X.env) :: starEach [] X.env := by rfl) (hpl : (backTo pos (starEach [] X.env)).any (·.1) = false := by rfl) : Ev X (.Call (.Name n p0) [e] [] pos) σ s y := fun s1 k Q q =>
  we_of (pe_callB hc hg hm hv (pa_cons pe_we pa_nil he) hn hdb he hpl) (ha s1 k _ fun v s2 k2 r2 => hr v s2 r2 Q fun w s3 k3 r3 => q w s3 (k2.trans k3) r3)
theorem ev_BR {id : String} {n : Str} {r : List V → Hp → VK → Prop} {xs : List β} {y : α} (hc : CallR X (.builtin id) r) (hg : Gl X n) (hm : X.mg n = none) (hv : bootBuiltins n = some (.builtin id)) (ha : EvR X e σ s xs)
    (hr : ∀ (v : V) (s2 : S), RepR X.K s2 v xs → ∀ Q : VK, (∀ w s3, Ex s2 s3 → rep X.K s3.F w y → Q w s3.H) → r [v] s2.H Q) (hn : n ≠ "__name__" := by decide) (hdb : (n == ("__debug__" : Str)) = false := by decide)
    (he : starEach [e] X.env = (false, eval e X.env) :: starEach [] X.env := by rfl) (hpl : (backTo pos (starEach [] X.env)).any (·.1) = false := by rfl) : Ev X (.Call (.Name n p0) [e] [] pos) σ s y := fun s1 k Q q =>
  we_of (pe_callB hc hg hm hv (pa_cons pe_we pa_nil he) hn hdb he hpl) (ha s1 k _ fun v s2 k2 r2 => hr v s2 r2 Q fun w s3 k3 r3 => q w s3 (k2.trans k3) r3)
theorem ev_len {xs : List β} (hm : X.mg "len" = none) (ha : EvR X e σ s xs) (hg : Gl X "len" := by rfl) (he : starEach [e] X.env = (false, eval e X.env) :: starEach [] X.env := by rfl) (hpl : (backTo pos (starEach [] X.env)).any (·.1) = false := by rfl) : Ev X (.Call (.Name "len" p0) [e] [] pos) σ s (xs.length : Int) :=
  ev_BR call_len_seq hg hm boot_len ha (fun v s2 r2 Q q => by
    obtain ⟨p, vs, rfl, h1, h2⟩ := r2
    exact ⟨p, vs, rfl, .inl h1, q _ s2 (Ex.refl _) (by rw [h2.len]; rfl)⟩) (he := he) (hpl := hpl)
theorem ev_lenT {xs : Tu β} (hm : X.mg "len" = none) (ha : Ev X e σ s xs) (hg : Gl X "len" := by rfl) (he : starEach [e] X.env = (false, eval e X.env) :: starEach [] X.env := by rfl) (hpl : (backTo pos (starEach [] X.env)).any (·.1) = false := by rfl) : Ev X (.Call (.Name "len" p0) [e] [] pos) σ s (xs.l.length : Int) :=
  ev_B1 call_len_seq hg hm boot_len ha (fun v s2 r2 Q q => by
    obtain ⟨p, vs, rfl, h1, h2⟩ := r2
    exact ⟨p, vs, rfl, .inr (sqt_mono s2.sub h1), q _ s2 (Ex.refl _) (by rw [h2.len]; rfl)⟩) (he := he) (hpl := hpl)
theorem ev_lenS {x : Str} (hm : X.mg "len" = none) (hz : x.length ≤ sizeLine) (ha : Ev X e σ s x) (hg : Gl X "len" := by rfl) (he : starEach [e] X.env = (false, eval e X.env) :: starEach [] X.env := by rfl) (hpl : (backTo pos (starEach [] X.env)).any (·.1) = false := by rfl) : Ev X (.Call (.Name "len" p0) [e] [] pos) σ s (x.length : Int) :=
  ev_B1 call_len_str hg hm boot_len ha (fun v s2 r2 Q q => ⟨x, by rw [show v = V.str x from r2], hz, q _ s2 (Ex.refl _) rfl⟩) (he := he) (hpl := hpl)
theorem ev_sum {xs : List Int} (hm : X.mg "sum" = none) (ha : EvR X e σ s xs) (hc : X.calm = true := by rfl) (hg : Gl X "sum" := by rfl) (he : starEach [e] X.env = (false, eval e X.env) :: starEach [] X.env := by rfl) (hpl : (backTo pos (starEach [] X.env)).any (·.1) = false := by rfl) : Ev X (.Call (.Name "sum" p0) [e] [] pos) σ s xs.sum :=
  ev_BR (cr_sum hc) hg hm (by decide +kernel) ha (fun v s2 r2 Q q => by
    obtain ⟨p, vs, rfl, h1, h2⟩ := r2
    rw [h2.flat] at h1
    exact ⟨p, xs, rfl, h1, q _ s2 (Ex.refl _) rfl⟩) (he := he) (hpl := hpl)
theorem ev_all {xs : List Bool} (hm : X.mg "all" = none) (ha : EvR X e σ s xs) (hc : X.calm = true := by rfl) (hg : Gl X "all" := by rfl) (he : starEach [e] X.env = (false, eval e X.env) :: starEach [] X.env := by rfl) (hpl : (backTo pos (starEach [] X.env)).any (·.1) = false := by rfl) : Ev X (.Call (.Name "all" p0) [e] [] pos) σ s (xs.all id) :=
  ev_BR (cr_all hc) hg hm (by decide +kernel) ha (fun v s2 r2 Q q => by
    obtain ⟨p, vs, rfl, h1, h2⟩ := r2
    rw [h2.flat] at h1
    exact ⟨p, xs, rfl, h1, q _ s2 (Ex.refl _) rfl⟩) (he := he) (hpl := hpl)
theorem ev_any {xs : List Bool} (hm : X.mg "any" = none) (ha : EvR X e σ s xs) (hc : X.calm = true := by rfl) (hg : Gl X "any" := by rfl) (he : starEach [e] X.env = (false, eval e X.env) :: starEach [] X.env := by rfl) (hpl : (backTo pos (starEach [] X.env)).any (·.1) = false := by rfl) : Ev X (.Call (.Name "any" p0) [e] [] pos) σ s (xs.any id) :=
  ev_BR (cr_any hc) hg hm (by decide +kernel) ha (fun v s2 r2 Q q => by
    obtain ⟨p, vs, rfl, h1, h2⟩ := r2
    rw [h2.flat] at h1
    exact ⟨p, xs, rfl, h1, q _ s2 (Ex.refl _) rfl⟩) (he := he) (hpl := hpl)
def minL : List Int → Option Int
  | [] => none
  | x :: xs => some (xs.foldl min x)
def maxL : List Int → Option Int
  | [] => none
  | x :: xs => some (xs.foldl max x)
theorem foldl_min (xs : List Int) : ∀ x : Int, (xs.foldl min x ∈ x :: xs) ∧ ∀ y ∈ x :: xs, xs.foldl min x ≤ y := by
  induction xs with
  | nil => intro x; exact ⟨by simp, fun y hy => by simp at hy; simp [hy]⟩
  | cons a r ih =>
    intro x
    obtain ⟨h1, h2⟩ := ih (min x a)
    refine ⟨?_, fun y hy => ?_⟩
    · rw [List.foldl_cons]
      rcases List.mem_cons.mp h1 with h | h
      · rw [h]
        by_cases hx : x ≤ a
        · rw [Int.min_eq_left hx]; exact List.mem_cons_self
        · rw [Int.min_eq_right (by omega)]; exact List.mem_cons_of_mem _ List.mem_cons_self
      · exact List.mem_cons_of_mem _ (List.mem_cons_of_mem _ h)
    · rw [List.foldl_cons]
      have h3 := h2 (min x a) List.mem_cons_self
      rcases List.mem_cons.mp hy with rfl | hy
      · exact Int.le_trans h3 (Int.min_le_left _ _)
      · rcases List.mem_cons.mp hy with rfl | hy
        · exact Int.le_trans h3 (Int.min_le_right _ _)
        · exact h2 y (List.mem_cons_of_mem _ hy)
theorem foldl_max (xs : List Int) : ∀ x : Int, (xs.foldl max x ∈ x :: xs) ∧ ∀ y ∈ x :: xs, y ≤ xs.foldl max x := by
  induction xs with
  | nil => intro x; exact ⟨by simp, fun y hy => by simp at hy; simp [hy]⟩
  | cons a r ih =>
    intro x
    obtain ⟨h1, h2⟩ := ih (max x a)
    refine ⟨?_, fun y hy => ?_⟩
    · rw [List.foldl_cons]
      rcases List.mem_cons.mp h1 with h | h
      · rw [h]
        by_cases hx : a ≤ x
        · rw [Int.max_eq_left hx]; exact List.mem_cons_self
        · rw [Int.max_eq_right (by omega)]; exact List.mem_cons_of_mem _ List.mem_cons_self
      · exact List.mem_cons_of_mem _ (List.mem_cons_of_mem _ h)
    · rw [List.foldl_cons]
      have h3 := h2 (max x a) List.mem_cons_self
      rcases List.mem_cons.mp hy with rfl | hy
      · exact Int.le_trans (Int.le_max_left _ _) h3
      · rcases List.mem_cons.mp hy with rfl | hy
        · exact Int.le_trans (Int.le_max_right _ _) h3
        · exact h2 y (List.mem_cons_of_mem _ hy)
theorem minL_of {xs : List Int} {m : Int} (h1 : m ∈ xs) (h2 : ∀ y ∈ xs, m ≤ y) : minL xs = some m := by
  cases xs with
  | nil => simp at h1
  | cons x r =>
    obtain ⟨h3, h4⟩ := foldl_min r x
    exact congrArg some (Int.le_antisymm (h4 m h1) (h2 _ h3))
theorem maxL_of {xs : List Int} {m : Int} (h1 : m ∈ xs) (h2 : ∀ y ∈ xs, y ≤ m) : maxL xs = some m := by
  cases xs with
  | nil => simp at h1
  | cons x r =>
    obtain ⟨h3, h4⟩ := foldl_max r x
    exact congrArg some (Int.le_antisymm (h2 _ h3) (h4 m h1))
theorem ev_min {xs : List Int} {m : Int} (hm : X.mg "min" = none) (ha : EvR X e σ s xs) (h : minL xs = some m) (hc : X.calm = true := by rfl) (hg : Gl X "min" := by rfl) (he : starEach [e] X.env = (false, eval e X.env) :: starEach [] X.env := by rfl) (hpl : (backTo pos (starEach [] X.env)).any (·.1) = false := by rfl) : Ev X (.Call (.Name "min" p0) [e] [] pos) σ s m :=
  ev_BR (cr_min hc) hg hm (by decide +kernel) ha (fun v s2 r2 Q q => by
    obtain ⟨p, vs, rfl, h1, h2⟩ := r2
    rw [h2.flat] at h1
    refine ⟨p, xs, rfl, h1, ?_, fun z hz1 hz2 => ?_⟩
    · cases xs with
      | nil => cases h
      | cons _ _ => exact Nat.succ_pos _
    · rw [minL_of hz1 hz2] at h
      cases h
      exact q _ s2 (Ex.refl _) rfl) (he := he) (hpl := hpl)
theorem ev_max {xs : List Int} {m : Int} (hm : X.mg "max" = none) (ha : EvR X e σ s xs) (h : maxL xs = some m) (hc : X.calm = true := by rfl) (hg : Gl X "max" := by rfl) (he : starEach [e] X.env = (false, eval e X.env) :: starEach [] X.env := by rfl) (hpl : (backTo pos (starEach [] X.env)).any (·.1) = false := by rfl) : Ev X (.Call (.Name "max" p0) [e] [] pos) σ s m :=
  ev_BR (cr_max hc) hg hm (by decide +kernel) ha (fun v s2 r2 Q q => by
    obtain ⟨p, vs, rfl, h1, h2⟩ := r2
    rw [h2.flat] at h1
    refine ⟨p, xs, rfl, h1, ?_, fun z hz1 hz2 => ?_⟩
    · cases xs with
      | nil => cases h
      | cons _ _ => exact Nat.succ_pos _
    · rw [maxL_of hz1 hz2] at h
      cases h
      exact q _ s2 (Ex.refl _) rfl) (he := he) (hpl := hpl)
theorem ev_min2 {x y : Int} (hm : X.mg "min" = none) (ha : Ev X a σ s x) (hb : Ev X b σ s y) (hc : X.calm = true := by rfl) (hg : Gl X "min" := by rfl) (he : starEach [a, b] X.env = (false, eval a X.env) :: starEach [b] X.env := by rfl) (he2 : starEach [b] X.env = (false, eval b X.env) :: starEach [] X.env := by rfl) (hpl : (backTo pos (starEach [b] X.env)).any (·.1) = false := by rfl) : Ev X (.Call (.Name "min" p0) [a, b] [] pos) σ s (min x y) := fun s1 k Q q =>
  we_of (pe_callB (call_min2 hc) hg hm (by decide +kernel) (pa_cons pe_we (pa_cons pe_we pa_nil he2) he) (he := he) (hpl := hpl)) (ha s1 k _ fun v s2 k2 r2 => hb s2 (k.trans k2) _ fun u s3 k3 r3 =>
    ⟨x, y, by rw [show v = V.int x from r2, show u = V.int y from r3], q _ s3 (k2.trans k3) (by
      show V.int _ = V.int _
      by_cases h : y < x
      · rw [if_pos h, Int.min_eq_right (by omega)]
      · rw [if_neg h, Int.min_eq_left (by omega)])⟩)
theorem ev_max2 {x y : Int} (hm : X.mg "max" = none) (ha : Ev X a σ s x) (hb : Ev X b σ s y) (hc : X.calm = true := by rfl) (hg : Gl X "max" := by rfl) (he : starEach [a, b] X.env = (false, eval a X.env) :: starEach [b] X.env := by rfl) (he2 : starEach [b] X.env = (false, eval b X.env) :: starEach [] X.env := by rfl) (hpl : (backTo pos (starEach [b] X.env)).any (·.1) = false := by rfl) : Ev X (.Call (.Name "max" p0) [a, b] [] pos) σ s (max x y) := fun s1 k Q q =>
  we_of (pe_callB (call_max2 hc) hg hm (by decide +kernel) (pa_cons pe_we (pa_cons pe_we pa_nil he2) he) (he := he) (hpl := hpl)) (ha s1 k _ fun v s2 k2 r2 => hb s2 (k.trans k2) _ fun u s3 k3 r3 =>
    ⟨x, y, by rw [show v = V.int x from r2, show u = V.int y from r3], q _ s3 (k2.trans k3) (by
      show V.int _ = V.int _
      by_cases h : y > x
      · rw [if_pos h, Int.max_eq_right (by omega)]
      · rw [if_neg h, Int.max_eq_left (by omega)])⟩)
theorem ev_T1 {T : String} {n : Str} {r : List V → Hp → VK → Prop} {x : β} {y : α} (hc : CallR X (.type T) r) (hg : Gl X n) (hm : X.mg n = none) (hv : bootBuiltins n = some (.type T)) (ha : Ev X e σ s x)
    (hr : ∀ (v : V) (s2 : S), rep X.K s2.F v x → ∀ Q : VK, (∀ w s3, Ex s2 s3 → rep X.K s3.F w y → Q w s3.H) → r [v] s2.H Q) (hn : n ≠ "__name__" := by decide) (hdb : (n == ("__debug__" : Str)) = false := by decide)
    (he : starEach [e] X.env = (false, eval e X.env) :: starEach [] X.env := by rfl) (hpl : (backTo pos (starEach [] X.env)).any (·.1) = false := by rfl) : Ev X (.Call (.Name n p0) [e] [] pos) σ s y := fun s1 k Q q =>
  we_of (pe_callTy hc hg hm hv (pa_cons pe_we pa_nil he) hn hdb he hpl) (ha s1 k _ fun v s2 k2 r2 => hr v s2 r2 Q fun w s3 k3 r3 => q w s3 (k2.trans k3) r3)
theorem ev_intB {x : Bool} (hm : X.mg "int" = none) (ha : Ev X e σ s x) (hg : Gl X "int" := by rfl) (he : starEach [e] X.env = (false, eval e X.env) :: starEach [] X.env := by rfl) (hpl : (backTo pos (starEach [] X.env)).any (·.1) = false := by rfl) : Ev X (.Call (.Name "int" p0) [e] [] pos) σ s (if x = true then (1 : Int) else 0) :=
  ev_T1 call_int1 hg hm (by decide +kernel) ha (fun v s2 r2 Q q => .inr ⟨x, by rw [show v = V.bl x from r2], q _ s2 (Ex.refl _) rfl⟩) (he := he) (hpl := hpl)
theorem ev_intS {x : Str} {n : Int} (hm : X.mg "int" = none) (ha : Ev X e σ s x) (h : PySem.intText? x = some n) (hl : x.length ≤ 640) (hg : Gl X "int" := by rfl) (he : starEach [e] X.env = (false, eval e X.env) :: starEach [] X.env := by rfl) (hpl : (backTo pos (starEach [] X.env)).any (·.1) = false := by rfl) : Ev X (.Call (.Name "int" p0) [e] [] pos) σ s n :=
  ev_T1 call_int_str hg hm (by decide +kernel) ha (fun v s2 r2 Q q => ⟨x, n, by rw [show v = V.str x from r2], h, hl, q _ s2 (Ex.refl _) rfl⟩) (he := he) (hpl := hpl)
theorem ev_strI {x : Int} (hm : X.mg "str" = none) (h : x.natAbs.log2 < 1920) (ha : Ev X e σ s x) (hg : Gl X "str" := by rfl) (he : starEach [e] X.env = (false, eval e X.env) :: starEach [] X.env := by rfl) (hpl : (backTo pos (starEach [] X.env)).any (·.1) = false := by rfl) : Ev X (.Call (.Name "str" p0) [e] [] pos) σ s (toString x : Str) :=
  ev_T1 call_str_int hg hm (by decide +kernel) ha (fun v s2 r2 Q q => ⟨x, by rw [show v = V.int x from r2], h, q _ s2 (Ex.refl _) rfl⟩) (he := he) (hpl := hpl)
end
end Dy

namespace Dy
open PySem PySem.Spec L2
open PyProof.Rows hiding St
open Enc (rep)
open Flat (toV)
open EncA (repA)

section
variable {α β γ δ ζ : Type} [Enc α] [Enc β] [Enc γ] [Enc δ] [Enc ζ] {X : Cx} {σ : St} {s t : S} {e a b c : Expr} {es : List Expr} {pos p0 p1 p2 p3 : Pos}

def EvE (X : Cx) (es : List Expr) (σ : St) (s : S) (xs : List α) : Prop := ∀ s1, Ex s s1 → ∀ Q : List V → Hp → Prop, (∀ vs s2, Ex s1 s2 → Reps X.K s2.F vs xs → Q vs s2.H) → WA X es σ s1.H Q
theorem ee_nil : EvE X [] σ s ([] : List α) := fun s1 k Q q => wa_of pa_nil (q [] s1 (Ex.refl _) trivial)
theorem ee_cons {x : α} {xs : List α} (h : Ev X e σ s x) (hr : EvE X es σ s xs) (hs : starEach (e :: es) X.env = (false, eval e X.env) :: starEach es X.env := by rfl) : EvE X (e :: es) σ s (x :: xs) := fun s1 k Q q =>
  wa_of (pa_cons pe_we pa_wa hs) (h s1 k _ fun v s2 k2 r2 => hr s2 (k.trans k2) _ fun vs s3 k3 r3 => q _ s3 (k2.trans k3) ⟨Enc.mono k3.f r2, r3⟩)
theorem own_new {K : PySem.W.Frag} {p : Addr} {vs : List V} {xs : List α} (h : s.H p = none) (r : Reps K s.F vs xs) : Own K (s.newO p (.lst vs) h) p xs := ⟨(fF h : s.F p = none), vs, upd_same, r⟩
theorem en_list {xs : List α} (h : EvE X es σ s xs) (hz : xs.length ≤ sizeLine := by decide) : EvN X (.List es pos) σ s xs := fun s1 k Q q =>
  we_of (pe_lst pa_wa) (h s1 k _ fun vs s2 k2 r2 => ⟨by rw [r2.len]; exact hz, fun p hp => q p (s2.newO p (.lst vs) hp) (k2.trans (Ex.newO hp)) (fr_back k2 hp) (own_new hp r2)⟩)
theorem tup_new {K : PySem.W.Frag} {p : Addr} {vs : List V} (h : s.H p = none) : SqT K (s.newF p (.tup vs) h).F p vs := .inl (.inl upd_same)
theorem ev_tu {xs : List α} (h : EvE X es σ s xs) (hz : xs.length ≤ sizeLine := by decide) {n} : Ev X (.Tuple es n pos) σ s (⟨xs⟩ : Tu α) := fun s1 k Q q =>
  we_of (pe_tup pa_wa) (h s1 k _ fun vs s2 k2 r2 => ⟨by rw [r2.len]; exact hz, fun p hp => q _ (s2.newF p (.tup vs) hp) (k2.trans (Ex.newF hp)) ⟨p, vs, rfl, tup_new hp, r2.mono (Ex.newF hp).f⟩⟩)
theorem ev_t1 {x : α} {n} (h : EvA X es σ s (x, ())) : Ev X (.Tuple es n pos) σ s (⟨x⟩ : T1 α) := fun s1 k Q q =>
  we_of (pe_tup pa_wa) (h s1 k _ fun vs s2 k2 r2 => by
    obtain ⟨v1, _, rfl, r1, rfl⟩ := r2
    refine ⟨show _ ≤ 2 ^ 24 by simp, fun p hp => q _ (s2.newF p _ hp) (k2.trans (Ex.newF hp)) ⟨p, v1, rfl, tup_new hp, Enc.mono (Ex.newF hp).f r1⟩⟩)
theorem ev_t2 {x : α} {y : β} {n} (h : EvA X es σ s (x, y, ())) : Ev X (.Tuple es n pos) σ s (x, y) := fun s1 k Q q =>
  we_of (pe_tup pa_wa) (h s1 k _ fun vs s2 k2 r2 => by
    obtain ⟨v1, _, rfl, r1, v2, _, rfl, r2, rfl⟩ := r2
    refine ⟨show _ ≤ 2 ^ 24 by simp, fun p hp => q _ (s2.newF p _ hp) (k2.trans (Ex.newF hp)) ⟨p, v1, v2, rfl, tup_new hp, Enc.mono (Ex.newF hp).f r1, Enc.mono (Ex.newF hp).f r2⟩⟩)
theorem ev_t3 {x : α} {y : β} {z : γ} {n} (h : EvA X es σ s (x, y, z, ())) : Ev X (.Tuple es n pos) σ s (⟨x, y, z⟩ : T3 α β γ) := fun s1 k Q q =>
  we_of (pe_tup pa_wa) (h s1 k _ fun vs s2 k2 r2 => by
    obtain ⟨v1, _, rfl, r1, v2, _, rfl, r2, v3, _, rfl, r3, rfl⟩ := r2
    refine ⟨show _ ≤ 2 ^ 24 by simp, fun p hp => q _ (s2.newF p _ hp) (k2.trans (Ex.newF hp)) ⟨p, v1, v2, v3, rfl, tup_new hp, Enc.mono (Ex.newF hp).f r1, Enc.mono (Ex.newF hp).f r2, Enc.mono (Ex.newF hp).f r3⟩⟩)
theorem ev_t4 {x : α} {y : β} {z : γ} {u : δ} {n} (h : EvA X es σ s (x, y, z, u, ())) : Ev X (.Tuple es n pos) σ s (⟨x, y, z, u⟩ : T4 α β γ δ) := fun s1 k Q q =>
  we_of (pe_tup pa_wa) (h s1 k _ fun vs s2 k2 r2 => by
    obtain ⟨v1, _, rfl, r1, v2, _, rfl, r2, v3, _, rfl, r3, v4, _, rfl, r4, rfl⟩ := r2
    refine ⟨show _ ≤ 2 ^ 24 by simp, fun p hp => q _ (s2.newF p _ hp) (k2.trans (Ex.newF hp)) ⟨p, v1, v2, v3, v4, rfl, tup_new hp, Enc.mono (Ex.newF hp).f r1, Enc.mono (Ex.newF hp).f r2, Enc.mono (Ex.newF hp).f r3, Enc.mono (Ex.newF hp).f r4⟩⟩)
theorem ev_t5 {x : α} {y : β} {z : γ} {u : δ} {w : ζ} {n} (h : EvA X es σ s (x, y, z, u, w, ())) : Ev X (.Tuple es n pos) σ s (⟨x, y, z, u, w⟩ : T5 α β γ δ ζ) := fun s1 k Q q =>
  we_of (pe_tup pa_wa) (h s1 k _ fun vs s2 k2 r2 => by
    obtain ⟨v1, _, rfl, r1, v2, _, rfl, r2, v3, _, rfl, r3, v4, _, rfl, r4, v5, _, rfl, r5, rfl⟩ := r2
    refine ⟨show _ ≤ 2 ^ 24 by simp, fun p hp => q _ (s2.newF p _ hp) (k2.trans (Ex.newF hp)) ⟨p, v1, v2, v3, v4, v5, rfl, tup_new hp, Enc.mono (Ex.newF hp).f r1, Enc.mono (Ex.newF hp).f r2, Enc.mono (Ex.newF hp).f r3, Enc.mono (Ex.newF hp).f r4, Enc.mono (Ex.newF hp).f r5⟩⟩)

theorem en_T1 {n : Str} {T : String} {r : List V → Hp → VK → Prop} {xs : List β} {ys : List α} (hc : CallR X (.type T) r) (hg : Gl X n) (hm : X.mg n = none) (hv : bootBuiltins n = some (.type T)) (ha : EvR X e σ s xs)
    (hr : ∀ (v : V) (s2 : S), RepR X.K s2 v xs → ∀ Q : VK, (∀ p s3, Ex s2 s3 → s2.H p = none → Own X.K s3 p ys → Q (.ref p) s3.H) → r [v] s2.H Q) (hn : n ≠ "__name__" := by decide) (hdb : (n == ("__debug__" : Str)) = false := by decide)
    (he : starEach [e] X.env = (false, eval e X.env) :: starEach [] X.env := by rfl) (hpl : (backTo pos (starEach [] X.env)).any (·.1) = false := by rfl) : EvN X (.Call (.Name n p0) [e] [] pos) σ s ys := fun s1 k Q q =>
  we_of (pe_callTy hc hg hm hv (pa_cons pe_we pa_nil he) hn hdb he hpl) (ha s1 k _ fun v s2 k2 r2 => hr v s2 r2 Q fun w s3 k3 n3 r3 => q w s3 (k2.trans k3) (fr_back k2 n3) r3)
theorem en_copy {xs : List α} (hm : X.mg "list" = none) (ha : EvR X e σ s xs) (hg : Gl X "list" := by rfl) (he : starEach [e] X.env = (false, eval e X.env) :: starEach [] X.env := by rfl) (hpl : (backTo pos (starEach [] X.env)).any (·.1) = false := by rfl) : EvN X (.Call (.Name "list" p0) [e] [] pos) σ s xs :=
  en_T1 call_list_of hg hm (by decide +kernel) ha (fun v s2 r2 Q q => by
    obtain ⟨p, vs, rfl, h1, h2⟩ := r2
    exact ⟨p, vs, rfl, .inl h1, fun l hl => q l (s2.newO l _ hl) (Ex.newO hl) hl (own_new hl h2)⟩) (he := he) (hpl := hpl)
theorem en_copyT {xs : Tu α} (hm : X.mg "list" = none) (ha : Ev X e σ s xs) (hg : Gl X "list" := by rfl) (he : starEach [e] X.env = (false, eval e X.env) :: starEach [] X.env := by rfl) (hpl : (backTo pos (starEach [] X.env)).any (·.1) = false := by rfl) : EvN X (.Call (.Name "list" p0) [e] [] pos) σ s xs.l := fun s1 k Q q =>
  we_of (pe_callTy call_list_of hg hm (by decide +kernel) (pa_cons pe_we pa_nil he) (he := he) (hpl := hpl)) (ha s1 k _ fun v s2 k2 r2 => by
    obtain ⟨p, vs, rfl, h1, h2⟩ := r2
    exact ⟨p, vs, rfl, .inr (sqt_mono s2.sub h1), fun l hl => q l (s2.newO l _ hl) (k2.trans (Ex.newO hl)) (fr_back k2 hl) (own_new hl h2)⟩)
theorem ev_tuple {xs : List α} (hm : X.mg "tuple" = none) (ha : EvR X e σ s xs) (hg : Gl X "tuple" := by rfl) (he : starEach [e] X.env = (false, eval e X.env) :: starEach [] X.env := by rfl) (hpl : (backTo pos (starEach [] X.env)).any (·.1) = false := by rfl) : Ev X (.Call (.Name "tuple" p0) [e] [] pos) σ s (⟨xs⟩ : Tu α) := fun s1 k Q q =>
  we_of (pe_callTy call_tuple_of hg hm (by decide +kernel) (pa_cons pe_we pa_nil he) (he := he) (hpl := hpl)) (ha s1 k _ fun v s2 k2 r2 => by
    obtain ⟨p, vs, rfl, h1, h2⟩ := r2
    exact ⟨p, vs, rfl, .inl ⟨h1, fun l hl => q _ (s2.newF l _ hl) (k2.trans (Ex.newF hl)) ⟨l, vs, rfl, tup_new hl, h2.mono (Ex.newF hl).f⟩⟩⟩)
theorem ev_tupleT {xs : Tu α} (hm : X.mg "tuple" = none) (ha : Ev X e σ s xs) (hg : Gl X "tuple" := by rfl) (he : starEach [e] X.env = (false, eval e X.env) :: starEach [] X.env := by rfl) (hpl : (backTo pos (starEach [] X.env)).any (·.1) = false := by rfl) : Ev X (.Call (.Name "tuple" p0) [e] [] pos) σ s xs := fun s1 k Q q =>
  we_of (pe_callTy call_tuple_of hg hm (by decide +kernel) (pa_cons pe_we pa_nil he) (he := he) (hpl := hpl)) (ha s1 k _ fun v s2 k2 r2 => by
    obtain ⟨p, vs, rfl, h1, h2⟩ := r2
    exact ⟨p, vs, rfl, .inr ⟨sqt_mono s2.sub h1, q _ s2 k2 ⟨p, vs, rfl, h1, h2⟩⟩⟩)
def rng (a b : Int) : List Int := (List.range (b - a).toNat).map fun i : Nat => a + (i : Int)
theorem rgV_rng (a b : Int) : rgV a b = (rng a b).map V.int := by
  unfold rgV rng
  rw [List.map_map]; rfl
theorem en_listRg1 {n : Int} (hm : X.mg "list" = none) (hr : X.mg "range" = none) (ha : Ev X e σ s n) (hz : RgOk 0 n) (hc : X.calm = true := by rfl) (hg : Gl X "list" := by rfl) (hgr : Gl X "range" := by rfl)
    (he : starEach [e] X.env = (false, eval e X.env) :: starEach [] X.env := by rfl) (he2 : starEach [.Call (.Name "range" p1) [e] [] p2] X.env = (false, eval (.Call (.Name "range" p1) [e] [] p2) X.env) :: starEach [] X.env := by rfl) :
    EvN X (.Call (.Name "list" p0) [.Call (.Name "range" p1) [e] [] p2] [] pos) σ s (rng 0 n) := fun s1 k Q q =>
  we_of (pe_listRg hc hg hm (prg_1 hgr hr pe_we he) he2) (ha s1 k _ fun v s2 k2 r2 => ⟨n, r2, hz, fun l hl => q l (s2.newO l _ hl) (k2.trans (Ex.newO hl)) (fr_back k2 hl) (own_new hl (by rw [rgV_rng]; exact Reps.of_flat _))⟩)
theorem en_listRg2 {m n : Int} (hm : X.mg "list" = none) (hr : X.mg "range" = none) (ha : Ev X a σ s m) (hb : Ev X b σ s n) (hz : RgOk m n) (hc : X.calm = true := by rfl) (hg : Gl X "list" := by rfl) (hgr : Gl X "range" := by rfl)
    (he : starEach [a, b] X.env = (false, eval a X.env) :: starEach [b] X.env := by rfl) (heb : starEach [b] X.env = (false, eval b X.env) :: starEach [] X.env := by rfl) (hpl : (backTo p2 (starEach [b] X.env)).any (·.1) = false := by rfl)
    (he2 : starEach [.Call (.Name "range" p1) [a, b] [] p2] X.env = (false, eval (.Call (.Name "range" p1) [a, b] [] p2) X.env) :: starEach [] X.env := by rfl) :
    EvN X (.Call (.Name "list" p0) [.Call (.Name "range" p1) [a, b] [] p2] [] pos) σ s (rng m n) := fun s1 k Q q =>
  we_of (pe_listRg hc hg hm (prg_2 hgr hr pe_we pe_we he heb hpl) he2) (ha s1 k _ fun v s2 k2 r2 => hb s2 (k.trans k2) _ fun u s3 k3 r3 => ⟨m, n, r2, r3, hz, fun l hl => q l (s3.newO l _ hl) ((k2.trans k3).trans (Ex.newO hl)) (fr_back (k2.trans k3) hl) (own_new hl (by rw [rgV_rng]; exact Reps.of_flat _))⟩)
def cut {τ : Type} (xs : List τ) (lo hi : Option Int) : List τ := (xs.drop (HT.sIx xs.length 0 lo)).take (HT.sIx xs.length xs.length hi - HT.sIx xs.length 0 lo)
theorem Reps.cut {K : PySem.W.Frag} {F : Hp} {vs : List V} {xs : List α} (r : Reps K F vs xs) (lo hi : Option Int) : Reps K F (cutV vs lo hi) (Dy.cut xs lo hi) := by
  unfold cutV Dy.cut
  rw [r.len]
  exact (r.drop _).take _
def EvO (X : Cx) (o : Option Expr) (σ : St) (s : S) (x : Option Int) : Prop := match o, x with
  | none, none => True
  | some e, some i => Ev X e σ s i
  | _, _ => False
theorem po_evo {o : Option Expr} {x : Option Int} (h : EvO X o σ s x) : ∃ t, PO X o t ∧ ∀ s1, Ex s s1 → ∀ Q : Option Int → Hp → Prop, (∀ s2, Ex s1 s2 → Q x s2.H) → t σ s1.H Q := by
  cases o with
  | none =>
    cases x with
    | none => exact ⟨_, po_none, fun s1 k Q q => q s1 (Ex.refl _)⟩
    | some i => exact h.elim
  | some e =>
    cases x with
    | none => exact h.elim
    | some i => exact ⟨_, po_some pe_we, fun s1 k Q q => (show Ev X e σ s i from h) s1 k _ fun v s2 k2 r2 => ⟨i, r2, q s2 k2⟩⟩
theorem eo_none : EvO X none σ s none := trivial
theorem eo_some {i : Int} (h : Ev X e σ s i) : EvO X (some e) σ s (some i) := h
theorem en_slice {xs : List α} {lo hi : Option Expr} {l h : Option Int} (ha : EvR X a σ s xs) (hl : EvO X lo σ s l) (hh : EvO X hi σ s h) : EvN X (.Subscript a (.Slice lo hi none p2) pos) σ s (cut xs l h) := fun s1 k Q q => by
  obtain ⟨tl, pl, ql⟩ := po_evo hl
  obtain ⟨th, ph, qh⟩ := po_evo hh
  refine we_of (pe_slice sl_list pe_we pl ph) (ha s1 k _ fun v s2 k2 r2 => ql s2 (k.trans k2) _ fun s3 k3 => qh s3 ((k.trans k2).trans k3) _ fun s4 k4 => ?_)
  obtain ⟨p, vs, rfl, h1, h2⟩ := (r2.ex k3).ex k4
  exact ⟨p, vs, rfl, h1, fun l hl => q l (s4.newO l _ hl) (((k2.trans k3).trans k4).trans (Ex.newO hl)) (fr_back ((k2.trans k3).trans k4) hl) (own_new hl (h2.cut _ _))⟩
theorem ev_sliceS {x : Str} {lo hi : Option Expr} {l h : Option Int} (hz : x.length ≤ sizeLine) (ha : Ev X a σ s x) (hl : EvO X lo σ s l) (hh : EvO X hi σ s h) : Ev X (.Subscript a (.Slice lo hi none p2) pos) σ s (cutS x l h) := fun s1 k Q q => by
  obtain ⟨tl, pl, ql⟩ := po_evo hl
  obtain ⟨th, ph, qh⟩ := po_evo hh
  exact we_of (pe_slice sl_str pe_we pl ph) (ha s1 k _ fun v s2 k2 r2 => ql s2 (k.trans k2) _ fun s3 k3 => qh s3 ((k.trans k2).trans k3) _ fun s4 k4 => ⟨x, r2, hz, q _ s4 ((k2.trans k3).trans k4) rfl⟩)
theorem op_catS : OpR X (binaryOp .Add) (fun x y H Q => ∃ l b xs zs, x = .ref l ∧ y = .ref b ∧ SqL X.K H l xs ∧ SqL X.K H b zs ∧ xs.length + zs.length ≤ sizeLine ∧ ∀ p, H p = none → Q (.ref p) (upd H p (.lst (xs ++ zs)))) := by
  intro pins s σ H x y v u Q I rx ry h
  obtain ⟨l, b, xs, zs, rfl, rfl, hH, hB, hz, q⟩ := h
  cases rx
  cases ry
  obtain ⟨its, r, ⟨⟨cls, dd, data, sl⟩, n, ho, hc, hd0, hd⟩, z1⟩ := I.list hH
  obtain ⟨its2, r2, ⟨⟨cls2, dd2, data2, sl2⟩, n2, ho2, hc2, hd02, hd2⟩, z2⟩ := I.list hB
  simp only at hc hd hc2 hd2 hd0 hd02
  subst hc hd hc2 hd2 hd0 hd02
  have e : its.toArray ++ its2.toArray = (its ++ its2).toArray := by simp
  have h1 := r.length
  have h2 := r2.length
  refine concat_meets ⟨_, ho, rfl⟩ ⟨_, ho2, rfl⟩ noFill_list_add seq_list_add PySem.F.slot_list_add PySem.F.entry_list_add (PySem.F.args_list_add_2 _ _) (list_addW l b its.toArray its2.toArray n n2 none none sl sl2 (by rw [List.size_toArray, List.size_toArray]; omega)) ⟨ho, ho2, ?_⟩
  rw [e]
  exact ⟨.ref _, _, I.lnew (t' := s.toks) (r.append r2) (by rw [List.length_append]; omega), rfl, q _ I.fresh⟩
theorem en_cat {xs ys : List α} (ha : EvR X a σ s xs) (hb : EvR X b σ s ys) (hz : xs.length + ys.length ≤ sizeLine) : EvN X (.BinOp a .Add b pos) σ s (xs ++ ys) := fun s1 k Q q =>
  we_of (pe_op op_catS pe_we pe_we) (ha s1 k _ fun v s2 k2 r2 => hb s2 (k.trans k2) _ fun u s3 k3 r3 => by
    obtain ⟨p, vs, rfl, h1, h2⟩ := r2.ex k3
    obtain ⟨p', ws, rfl, h3, h4⟩ := r3
    exact ⟨p, p', vs, ws, rfl, rfl, h1, h3, by rw [h2.len, h4.len]; exact hz, fun l hl => q l (s3.newO l _ hl) ((k2.trans k3).trans (Ex.newO hl)) (fr_back (k2.trans k3) hl) (own_new hl (h2.app h4))⟩)
def repl {τ : Type} (n : Int) (xs : List τ) : List τ := (List.replicate n.toNat xs).flatten
theorem Reps.repF {K : PySem.W.Frag} {F : Hp} {vs : List V} {xs : List α} (r : Reps K F vs xs) (n : Nat) : Reps K F (List.replicate n vs).flatten (List.replicate n xs).flatten := by
  induction n with
  | zero => exact trivial
  | succ n ih => rw [List.replicate_succ, List.replicate_succ, List.flatten_cons, List.flatten_cons]; exact r.app ih
def RepOk (n : Int) (l : Nat) : Prop := -(2 ^ 63) ≤ n ∧ n < 2 ^ 63 ∧ l * n.toNat ≤ sizeLine
theorem en_rep {xs : List α} {n : Int} (ha : EvN X a σ s xs) (hb : ∀ t, Ex s t → Ev X b σ t n) (hz : RepOk n xs.length) : EvN X (.BinOp a .Mult b pos) σ s (repl n xs) := fun s1 k Q q =>
  we_of (pe_op op_rep pe_we pe_we) (ha s1 k _ fun p s2 k2 n2 o2 => hb s2 (k.trans k2) s2 (Ex.refl _) _ fun u s3 k3 r3 => by
    obtain ⟨_, vs, h1, h2⟩ := o2.ex k3
    exact ⟨p, n, vs, rfl, r3, h1, hz.1, hz.2.1, by rw [h2.len]; exact hz.2.2, fun l hl => q l (s3.newO l _ hl) ((k2.trans k3).trans (Ex.newO hl)) (fr_back (k2.trans k3) hl) (own_new hl (h2.repF _))⟩)
theorem en_sorted {xs : List Int} (hm : X.mg "sorted" = none) (ha : EvR X e σ s xs) (hg : Gl X "sorted" := by rfl) (he : starEach [e] X.env = (false, eval e X.env) :: starEach [] X.env := by rfl) (hpl : (backTo pos (starEach [] X.env)).any (·.1) = false := by rfl) :
    EvN X (.Call (.Name "sorted" p0) [e] [] pos) σ s (xs.mergeSort (fun x y => decide (x ≤ y))) := fun s1 k Q q =>
  we_of (pe_callB cr_sortedI hg hm (by decide +kernel) (pa_cons pe_we pa_nil he) (he := he) (hpl := hpl)) (ha s1 k _ fun v s2 k2 r2 => by
    obtain ⟨p, vs, rfl, h1, h2⟩ := r2
    rw [h2.flat] at h1
    refine ⟨p, xs, rfl, h1, fun ys l hp hs hl => ?_⟩
    have e1 : ys = xs.mergeSort (fun x y => decide (x ≤ y)) := by
      refine List.Perm.eq_of_pairwise (le := fun x y : Int => x ≤ y) (fun a b _ _ h h' => Int.le_antisymm h h') hs ?_ (hp.trans (List.mergeSort_perm _ _).symm)
      have := List.pairwise_mergeSort (le := fun x y : Int => decide (x ≤ y)) (fun a b c h1 h2 => by simp at *; omega) (fun a b => by simp; omega) xs
      exact this.imp (by simp)
    subst e1
    exact q l (s2.newO l _ hl) (k2.trans (Ex.newO hl)) (fr_back k2 hl) (own_new hl (Reps.of_flat _)))
theorem en_split {x y : Str} (ha : Ev X a σ s x) (hb : Ev X b σ s y) (h1 : (y.length == 0) = false) (h2 : x.length + 2 ≤ sizeLine) (hs : starEach [b] X.env = [(false, eval b X.env)] := by rfl) (hbase : attributeBase a "split" X.env (eval a X.env) = eval a X.env := by rfl) (hline : (p1.endLine == pos.line) = true := by rfl) :
    EvN X (.Call (.Attribute a "split" p1) [b] [] pos) σ s (Txt.split x y) := fun s1 k Q q =>
  we_of (pe_split pe_we pe_we hs hbase hline) (ha s1 k _ fun v s2 k2 r2 => ⟨⟨x, r2⟩, hb s2 (k.trans k2) _ fun u s3 k3 r3 => ⟨x, y, r2, by rw [show u = V.str y from r3], h1, h2, fun l hl =>
    q l (s3.newO l _ hl) ((k2.trans k3).trans (Ex.newO hl)) (fr_back (k2.trans k3) hl) (own_new hl (Reps.of_flat _))⟩⟩)
def JnOk (x : Str) (ys : List Str) : Prop := (ys.map (·.length)).sum + ys.length * x.length ≤ 16777216
theorem ev_join {x : Str} {ys : List Str} (ha : Ev X a σ s x) (hb : EvR X b σ s ys) (h : JnOk x ys) (hs : starEach [b] X.env = [(false, eval b X.env)] := by rfl) (hbase : attributeBase a "join" X.env (eval a X.env) = eval a X.env := by rfl) (hline : (p1.endLine == pos.line) = true := by rfl) :
    Ev X (.Call (.Attribute a "join" p1) [b] [] pos) σ s (Txt.join x ys) := fun s1 k Q q =>
  we_of (pe_join pe_we pe_we hs hbase hline) (ha s1 k _ fun v s2 k2 r2 => ⟨⟨x, r2⟩, hb s2 (k.trans k2) _ fun u s3 k3 r3 => by
    obtain ⟨p, vs, rfl, h1, h2⟩ := r3
    obtain rfl := h2.flat
    exact ⟨x, p, ys, r2, rfl, .inl h1, h, q _ s3 (k2.trans k3) rfl⟩⟩)
def ixOf {τ : Type} [DecidableEq τ] (x : τ) : List τ → Option Nat
  | [] => none
  | y :: ys => if y = x then some 0 else (ixOf x ys).map (· + 1)
theorem ixOf_some {τ : Type} [DecidableEq τ] {x : τ} : ∀ {ys : List τ} {j : Nat}, ixOf x ys = some j → ys[j]? = some x ∧ ∀ m z, m < j → ys[m]? = some z → z ≠ x
  | [], _, h => by cases h
  | y :: ys, j, h => by
    unfold ixOf at h
    split at h
    · rename_i e; cases h; exact ⟨by simp [e], fun m z hm => absurd hm (Nat.not_lt_zero _)⟩
    · rename_i e
      obtain ⟨i, h1, rfl⟩ := Option.map_eq_some_iff.mp h
      obtain ⟨h2, h3⟩ := ixOf_some h1
      refine ⟨by simpa using h2, fun m z hm hz => ?_⟩
      cases m with
      | zero => simp at hz; subst hz; exact e
      | succ m => exact h3 m z (by omega) (by simpa using hz)
theorem ev_index {ε : Type} [Eqs ε] [DecidableEq ε] {x : ε} {xs : List ε} {j : Nat} (ha : EvR X a σ s xs) (hb : Ev X b σ s x) (h : ixOf x xs = some j)
    (hbase : attributeBase a "index" X.env (eval a X.env) = eval a X.env := by rfl)
    (hfew : ((backTo pos (starEach [b] X.env)).all (fun x => !x.1) && (backToKw pos (keywordEach [] X.env)).all (fun x => x.1.isSome) && decide (([b] : List Expr).length + ([] : List Keyword).length + (if ([] : List Keyword).isEmpty then 0 else 1) < 30)) = true := by rfl)
    (hline : (p1.endLine == pos.line) = true := by rfl) (hs : starEach [b] X.env = (false, eval b X.env) :: starEach [] X.env := by rfl) (hplain : (backTo pos (starEach [] X.env)).any (·.1) = false := by rfl) :
    Ev X (.Call (.Attribute a "index" p1) [b] [] pos) σ s (j : Int) := fun s1 k Q q =>
  we_of (pe_bm PySem.F.plainAttrs_list PySem.F.slot_list_index PySem.F.type_list_index mt_index pe_we (pa_cons pe_we pa_nil hs) hbase hfew hline hs hplain) (ha s1 k _ fun v s2 k2 r2 => by
    obtain ⟨p, vs, rfl, h1, h2⟩ := r2
    obtain rfl := h2.flat
    refine ⟨.inl ⟨rfl, _, h1⟩, hb s2 (k.trans k2) _ fun u s3 k3 r3 => ?_⟩
    rw [Flat.iff.mp r3]
    obtain ⟨h3, h4⟩ := ixOf_some h
    refine ⟨p, _, toV x, j, toV x, rfl, rfl, sql_mono k3.h h1, Flat.flat x, flat_all xs, by rw [List.getElem?_map, h3]; rfl, (Flat.inj x x).mpr rfl, fun m z hm hz => ?_, q _ s3 (k2.trans k3) rfl⟩
    rw [List.getElem?_map] at hz
    obtain ⟨y, h5, rfl⟩ := Option.map_eq_some_iff.mp hz
    exact Bool.eq_false_iff.mpr fun z => h4 m y hm h5 ((Flat.inj y x).mp z))

structure Cal (P : Program) (w : World) (K : PySem.W.Frag) (mg : Str → Option Value) (base : Heap) (CX : CXT) (k : Nat) (x : Str) (q : Sp) : Prop where
  ex : ∃ (f : Addr) (fd : FuncData) (ps : List Str), FnOk P w K mg base CX k f fd ps q ∧ mg x = some (.ref f) ∧ PySem.W.keepIn K (.ref f) = true ∧ Binds K fd ps []
theorem pe_c0 {n : Str} {k j : Nat} {q : Sp} {ta : TA} (C : Cal X.prog X.w X.K X.mg X.base CX0 k n q) (hr : Room j X.A) (hk : k ≤ j) (hg : Gl X n) (ha : PA X (e :: es) ta) (hdb : (n == ("__debug__" : Str)) = false := by decide)
    (he : starEach (e :: es) X.env = (false, eval e X.env) :: starEach es X.env := by rfl) (hpl : (backTo pos (starEach es X.env)).any (·.1) = false := by rfl) : PE X (.Call (.Name n p0) (e :: es) [] pos) (tCall q [] E0 ta) := by
  obtain ⟨f, fd, ps, F, hm, kp, b⟩ := C.ex
  exact pe_call F (hr.mono hk) hg hm kp b .nil pass0 ha hdb he hpl
def sp {A : Type} [EncA A] {ρ : Type} [Enc ρ] (K : PySem.W.Frag) (m : A → Option ρ) : Sp := fun vs H Q _ => ∃ (s : S) (x : A) (r : ρ), s.H = H ∧ repA K s.F vs x ∧ m x = some r ∧ ∀ v s', Ex s s' → rep K s'.F v r → Q v s'.H
def spN {A : Type} [EncA A] {ρ : Type} [Enc ρ] (K : PySem.W.Frag) (m : A → Option (List ρ)) : Sp := fun vs H Q _ => ∃ (s : S) (x : A) (r : List ρ), s.H = H ∧ repA K s.F vs x ∧ m x = some r ∧ ∀ p s', Ex s s' → s.H p = none → Own K s' p r → Q (.ref p) s'.H
theorem ev_call {A : Type} [EncA A] {m : A → Option α} {n : Str} {k j : Nat} {x : A} {r : α} (C : Cal X.prog X.w X.K X.mg X.base CX0 k n (sp X.K m)) (hr : Room j X.A) (hk : k ≤ j) (ha : EvA X (e :: es) σ s x) (h : m x = some r) (hg : Gl X n := by rfl)
    (hdb : (n == ("__debug__" : Str)) = false := by decide) (he : starEach (e :: es) X.env = (false, eval e X.env) :: starEach es X.env := by rfl) (hpl : (backTo pos (starEach es X.env)).any (·.1) = false := by rfl) : Ev X (.Call (.Name n p0) (e :: es) [] pos) σ s r := fun s1 k1 Q q =>
  we_of (pe_c0 C hr hk hg pa_wa hdb he hpl) (ha s1 k1 _ fun vs s2 k2 r2 => ⟨s2, x, r, rfl, by rw [List.append_nil]; exact r2, h, fun v s3 k3 r3 => q v s3 (k2.trans k3) r3⟩)
theorem en_call {A : Type} [EncA A] {m : A → Option (List α)} {n : Str} {k j : Nat} {x : A} {r : List α} (C : Cal X.prog X.w X.K X.mg X.base CX0 k n (spN X.K m)) (hr : Room j X.A) (hk : k ≤ j) (ha : EvA X (e :: es) σ s x) (h : m x = some r) (hg : Gl X n := by rfl)
    (hdb : (n == ("__debug__" : Str)) = false := by decide) (he : starEach (e :: es) X.env = (false, eval e X.env) :: starEach es X.env := by rfl) (hpl : (backTo pos (starEach es X.env)).any (·.1) = false := by rfl) : EvN X (.Call (.Name n p0) (e :: es) [] pos) σ s r := fun s1 k1 Q q =>
  we_of (pe_c0 C hr hk hg pa_wa hdb he hpl) (ha s1 k1 _ fun vs s2 k2 r2 => ⟨s2, x, r, rfl, by rw [List.append_nil]; exact r2, h, fun v s3 k3 n3 r3 => q v s3 (k2.trans k3) (fr_back k2 n3) r3⟩)
end
end Dy

namespace Dy
open PySem PySem.Spec L2
open PyProof.Rows hiding St
open Enc (rep)
open Flat (toV)
open EncA (repA)

noncomputable def chk {α : Type} (c : Prop) (m : Option α) : Option α := open Classical in if c then m else none
theorem chk_pos {α : Type} {c : Prop} {m : Option α} (h : c) : chk c m = m := by unfold chk; exact if_pos h
theorem chkE {α : Type} {c : Prop} {m : Option α} {r : α} (h : chk c m = some r) : c ∧ m = some r := by
  unfold chk at h
  split at h
  · rename_i hc; exact ⟨hc, h⟩
  · cases h
def lt {α β : Type} (x : α) (f : α → Option β) : Option β := f x
theorem ltE {α β : Type} {x : α} {f : α → Option β} {r : β} (h : lt x f = some r) : ∃ y, y = x ∧ f y = some r := ⟨x, rfl, h⟩
abbrev bnd {α β : Type} (m : Option α) (f : α → Option β) : Option β := m.bind f
theorem bndE {α β : Type} {m : Option α} {f : α → Option β} {r : β} (h : bnd m f = some r) : ∃ y, m = some y ∧ f y = some r := by
  cases m with
  | none => cases h
  | some y => exact ⟨y, rfl, h⟩
theorem iteE1 {α : Type} {b : Bool} {m k : Option α} {r : α} (h : (if b = true then m else k) = some r) (e : b = true) : m = some r := by rw [if_pos e] at h; exact h
theorem iteE2 {α : Type} {b : Bool} {m k : Option α} {r : α} (h : (if b = true then m else k) = some r) (e : b = false) : k = some r := by rw [if_neg (by rw [e]; exact Bool.false_ne_true)] at h; exact h
def andO (a : Bool) (m : Option Bool) : Option Bool := if a = true then m else some false
def orO (a : Bool) (m : Option Bool) : Option Bool := if a = true then some true else m
theorem andE {a r : Bool} {m : Option Bool} (h : andO a m = some r) : (a = true → m = some r) ∧ (a = false → r = false) := by
  unfold andO at h
  cases a with
  | true => exact ⟨fun _ => h, fun z => Bool.noConfusion z⟩
  | false => exact ⟨fun z => Bool.noConfusion z, fun _ => (Option.some.inj h).symm⟩
theorem orE {a r : Bool} {m : Option Bool} (h : orO a m = some r) : (a = false → m = some r) ∧ (a = true → r = true) := by
  unfold orO at h
  cases a with
  | false => exact ⟨fun _ => h, fun z => Bool.noConfusion z⟩
  | true => exact ⟨fun z => Bool.noConfusion z, fun _ => (Option.some.inj h).symm⟩
inductive Fl (β ρ : Type) where
  | nx (b : β)
  | rt (r : ρ)
def foldO {α β : Type} (f : β → α → Option β) : β → List α → Option β
  | b, [] => some b
  | b, x :: r => (f b x).bind fun b' => foldO f b' r
def foldF {α β ρ : Type} (f : β → α → Option (Fl β ρ)) : β → List α → Option (Fl β ρ)
  | b, [] => some (.nx b)
  | b, x :: r => (f b x).bind fun o => match o with
    | .nx b' => foldF f b' r
    | .rt v => some (.rt v)
def whileO {β : Type} (c : β → Option Bool) (f : β → Option β) : Nat → β → Option β
  | 0, _ => none
  | n + 1, b => (c b).bind fun t => if t = true then (f b).bind fun b' => whileO c f n b' else some b
def whileF {β ρ : Type} (c : β → Option Bool) (f : β → Option (Fl β ρ)) : Nat → β → Option (Fl β ρ)
  | 0, _ => none
  | n + 1, b => (c b).bind fun t => if t = true then (f b).bind fun o => (match o with
    | .nx b' => whileF c f n b'
    | .rt v => some (.rt v)) else some (.nx b)
def compO {α β : Type} (t : α → Option Bool) (f : α → Option β) : List α → Option (List β)
  | [] => some []
  | x :: r => (t x).bind fun b => if b = true then (f x).bind fun y => (compO t f r).bind fun ys => some (y :: ys) else compO t f r
theorem compO_pure {α β : Type} (t : α → Bool) (f : α → β) : ∀ xs : List α, compO (fun x => some (t x)) (fun x => some (f x)) xs = some ((xs.filter t).map f)
  | [] => rfl
  | x :: r => by
    unfold compO
    rw [Option.bind_some, compO_pure t f r, List.filter_cons]
    split
    · rfl
    · rfl
theorem compO_map {α β : Type} (f : α → β) : ∀ xs : List α, compO (fun _ => some true) (fun x => some (f x)) xs = some (xs.map f)
  | [] => rfl
  | x :: r => by
    unfold compO
    rw [Option.bind_some, compO_map f r]
    rfl
def mapO {α β : Type} (f : α → Option β) (xs : List α) : Option (List β) := compO (fun _ => some true) f xs

def WI (X : Cx) (tg iter : Expr) : TI := fun σ H R => ∀ (pins : List (Addr × Obj)) (s : Shared), Inv X pins σ H s →
  wpAny (model X.prog X.w) X.A (eval iter X.env) (fun v s1 => wpAny (model X.prog X.w) X.A (pyIter v) (PIE X pins σ tg R) X.xe s1) X.xe s
theorem pi_wi {X : Cx} {tg iter : Expr} : PI X tg iter (WI X tg iter) := ⟨fun pins s _ _ _ I h => h pins s I⟩
theorem wi_of {X : Cx} {tg iter : Expr} {t : TI} {σ : St} {H : Hp} {R : It → Hp → Prop} (h : PI X tg iter t) (q : t σ H R) : WI X tg iter σ H R := fun pins s I => h.run pins s σ H R I q
section
variable {α β γ δ : Type} [Enc α] [Enc β] [Enc γ] [Enc δ] {X : Cx} {σ : St} {s t : S} {e a b c tg : Expr} {es : List Expr} {pos p0 p1 p2 p3 : Pos}
structure Walk (K : PySem.W.Frag) (F : Hp) (J : It) (xs : List α) : Prop where
  go : ∀ (i : Nat) (t : S) (x : α), Fle F t.F → xs[i]? = some x → J.go i t.H ∧ ∀ v H', J.yld i t.H v H' → ∃ t' : S, t'.H = H' ∧ Ex t t' ∧ rep K t'.F v x
  stop : ∀ (i : Nat) (t : S), Fle F t.F → xs.length ≤ i → J.stop i t.H
def EvI (X : Cx) (tg e : Expr) (σ : St) (s : S) (xs : List α) : Prop := ∀ s1, Ex s s1 → ∀ R : It → Hp → Prop, (∀ J s2, Ex s1 s2 → Walk X.K s2.F J xs → R J s2.H) → WI X tg e σ s1.H R
theorem ei_list {xs : List α} (h : Ev X e σ s xs) : EvI X tg e σ s xs := fun s1 k R q =>
  wi_of (pi_list pe_we) (h s1 k _ fun v s2 k2 r2 => by
    obtain ⟨p, vs, rfl, h1, h2⟩ := r2
    refine ⟨p, rfl, ⟨vs, sql_mono s2.sub h1⟩, q _ s2 k2 ⟨fun i t x f hx => ?_, fun i t f hi => ⟨vs, sql_mono t.sub (sql_mono f h1), by rw [h2.len]; exact hi⟩⟩⟩
    obtain ⟨v, h3, h4⟩ := h2.get hx
    refine ⟨⟨vs, v, sql_mono t.sub (sql_mono f h1), h3⟩, fun w H' ⟨e1, hy⟩ => ⟨t, e1.symm, Ex.refl _, ?_⟩⟩
    have := hy vs (sql_mono t.sub (sql_mono f h1))
    rw [h3] at this
    cases this
    exact Enc.mono f h4)
theorem ei_tup {xs : Tu α} (h : Ev X e σ s xs) : EvI X tg e σ s xs.l := fun s1 k R q =>
  wi_of (pi_tup pe_we) (h s1 k _ fun v s2 k2 r2 => by
    obtain ⟨p, vs, rfl, h1, h2⟩ := r2
    refine ⟨p, rfl, ⟨vs, sqt_mono s2.sub h1⟩, q _ s2 k2 ⟨fun i t x f hx => ?_, fun i t f hi => ⟨vs, sqt_mono t.sub (sqt_mono f h1), by rw [h2.len]; exact hi⟩⟩⟩
    obtain ⟨v, h3, h4⟩ := h2.get hx
    refine ⟨⟨vs, v, sqt_mono t.sub (sqt_mono f h1), h3⟩, fun w H' ⟨e1, hy⟩ => ⟨t, e1.symm, Ex.refl _, ?_⟩⟩
    have := hy vs (sqt_mono t.sub (sqt_mono f h1))
    rw [h3] at this
    cases this
    exact Enc.mono f h4)
theorem rng_get {a b : Int} {i : Nat} {x : Int} (h : (rng a b)[i]? = some x) : i < (b - a).toNat ∧ x = a + (i : Int) := by
  unfold rng at h
  rw [List.getElem?_map] at h
  obtain ⟨j, h1, rfl⟩ := Option.map_eq_some_iff.mp h
  obtain ⟨h2, h3⟩ := List.getElem?_eq_some_iff.mp h1
  rw [List.length_range] at h2
  rw [List.getElem_range] at h3
  subst h3
  exact ⟨h2, rfl⟩
theorem rng_len (a b : Int) : (rng a b).length = (b - a).toNat := by unfold rng; rw [List.length_map, List.length_range]
theorem walk_rng {K : PySem.W.Frag} {F : Hp} {a b : Int} : Walk K F (Itr a (b - a).toNat) (rng a b) :=
  ⟨fun i t x f hx => ⟨(rng_get hx).1, fun v H' ⟨e1, e2⟩ => ⟨t, e1.symm, Ex.refl _, by rw [e2, (rng_get hx).2]; rfl⟩⟩, fun i t f hi => by rw [rng_len] at hi; exact hi⟩
def RgB (x : Int) : Prop := -(2 ^ 62) ≤ x ∧ x < 2 ^ 62
theorem ei_range1 {n : Int} (hm : X.mg "range" = none) (h : Ev X e σ s n) (hb : RgB n) (hg : Gl X "range" := by rfl) (hs : starEach [e] X.env = [(false, eval e X.env)] := by rfl) (hs2 : starEach [e] X.env = (false, eval e X.env) :: starEach [] X.env := by rfl) :
    EvI X tg (.Call (.Name "range" p0) [e] [] pos) σ s (rng 0 n) := fun s1 k R q =>
  wi_of (pi_range1 hg hm (pa_cons pe_we pa_nil hs2) hs) (h s1 k _ fun v s2 k2 r2 => ⟨n, by rw [show v = V.int n from r2], hb.1, hb.2, q _ s2 k2 (by
    have := walk_rng (K := X.K) (F := s2.F) (a := 0) (b := n)
    rw [Int.sub_zero] at this
    exact this)⟩)
theorem ei_range2 {m n : Int} (hm : X.mg "range" = none) (ha : Ev X a σ s m) (hb : Ev X b σ s n) (h1 : RgB m) (h2 : RgB n) (hg : Gl X "range" := by rfl) (hs : starEach [a, b] X.env = [(false, eval a X.env), (false, eval b X.env)] := by rfl) (hs2 : starEach [b] X.env = [(false, eval b X.env)] := by rfl)
    (hs3 : starEach [a, b] X.env = (false, eval a X.env) :: starEach [b] X.env := by rfl) (hs4 : starEach [b] X.env = (false, eval b X.env) :: starEach [] X.env := by rfl) :
    EvI X tg (.Call (.Name "range" p0) [a, b] [] pos) σ s (rng m n) := fun s1 k R q =>
  wi_of (pi_range2 hg hm (pa_cons pe_we (pa_cons pe_we pa_nil hs4) hs3) hs hs2) (ha s1 k _ fun v s2 k2 r2 => hb s2 (k.trans k2) _ fun u s3 k3 r3 => ⟨m, n, by rw [show v = V.int m from r2, show u = V.int n from r3], ⟨h1.1, h1.2, h2.1, h2.2⟩, q _ s3 (k2.trans k3) walk_rng⟩)
def chars (x : Str) : List Str := x.cps.toList.map fun c => ⟨#[c]⟩
theorem ei_str {x : Str} (h : Ev X e σ s x) : EvI X tg e σ s (chars x) := fun s1 k R q =>
  wi_of (pi_str pe_we) (h s1 k _ fun v s2 k2 r2 => ⟨x, r2, q _ s2 k2 ⟨fun i t y f hy => by
    unfold chars at hy
    rw [List.getElem?_map] at hy
    obtain ⟨c, h1, rfl⟩ := Option.map_eq_some_iff.mp hy
    have h1' : x.cps[i]? = some c := by simpa using h1
    refine ⟨?_, fun v H' ⟨e1, d, h2, h3⟩ => ⟨t, e1.symm, Ex.refl _, ?_⟩⟩
    · obtain ⟨z, _⟩ := Array.getElem?_eq_some_iff.mp h1'
      exact z
    · rw [h1'] at h2
      cases h2
      exact h3, fun i t f hi => by
    unfold chars at hi
    rw [List.length_map, Array.length_toList] at hi
    exact hi⟩⟩)
end

structure Tgt {α : Type} [Enc α] (K : PySem.W.Frag) (g : TG) (B : Hp → α → St → St → Prop) : Prop where
  run : ∀ (t : S) (v : V) (x : α) (σ : St) (Q : St → Hp → Prop), rep K t.F v x → (∀ σ2, B t.F x σ σ2 → Q σ2 t.H) → g v σ t.H Q
def BN {α : Type} [Enc α] (K : PySem.W.Frag) (j : Nat) : Hp → α → St → St → Prop := fun F x σ σ2 => ∃ v, rep K F v x ∧ σ2 = σ.set j (some v)
def B2 {α β : Type} [Enc α] [Enc β] (K : PySem.W.Frag) (i j : Nat) : Hp → α × β → St → St → Prop := fun F x σ σ2 => ∃ v w, rep K F v x.1 ∧ rep K F w x.2 ∧ σ2 = (σ.set i (some v)).set j (some w)
def B3 {α β γ : Type} [Enc α] [Enc β] [Enc γ] (K : PySem.W.Frag) (i j k : Nat) : Hp → T3 α β γ → St → St → Prop := fun F x σ σ2 => ∃ v w u, rep K F v x.a ∧ rep K F w x.b ∧ rep K F u x.c ∧ σ2 = ((σ.set i (some v)).set j (some w)).set k (some u)
theorem tg_n {α : Type} [Enc α] {K : PySem.W.Frag} {j : Nat} : Tgt (α := α) K (gName j) (BN K j) := ⟨fun t v x σ Q r h => h _ ⟨v, r, rfl⟩⟩
theorem tg_2 {α β : Type} [Enc α] [Enc β] {K : PySem.W.Frag} {i j : Nat} : Tgt (α := α × β) K (gTup K 2 (gCons (gName i) (gCons (gName j) gNil))) (B2 K i j) := ⟨fun t v x σ Q r h => by
  obtain ⟨p, v1, v2, rfl, h0, h1, h2⟩ := r
  exact ⟨p, _, rfl, sqt_mono t.sub h0, rfl, v1, _, rfl, v2, _, rfl, rfl, h _ ⟨v1, v2, h1, h2, rfl⟩⟩⟩
theorem tg_3 {α β γ : Type} [Enc α] [Enc β] [Enc γ] {K : PySem.W.Frag} {i j k : Nat} : Tgt (α := T3 α β γ) K (gTup K 3 (gCons (gName i) (gCons (gName j) (gCons (gName k) gNil)))) (B3 K i j k) := ⟨fun t v x σ Q r h => by
  obtain ⟨p, v1, v2, v3, rfl, h0, h1, h2, h3⟩ := r
  exact ⟨p, _, rfl, sqt_mono t.sub h0, rfl, v1, _, rfl, v2, _, rfl, v3, _, rfl, rfl, h _ ⟨v1, v2, v3, h1, h2, h3, rfl⟩⟩⟩

section
variable {α β : Type} [Enc α] [Enc β] {X : Cx} {σ : St} {s : S} {elt tg iter c : Expr} {ifs : List Expr} {scope : Scope} {own : List (Str × Nat)} {pos : Pos}
abbrev Blk (X : Cx) (scope : Scope) (s0 : Shared) (H0 : Hp) (C : Addr) (cl : List (Str × Addr)) (fp : List Addr) : Cx := X.blk s0 H0 scope (compEnvC scope cl C X.env) fp
theorem comp_read {xs : List α} {ys : List β} {t : α → Option Bool} {f : α → Option β} {g : TG} {B : Hp → α → St → St → Prop} {tt : TT} (hc : X.calm = true) (hN : X.N.Nodup) (hi : EvI X tg iter σ s xs) (ok : BlkOk X.N X.env.scope scope own)
    (hg : ∀ s0 H0 C cl fp, PG (Blk X scope s0 H0 C cl fp) tg g) (T : Tgt (α := α) X.K g B) (htt : ∀ s0 H0 C cl fp, PTs (Blk X scope s0 H0 C cl fp) ifs tt) (hf : compO t f xs = some ys) (hz : ys.length ≤ sizeLine)
    (hw : ∀ (F : Hp) (x : α) σ2, B F x (wipe σ (own.map (·.2))) σ2 → wipe σ2 (own.map (·.2)) = wipe σ (own.map (·.2)))
    (ht : ∀ (x : α) (b : Bool) (s1 : S) (σ2 : St) (Q : Bool → Hp → Prop), x ∈ xs → Ex s s1 → B s1.F x (wipe σ (own.map (·.2))) σ2 → t x = some b → (∀ s2, Ex s1 s2 → Q b s2.H) → tt σ2 s1.H Q)
    (he : ∀ (x : α) (y : β) (s1 : S) (σ2 : St), x ∈ xs → Ex s s1 → B s1.F x (wipe σ (own.map (·.2))) σ2 → t x = some true → f x = some y → ∀ s0 H0 C cl fp, Ev (Blk X scope s0 H0 C cl fp) elt σ2 s1 y)
    (s1 : S) (k : Ex s s1) (Q : VK) (q : ∀ p s2, Ex s1 s2 → s1.H p = none → Own X.K s2 p ys → Q (.ref p) s2.H) : tLc (WI X tg iter) g tt (fun σ H Q => ∀ s0 H0 C cl fp, WE (Blk X scope s0 H0 C cl fp) elt σ H Q) (own.map (·.2)) σ s1.H Q := by
  refine hi s1 k _ fun J s2 k2 W => ?_
  intro D hD
  refine ⟨fun i m H => ∃ (u : S) (pre : List β) (vs : List V), u.H = H ∧ m = xs.length - i ∧ Ex s2 u ∧ u.F D = none ∧ u.H D = some (.lst vs) ∧ Reps X.K u.F vs pre ∧ (∃ suf, compO t f (xs.drop i) = some suf ∧ pre ++ suf = ys), ⟨xs.length, s2.newO D (.lst []) hD, [], [], rfl, rfl, Ex.newO hD, (fF hD : s2.F D = none), upd_same, trivial, ys, hf, rfl⟩, ?_⟩
  rintro i m H ⟨u, pre, vs, rfl, rfl, ku, n1, n2, n3, suf, h1, h2⟩
  by_cases hi' : i < xs.length
  · right
    have hx : xs[i]? = some xs[i] := List.getElem?_eq_getElem hi'
    obtain ⟨g1, g2⟩ := W.go i u xs[i] ku.f hx
    refine ⟨g1, fun H' => ∃ m', m' < xs.length - i ∧ ∃ (u : S) (pre : List β) (vs : List V), u.H = H' ∧ m' = xs.length - (i + 1) ∧ Ex s2 u ∧ u.F D = none ∧ u.H D = some (.lst vs) ∧ Reps X.K u.F vs pre ∧ (∃ suf, compO t f (xs.drop (i + 1)) = some suf ∧ pre ++ suf = ys), fun H' z => z, fun v H' hy => ?_⟩
    obtain ⟨u', rfl, ku', rv⟩ := g2 v H' hy
    refine T.run u' v xs[i] _ _ rv fun σ2 hB => ⟨hw _ _ _ hB, ?_⟩
    rw [List.drop_eq_getElem_cons hi'] at h1
    unfold compO at h1
    cases hb : t xs[i] with
    | none => rw [hb] at h1; cases h1
    | some b =>
      rw [hb, Option.bind_some] at h1
      have mem : xs[i] ∈ xs := List.getElem_mem hi'
      have base : Ex s u' := (k.trans k2).trans (ku.trans ku')
      refine ht xs[i] b u' σ2 _ mem base hB hb fun u3 k3 => ?_
      have hlt : xs.length - (i + 1) < xs.length - i := by omega
      have kk : Ex u u3 := ku'.trans k3
      cases b with
      | false =>
        rw [if_neg Bool.false_ne_true] at h1 ⊢
        exact ⟨_, hlt, u3, pre, vs, rfl, rfl, ku.trans kk, kk.n _ _ n2 n1, kk.h _ _ n2, n3.mono kk.f, suf, h1, h2⟩
      | true =>
        rw [if_pos rfl] at h1 ⊢
        cases hfx : f xs[i] with
        | none => rw [hfx] at h1; cases h1
        | some y =>
          rw [hfx, Option.bind_some] at h1
          cases hr : compO t f (xs.drop (i + 1)) with
          | none => rw [hr] at h1; cases h1
          | some suf' =>
            rw [hr] at h1
            cases h1
            intro s0 H0 C cl fp
            refine he xs[i] y u' σ2 mem base hB hb hfx s0 H0 C cl fp u3 k3 _ fun w u4 k4 r4 => ?_
            have k5 : Ex u u4 := kk.trans k4
            have hD4 : u4.H D = some (.lst vs) := k5.h _ _ n2
            have hF4 : u4.F D = none := k5.n _ _ n2 n1
            have hlen : vs.length < sizeLine := by
              have e1 := n3.len
              have e2 : ys.length = pre.length + (suf'.length + 1) := by rw [← h2, List.length_append, List.length_cons]
              omega
            refine ⟨vs, hD4, hlen, _, hlt, u4.put D (.lst (vs ++ [w])) hF4, pre ++ [y], vs ++ [w], rfl, rfl, (ku.trans k5).mu1 (Mx.put hF4) hD, hF4, upd_same, (n3.mono k5.f).snoc r4, suf', rfl, by rw [List.append_assoc]; exact h2⟩
  · left
    have hd : xs.drop i = [] := List.drop_eq_nil_of_le (by omega)
    rw [hd] at h1
    cases h1
    refine ⟨W.stop i u ku.f (by omega), q D u (k2.trans ku) (fr_back k2 hD) ⟨n1, vs, n2, ?_⟩⟩
    rw [← h2, List.append_nil]
    exact n3
structure EvL (X : Cx) (elt tg iter : Expr) (ifs : List Expr) (scope : Scope) (σ : St) (s : S) (ys : List β) : Prop where
  calm : X.calm = true
  nd : X.N.Nodup
  fs : ∀ x, foldedSetIterable iter X.env x = pure x
  ex : ∃ (own : List (Str × Nat)) (g : TG) (tt : TT), BlkOk X.N X.env.scope scope own ∧ (∀ s0 H0 C cl fp, PG (Blk X scope s0 H0 C cl fp) tg g) ∧ (∀ s0 H0 C cl fp, PTs (Blk X scope s0 H0 C cl fp) ifs tt) ∧
    ∀ s1, Ex s s1 → ∀ Q : VK, (∀ p s2, Ex s1 s2 → s1.H p = none → Own X.K s2 p ys → Q (.ref p) s2.H) → tLc (WI X tg iter) g tt (fun σ H Q => ∀ s0 H0 C cl fp, WE (Blk X scope s0 H0 C cl fp) elt σ H Q) (own.map (·.2)) σ s1.H Q
theorem EvL.n {ys : List β} (h : EvL X elt tg iter ifs scope σ s ys) : EvN X (.ListComp elt [⟨tg, iter, ifs, 0⟩] scope pos) σ s ys := fun s1 k Q q => by
  obtain ⟨own, g, tt, h1, h2, h3, h4⟩ := h.ex
  exact we_of (pe_lc h.calm h.nd pi_wi h1 h2 h3 (fun s0 H0 C cl fp => ⟨fun pins s _ _ _ I h => h s0 H0 C cl fp pins s I⟩) h.fs) (h4 s1 k Q q)
theorem do_setL (i : Nat) {ys : List β} {n : Str} {py : Pos} {rest : List Stmt} {D : Ends} {spos : Pos} (h : EvL X elt tg iter ifs scope σ s ys) (k : ∀ p s1, Ex s s1 → s.H p = none → Own X.K s1 p ys → WSs X rest D (σ.set i (some (.ref p))) s1.H) (hk : X.env.scope.kind = .function) (hy : X.env.scope.names.lookup n = some .local)
    (hl : (py.line == pos.line) = true := by rfl) (ha : (scope.names.any fun (m, k) => m == n && (k == .local || k == .cell)) = false := by decide +kernel) (hi : X.N[i]? = some n := by rfl) :
    WSs X (.Assign [.Name n py] (.ListComp elt [⟨tg, iter, ifs, 0⟩] scope pos) spos :: rest) D σ s.H := by
  obtain ⟨own, g, tt, h1, h2, h3, h4⟩ := h.ex
  exact ws_of (pss_cons (ps_setLc (te := fun σ H Q => ∀ s0 H0 C cl fp, WE (Blk X scope s0 H0 C cl fp) elt σ H Q) h.calm h.nd hi hy (sw_true hk hy hl ha) pi_wi h1 h2 h3 (fun s0 H0 C cl fp => ⟨fun pins s _ _ _ I h => h s0 H0 C cl fp pins s I⟩) h.fs) pss_ws) (h4 s (Ex.refl _) (fun x H1 => WSs X rest D (σ.set i (some x)) H1) fun p s2 k2 n2 o2 => k p s2 k2 n2 o2)
theorem wipe_set {τ : St} {j : Nat} {o : Option V} : ∀ {vs : List Nat}, j ∈ vs → wipe (τ.set j o) vs = wipe τ vs
  | v :: vs, h => by
    show (wipe (τ.set j o) vs).set v none = (wipe τ vs).set v none
    by_cases e : j ∈ vs
    · rw [wipe_set e]
    · have : j = v := by
        rcases List.mem_cons.mp h with z | z
        · exact z
        · exact absurd z e
      subst this
      have : ∀ {ws : List Nat} {τ : St}, j ∉ ws → wipe (τ.set j o) ws = (wipe τ ws).set j o := by
        intro ws
        induction ws with
        | nil => intro τ _; rfl
        | cons a r ih =>
          intro τ h
          show (wipe (τ.set j o) r).set a none = ((wipe τ r).set a none).set j o
          rw [ih fun z => h (List.mem_cons_of_mem _ z), List.set_comm _ _ (fun z => h (by rw [z]; exact List.mem_cons_self))]
      rw [this e, List.set_set]
theorem wipe_wipe {τ : St} : ∀ {vs ws : List Nat}, (∀ v ∈ vs, v ∈ ws) → wipe (wipe τ vs) ws = wipe τ ws
  | [], _, _ => rfl
  | v :: vs, ws, h => by
    show wipe ((wipe τ vs).set v none) ws = wipe τ ws
    rw [wipe_set (h v List.mem_cons_self)]
    exact wipe_wipe fun u hu => h u (List.mem_cons_of_mem _ hu)
theorem en_comp0 {xs : List α} {ys : List β} {f : α → Option β} {j : Nat} {n : Str} {py : Pos} (hc : X.calm = true) (hN : X.N.Nodup) (hi : EvI X (.Name n py) iter σ s xs) (ok : BlkOk X.N X.env.scope scope own) (hj : X.N[j]? = some n)
    (hjo : j ∈ own.map (·.2)) (hg : ∀ s0 H0 C cl fp, PG (Blk X scope s0 H0 C cl fp) (.Name n py) (gName j)) (hf : mapO f xs = some ys) (hz : ys.length ≤ sizeLine)
    (he : ∀ (x : α) (y : β) (v : V) (s1 : S), x ∈ xs → Ex s s1 → rep X.K s1.F v x → f x = some y → ∀ s0 H0 C cl fp, Ev (Blk X scope s0 H0 C cl fp) elt ((wipe σ (own.map (·.2))).set j (some v)) s1 y)
    (hs : ∀ x, foldedSetIterable iter X.env x = pure x := by intro _; rfl) : EvL X elt (.Name n py) iter [] scope σ s ys :=
  ⟨hc, hN, hs, own, _, _, ok, hg, fun _ _ _ _ _ => pts_nil, fun s1 k Q q => comp_read (t := fun _ => some true) hc hN hi ok hg tg_n (fun _ _ _ _ _ => pts_nil) hf hz (fun F x σ2 ⟨v, _, e⟩ => by rw [e, wipe_set hjo]; exact wipe_wipe fun _ z => z)
    (fun x b s1 σ2 Q _ _ _ hb q => by cases hb; exact q s1 (Ex.refl _)) (fun x y s1 σ2 hx k ⟨v, r, e⟩ _ hfx => by subst e; exact he x y v s1 hx k r hfx) s1 k Q q⟩
theorem en_comp1 {xs : List α} {ys : List β} {t : α → Option Bool} {f : α → Option β} {j : Nat} {n : Str} {py : Pos} (hc : X.calm = true) (hN : X.N.Nodup) (hi : EvI X (.Name n py) iter σ s xs) (ok : BlkOk X.N X.env.scope scope own) (hj : X.N[j]? = some n)
    (hjo : j ∈ own.map (·.2)) (hg : ∀ s0 H0 C cl fp, PG (Blk X scope s0 H0 C cl fp) (.Name n py) (gName j)) (hf : compO t f xs = some ys) (hz : ys.length ≤ sizeLine)
    (ht : ∀ (x : α) (b : Bool) (v : V) (s1 : S), x ∈ xs → Ex s s1 → rep X.K s1.F v x → t x = some b → ∀ s0 H0 C cl fp, EvT (Blk X scope s0 H0 C cl fp) c ((wipe σ (own.map (·.2))).set j (some v)) s1 b)
    (he : ∀ (x : α) (y : β) (v : V) (s1 : S), x ∈ xs → Ex s s1 → rep X.K s1.F v x → t x = some true → f x = some y → ∀ s0 H0 C cl fp, Ev (Blk X scope s0 H0 C cl fp) elt ((wipe σ (own.map (·.2))).set j (some v)) s1 y)
    (hs : ∀ x, foldedSetIterable iter X.env x = pure x := by intro _; rfl) : EvL X elt (.Name n py) iter [c] scope σ s ys :=
  ⟨hc, hN, hs, own, _, _, ok, hg, fun s0 H0 C cl fp => pts_one ⟨fun pins s _ _ _ I h => h s0 H0 C cl fp pins s I⟩, fun s1 k Q q => comp_read (tt := fun σ H Q => ∀ s0 H0 C cl fp, WT (Blk X scope s0 H0 C cl fp) c σ H Q) hc hN hi ok hg tg_n (fun s0 H0 C cl fp => pts_one ⟨fun pins s _ _ _ I h => h s0 H0 C cl fp pins s I⟩) hf hz (fun F x σ2 ⟨v, _, e⟩ => by rw [e, wipe_set hjo]; exact wipe_wipe fun _ z => z)
    (fun x b s1 σ2 Q hx k ⟨v, r, e⟩ hb q => by subst e; intro s0 H0 C cl fp; exact ht x b v s1 hx k r hb s0 H0 C cl fp s1 (Ex.refl _) Q q) (fun x y s1 σ2 hx k ⟨v, r, e⟩ htx hfx => by subst e; exact he x y v s1 hx k r htx hfx) s1 k Q q⟩
end
end Dy

namespace Dy
open PySem PySem.Spec L2
open PyProof.Rows hiding St
open Enc (rep)
open Flat (toV)
open EncA (repA)

abbrev MD (D : Ends) (M : St → S → Prop) : Ends := { D with nx := fun σ H => ∃ s : S, s.H = H ∧ M σ s }
abbrev ND (D : Ends) : Ends := { D with nx := fun _ _ => False }
abbrev LD (D : Ends) (M : St → S → Prop) : Ends := { nx := fun σ H => ∃ s : S, s.H = H ∧ M σ s, rt := D.rt }
abbrev RD (Q : VK) : Ends := { nx := fun _ H' => Q .non H', rt := Q }
section
variable {α β γ δ : Type} [Enc α] [Enc β] [Enc γ] [Enc δ] {X : Cx} {σ : St} {s t : S} {e a b c tg iter : Expr} {es : List Expr} {pos p0 p1 p2 p3 : Pos} {D : Ends} {rest A B : List Stmt}
theorem do_nil (h : D.nx σ s.H) : WSs X [] D σ s.H := ws_of pss_nil h
theorem do_cons {st : Stmt} {ts : TS} (h : PS X st ts) (q : ts { D with nx := fun σ' H' => WSs X rest D σ' H' } σ s.H) : WSs X (st :: rest) D σ s.H := ws_of (pss_cons h pss_ws) q
theorem do_set (i : Nat) {x : α} {n : Str} {py : Pos} (h : Ev X e σ s x) (k : ∀ v s1, Ex s s1 → rep X.K s1.F v x → WSs X rest D (σ.set i (some v)) s1.H) (hN : X.N.Nodup) (hx : Loc X.env.scope n := by first | exact Or.inl rfl | exact Or.inr rfl) (hi : X.N[i]? = some n := by rfl)
    (hs : swapsWith e (some (.Name n py)) pos.line X.env = pure false := by rfl) (hf : X.fn n = true ∨ X.env.scope.names.lookup n = some .local := by first | exact .inl rfl | exact .inr rfl) : WSs X (.Assign [.Name n py] e pos :: rest) D σ s.H :=
  do_cons (ps_set hN hi hx pe_we hs hf) (h s (Ex.refl _) _ fun v s1 k1 r => k v s1 k1 r)
theorem do_setN (i : Nat) {xs : List α} {n : Str} {py : Pos} (h : EvN X e σ s xs) (k : ∀ p s1, Ex s s1 → s.H p = none → Own X.K s1 p xs → WSs X rest D (σ.set i (some (.ref p))) s1.H) (hN : X.N.Nodup) (hx : Loc X.env.scope n := by first | exact Or.inl rfl | exact Or.inr rfl) (hi : X.N[i]? = some n := by rfl)
    (hs : swapsWith e (some (.Name n py)) pos.line X.env = pure false := by rfl) (hf : X.fn n = true ∨ X.env.scope.names.lookup n = some .local := by first | exact .inl rfl | exact .inr rfl) : WSs X (.Assign [.Name n py] e pos :: rest) D σ s.H :=
  do_cons (ps_set hN hi hx pe_we hs hf) (h s (Ex.refl _) _ fun v s1 k1 n1 r => k v s1 k1 n1 r)
theorem do_ret {x : α} (h : Ev X e σ s x) (k : ∀ v s1, Ex s s1 → rep X.K s1.F v x → D.rt v s1.H) : WSs X (.Return (some e) pos :: rest) D σ s.H :=
  do_cons (ps_ret pe_we) (h s (Ex.refl _) _ fun v s1 k1 r => k v s1 k1 r)
theorem do_retN {xs : List α} (h : EvN X e σ s xs) (k : ∀ p s1, Ex s s1 → s.H p = none → Own X.K s1 p xs → D.rt (.ref p) s1.H) : WSs X (.Return (some e) pos :: rest) D σ s.H :=
  do_cons (ps_ret pe_we) (h s (Ex.refl _) _ fun v s1 k1 n1 r => k v s1 k1 n1 r)
theorem do_retO (i : Nat) {p : Addr} {n : Str} (h : σ[i]? = some (some (.ref p))) (k : D.rt (.ref p) s.H) (hN : X.N[i]? = some n := by rfl) (hv : Vis X.env.scope n := by first | exact Or.inl rfl | exact Or.inr (Or.inl rfl) | exact Or.inr (Or.inr rfl)) (hd : (n == ("__debug__" : Str)) = false := by decide)
    (hcd : (n == ("__classdict__" : Str)) = false := by decide) : WSs X (.Return (some (.Name n p0)) pos :: rest) D σ s.H :=
  do_cons (ps_ret (pe_var hN hv hd hcd)) ⟨_, h, k⟩
theorem do_if {x : Bool} (hc : EvT X c σ s x) (M : St → S → Prop) (h1 : x = true → ∀ s1, Ex s s1 → WSs X A (MD D M) σ s1.H) (h2 : x = false → ∀ s1, Ex s s1 → WSs X B (MD D M) σ s1.H)
    (h3 : ∀ σ' s', M σ' s' → WSs X rest D σ' s'.H) : WSs X (.If c A B pos :: rest) D σ s.H :=
  do_cons (ps_if pt_wt pss_ws pss_ws) (hc s (Ex.refl _) _ fun s1 k => by
    cases x with
    | true => exact iteT ((h1 rfl s1 k).imp (fun σ' H' ⟨s', e, m⟩ => e ▸ h3 σ' s' m) (fun _ _ q => q) (fun _ _ q => q) fun _ _ q => q)
    | false => exact iteF ((h2 rfl s1 k).imp (fun σ' H' ⟨s', e, m⟩ => e ▸ h3 σ' s' m) (fun _ _ q => q) (fun _ _ q => q) fun _ _ q => q))
theorem do_ifR {x : Bool} (hc : EvT X c σ s x) (h1 : x = true → ∀ s1, Ex s s1 → WSs X A (ND D) σ s1.H) (h2 : x = false → ∀ s1, Ex s s1 → WSs X rest D σ s1.H) : WSs X (.If c A [] pos :: rest) D σ s.H :=
  do_cons (ps_if pt_wt pss_ws pss_nil) (hc s (Ex.refl _) _ fun s1 k => by
    cases x with
    | true => exact iteT ((h1 rfl s1 k).imp (fun _ _ z => z.elim) (fun _ _ q => q) (fun _ _ q => q) fun _ _ q => q)
    | false => exact iteF (h2 rfl s1 k))
theorem do_ifRR {x : Bool} (hc : EvT X c σ s x) (h1 : x = true → ∀ s1, Ex s s1 → WSs X A (ND D) σ s1.H) (h2 : x = false → ∀ s1, Ex s s1 → WSs X B (ND D) σ s1.H) : WSs X (.If c A B pos :: rest) D σ s.H :=
  do_cons (ps_if pt_wt pss_ws pss_ws) (hc s (Ex.refl _) _ fun s1 k => by
    cases x with
    | true => exact iteT ((h1 rfl s1 k).imp (fun _ _ z => z.elim) (fun _ _ q => q) (fun _ _ q => q) fun _ _ q => q)
    | false => exact iteF ((h2 rfl s1 k).imp (fun _ _ z => z.elim) (fun _ _ q => q) (fun _ _ q => q) fun _ _ q => q))

theorem st_set {l : St} {i : Nat} {v : V} (h : l[i]? = some (some v)) : l[i]? = some (some v) := h
theorem do_append (i : Nat) {p : Addr} {n : Str} {xs : List α} {x : α} (hσ : σ[i]? = some (some (.ref p))) (o : Own X.K s p xs) (he : Ev X e σ s x) (hz : xs.length < sizeLine)
    (k : ∀ s1, Mx (· = p) s s1 → Own X.K s1 p (xs ++ [x]) → WSs X rest D σ s1.H)
    (hN : X.N[i]? = some n := by rfl) (hv : Vis X.env.scope n := by first | exact Or.inl rfl | exact Or.inr (Or.inl rfl) | exact Or.inr (Or.inr rfl)) (hd : (n == ("__debug__" : Str)) = false := by decide) (hcd : (n == ("__classdict__" : Str)) = false := by decide)
    (hbase : attributeBase (.Name n p0) "append" X.env (eval (.Name n p0) X.env) = eval (.Name n p0) X.env := by rfl)
    (hfew : ((backTo p2 (starEach [e] X.env)).all (fun x => !x.1) && (backToKw p2 (keywordEach [] X.env)).all (fun x => x.1.isSome) && decide (([e] : List Expr).length + ([] : List Keyword).length + (if ([] : List Keyword).isEmpty then 0 else 1) < 30)) = true := by rfl)
    (hline : (p1.endLine == p2.line) = true := by rfl) (hs : starEach [e] X.env = (false, eval e X.env) :: starEach [] X.env := by rfl) (hplain : (backTo p2 (starEach [] X.env)).any (·.1) = false := by rfl)
    (hsw : swapsWith (.Call (.Attribute (.Name n p0) "append" p1) [e] [] p2) none p3.line X.env = pure false := by rfl) :
    WSs X (.Expr (.Call (.Attribute (.Name n p0) "append" p1) [e] [] p2) p3 :: rest) D σ s.H :=
  do_cons (ps_expr (pe_bm PySem.F.plainAttrs_list PySem.F.slot_list_append PySem.F.type_list_append mt_append (pe_var hN hv hd hcd) (pa_cons pe_we pa_nil hs) hbase hfew hline hs hplain) hsw) (by
    obtain ⟨h1, vs, h2, h3⟩ := id o
    refine ⟨_, hσ, .inl ⟨rfl, vs, .inl (.inl h2)⟩, he s (Ex.refl _) _ fun v s1 k1 r1 => ?_⟩
    have f1 := k1.n _ _ h2 h1
    have g1 := k1.h _ _ h2
    refine ⟨p, vs, v, rfl, rfl, g1, by rw [h3.len]; exact hz, ?_⟩
    exact k (s1.put p (.lst (vs ++ [v])) f1) (k1.mx.trans (Mx.put f1)) ⟨f1, _, upd_same, (h3.mono k1.f).snoc r1⟩)
theorem do_extend (i : Nat) {p : Addr} {n : Str} {xs ys : List α} (hσ : σ[i]? = some (some (.ref p))) (o : Own X.K s p xs) (he : EvN X e σ s ys) (hz : xs.length + ys.length ≤ sizeLine)
    (k : ∀ s1, Mx (· = p) s s1 → Own X.K s1 p (xs ++ ys) → WSs X rest D σ s1.H)
    (hN : X.N[i]? = some n := by rfl) (hv : Vis X.env.scope n := by first | exact Or.inl rfl | exact Or.inr (Or.inl rfl) | exact Or.inr (Or.inr rfl)) (hd : (n == ("__debug__" : Str)) = false := by decide) (hcd : (n == ("__classdict__" : Str)) = false := by decide)
    (hbase : attributeBase (.Name n p0) "extend" X.env (eval (.Name n p0) X.env) = eval (.Name n p0) X.env := by rfl)
    (hfew : ((backTo p2 (starEach [e] X.env)).all (fun x => !x.1) && (backToKw p2 (keywordEach [] X.env)).all (fun x => x.1.isSome) && decide (([e] : List Expr).length + ([] : List Keyword).length + (if ([] : List Keyword).isEmpty then 0 else 1) < 30)) = true := by rfl)
    (hline : (p1.endLine == p2.line) = true := by rfl) (hs : starEach [e] X.env = (false, eval e X.env) :: starEach [] X.env := by rfl) (hplain : (backTo p2 (starEach [] X.env)).any (·.1) = false := by rfl)
    (hsw : swapsWith (.Call (.Attribute (.Name n p0) "extend" p1) [e] [] p2) none p3.line X.env = pure false := by rfl) :
    WSs X (.Expr (.Call (.Attribute (.Name n p0) "extend" p1) [e] [] p2) p3 :: rest) D σ s.H :=
  do_cons (ps_expr (pe_bm PySem.F.plainAttrs_list PySem.F.slot_list_extend PySem.F.type_list_extend mt_extend (pe_var hN hv hd hcd) (pa_cons pe_we pa_nil hs) hbase hfew hline hs hplain) hsw) (by
    obtain ⟨h1, vs, h2, h3⟩ := id o
    refine ⟨_, hσ, .inl ⟨rfl, vs, .inl (.inl h2)⟩, he s (Ex.refl _) _ fun q s1 k1 n1 o1 => ?_⟩
    obtain ⟨_, ws, h4, h5⟩ := o1
    have f1 := k1.n _ _ h2 h1
    have g1 := k1.h _ _ h2
    refine ⟨p, q, vs, ws, rfl, rfl, g1, h4, by rw [h3.len, h5.len]; exact hz, ?_⟩
    exact k (s1.put p (.lst (vs ++ ws)) f1) (k1.mx.trans (Mx.put f1)) ⟨f1, _, upd_same, (h3.mono k1.f).app h5⟩)
theorem do_setItem (i : Nat) {p : Addr} {n : Str} {xs : List α} {x : α} {z : Int} {j : Nat} (hσ : σ[i]? = some (some (.ref p))) (o : Own X.K s p xs) (he : Ev X e σ s x) (hi : Ev X a σ s z) (hj : ixN xs.length z = some j)
    (k : ∀ s1, Mx (· = p) s s1 → Own X.K s1 p (xs.set j x) → WSs X rest D σ s1.H)
    (hN : X.N[i]? = some n := by rfl) (hv : Vis X.env.scope n := by first | exact Or.inl rfl | exact Or.inr (Or.inl rfl) | exact Or.inr (Or.inr rfl)) (hd : (n == ("__debug__" : Str)) = false := by decide) (hcd : (n == ("__classdict__" : Str)) = false := by decide)
    (ha : ∀ v, assign (.Subscript (.Name n p0) a p1) X.env v = (do
      let ov ← holding [v] (eval (.Name n p0) X.env)
      let iv ← holding [v, ov] (eval a X.env)
      standAt p1
      holding [v, ov, iv] (setItem ov iv v)
      release [v, ov, iv] []) := by intro _; rfl)
    (hs : swapsWithSole [.Subscript (.Name n p0) a p1] e pos.line X.env = pure false := by rfl) (hw : swappedStores [.Subscript (.Name n p0) a p1] e X.env = pure none := by rfl)
    (h1 : (assignEach [.Subscript (.Name n p0) a p1] X.env).map (·.2) = [assign (.Subscript (.Name n p0) a p1) X.env] := by rfl) :
    WSs X (.Assign [.Subscript (.Name n p0) a p1] e pos :: rest) D σ s.H :=
  do_cons (ps_asg pe_we (pg_sub (pe_var hN hv hd hcd) pe_we set_list ha) hs hw h1) (by
    obtain ⟨f0, vs, h2, h3⟩ := id o
    refine he s (Ex.refl _) _ fun v s1 k1 r1 => ⟨_, hσ, hi s1 k1 _ fun u s2 k2 r2 => ?_⟩
    have k3 := k1.trans k2
    have f1 := k3.n _ _ h2 f0
    have g1 := k3.h _ _ h2
    refine ⟨p, vs, z, j, rfl, r2, g1, by rw [h3.len]; exact hj, ?_⟩
    exact k (s2.put p (.lst (vs.set j v)) f1) (k3.mx.trans (Mx.put f1)) ⟨f1, _, upd_same, (h3.mono k3.f).set j (Enc.mono k2.f r1)⟩)
theorem do_frz {p : Addr} {xs : List α} {ss : List Stmt} (o : Own X.K s p xs) (k : ∀ s' : S, s'.H = s.H → Fle s.F s'.F → (∀ q, q ≠ p → s'.F q = s.F q) → rep X.K s'.F (.ref p) xs → WSs X ss D σ s'.H) : WSs X ss D σ s.H := by
  obtain ⟨s', h1, h2, h3, h4⟩ := o.frz
  have := k s' h1 h2 h3 h4
  rw [h1] at this
  exact this

theorem foldO_drop {τ υ : Type} {f : υ → τ → Option υ} {b b1 : υ} {xs : List τ} {i : Nat} (hi : i < xs.length) (h : foldO f b (xs.drop i) = some b1) : ∃ b', f b xs[i] = some b' ∧ foldO f b' (xs.drop (i + 1)) = some b1 := by
  rw [List.drop_eq_getElem_cons hi] at h
  exact bndE h
theorem do_for_core {τ : Type} [Enc τ] {xs : List τ} {body : List Stmt} {g : TG} {B : Hp → τ → St → St → Prop} (hp : PassesOwn (model X.prog X.w) X.A X.env X.xe) (hc : X.calm = true) (hi : EvI X tg iter σ s xs) (hg : PG X tg g) (T : Tgt (α := τ) X.K g B)
    (R : Nat → St → S → Prop) (h0 : ∀ s1, Ex s s1 → R 0 σ s1)
    (hb : ∀ s1, Ex s s1 → ∀ (i : Nat) (x : τ) (σ' σ2 : St) (t t' : S), xs[i]? = some x → Fle s1.F t.F → R i σ' t → Ex t t' → B t'.F x σ' σ2 → WSs X body (LD D fun σ s => Fle t'.F s.F ∧ R (i + 1) σ s) σ2 t'.H)
    (hd : ∀ s1, Ex s s1 → ∀ σ' t, Fle s1.F t.F → R xs.length σ' t → WSs X rest D σ' t.H)
    (hs : ∀ x, foldedSetIterable iter X.env x = pure x := by intro _; rfl) : WSs X (.For tg iter body [] pos :: rest) D σ s.H :=
  do_cons (ps_for hp hc pi_wi hg pss_ws hs) (hi s (Ex.refl _) _ fun J s1 k1 W => by
    refine ⟨fun i m σ' H' => ∃ t : S, t.H = H' ∧ m = xs.length - i ∧ i ≤ xs.length ∧ Fle s1.F t.F ∧ R i σ' t, ⟨xs.length, s1, rfl, rfl, Nat.zero_le _, Fle.refl _, h0 s1 k1⟩, ?_⟩
    rintro i m σ' H' ⟨t, rfl, rfl, hle, f, r⟩
    by_cases hlt : i < xs.length
    · right
      obtain ⟨g1, g2⟩ := W.go i t xs[i] f (List.getElem?_eq_getElem hlt)
      refine ⟨g1, fun σ' H' => ∃ u : S, u.H = H' ∧ Fle s1.F u.F ∧ R (i + 1) σ' u, fun σ' H' ⟨u, e1, f1, r1⟩ => ⟨xs.length - (i + 1), by omega, u, e1, rfl, hlt, f1, r1⟩, fun v H' hy => ?_⟩
      obtain ⟨t', rfl, kt, rv⟩ := g2 v H' hy
      refine T.run t' v xs[i] _ _ rv fun σ2 hB => ?_
      have := hb s1 k1 i xs[i] σ' σ2 t t' (List.getElem?_eq_getElem hlt) f r kt hB
      exact this.imp (fun σ3 H3 ⟨u, e1, f1, r1⟩ => ⟨u, e1, (f.trans kt.f).trans f1, r1⟩) (fun _ _ q => q) (fun _ _ q => q.elim) (fun _ _ q => q.elim)
    · left
      have e : i = xs.length := by omega
      subst e
      exact ⟨W.stop _ t f (Nat.le_refl _), hd s1 k1 σ' t f r⟩)
theorem do_forO {τ υ : Type} [Enc τ] {xs : List τ} {f : υ → τ → Option υ} {b0 b1 : υ} {body : List Stmt} {g : TG} {B : Hp → τ → St → St → Prop} (hp : PassesOwn (model X.prog X.w) X.A X.env X.xe) (hc : X.calm = true) (hi : EvI X tg iter σ s xs) (hg : PG X tg g) (T : Tgt (α := τ) X.K g B)
    (hf : foldO f b0 xs = some b1) (R : υ → St → S → Prop) (h0 : ∀ s1, Ex s s1 → R b0 σ s1)
    (hb : ∀ s1, Ex s s1 → ∀ (x : τ) (b b' : υ) (σ' σ2 : St) (t t' : S), x ∈ xs → f b x = some b' → Fle s1.F t.F → R b σ' t → Ex t t' → B t'.F x σ' σ2 → WSs X body (LD D fun σ s => Fle t'.F s.F ∧ R b' σ s) σ2 t'.H)
    (hd : ∀ s1, Ex s s1 → ∀ σ' t, Fle s1.F t.F → R b1 σ' t → WSs X rest D σ' t.H)
    (hs : ∀ x, foldedSetIterable iter X.env x = pure x := by intro _; rfl) : WSs X (.For tg iter body [] pos :: rest) D σ s.H :=
  do_for_core hp hc hi hg T (fun i σ' t => ∃ b, foldO f b (xs.drop i) = some b1 ∧ R b σ' t) (fun s1 k => ⟨b0, hf, h0 s1 k⟩)
    (fun s1 k i x σ' σ2 t t' hx fl ⟨b, h1, h2⟩ kt hB => by
      obtain ⟨hlt, rfl⟩ := List.getElem?_eq_some_iff.mp hx
      obtain ⟨b', h3, h4⟩ := foldO_drop hlt h1
      exact (hb s1 k xs[i] b b' σ' σ2 t t' (List.getElem_mem hlt) h3 fl h2 kt hB).imp (fun σ3 H3 ⟨u, e1, f1, r1⟩ => ⟨u, e1, f1, b', h4, r1⟩) (fun _ _ q => q) (fun _ _ q => q.elim) (fun _ _ q => q.elim))
    (fun s1 k σ' t fl ⟨b, h1, h2⟩ => by
      rw [List.drop_length] at h1
      cases h1
      exact hd s1 k σ' t fl h2) hs
theorem foldF_drop {τ υ ρ : Type} {f : υ → τ → Option (Fl υ ρ)} {b : υ} {o : Fl υ ρ} {xs : List τ} {i : Nat} (hi : i < xs.length) (h : foldF f b (xs.drop i) = some o) : ∃ q, f b xs[i] = some q ∧ (∀ b', q = .nx b' → foldF f b' (xs.drop (i + 1)) = some o) ∧ ∀ r, q = .rt r → o = .rt r := by
  rw [List.drop_eq_getElem_cons hi] at h
  obtain ⟨q, h1, h2⟩ := bndE h
  refine ⟨q, h1, fun b' e => by subst e; exact h2, fun r e => by subst e; exact (Option.some.inj h2).symm⟩
theorem do_forF {τ υ ρ : Type} [Enc τ] {xs : List τ} {f : υ → τ → Option (Fl υ ρ)} {b0 : υ} {o : Fl υ ρ} {body : List Stmt} {g : TG} {B : Hp → τ → St → St → Prop} (hp : PassesOwn (model X.prog X.w) X.A X.env X.xe) (hc : X.calm = true) (hi : EvI X tg iter σ s xs) (hg : PG X tg g) (T : Tgt (α := τ) X.K g B)
    (hf : foldF f b0 xs = some o) (R : υ → St → S → Prop) (h0 : ∀ s1, Ex s s1 → R b0 σ s1)
    (hb : ∀ s1, Ex s s1 → ∀ (x : τ) (b : υ) (q : Fl υ ρ) (σ' σ2 : St) (t t' : S), x ∈ xs → f b x = some q → (∀ r, q = .rt r → o = .rt r) → Fle s1.F t.F → R b σ' t → Ex t t' → B t'.F x σ' σ2 → WSs X body (LD D fun σ s => ∃ b', q = .nx b' ∧ Fle t'.F s.F ∧ R b' σ s) σ2 t'.H)
    (hd : ∀ s1, Ex s s1 → ∀ b1 σ' t, o = .nx b1 → Fle s1.F t.F → R b1 σ' t → WSs X rest D σ' t.H)
    (hs : ∀ x, foldedSetIterable iter X.env x = pure x := by intro _; rfl) : WSs X (.For tg iter body [] pos :: rest) D σ s.H :=
  do_for_core hp hc hi hg T (fun i σ' t => ∃ b, foldF f b (xs.drop i) = some o ∧ R b σ' t) (fun s1 k => ⟨b0, hf, h0 s1 k⟩)
    (fun s1 k i x σ' σ2 t t' hx fl ⟨b, h1, h2⟩ kt hB => by
      obtain ⟨hlt, rfl⟩ := List.getElem?_eq_some_iff.mp hx
      obtain ⟨q, h3, h4, h5⟩ := foldF_drop hlt h1
      exact (hb s1 k xs[i] b q σ' σ2 t t' (List.getElem_mem hlt) h3 h5 fl h2 kt hB).imp (fun σ3 H3 ⟨u, e1, b', e2, f1, r1⟩ => ⟨u, e1, f1, b', h4 b' e2, r1⟩) (fun _ _ q => q) (fun _ _ q => q.elim) (fun _ _ q => q.elim))
    (fun s1 k σ' t fl ⟨b, h1, h2⟩ => by
      rw [List.drop_length] at h1
      cases h1
      exact hd s1 k b σ' t rfl fl h2) hs
theorem do_whileO {υ : Type} {cf : υ → Option Bool} {f : υ → Option υ} {n : Nat} {b0 b1 : υ} {body : List Stmt} (hp : PassesOwn (model X.prog X.w) X.A X.env X.xe) (hf : whileO cf f n b0 = some b1) (R : υ → St → S → Prop) (h0 : R b0 σ s)
    (hc : ∀ (b : υ) (x : Bool) (σ' : St) (t : S), cf b = some x → Fle s.F t.F → R b σ' t → EvT X c σ' t x)
    (hb : ∀ (b b' : υ) (σ' : St) (t t' : S), cf b = some true → f b = some b' → Fle s.F t.F → R b σ' t → Ex t t' → WSs X body (LD D fun σ s => Fle t'.F s.F ∧ R b' σ s) σ' t'.H)
    (hd : ∀ σ' t t', cf b1 = some false → Fle s.F t.F → R b1 σ' t → Ex t t' → WSs X rest D σ' t'.H) : WSs X (.While c body [] pos :: rest) D σ s.H :=
  do_cons (ps_while hp pt_wt pss_ws) (by
    refine ⟨fun m σ' H' => ∃ (t : S) (b : υ), t.H = H' ∧ Fle s.F t.F ∧ whileO cf f m b = some b1 ∧ R b σ' t, ⟨n, s, b0, rfl, Fle.refl _, hf, h0⟩, ?_⟩
    rintro m σ' H' ⟨t, b, rfl, fl, h1, h2⟩
    cases m with
    | zero => cases h1
    | succ m =>
      obtain ⟨x, h3, h4⟩ := bndE h1
      refine hc b x σ' t h3 fl h2 t (Ex.refl _) _ fun t' kt => ?_
      cases x with
      | true =>
        refine iteT ?_
        rw [if_pos rfl] at h4
        obtain ⟨b', h5, h6⟩ := bndE h4
        refine ⟨fun σ3 H3 => ∃ u : S, u.H = H3 ∧ Fle s.F u.F ∧ R b' σ3 u, fun σ3 H3 ⟨u, e1, f1, r1⟩ => ⟨m, Nat.lt_succ_self _, u, b', e1, f1, h6, r1⟩, ?_⟩
        exact (hb b b' σ' t t' h3 h5 fl h2 kt).imp (fun σ3 H3 ⟨u, e1, f1, r1⟩ => ⟨u, e1, (fl.trans kt.f).trans f1, r1⟩) (fun _ _ q => q) (fun _ _ q => q.elim) (fun _ _ q => q.elim)
      | false =>
        refine iteF ?_
        rw [if_neg Bool.false_ne_true] at h4
        cases h4
        exact hd σ' t t' h3 fl h2 kt)
end
end Dy

namespace Dy
open PySem PySem.Spec L2
open PyProof.Rows hiding St
open Enc (rep)
open Flat (toV)
open EncA (repA)

section
variable {P : Program} {w : World} {K : PySem.W.Frag} {mg : Str → Option Value} {base : Heap}
abbrev FunP (K : PySem.W.Frag) (x : Str) (st : Stmt) (f : Addr) (fd : FuncData) : Prop := FunD K x x (defArgs st) (defBody st) (defScope st) [] [] f fd
theorem mk_fn {A ρ : Type} [EncA A] [Enc ρ] {m : A → Option ρ} {x : Str} {st : Stmt} {f : Addr} {fd : FuncData} {N ps : List Str} {k : Nat} (F : FunP K x st f fd) (Sc : FnScope N ps (defScope st))
    (hl : ∀ (F : Hp) (vs : List V) (a : A), repA K F vs a → vs.length = ps.length)
    (body : ∀ (cdv : Value) (A' : Around) (outer : List Env) (s0 : Shared) (H0 : Hp) (E0 : XK), Room k (A'.deeper (envOfC x (defScope st) s0.heap.objs.size f cdv)) → ∀ (s : S) (vs : List V) (a : A) (r : ρ) (Q : VK), repA K s.F vs a → m a = some r →
      (∀ v s', Ex s s' → rep K s'.F v r → Q v s'.H) → WSs (cxOf CX0 P w K mg base N x (defScope st) f cdv A' outer s0 H0 E0).nox (defBody st) (RD Q) (start N vs) s.H) : FnOk P w K mg base CX0 (k + 1) f fd ps (sp K m) :=
  F.ok Sc (fun vs H Q E ⟨s, a, r, _, h, _⟩ => hl s.F vs a h) (fun cdv A' outer s0 H0 vs Q E hr ⟨s, a, r, e, h1, h2, h3⟩ => ⟨_, pss_ws.nox, by
    have := body cdv A' outer s0 H0 E hr s vs a r Q h1 h2 h3
    rw [e] at this
    exact this⟩)
theorem mk_cal {A ρ : Type} [EncA A] [Enc ρ] {m : A → Option ρ} {x : Str} {st : Stmt} {f : Addr} {fd : FuncData} {N ps : List Str} {k : Nat} (F : FunP K x st f fd) (hm : mg x = some (.ref f)) (b : Binds K fd ps []) (Sc : FnScope N ps (defScope st))
    (hl : ∀ (F : Hp) (vs : List V) (a : A), repA K F vs a → vs.length = ps.length)
    (body : ∀ (cdv : Value) (A' : Around) (outer : List Env) (s0 : Shared) (H0 : Hp) (E0 : XK), Room k (A'.deeper (envOfC x (defScope st) s0.heap.objs.size f cdv)) → ∀ (s : S) (vs : List V) (a : A) (r : ρ) (Q : VK), repA K s.F vs a → m a = some r →
      (∀ v s', Ex s s' → rep K s'.F v r → Q v s'.H) → WSs (cxOf CX0 P w K mg base N x (defScope st) f cdv A' outer s0 H0 E0).nox (defBody st) (RD Q) (start N vs) s.H) : Cal P w K mg base CX0 (k + 1) x (sp K m) :=
  ⟨f, fd, ps, F.ok Sc (fun vs H Q E ⟨s, a, r, _, h, _⟩ => hl s.F vs a h) (fun cdv A' outer s0 H0 vs Q E hr ⟨s, a, r, e, h1, h2, h3⟩ => ⟨_, pss_ws.nox, by
    have := body cdv A' outer s0 H0 E hr s vs a r Q h1 h2 h3
    rw [e] at this
    exact this⟩), hm, F.kp, b⟩
theorem mk_calN {A ρ : Type} [EncA A] [Enc ρ] {m : A → Option (List ρ)} {x : Str} {st : Stmt} {f : Addr} {fd : FuncData} {N ps : List Str} {k : Nat} (F : FunP K x st f fd) (hm : mg x = some (.ref f)) (b : Binds K fd ps []) (Sc : FnScope N ps (defScope st))
    (hl : ∀ (F : Hp) (vs : List V) (a : A), repA K F vs a → vs.length = ps.length)
    (body : ∀ (cdv : Value) (A' : Around) (outer : List Env) (s0 : Shared) (H0 : Hp) (E0 : XK), Room k (A'.deeper (envOfC x (defScope st) s0.heap.objs.size f cdv)) → ∀ (s : S) (vs : List V) (a : A) (r : List ρ) (Q : VK), repA K s.F vs a → m a = some r →
      (∀ p s', Ex s s' → s.H p = none → Own K s' p r → Q (.ref p) s'.H) → WSs (cxOf CX0 P w K mg base N x (defScope st) f cdv A' outer s0 H0 E0).nox (defBody st) (RD Q) (start N vs) s.H) : Cal P w K mg base CX0 (k + 1) x (spN K m) :=
  ⟨f, fd, ps, F.ok Sc (fun vs H Q E ⟨s, a, r, _, h, _⟩ => hl s.F vs a h) (fun cdv A' outer s0 H0 vs Q E hr ⟨s, a, r, e, h1, h2, h3⟩ => ⟨_, pss_ws.nox, by
    have := body cdv A' outer s0 H0 E hr s vs a r Q h1 h2 h3
    rw [e] at this
    exact this⟩), hm, F.kp, b⟩
theorem len1 {α : Type} [Enc α] (F : Hp) (vs : List V) (a : α × Unit) (h : repA K F vs a) : vs.length = 1 := by obtain ⟨_, _, rfl, _, rfl⟩ := h; rfl
theorem len2 {α β : Type} [Enc α] [Enc β] (F : Hp) (vs : List V) (a : α × β × Unit) (h : repA K F vs a) : vs.length = 2 := by obtain ⟨_, _, rfl, _, _, _, rfl, _, rfl⟩ := h; rfl
theorem len3 {α β γ : Type} [Enc α] [Enc β] [Enc γ] (F : Hp) (vs : List V) (a : α × β × γ × Unit) (h : repA K F vs a) : vs.length = 3 := by obtain ⟨_, _, rfl, _, _, _, rfl, _, _, _, rfl, _, rfl⟩ := h; rfl
theorem len4 {α β γ δ : Type} [Enc α] [Enc β] [Enc γ] [Enc δ] (F : Hp) (vs : List V) (a : α × β × γ × δ × Unit) (h : repA K F vs a) : vs.length = 4 := by obtain ⟨_, _, rfl, _, _, _, rfl, _, _, _, rfl, _, _, _, rfl, _, rfl⟩ := h; rfl
theorem len5 {α β γ δ ε : Type} [Enc α] [Enc β] [Enc γ] [Enc δ] [Enc ε] (F : Hp) (vs : List V) (a : α × β × γ × δ × ε × Unit) (h : repA K F vs a) : vs.length = 5 := by obtain ⟨_, _, rfl, _, _, _, rfl, _, _, _, rfl, _, _, _, rfl, _, _, _, rfl, _, rfl⟩ := h; rfl
theorem len6 {α β γ δ ε ζ : Type} [Enc α] [Enc β] [Enc γ] [Enc δ] [Enc ε] [Enc ζ] (F : Hp) (vs : List V) (a : α × β × γ × δ × ε × ζ × Unit) (h : repA K F vs a) : vs.length = 6 := by obtain ⟨_, _, rfl, _, _, _, rfl, _, _, _, rfl, _, _, _, rfl, _, _, _, rfl, _, _, _, rfl, _, rfl⟩ := h; rfl
end

class Ty (α : Type) extends Enc α where
  ty : α → String
  is : ∀ {K : PySem.W.Frag} {F H : Hp} {v : V} {x : α}, rep K F v x → Fle F H → TyX K H v (.type (ty x))
theorem sql_ty {K : PySem.W.Frag} {H : Hp} {p : Addr} {vs : List V} (h : SqL K H p vs) : TyX K H (.ref p) (.type "list") := by
  rcases h with (h | ⟨o, h⟩) | ⟨o, its, n, h, hc, _⟩
  · exact .base (.lst h)
  · exact .base (.frz h)
  · exact .kList h hc
theorem sqt_ty {K : PySem.W.Frag} {H : Hp} {p : Addr} {vs : List V} (h : SqT K H p vs) : TyX K H (.ref p) (.type "tuple") := by
  rcases h with (h | ⟨o, h⟩) | ⟨o, its, n, h, hc, _⟩
  · exact .base (.tup h)
  · exact .fTuple h
  · exact .kTuple h hc
instance : Ty Int := ⟨fun _ => "int", fun {K F H v x} h _ => by rw [show v = V.int x from h]; exact .base (.int _)⟩
instance : Ty Bool := ⟨fun _ => "bool", fun {K F H v x} h _ => by rw [show v = V.bl x from h]; exact .base (.bl _)⟩
instance : Ty Str := ⟨fun _ => "str", fun {K F H v x} h _ => by rw [show v = V.str x from h]; exact .base (.str _)⟩
instance {α : Type} [Ty α] : Ty (Option α) := ⟨fun x => match x with | none => "NoneType" | some y => Ty.ty y, fun {K F H v x} h f => by
  cases x with
  | none => rw [show v = V.non from h]; exact .base .non
  | some y => exact Ty.is (α := α) h f⟩
instance {α : Type} [Enc α] : Ty (List α) := ⟨fun _ => "list", fun h f => by
  obtain ⟨p, vs, rfl, h1, _⟩ := h
  exact sql_ty (sql_mono f h1)⟩
instance {α : Type} [Enc α] : Ty (Tu α) := ⟨fun _ => "tuple", fun h f => by
  obtain ⟨p, vs, rfl, h1, _⟩ := h
  exact sqt_ty (sqt_mono f h1)⟩
instance {α β : Type} [Enc α] [Enc β] : Ty (α × β) := ⟨fun _ => "tuple", fun h f => by
  obtain ⟨p, v1, v2, rfl, h1, _⟩ := h
  exact sqt_ty (sqt_mono f h1)⟩
instance {α : Type} [Enc α] : Ty (T1 α) := ⟨fun _ => "tuple", fun h f => by
  obtain ⟨p, v1, rfl, h1, _⟩ := h
  exact sqt_ty (sqt_mono f h1)⟩
instance {α β γ : Type} [Enc α] [Enc β] [Enc γ] : Ty (T3 α β γ) := ⟨fun _ => "tuple", fun h f => by
  obtain ⟨p, v1, v2, v3, rfl, h1, _⟩ := h
  exact sqt_ty (sqt_mono f h1)⟩
instance {α β γ δ : Type} [Enc α] [Enc β] [Enc γ] [Enc δ] : Ty (T4 α β γ δ) := ⟨fun _ => "tuple", fun h f => by
  obtain ⟨p, v1, v2, v3, v4, rfl, h1, _⟩ := h
  exact sqt_ty (sqt_mono f h1)⟩
instance {α β γ δ ε : Type} [Enc α] [Enc β] [Enc γ] [Enc δ] [Enc ε] : Ty (T5 α β γ δ ε) := ⟨fun _ => "tuple", fun h f => by
  obtain ⟨p, v1, v2, v3, v4, v5, rfl, h1, _⟩ := h
  exact sqt_ty (sqt_mono f h1)⟩
section
variable {α β : Type} {X : Cx} {σ : St} {s : S} {a b : Expr} {pos p0 p1 p2 p3 : Pos}
theorem ev_isi [Ty α] {x : α} {n : Str} {T : String} {r : Bool} (hm : X.mg "isinstance" = none) (hn : X.mg n = none) (hv : bootBuiltins n = some (.type T)) (ha : Ev X a σ s x) (h : kitB (Ty.ty x) T = some r)
    (hg : Gl X "isinstance" := by rfl) (hgn : Gl X n := by rfl) (he : starEach [a, .Name n p1] X.env = (false, eval a X.env) :: starEach [.Name n p1] X.env := by rfl) (he2 : starEach [.Name n p1] X.env = (false, eval (.Name n p1) X.env) :: starEach [] X.env := by rfl) (hpl : (backTo pos (starEach [.Name n p1] X.env)).any (·.1) = false := by rfl)
    (hnn : n ≠ "__name__" := by decide) (hnd : (n == ("__debug__" : Str)) = false := by decide) :
    Ev X (.Call (.Name "isinstance" p0) [a, .Name n p1] [] pos) σ s r := fun s1 k Q q =>
  we_of (pe_callB call_isi hg hm (by decide +kernel) (pa_cons pe_we (pa_cons (pe_bltn (v := .ty T) hgn hn hv rfl hnn hnd) pa_nil he2) he) (he := he) (hpl := hpl)) (ha s1 k _ fun v s2 k2 r2 =>
    ⟨v, .ty T, .type (Ty.ty x), .type T, r, rfl, .ty T, Ty.is r2 s2.sub, kit_ty h, q _ s2 k2 rfl⟩)

class EqD (α : Type) extends Enc α where
  toD : α → PyData
  dp : ∀ {K : PySem.W.Frag} {F H : Hp} {v : V} {x : α}, rep K F v x → Fle F H → Dp K H v (toD x)
  eqv : ∀ x y : α, PyData.eqv (toD x) (toD y) = true ↔ x = y
def DpR {α : Type} [EqD α] {K : PySem.W.Frag} {F H : Hp} (f : Fle F H) : ∀ {vs : List V} {xs : List α}, Reps K F vs xs → DpAll K H vs (xs.map EqD.toD)
  | [], [], _ => .nil
  | _ :: _, _ :: _, ⟨h, t⟩ => .cons (EqD.dp h f) (DpR f t)
  | [], _ :: _, h => h.elim
  | _ :: _, [], h => h.elim
theorem eqv_all {α : Type} [EqD α] : ∀ xs ys : List α, PyData.eqvAll (xs.map EqD.toD) (ys.map EqD.toD) = true ↔ xs = ys
  | [], [] => by simp [PyData.eqvAll]
  | [], _ :: _ => by simp [PyData.eqvAll]
  | _ :: _, [] => by simp [PyData.eqvAll]
  | x :: xs, y :: ys => by
    show (PyData.eqv (EqD.toD x) (EqD.toD y) && PyData.eqvAll (xs.map EqD.toD) (ys.map EqD.toD)) = true ↔ _
    rw [Bool.and_eq_true, EqD.eqv, eqv_all xs ys]
    simp
instance : EqD Int := ⟨PyData.int, fun {K F H v x} h _ => by rw [show v = V.int x from h]; exact .int _, fun x y => by show (x == y) = true ↔ _; simp⟩
instance : EqD Bool := ⟨PyData.bool, fun {K F H v x} h _ => by rw [show v = V.bl x from h]; exact .bl _, fun x y => by show (x == y) = true ↔ _; simp⟩
instance : EqD Str := ⟨PyData.str, fun {K F H v x} h _ => by rw [show v = V.str x from h]; exact .str _, fun x y => by show (x == y) = true ↔ _; simp⟩
instance : EqD (Option Int) := ⟨fun x => match x with | none => .none | some i => .int i, fun {K F H v x} h _ => by
  cases x with
  | none => rw [show v = V.non from h]; exact .non
  | some i => rw [show v = V.int i from h]; exact .int _, fun x y => by cases x <;> cases y <;> simp [PyData.eqv]⟩
instance : EqD (Option Str) := ⟨fun x => match x with | none => .none | some i => .str i, fun {K F H v x} h _ => by
  cases x with
  | none => rw [show v = V.non from h]; exact .non
  | some i => rw [show v = V.str i from h]; exact .str _, fun x y => by cases x <;> cases y <;> simp [PyData.eqv]⟩
instance {α : Type} [EqD α] : EqD (List α) := ⟨fun xs => .list (xs.map EqD.toD), fun h f => by
  obtain ⟨p, vs, rfl, h1, h2⟩ := h
  exact .lst (sql_mono f h1) (DpR f h2), fun x y => eqv_all x y⟩
instance {α : Type} [EqD α] : EqD (Tu α) := ⟨fun xs => .tuple (xs.l.map EqD.toD), fun h f => by
  obtain ⟨p, vs, rfl, h1, h2⟩ := h
  exact .tup (sqt_mono f h1) (DpR f h2), fun x y => by
    obtain ⟨x⟩ := x
    obtain ⟨y⟩ := y
    show PyData.eqvAll _ _ = true ↔ _
    rw [eqv_all]; simp⟩
instance {α β : Type} [EqD α] [EqD β] : EqD (α × β) := ⟨fun x => .tuple [EqD.toD x.1, EqD.toD x.2], fun h f => by
  obtain ⟨p, v1, v2, rfl, h0, h1, h2⟩ := h
  exact .tup (sqt_mono f h0) (.cons (EqD.dp h1 f) (.cons (EqD.dp h2 f) .nil)), fun x y => by
    obtain ⟨x1, x2⟩ := x
    obtain ⟨y1, y2⟩ := y
    show (PyData.eqv _ _ && (PyData.eqv _ _ && true)) = true ↔ _
    rw [Bool.and_eq_true, Bool.and_eq_true, EqD.eqv, EqD.eqv]; simp⟩
instance {α β γ : Type} [EqD α] [EqD β] [EqD γ] : EqD (T3 α β γ) := ⟨fun x => .tuple [EqD.toD x.a, EqD.toD x.b, EqD.toD x.c], fun h f => by
  obtain ⟨p, v1, v2, v3, rfl, h0, h1, h2, h3⟩ := h
  exact .tup (sqt_mono f h0) (.cons (EqD.dp h1 f) (.cons (EqD.dp h2 f) (.cons (EqD.dp h3 f) .nil))), fun x y => by
    obtain ⟨x1, x2, x3⟩ := x
    obtain ⟨y1, y2, y3⟩ := y
    show (PyData.eqv _ _ && (PyData.eqv _ _ && (PyData.eqv _ _ && true))) = true ↔ _
    rw [Bool.and_eq_true, Bool.and_eq_true, Bool.and_eq_true, EqD.eqv, EqD.eqv, EqD.eqv]; simp⟩
instance {α : Type} [EqD α] : EqD (T1 α) := ⟨fun x => .tuple [EqD.toD x.a], fun h f => by
  obtain ⟨p, v1, rfl, h0, h1⟩ := h
  exact .tup (sqt_mono f h0) (.cons (EqD.dp h1 f) .nil), fun x y => by
    obtain ⟨x1⟩ := x
    obtain ⟨y1⟩ := y
    show (PyData.eqv _ _ && true) = true ↔ _
    rw [Bool.and_eq_true, EqD.eqv]; simp⟩
def shp {α : Type} [EqD α] (x : α) : Prop := SeqAt.shaped (EqD.toD x) = true
theorem eqv_dec {α : Type} [EqD α] [DecidableEq α] (x y : α) : PyData.eqv (EqD.toD x) (EqD.toD y) = decide (x = y) := by
  rw [Bool.eq_iff_iff, EqD.eqv, decide_eq_true_eq]
theorem repR_d {α : Type} [EqD α] {K : PySem.W.Frag} {v : V} {xs : List α} (h : RepR K s v xs) : Dp K s.H v (EqD.toD xs) := by
  obtain ⟨p, vs, rfl, h1, h2⟩ := h
  exact .lst h1 (DpR s.sub h2)
theorem hu64 {j : Nat} (hr : Room j X.A) : X.A.units + 64 < cLine := by
  have := hr.un
  omega
theorem eb_eqD [EqD α] [DecidableEq α] {x y : α} {j : Nat} (hr : Room j X.A) (ha : Ev X a σ s x) (hb : Ev X b σ s y) (h1 : shp x) (h2 : shp y) : EvB X (.Compare a [.Eq] [b] pos) σ s (decide (x = y)) :=
  eb_cmp (op_eqD (hu64 hr)) ha hb (fun v u s2 hv hu Q q => ⟨_, _, EqD.dp hv s2.sub, EqD.dp hu s2.sub, h1, h2, by rw [eqv_dec]; exact q⟩) (nomark _)
theorem eb_neD [EqD α] [DecidableEq α] {x y : α} {j : Nat} (hr : Room j X.A) (ha : Ev X a σ s x) (hb : Ev X b σ s y) (h1 : shp x) (h2 : shp y) : EvB X (.Compare a [.NotEq] [b] pos) σ s (!decide (x = y)) :=
  eb_cmp (op_neD (hu64 hr)) ha hb (fun v u s2 hv hu Q q => ⟨_, _, EqD.dp hv s2.sub, EqD.dp hu s2.sub, h1, h2, by rw [eqv_dec]; exact q⟩) (nomark _)
theorem eb_eqL [EqD α] [DecidableEq α] {x y : List α} {j : Nat} (hr : Room j X.A) (ha : EvR X a σ s x) (hb : EvR X b σ s y) (h1 : shp x) (h2 : shp y) : EvB X (.Compare a [.Eq] [b] pos) σ s (decide (x = y)) :=
  eb_cmpRR (op_eqD (hu64 hr)) ha hb (fun v u s2 hv hu Q q => ⟨_, _, repR_d hv, repR_d hu, h1, h2, by rw [eqv_dec]; exact q⟩) (nomark _)
theorem eb_neL [EqD α] [DecidableEq α] {x y : List α} {j : Nat} (hr : Room j X.A) (ha : EvR X a σ s x) (hb : EvR X b σ s y) (h1 : shp x) (h2 : shp y) : EvB X (.Compare a [.NotEq] [b] pos) σ s (!decide (x = y)) :=
  eb_cmpRR (op_neD (hu64 hr)) ha hb (fun v u s2 hv hu Q q => ⟨_, _, repR_d hv, repR_d hu, h1, h2, by rw [eqv_dec]; exact q⟩) (nomark _)
end

class Shp (α : Type) (n : outParam Nat) extends EqD α where
  ok : ∀ x : α, PyData.canLay0 (EqD.toD x) = true ∧ PyData.depth (EqD.toD x) ≤ n
theorem shp_all {α : Type} {n : Nat} [Shp α n] : ∀ xs : List α, PyData.canLayAll0 (xs.map EqD.toD) = true ∧ PyData.depthAll (xs.map EqD.toD) ≤ n
  | [] => ⟨by simp [PyData.canLayAll0], by simp [PyData.depthAll]⟩
  | x :: xs => by
    obtain ⟨h1, h2⟩ := shp_all xs
    obtain ⟨h3, h4⟩ := Shp.ok x
    refine ⟨?_, ?_⟩
    · show PyData.canLayAll0 (EqD.toD x :: xs.map EqD.toD) = true
      unfold PyData.canLayAll0
      rw [h3, h1]; rfl
    · show PyData.depthAll (EqD.toD x :: xs.map EqD.toD) ≤ n
      unfold PyData.depthAll
      omega
instance : Shp Int 0 := ⟨fun x => ⟨by show PyData.canLay0 (.int x) = true; unfold PyData.canLay0; rfl, by show PyData.depth (.int x) ≤ 0; unfold PyData.depth; omega⟩⟩
instance : Shp Bool 0 := ⟨fun x => ⟨by show PyData.canLay0 (.bool x) = true; unfold PyData.canLay0; rfl, by show PyData.depth (.bool x) ≤ 0; unfold PyData.depth; omega⟩⟩
instance : Shp (Option Int) 0 := ⟨fun x => by
  cases x with
  | none => exact ⟨by show PyData.canLay0 .none = true; unfold PyData.canLay0; rfl, by show PyData.depth .none ≤ 0; unfold PyData.depth; omega⟩
  | some i => exact ⟨by show PyData.canLay0 (.int i) = true; unfold PyData.canLay0; rfl, by show PyData.depth (.int i) ≤ 0; unfold PyData.depth; omega⟩⟩
instance {α : Type} {n : Nat} [Shp α n] : Shp (List α) (n + 1) := ⟨fun x => by
  obtain ⟨h1, h2⟩ := shp_all x
  refine ⟨?_, ?_⟩
  · show PyData.canLay0 (.list (x.map EqD.toD)) = true
    unfold PyData.canLay0; exact h1
  · show PyData.depth (.list (x.map EqD.toD)) ≤ n + 1
    unfold PyData.depth; omega⟩
instance {α : Type} {n : Nat} [Shp α n] : Shp (Tu α) (n + 1) := ⟨fun x => by
  obtain ⟨h1, h2⟩ := shp_all x.l
  refine ⟨?_, ?_⟩
  · show PyData.canLay0 (.tuple (x.l.map EqD.toD)) = true
    unfold PyData.canLay0; exact h1
  · show PyData.depth (.tuple (x.l.map EqD.toD)) ≤ n + 1
    unfold PyData.depth; omega⟩
instance {α β : Type} {n m : Nat} [Shp α n] [Shp β m] : Shp (α × β) (n + m + 1) := ⟨fun x => by
  obtain ⟨h1, h2⟩ := Shp.ok x.1
  obtain ⟨h3, h4⟩ := Shp.ok x.2
  refine ⟨?_, ?_⟩
  · show PyData.canLay0 (.tuple [EqD.toD x.1, EqD.toD x.2]) = true
    simp [PyData.canLay0, PyData.canLayAll0, h1, h3]
  · show PyData.depth (.tuple [EqD.toD x.1, EqD.toD x.2]) ≤ n + m + 1
    simp [PyData.depth, PyData.depthAll]
    omega⟩
instance {α : Type} {n : Nat} [Shp α n] : Shp (T1 α) (n + 1) := ⟨fun x => by
  obtain ⟨h1, h2⟩ := Shp.ok x.a
  refine ⟨?_, ?_⟩
  · show PyData.canLay0 (.tuple [EqD.toD x.a]) = true
    simp [PyData.canLay0, PyData.canLayAll0, h1]
  · show PyData.depth (.tuple [EqD.toD x.a]) ≤ n + 1
    simp [PyData.depth, PyData.depthAll]
    omega⟩
theorem shp_of {α : Type} {n : Nat} [Shp α n] (x : α) (h : n ≤ 64 := by decide) : shp x := by
  obtain ⟨h1, h2⟩ := Shp.ok x
  unfold shp SeqAt.shaped
  rw [h1, decide_eq_true (Nat.le_trans h2 h)]; rfl

def spLaw (K : PySem.W.Frag) : Sp := fun vs H Q _ => ∃ (a : Addr) (ns : List Int), vs = [.ref a] ∧ SqL K H a (ns.map V.int) ∧ ns.length ≤ 63 ∧ ∀ H', Q (.bl true) H'
theorem law_of {P : Program} {w : World} {K : PySem.W.Frag} {mg : Str → Option Value} {base : Heap} {CX : CXT} {k : Nat} {f : Addr} {fd : FuncData} {ps : List Str} {m : List Int × Unit → Option Bool} (F : FnOk P w K mg base CX k f fd ps (sp K m)) (h : ∀ ns : List Int, ns.length ≤ 63 → m (ns, ()) = some true) : FnOk P w K mg base CX k f fd ps (spLaw K) :=
  F.imp fun vs H Q E ⟨a, ns, e, hs, hl, q⟩ => by
    subst e
    exact ⟨⟨H, H, fun _ _ h => h⟩, (ns, ()), true, rfl, ⟨.ref a, [], rfl, ⟨a, ns.map V.int, rfl, hs, Reps.of_flat ns⟩, rfl⟩, h ns hl, fun v s' _ r => by rw [show v = V.bl true from r]; exact q _⟩
end Dy

namespace Dy
open PySem PySem.Spec L2
open PyProof.Rows hiding St
open Enc (rep)
open Flat (toV)
open EncA (repA)

def strI (x : Int) : Str := toString x
noncomputable def sortI (xs : List Int) : List Int := xs.mergeSort (fun x y => decide (x ≤ y))
def Fl.go {β ρ γ : Type} (o : Fl β ρ) (k : β → γ) (e : ρ → γ) : γ := match o with
  | .nx b => k b
  | .rt r => e r
@[irreducible] def fuel : Nat := 1000000
theorem rng_mem {a b x : Int} (h : x ∈ rng a b) : a ≤ x ∧ x < b := by
  obtain ⟨i, hi⟩ := List.mem_iff_getElem?.mp h
  obtain ⟨h1, h2⟩ := rng_get hi
  omega
theorem frzE {s0 s s' : S} {p : Addr} (E : Ex s0 s) (n : s0.H p = none) (h1 : s'.H = s.H) (h2 : Fle s.F s'.F) (h3 : ∀ q, q ≠ p → s'.F q = s.F q) : Ex s0 s' :=
  ⟨E.f.trans h2, fun a o h => by rw [h1]; exact E.h a o h, fun a o h m => by rw [h3 a (ne_of_none h n)]; exact E.n a o h m⟩
theorem ownFrz {α : Type} [Enc α] {K : PySem.W.Frag} {s s' : S} {p q : Addr} {xs : List α} (o : Own K s q xs) (hne : q ≠ p) (h1 : s'.H = s.H) (h2 : Fle s.F s'.F) (h3 : ∀ q, q ≠ p → s'.F q = s.F q) : Own K s' q xs := by
  obtain ⟨hn, vs, hp, r⟩ := o
  exact ⟨by rw [h3 q hne]; exact hn, vs, by rw [h1]; exact hp, r.mono h2⟩
section
variable {α β γ δ ε : Type} [Enc α] [Enc β] [Enc γ] [Enc δ] [Enc ε] {X : Cx} {σ : St} {s t : S} {e a b c tg iter : Expr} {es : List Expr} {pos p0 p1 p2 p3 : Pos} {D : Ends} {rest A B body : List Stmt}
theorem ec_andO {x r : Bool} (h : EvB X a σ s x) (h2 : x = true → EvC X (.BoolOp .And (b :: es) pos) σ s r) (h3 : x = false → r = false) : EvC X (.BoolOp .And (a :: b :: es) pos) σ s r := by
  cases x with
  | true => exact (ec_and h h2 : EvC X _ σ s (true && r))
  | false =>
    have := ec_and (y := false) (es := es) (b := b) (pos := pos) h (fun z => Bool.noConfusion z)
    rw [h3 rfl]
    exact this
theorem ec_orO {x r : Bool} (h : EvB X a σ s x) (h2 : x = false → EvC X (.BoolOp .Or (b :: es) pos) σ s r) (h3 : x = true → r = true) : EvC X (.BoolOp .Or (a :: b :: es) pos) σ s r := by
  cases x with
  | false => exact (ec_or h h2 : EvC X _ σ s (false || r))
  | true =>
    have := ec_or (y := true) (es := es) (b := b) (pos := pos) h (fun z => Bool.noConfusion z)
    rw [h3 rfl]
    exact this
theorem et_tru {xs : List α} (h : EvR X e σ s xs) (he : ∀ whole, isTrue e X.env whole = (do let v ← whole; standAt e.pos; holding [v] (truthy v)) := by intro _; rfl) : EvT X e σ s (!xs.isEmpty) := fun s1 k Q q =>
  wt_of (pt_truth pe_we he) (h s1 k _ fun v s2 k2 r => by
    obtain ⟨p, vs, rfl, h1, h2⟩ := r
    refine ⟨_, .inl ⟨vs, h1, ?_⟩, q s2 k2⟩
    have := h2.len
    cases vs <;> cases xs <;> simp at this ⊢)
theorem isi_optT {τ : Type} [Ty τ] (x : Option τ) {T : String} (h1 : ∀ y : τ, kitB (Ty.ty y) T = some true) (h2 : kitB "NoneType" T = some false) : kitB (Ty.ty x) T = some x.isSome := by
  cases x with
  | none => exact h2
  | some y => exact h1 y
theorem isi_optF {τ : Type} [Ty τ] (x : Option τ) {T : String} (h1 : ∀ y : τ, kitB (Ty.ty y) T = some false) (h2 : kitB "NoneType" T = some false) : kitB (Ty.ty x) T = some false := by
  cases x with
  | none => exact h2
  | some y => exact h1 y
theorem en_rev {xs : List α} {k q1 q2 q3} (ha : EvR X e σ s xs) : EvN X (.Subscript e (.Slice none none (some (.UnaryOp .USub (.Constant (.int 1) k q1) q2)) q3) pos) σ s xs.reverse := fun s1 k1 Q q =>
  we_of (pe_revL pe_we) (ha s1 k1 _ fun v s2 k2 r2 => by
    obtain ⟨p, vs, rfl, h1, h2⟩ := r2
    exact ⟨p, vs, rfl, h1, fun l hl => q l (s2.newO l _ hl) (k2.trans (Ex.newO hl)) (fr_back k2 hl) (own_new hl h2.rev)⟩)
theorem do_drop {x : α} (h : Ev X e σ s x) (k : ∀ s1, Ex s s1 → WSs X rest D σ s1.H) (hs : swapsWith e none pos.line X.env = pure false := by rfl) : WSs X (.Expr e pos :: rest) D σ s.H :=
  do_cons (ps_expr pe_we hs) (h s (Ex.refl _) _ fun v s1 k1 r => k s1 k1)
theorem do_unp2 (i j : Nat) {x : α × β} (h : Ev X e σ s x) (k : ∀ v w s1, Ex s s1 → rep X.K s1.F v x.1 → rep X.K s1.F w x.2 → WSs X rest D ((σ.set i (some v)).set j (some w)) s1.H)
    (hg : PG X tg (gTup X.K 2 (gCons (gName i) (gCons (gName j) gNil)))) (hs : swapsWithSole [tg] e pos.line X.env = pure false := by rfl) (hw : swappedStores [tg] e X.env = pure none := by rfl)
    (h1 : (assignEach [tg] X.env).map (·.2) = [assign tg X.env] := by rfl) : WSs X (.Assign [tg] e pos :: rest) D σ s.H :=
  do_cons (ps_asg pe_we hg hs hw h1) (h s (Ex.refl _) _ fun v s1 k1 r => by
    obtain ⟨p, v1, v2, rfl, h0, h1, h2⟩ := r
    exact ⟨p, _, rfl, sqt_mono s1.sub h0, rfl, v1, _, rfl, v2, _, rfl, rfl, k v1 v2 s1 k1 h1 h2⟩)
theorem do_unp3 (i j l : Nat) {x : T3 α β γ} (h : Ev X e σ s x) (k : ∀ v w u s1, Ex s s1 → rep X.K s1.F v x.a → rep X.K s1.F w x.b → rep X.K s1.F u x.c → WSs X rest D (((σ.set i (some v)).set j (some w)).set l (some u)) s1.H)
    (hg : PG X tg (gTup X.K 3 (gCons (gName i) (gCons (gName j) (gCons (gName l) gNil))))) (hs : swapsWithSole [tg] e pos.line X.env = pure false := by rfl) (hw : swappedStores [tg] e X.env = pure none := by rfl)
    (h1 : (assignEach [tg] X.env).map (·.2) = [assign tg X.env] := by rfl) : WSs X (.Assign [tg] e pos :: rest) D σ s.H :=
  do_cons (ps_asg pe_we hg hs hw h1) (h s (Ex.refl _) _ fun v s1 k1 r => by
    obtain ⟨p, v1, v2, v3, rfl, h0, h1, h2, h3⟩ := r
    exact ⟨p, _, rfl, sqt_mono s1.sub h0, rfl, v1, _, rfl, v2, _, rfl, v3, _, rfl, rfl, k v1 v2 v3 s1 k1 h1 h2 h3⟩)
theorem do_whileF {υ ρ : Type} {cf : υ → Option Bool} {f : υ → Option (Fl υ ρ)} {n : Nat} {b0 : υ} {o : Fl υ ρ} (hp : PassesOwn (model X.prog X.w) X.A X.env X.xe) (hf : whileF cf f n b0 = some o) (R : υ → St → S → Prop) (h0 : R b0 σ s)
    (hc : ∀ (b : υ) (x : Bool) (σ' : St) (t : S), cf b = some x → Fle s.F t.F → R b σ' t → EvT X c σ' t x)
    (hb : ∀ (b : υ) (q : Fl υ ρ) (σ' : St) (t t' : S), cf b = some true → f b = some q → (∀ r, q = .rt r → o = .rt r) → Fle s.F t.F → R b σ' t → Ex t t' → WSs X body (LD D fun σ s => ∃ b', q = .nx b' ∧ Fle t'.F s.F ∧ R b' σ s) σ' t'.H)
    (hd : ∀ b1 σ' t t', o = .nx b1 → cf b1 = some false → Fle s.F t.F → R b1 σ' t → Ex t t' → WSs X rest D σ' t'.H) : WSs X (.While c body [] pos :: rest) D σ s.H :=
  do_cons (ps_while hp pt_wt pss_ws) (by
    refine ⟨fun m σ' H' => ∃ (t : S) (b : υ), t.H = H' ∧ Fle s.F t.F ∧ whileF cf f m b = some o ∧ R b σ' t, ⟨n, s, b0, rfl, Fle.refl _, hf, h0⟩, ?_⟩
    rintro m σ' H' ⟨t, b, rfl, fl, h1, h2⟩
    cases m with
    | zero => cases h1
    | succ m =>
      obtain ⟨x, h3, h4⟩ := bndE h1
      refine hc b x σ' t h3 fl h2 t (Ex.refl _) _ fun t' kt => ?_
      cases x with
      | true =>
        refine iteT ?_
        rw [if_pos rfl] at h4
        obtain ⟨q, h5, h6⟩ := bndE h4
        refine ⟨fun σ3 H3 => ∃ b', q = .nx b' ∧ ∃ u : S, u.H = H3 ∧ Fle s.F u.F ∧ R b' σ3 u, fun σ3 H3 ⟨b', e0, u, e1, f1, r1⟩ => ⟨m, Nat.lt_succ_self _, u, b', e1, f1, by subst e0; exact h6, r1⟩, ?_⟩
        exact (hb b q σ' t t' h3 h5 (fun r e0 => by subst e0; exact (Option.some.inj h6).symm) fl h2 kt).imp (fun σ3 H3 ⟨u, e1, b', e2, f1, r1⟩ => ⟨b', e2, u, e1, (fl.trans kt.f).trans f1, r1⟩) (fun _ _ q => q) (fun _ _ q => q.elim) (fun _ _ q => q.elim)
      | false =>
        refine iteF ?_
        rw [if_neg Bool.false_ne_true] at h4
        cases h4
        exact hd b σ' t t' rfl h3 fl h2 kt)
end
end Dy

namespace Dy
open PySem PySem.Spec L2
open PyProof.Rows hiding St

def Ok {α : Type} (m : Option α) (P : α → Prop) : Prop := ∃ r, m = some r ∧ P r
section
variable {α β γ ρ : Type}
theorem Ok.imp {m : Option α} {P Q : α → Prop} (h : Ok m P) (k : ∀ r, P r → Q r) : Ok m Q := let ⟨r, e, p⟩ := h; ⟨r, e, k r p⟩
theorem Ok.eq {m : Option α} {x : α} (h : Ok m (· = x)) : m = some x := by obtain ⟨r, e, rfl⟩ := h; exact e
theorem ok_eq {m : Option α} {x : α} {P : α → Prop} (h : m = some x) (p : P x) : Ok m P := ⟨x, h, p⟩
theorem ok_some {x : α} {P : α → Prop} (p : P x) : Ok (some x) P := ⟨x, rfl, p⟩
theorem ok_bnd {m : Option α} {f : α → Option β} {P : α → Prop} {Q : β → Prop} (h : Ok m P) (k : ∀ r, P r → Ok (f r) Q) : Ok (bnd m f) Q := by
  obtain ⟨r, e, p⟩ := h
  subst e
  exact k r p
theorem ok_chk {c : Prop} {m : Option α} {Q : α → Prop} (h : c) (k : Ok m Q) : Ok (chk c m) Q := by rw [chk_pos h]; exact k
theorem ok_lt {x : α} {f : α → Option β} {Q : β → Prop} (k : ∀ y, y = x → Ok (f y) Q) : Ok (lt x f) Q := k x rfl
theorem ok_ite {b : Bool} {m k : Option α} {Q : α → Prop} (h1 : b = true → Ok m Q) (h2 : b = false → Ok k Q) : Ok (if b = true then m else k) Q := by
  cases b with
  | true => exact h1 rfl
  | false => exact h2 rfl
theorem ok_andO {a : Bool} {m : Option Bool} {Q : Bool → Prop} (h1 : a = true → Ok m Q) (h2 : a = false → Q false) : Ok (andO a m) Q := by
  cases a with
  | true => exact h1 rfl
  | false => exact ⟨false, rfl, h2 rfl⟩
theorem ok_orO {a : Bool} {m : Option Bool} {Q : Bool → Prop} (h1 : a = false → Ok m Q) (h2 : a = true → Q true) : Ok (orO a m) Q := by
  cases a with
  | false => exact h1 rfl
  | true => exact ⟨true, rfl, h2 rfl⟩
theorem ok_foldO {f : β → α → Option β} (I : Nat → β → Prop) : ∀ {xs : List α} {b : β} {Q : β → Prop}, I 0 b → (∀ i b x, xs[i]? = some x → I i b → Ok (f b x) (I (i + 1))) → (∀ b, I xs.length b → Q b) → Ok (foldO f b xs) Q := by
  have key : ∀ (xs : List α) (b : β) (k : Nat), I k b → (∀ i b x, xs[i]? = some x → I (k + i) b → Ok (f b x) (I (k + i + 1))) → Ok (foldO f b xs) (I (k + xs.length)) := by
    intro xs
    induction xs with
    | nil => intro b k h _; exact ⟨b, rfl, h⟩
    | cons x r ih =>
      intro b k h hs
      refine ok_bnd (hs 0 b x rfl h) fun b' h' => ?_
      have := ih b' (k + 1) h' (fun i b y hy hI => by
        have := hs (i + 1) b y (by simpa using hy) (by rw [show k + (i + 1) = k + 1 + i by omega]; exact hI)
        rw [show k + (i + 1) + 1 = k + 1 + i + 1 by omega] at this
        exact this)
      rw [List.length_cons, show k + (r.length + 1) = k + 1 + r.length by omega]
      exact this
  intro xs b Q h0 hs hd
  have := key xs b 0 h0 (fun i b x hx hI => by
    have := hs i b x hx (by rw [Nat.zero_add] at hI; exact hI)
    rw [Nat.zero_add]; exact this)
  rw [Nat.zero_add] at this
  exact this.imp hd
theorem ok_foldF {f : β → α → Option (Fl β ρ)} (I : Nat → β → Prop) (Rr : ρ → Prop) : ∀ {xs : List α} {b : β} {Q : Fl β ρ → Prop}, I 0 b → (∀ i b x, xs[i]? = some x → I i b → Ok (f b x) (fun o => match o with | .nx b' => I (i + 1) b' | .rt r => Rr r)) →
    (∀ b, I xs.length b → Q (.nx b)) → (∀ r, Rr r → Q (.rt r)) → Ok (foldF f b xs) Q := by
  have key : ∀ (xs : List α) (b : β) (k : Nat), I k b → (∀ i b x, xs[i]? = some x → I (k + i) b → Ok (f b x) (fun o => match o with | .nx b' => I (k + i + 1) b' | .rt r => Rr r)) → Ok (foldF f b xs) (fun o => match o with | .nx b' => I (k + xs.length) b' | .rt r => Rr r) := by
    intro xs
    induction xs with
    | nil => intro b k h _; exact ⟨.nx b, rfl, h⟩
    | cons x r ih =>
      intro b k h hs
      refine ok_bnd (hs 0 b x rfl h) fun o h' => ?_
      cases o with
      | rt r => exact ⟨.rt r, rfl, h'⟩
      | nx b' =>
        have := ih b' (k + 1) h' (fun i b y hy hI => by
          have := hs (i + 1) b y (by simpa using hy) (by rw [show k + (i + 1) = k + 1 + i by omega]; exact hI)
          rw [show k + (i + 1) + 1 = k + 1 + i + 1 by omega] at this
          exact this)
        rw [List.length_cons, show k + (r.length + 1) = k + 1 + r.length by omega]
        exact this
  intro xs b Q h0 hs hd hr
  have := key xs b 0 h0 (fun i b x hx hI => by
    have := hs i b x hx (by rw [Nat.zero_add] at hI; exact hI)
    rw [Nat.zero_add]; exact this)
  rw [Nat.zero_add] at this
  refine this.imp fun o h => ?_
  cases o with
  | nx b => exact hd b h
  | rt r => exact hr r h
theorem ok_go {o : Fl β ρ} {k : β → Option γ} {e : ρ → Option γ} {Q : γ → Prop} (h1 : ∀ b, o = .nx b → Ok (k b) Q) (h2 : ∀ r, o = .rt r → Ok (e r) Q) : Ok (o.go k e) Q := by
  cases o with
  | nx b => exact h1 b rfl
  | rt r => exact h2 r rfl
theorem ok_compO {t : α → Option Bool} {f : α → Option β} {P : α → β → Prop} {T : α → Bool} : ∀ {xs : List α}, (∀ x ∈ xs, Ok (t x) (· = T x)) → (∀ x ∈ xs, T x = true → Ok (f x) (P x)) → Ok (compO t f xs) (fun ys => ys.length = (xs.filter T).length ∧ ∀ (i : Nat) (y : β), ys[i]? = some y → ∃ x, (xs.filter T)[i]? = some x ∧ P x y)
  | [], _, _ => ⟨[], rfl, rfl, fun i y h => by simp at h⟩
  | x :: r, h1, h2 => by
    unfold compO
    refine ok_bnd (h1 x List.mem_cons_self) fun b hb => ?_
    subst hb
    have ih := ok_compO (xs := r) (fun z hz => h1 z (List.mem_cons_of_mem _ hz)) (fun z hz => h2 z (List.mem_cons_of_mem _ hz))
    refine ok_ite (fun hb => ?_) (fun hb => ?_)
    · refine ok_bnd (h2 x List.mem_cons_self hb) fun y hy => ?_
      refine ok_bnd ih fun ys ⟨e1, e2⟩ => ok_some ?_
      rw [List.filter_cons, if_pos hb]
      refine ⟨by simp [e1], fun i z hz => ?_⟩
      cases i with
      | zero => simp at hz; subst hz; exact ⟨x, rfl, hy⟩
      | succ i => exact e2 i z (by simpa using hz)
    · rw [List.filter_cons, if_neg (by rw [hb]; exact Bool.false_ne_true)]
      exact ih
theorem ok_mapO {f : α → Option β} {P : α → β → Prop} {xs : List α} (h : ∀ x ∈ xs, Ok (f x) (P x)) : Ok (mapO f xs) (fun ys => ys.length = xs.length ∧ ∀ (i : Nat) (y : β), ys[i]? = some y → ∃ x, xs[i]? = some x ∧ P x y) := by
  have := ok_compO (t := fun _ => some true) (T := fun _ => true) (xs := xs) (fun x _ => ok_some rfl) (fun x hx _ => h x hx)
  rw [show xs.filter (fun _ => true) = xs from List.filter_eq_self.mpr (fun _ _ => rfl)] at this
  exact this
theorem mapO_eq {f : α → Option β} {g : α → β} : ∀ {xs : List α}, (∀ x ∈ xs, f x = some (g x)) → mapO f xs = some (xs.map g)
  | [], _ => rfl
  | x :: r, h => by
    have ih := mapO_eq (xs := r) (fun z hz => h z (List.mem_cons_of_mem _ hz))
    unfold mapO at ih ⊢
    unfold compO
    rw [Option.bind_some, if_pos rfl, h x List.mem_cons_self, Option.bind_some, ih]
    rfl
theorem compO_eq {t : α → Option Bool} {T : α → Bool} {f : α → Option β} {g : α → β} : ∀ {xs : List α}, (∀ x ∈ xs, t x = some (T x)) → (∀ x ∈ xs, T x = true → f x = some (g x)) → compO t f xs = some ((xs.filter T).map g)
  | [], _, _ => rfl
  | x :: r, h1, h2 => by
    have ih := compO_eq (xs := r) (fun z hz => h1 z (List.mem_cons_of_mem _ hz)) (fun z hz => h2 z (List.mem_cons_of_mem _ hz))
    unfold compO
    rw [h1 x List.mem_cons_self, Option.bind_some, List.filter_cons]
    cases hT : T x with
    | true => rw [if_pos rfl, if_pos rfl, h2 x List.mem_cons_self hT, Option.bind_some, ih]; rfl
    | false => rw [if_neg Bool.false_ne_true, if_neg Bool.false_ne_true, ih]
theorem foldO_eq {f : β → α → Option β} {g : β → α → β} : ∀ {xs : List α} {b : β}, (∀ b, ∀ x ∈ xs, f b x = some (g b x)) → foldO f b xs = some (xs.foldl g b)
  | [], _, _ => rfl
  | x :: r, b, h => by
    unfold foldO
    rw [h b x List.mem_cons_self, Option.bind_some, foldO_eq (xs := r) (fun b z hz => h b z (List.mem_cons_of_mem _ hz))]
    rfl
theorem ok_whileO {c : β → Option Bool} {f : β → Option β} (I : β → Prop) (μ : β → Nat) {Q : β → Prop} (hc : ∀ b, I b → Ok (c b) (fun t => if t = true then Ok (f b) (fun b' => I b' ∧ μ b' < μ b) else Q b)) : ∀ (n : Nat) (b : β), I b → μ b < n → Ok (whileO c f n b) Q
  | 0, b, _, h => absurd h (Nat.not_lt_zero _)
  | n + 1, b, hI, h => by
    unfold whileO
    refine ok_bnd (hc b hI) fun t ht => ?_
    cases t with
    | true =>
      rw [if_pos rfl] at ht ⊢
      exact ok_bnd ht fun b' ⟨h1, h2⟩ => ok_whileO I μ hc n b' h1 (by omega)
    | false =>
      rw [if_neg Bool.false_ne_true] at ht ⊢
      exact ok_some ht
theorem ok_whileF {c : β → Option Bool} {f : β → Option (Fl β ρ)} (I : β → Prop) (μ : β → Nat) {Q : Fl β ρ → Prop} (hc : ∀ b, I b → Ok (c b) (fun t => if t = true then Ok (f b) (fun o => match o with | .nx b' => I b' ∧ μ b' < μ b | .rt r => Q (.rt r)) else Q (.nx b))) : ∀ (n : Nat) (b : β), I b → μ b < n → Ok (whileF c f n b) Q
  | 0, b, _, h => absurd h (Nat.not_lt_zero _)
  | n + 1, b, hI, h => by
    unfold whileF
    refine ok_bnd (hc b hI) fun t ht => ?_
    cases t with
    | true =>
      rw [if_pos rfl] at ht ⊢
      refine ok_bnd ht fun o ho => ?_
      cases o with
      | nx b' => exact ok_whileF I μ hc n b' ho.1 (by have := ho.2; omega)
      | rt r => exact ok_some ho
    | false =>
      rw [if_neg Bool.false_ne_true] at ht ⊢
      exact ok_some ht
theorem fuel_eq : fuel = 1000000 := by unfold fuel; rfl
theorem mul_l {x y : Int} (h1 : -1000000000000000000 < x) (h2 : x < 1000000000000000000) : MulOk x y := .inl (.inl ⟨by omega, by omega⟩)
theorem mul_r {x y : Int} (h1 : -1000000000000000000 < y) (h2 : y < 1000000000000000000) : MulOk x y := .inl (.inr ⟨by omega, by omega⟩)
set_option exponentiation.threshold 10000 in
theorem div_small {y : Int} (h1 : 0 < y) (h2 : y < 1000000000000000000) : DivOk y := ⟨h1, PySem.Flt.log2_lt_of (by decide) (show y.natAbs < 2 ^ 9000 from Nat.lt_of_lt_of_le (show y.natAbs < 2 ^ 64 by omega) (Nat.pow_le_pow_right (by decide) (by decide)))⟩
theorem szl : sizeLine = 16777216 := rfl
theorem atI_get {xs : List α} {i : Int} (h0 : 0 ≤ i) (h1 : i < xs.length) : atI xs i = xs[i.toNat]? := by
  unfold atI ixN
  rw [if_pos h0, if_pos h1]; rfl
theorem ok_atI {xs : List α} {i : Int} {Q : α → Prop} (h0 : 0 ≤ i) (h1 : i < xs.length) (h : ∀ x, xs[i.toNat]? = some x → Q x) : Ok (atI xs i) Q := by
  rw [atI_get h0 h1]
  have hl : i.toNat < xs.length := by omega
  exact ⟨xs[i.toNat], List.getElem?_eq_getElem hl, h _ (List.getElem?_eq_getElem hl)⟩
theorem cut_len_le (xs : List α) (lo hi : Option Int) : (cut xs lo hi).length ≤ xs.length := by
  unfold cut
  rw [List.length_take, List.length_drop]
  omega
theorem cut_hi (xs : List α) (n : Nat) : cut xs none (some (n : Int)) = xs.take n := by
  unfold cut
  rw [HT.sIx_none, show HT.sIx xs.length xs.length (some (n : Int)) = min n xs.length from HT.sIx_nat xs.length xs.length n]
  simp only [List.drop_zero, Nat.sub_zero]
  by_cases h : n ≤ xs.length
  · rw [Nat.min_eq_left h]
  · rw [Nat.min_eq_right (by omega), List.take_of_length_le (Nat.le_refl _), List.take_of_length_le (by omega)]
theorem rng_len_nn {n : Int} (h : 0 ≤ n) : (rng 0 n).length = n.toNat := by rw [rng_len]; congr 1; omega
theorem rng_at {a b : Int} {i : Nat} {x : Int} (h : (rng a b)[i]? = some x) : x = a + (i : Int) ∧ a + (i : Int) < b := by
  obtain ⟨h1, h2⟩ := rng_get h
  omega
end
theorem chars_len (x : Str) : (chars x).length = x.length := by
  unfold chars
  rw [List.length_map, Array.length_toList]; rfl
theorem join_len0 (ys : List Str) : (Txt.join ("" : Str) ys).length = (ys.map (·.length)).sum := by
  have h : ∀ z : Str, z.length = (TL.tl z).length := fun z => by show z.cps.size = z.cps.toList.length; rw [Array.length_toList]
  have key : ∀ ps : List (List Nat), (TL.joinL [] ps).length = (ps.map List.length).sum := by
    intro ps
    induction ps with
    | nil => rfl
    | cons p r ih =>
      cases r with
      | nil => simp [TL.joinL]
      | cons q r =>
        have e : TL.joinL [] (p :: q :: r) = p ++ ([] ++ TL.joinL [] (q :: r)) := by simp [TL.joinL]
        rw [e, List.nil_append, List.length_append, ih]; rfl
  rw [h, TL.join_eq, TL.tl_join, show TL.tl ("" : Str) = [] from rfl, key, List.map_map]
  exact congrArg List.sum (List.map_congr_left fun z _ => (h z).symm)
theorem sum_ones {ys : List Str} (h : ∀ y ∈ ys, y.length = 1) : (ys.map (·.length)).sum = ys.length := by
  induction ys with
  | nil => rfl
  | cons y r ih =>
    rw [List.map_cons, List.sum_cons, ih fun z hz => h z (List.mem_cons_of_mem _ hz), h y List.mem_cons_self, List.length_cons]
    omega
theorem foldF_any {α ρ : Type} {p : α → Bool} {f : Unit → α → Option (Fl Unit ρ)} {r : ρ} (h : ∀ x, f () x = if p x = true then some (.rt r) else some (.nx ())) : ∀ xs : List α, foldF f () xs = some (if xs.any p = true then .rt r else .nx ())
  | [] => rfl
  | x :: xs => by
    unfold foldF
    rw [h x, List.any_cons]
    cases hp : p x with
    | true => rfl
    | false =>
      rw [if_neg Bool.false_ne_true]
      show foldF f () xs = _
      rw [foldF_any h xs, Bool.false_or]
end Dy

set_option maxHeartbeats 4000000
namespace K01
open PySem PySem.Spec L2 Dy
open PyProof.Rows hiding St
open Enc (rep)
open Flat (toV)
open EncA (repA)
def topS (i : Nat) : Stmt := PySem.Challenge.pw_deskpairs_k01_names.main.body.getD i (.Pass ⟨0, 0, 0, 0⟩)
def c_LETTERS : Str := ("abcdefghijklmnopqrstuvwxyz" : Str)
abbrev s_l_row : Stmt := topS 5
abbrev N_l_row : List Str := ["_law_cell", "_law_many", "_law_count", "_law_found", "_law_number", "_law_k", "_law_mixed"]
theorem sc_l_row : FnScope N_l_row ["_law_cell", "_law_many", "_law_count"] (defScope s_l_row) := ⟨rfl, rfl, rfl, by decide +kernel, rfl, by decide +kernel, by decide +kernel⟩
noncomputable def m_l_row (cell1 : Int) (many4 : Int) (count7 : Int) : Option (List Int) :=
 (lt (([] : List Int) : (List Int)) fun found11 =>
 (lt ((cell1 / (2 : Int)) : Int) fun number23 =>
 (chk (RgB count7) (bnd (foldO (fun (b37 : ((List Int) × Int)) (x39 : Int) =>
 (bnd (if (decide ((cell1 % (2 : Int)) = (0 : Int))) = true then
 (chk (0 < many4) (chk ((b37.1).length < sizeLine) (lt ((b37.1 ++ [(b37.2 % many4)]) : (List Int)) fun found89 =>
 (chk (DivOk many4) (lt ((b37.2 / many4) : Int) fun number102 =>
 (some (found89, number102)))))))
 else
 (chk (MulOk x39 x39) (lt (((((cell1 % (1000003 : Int)) + (1 : Int)) * ((x39 * x39) + (48271 : Int))) % (65537 : Int)) : Int) fun mixed130 =>
 (chk (0 < many4) (chk ((b37.1).length < sizeLine) (lt ((b37.1 ++ [((((mixed130 * mixed130) + ((30269 : Int) * x39)) % (65521 : Int)) % many4)]) : (List Int)) fun found148 =>
 (some (found148, b37.2))))))) : Option ((List Int) × Int)) fun b71 =>
 (some (b71.1, b71.2)))) (found11, number23) (rng 0 count7)) fun o35 =>
 (some o35.1)))))
noncomputable abbrev a_l_row : Int × Int × Int × Unit → Option (List Int) := fun a => m_l_row a.1 a.2.1 a.2.2.1
theorem ok_l_row {P : Program} {w : World} {K : PySem.W.Frag} {mg : Str → Option Value} {base : Heap} {f : Addr} {fd : FuncData} (F : FunP K "_law_row" s_l_row f fd) (hmg : mg "_law_row" = some (.ref f)) (z_range : mg "range" = none) : Cal P w K mg base CX0 1 "_law_row" (spN K a_l_row) := by
  refine mk_calN (k := 0) F hmg (F.bindsN fun _ _ _ _ _ _ us hl => match us, hl with | [_, _, _], _ => rfl) sc_l_row len3 ?_
  rintro cdv A' outer sh0 H0 X0 hr s0 vs ⟨cell1, many4, count7, _⟩ r0 Q ⟨v2, _, rfl, r3, v5, _, rfl, r6, v8, _, rfl, r9, rfl⟩ hm hQ
  have E10 := Ex.refl s0
  unfold a_l_row m_l_row at hm
  dsimp only at hm
  refine do_setN 3 (en_list (xs := ([] : List Int)) ee_nil (by simp [sizeLine])) (fun p15 s13 e14 n16 o17 => ?_) sc_l_row.nd
  have n18 := fr_back E10 n16
  have E19 := E10.trans e14
  have r20 := Enc.mono e14.f r3
  have r21 := Enc.mono e14.f r6
  have r22 := Enc.mono e14.f r9
  obtain ⟨found11, q12, hm⟩ := ltE hm
  rw [← q12] at o17
  refine do_set 4 (ev_div (ev_var 0 rfl r20) ev_int ⟨by decide, by decide +kernel⟩) (fun v27 s25 e26 r28 => ?_) sc_l_row.nd
  have E29 := E19.trans e26
  have r30 := Enc.mono e26.f r20
  have r31 := Enc.mono e26.f r21
  have r32 := Enc.mono e26.f r22
  have o33 := Own.ex o17 e26
  obtain ⟨number23, q24, hm⟩ := ltE hm
  rw [← q24] at r28
  obtain ⟨hc34, hm⟩ := chkE hm
  obtain ⟨o35, ho36, hm⟩ := bndE hm
  refine do_forO (υ := ((List Int) × Int)) PassesOwn.never rfl (ei_range1 z_range (ev_var 2 rfl r32) hc34) (pg_name (i := 5) sc_l_row.nd rfl (by first | exact Or.inl rfl | exact Or.inr rfl)) tg_n ho36 (fun (b37 : ((List Int) × Int)) (σ' : L2.St) (t' : S) => Ex s0 t' ∧ ∃ (v_number : V) (y_mixed : Option V) (y_k : Option V), σ' = [some v2, some v5, some v8, some (.ref p15), some v_number, y_k, y_mixed] ∧ Own K t' p15 (b37.1 : (List Int)) ∧ rep K t'.F v_number (b37.2 : Int)) (fun s182 k183 => by have E184 := E29.trans k183; have r185 := Enc.mono k183.f r30; have r186 := Enc.mono k183.f r31; have r187 := Enc.mono k183.f r32; have o188 := Own.ex o33 k183; have r189 := Enc.mono k183.f r28; exact ⟨E184, v27, _, _, rfl, o188, r189⟩) (fun s40 k41 x39 b37 b38 σ50 σ51 t48 t49 hx42 hm43 fl44 hR45 k46 hB47 => ?_) (fun s176 k177 σ178 t179 fl180 hR181 => ?_)
  · have hf52 := Fle.trans k41.f fl44
    obtain ⟨E53, v54, y55, y56, rfl, o57, r58⟩ := hR45
    have r59 := Enc.mono hf52 r30
    have r60 := Enc.mono hf52 r31
    have r61 := Enc.mono hf52 r32
    obtain ⟨v62, r63, rfl⟩ := hB47
    have E64 := E53.trans k46
    have o65 := Own.ex o57 k46
    have r66 := Enc.mono k46.f r58
    have r67 := Enc.mono k46.f r59
    have r68 := Enc.mono k46.f r60
    have r69 := Enc.mono k46.f r61
    obtain ⟨b71, hj72, hm43⟩ := bndE hm43
    refine do_if ((eb_eq (ev_mod (ev_var 0 rfl r67) ev_int (by decide)) ev_int)).t (fun (σ' : L2.St) (t' : S) => Fle t49.F t'.F ∧ Ex s0 t' ∧ ∃ (v_number : V) (y_mixed : Option V), σ' = [some v2, some v5, some v8, some (.ref p15), some v_number, some v62, y_mixed] ∧ Own K t' p15 (b71.1 : (List Int)) ∧ rep K t'.F v_number (b71.2 : Int)) (fun hb73 s74 e75 => ?_) (fun hb116 s117 e118 => ?_) (fun σ161 s162 hM163 => ?_)
    · have hm76 := iteE1 hj72 hb73
      have E77 := E64.trans e75
      have fl78 := Fle.trans (Fle.refl t49.F) e75.f
      have fl79 := Fle.trans (Fle.refl t49.F) e75.f
      have o80 := Own.ex o65 e75
      have r81 := Enc.mono e75.f r66
      have r82 := Enc.mono e75.f r67
      have r83 := Enc.mono e75.f r68
      have r84 := Enc.mono e75.f r69
      have r85 := Enc.mono e75.f r63
      obtain ⟨hc91, hm76⟩ := chkE hm76
      obtain ⟨hc92, hm76⟩ := chkE hm76
      refine do_append 3 rfl o80 (ev_mod (ev_var 4 rfl r81) (ev_var 1 rfl r83) hc91) hc92 (fun s86 m87 o88 => ?_)
      have E93 := Ex.mu1 E77 m87 n18
      have fl94 := Fle.trans fl78 m87.f
      have fl95 := Fle.trans fl79 m87.f
      have r96 := Enc.mono m87.f r81
      have r97 := Enc.mono m87.f r82
      have r98 := Enc.mono m87.f r83
      have r99 := Enc.mono m87.f r84
      have r100 := Enc.mono m87.f r85
      obtain ⟨found89, q90, hm76⟩ := ltE hm76
      rw [← q90] at o88
      obtain ⟨hc101, hm76⟩ := chkE hm76
      refine do_set 4 (ev_div (ev_var 4 rfl r96) (ev_var 1 rfl r98) hc101) (fun v106 s104 e105 r107 => ?_) sc_l_row.nd
      have E108 := E93.trans e105
      have fl109 := Fle.trans fl94 e105.f
      have fl110 := Fle.trans fl95 e105.f
      have r111 := Enc.mono e105.f r97
      have r112 := Enc.mono e105.f r98
      have r113 := Enc.mono e105.f r99
      have r114 := Enc.mono e105.f r100
      have o115 := Own.ex o88 e105
      obtain ⟨number102, q103, hm76⟩ := ltE hm76
      rw [← q103] at r107
      obtain rfl := Option.some.inj hm76
      exact do_nil ⟨s104, rfl, fl110, ⟨E108, v106, _, rfl, o115, r107⟩⟩
    · have hm119 := iteE2 hj72 hb116
      have E120 := E64.trans e118
      have fl121 := Fle.trans (Fle.refl t49.F) e118.f
      have fl122 := Fle.trans (Fle.refl t49.F) e118.f
      have o123 := Own.ex o65 e118
      have r124 := Enc.mono e118.f r66
      have r125 := Enc.mono e118.f r67
      have r126 := Enc.mono e118.f r68
      have r127 := Enc.mono e118.f r69
      have r128 := Enc.mono e118.f r63
      obtain ⟨hc129, hm119⟩ := chkE hm119
      refine do_set 6 (ev_mod (ev_mul (ev_add (ev_mod (ev_var 0 rfl r125) ev_int (by decide)) ev_int) (ev_add (ev_mul (ev_var 5 rfl r128) (ev_var 5 rfl r128) hc129) ev_int) (Or.inl (Or.inl ⟨by omega, by omega⟩))) ev_int (by decide)) (fun v134 s132 e133 r135 => ?_) sc_l_row.nd
      have E136 := E120.trans e133
      have fl137 := Fle.trans fl121 e133.f
      have fl138 := Fle.trans fl122 e133.f
      have o139 := Own.ex o123 e133
      have r140 := Enc.mono e133.f r124
      have r141 := Enc.mono e133.f r125
      have r142 := Enc.mono e133.f r126
      have r143 := Enc.mono e133.f r127
      have r144 := Enc.mono e133.f r128
      obtain ⟨mixed130, q131, hm119⟩ := ltE hm119
      rw [← q131] at r135
      obtain ⟨hc150, hm119⟩ := chkE hm119
      obtain ⟨hc151, hm119⟩ := chkE hm119
      refine do_append 3 rfl o139 (ev_mod (ev_mod (ev_add (ev_mul (ev_var 6 rfl r135) (ev_var 6 rfl r135) (Or.inl (Or.inl ⟨by omega, by omega⟩))) (ev_mul ev_int (ev_var 5 rfl r144) (Or.inl (Or.inl ⟨by omega, by omega⟩)))) ev_int (by decide)) (ev_var 1 rfl r142) hc150) hc151 (fun s145 m146 o147 => ?_)
      have E152 := Ex.mu1 E136 m146 n18
      have fl153 := Fle.trans fl137 m146.f
      have fl154 := Fle.trans fl138 m146.f
      have r155 := Enc.mono m146.f r140
      have r156 := Enc.mono m146.f r141
      have r157 := Enc.mono m146.f r142
      have r158 := Enc.mono m146.f r143
      have r159 := Enc.mono m146.f r144
      have r160 := Enc.mono m146.f r135
      obtain ⟨found148, q149, hm119⟩ := ltE hm119
      rw [← q149] at o147
      obtain rfl := Option.some.inj hm119
      exact do_nil ⟨s145, rfl, fl154, ⟨E152, v54, _, rfl, o147, r155⟩⟩
    · obtain ⟨hf164, hR165⟩ := hM163
      obtain ⟨E166, v167, y168, rfl, o169, r170⟩ := hR165
      have r171 := Enc.mono hf164 r67
      have r172 := Enc.mono hf164 r68
      have r173 := Enc.mono hf164 r69
      have r174 := Enc.mono hf164 r63
      have fl175 := Fle.trans (Fle.refl t49.F) hf164
      obtain rfl := Option.some.inj hm43
      exact do_nil ⟨s162, rfl, fl175, ⟨E166, v167, _, _, rfl, o169, r170⟩⟩
  · have hf190 := Fle.trans k177.f fl180
    obtain ⟨E191, v192, y193, y194, rfl, o195, r196⟩ := hR181
    have r197 := Enc.mono hf190 r30
    have r198 := Enc.mono hf190 r31
    have r199 := Enc.mono hf190 r32
    obtain rfl := Option.some.inj hm
    exact do_retO 3 rfl (hQ _ _ E191 n18 o195)
abbrev s_l_text : Stmt := topS 6
abbrev N_l_text : List Str := ["_law_cell", "_law_signs", "_law_size", "_law_many", "_law_one"]
theorem sc_l_text : FnScope N_l_text ["_law_cell"] (defScope s_l_text) := ⟨rfl, rfl, rfl, by decide +kernel, rfl, by decide +kernel, by decide +kernel⟩
noncomputable def m_l_text (cell200 : Int) : Option Str :=
 (lt (("abcdefghijklmnopqrstuvwxyzAZ09 -_.,+'xyz" : Str) : Str) fun signs204 =>
 (lt ((cell200 % (14 : Int)) : Int) fun size212 =>
 (bnd (atI ([(26 : Int), (40 : Int)] : List Int) ((cell200 / (14 : Int)) % (2 : Int))) fun at221 => (lt (at221 : Int) fun many222 =>
 (bnd (m_l_row (cell200 / (28 : Int)) many222 size212) fun row232 => (bnd (mapO (fun (x233 : Int) => (bnd (sgn signs204 x233) fun at245 => (some at245))) row232) fun ys246 => (chk ((ys246).length ≤ sizeLine) (chk (JnOk ("" : Str) ys246) (some (Txt.join ("" : Str) ys246))))))))))
noncomputable abbrev a_l_text : Int × Unit → Option Str := fun a => m_l_text a.1
theorem ok_l_text {P : Program} {w : World} {K : PySem.W.Frag} {mg : Str → Option Value} {base : Heap} {f : Addr} {fd : FuncData} (F : FunP K "_law_text" s_l_text f fd) (hmg : mg "_law_text" = some (.ref f)) (C_l_row : Cal P w K mg base CX0 1 "_law_row" (spN K a_l_row)) : Cal P w K mg base CX0 2 "_law_text" (sp K a_l_text) := by
  refine mk_cal (k := 1) F hmg (F.bindsN fun _ _ _ _ _ _ us hl => match us, hl with | [_], _ => rfl) sc_l_text len1 ?_
  rintro cdv A' outer sh0 H0 X0 hr s0 vs ⟨cell200, _⟩ r0 Q ⟨v201, _, rfl, r202, rfl⟩ hm hQ
  have E203 := Ex.refl s0
  unfold a_l_text m_l_text at hm
  dsimp only at hm
  refine do_set 1 ev_str (fun v208 s206 e207 r209 => ?_) sc_l_text.nd
  have E210 := E203.trans e207
  have r211 := Enc.mono e207.f r202
  obtain ⟨signs204, q205, hm⟩ := ltE hm
  rw [← q205] at r209
  refine do_set 2 (ev_mod (ev_var 0 rfl r211) ev_int (by decide)) (fun v216 s214 e215 r217 => ?_) sc_l_text.nd
  have E218 := E210.trans e215
  have r219 := Enc.mono e215.f r211
  have r220 := Enc.mono e215.f r209
  obtain ⟨size212, q213, hm⟩ := ltE hm
  rw [← q213] at r217
  obtain ⟨at221, h_at221, hm⟩ := bndE hm
  refine do_set 3 (ev_ix ((en_list (xs := ([(26 : Int), (40 : Int)] : List Int)) (ee_cons ev_int (ee_cons ev_int ee_nil)) (by simp [sizeLine]))).r (ev_mod (ev_div (ev_var 0 rfl r219) ev_int ⟨by decide, by decide +kernel⟩) ev_int (by decide)) h_at221) (fun v226 s224 e225 r227 => ?_) sc_l_text.nd
  have E228 := E218.trans e225
  have r229 := Enc.mono e225.f r219
  have r230 := Enc.mono e225.f r220
  have r231 := Enc.mono e225.f r217
  obtain ⟨many222, q223, hm⟩ := ltE hm
  rw [← q223] at r227
  obtain ⟨row232, h_row232, hm⟩ := bndE hm
  obtain ⟨ys246, h_ys246, hm⟩ := bndE hm
  obtain ⟨hc247, hm⟩ := chkE hm
  obtain ⟨hc248, hm⟩ := chkE hm
  obtain rfl := Option.some.inj hm
  exact do_ret (ev_join ev_str ((en_comp0 (own := [("_law_one", 4)]) (j := 4) (f := fun (x233 : Int) => (bnd (sgn signs204 x233) fun at245 => (some at245))) rfl sc_l_text.nd (ei_list ((en_call C_l_row hr (by decide) (ea_cons (ev_div (ev_var 0 rfl r229) ev_int ⟨by decide, by decide +kernel⟩) (ea_cons (ev_var 3 rfl r227) (ea_cons (ev_var 2 rfl r231) ea_nil))) h_row232)).ev) (blkOk_by (own := [("_law_one", 4)]) (N := N_l_text) (sc := defScope s_l_text) (by decide +kernel)) rfl (by decide) (fun _ _ _ _ _ => pg_name (i := 4) sc_l_text.nd rfl (by first | exact Or.inl rfl | exact Or.inr rfl)) h_ys246 hc247 (fun x233 y234 v243 s235 hx237 e236 r244 hf238 _ _ _ _ _ => by have r240 := Enc.mono e236.f r230; obtain ⟨at245, h_at245, hf238⟩ := bndE hf238; obtain rfl := Option.some.inj hf238; exact (ev_ixS (ev_var 1 rfl r240) (ev_var 4 rfl r244) h_at245)))).n.r hc248) fun v249 s250 e251 r252 => hQ _ _ (E228.trans e251) r252
abbrev s_is_made_of : Stmt := topS 2
abbrev N_is_made_of : List Str := ["text", "signs", "most", "sign"]
theorem sc_is_made_of : FnScope N_is_made_of ["text", "signs", "most"] (defScope s_is_made_of) := ⟨rfl, rfl, rfl, by decide +kernel, rfl, by decide +kernel, by decide +kernel⟩
noncomputable def m_is_made_of (text253 : Str) (signs256 : Str) (most259 : Int) : Option Bool :=
 (chk ((text253).length ≤ sizeLine) (if ((decide (((text253).length : Int) < (1 : Int))) || (decide (most259 < ((text253).length : Int)))) = true then
 (some false)
 else
 (bnd (foldF (ρ := Bool) (fun (b288 : Unit) (x290 : Str) =>
 (if (!inS x290 signs256) = true then
 (some (Fl.rt false))
 else
 (some (Fl.nx ())))) () (chars text253)) fun o286 =>
 (Fl.go o286 (fun b354 => (some true)) (fun rr => (some rr))))))
noncomputable abbrev a_is_made_of : Str × Str × Int × Unit → Option Bool := fun a => m_is_made_of a.1 a.2.1 a.2.2.1
theorem ok_is_made_of {P : Program} {w : World} {K : PySem.W.Frag} {mg : Str → Option Value} {base : Heap} {f : Addr} {fd : FuncData} (F : FunP K "is_made_of" s_is_made_of f fd) (hmg : mg "is_made_of" = some (.ref f)) (z_len : mg "len" = none) : Cal P w K mg base CX0 1 "is_made_of" (sp K a_is_made_of) := by
  refine mk_cal (k := 0) F hmg (F.bindsN fun _ _ _ _ _ _ us hl => match us, hl with | [_, _, _], _ => rfl) sc_is_made_of len3 ?_
  rintro cdv A' outer sh0 H0 X0 hr s0 vs ⟨text253, signs256, most259, _⟩ r0 Q ⟨v254, _, rfl, r255, v257, _, rfl, r258, v260, _, rfl, r261, rfl⟩ hm hQ
  have E262 := Ex.refl s0
  unfold a_is_made_of m_is_made_of at hm
  dsimp only at hm
  obtain ⟨hc263, hm⟩ := chkE hm
  refine do_ifR ((ec_or (eb_lt (ev_lenS z_len hc263 (ev_var 0 rfl r255)) ev_int) fun _ => (ec_or1 (eb_gt (ev_lenS z_len hc263 (ev_var 0 rfl r255)) (ev_var 2 rfl r261))))).w.tt (fun hb266 s267 e268 => ?_) (fun hb278 s279 e280 => ?_)
  · have hm269 := iteE1 hm hb266
    have E270 := E262.trans e268
    have r271 := Enc.mono e268.f r255
    have r272 := Enc.mono e268.f r258
    have r273 := Enc.mono e268.f r261
    obtain rfl := Option.some.inj hm269
    exact do_ret ev_bl fun v274 s275 e276 r277 => hQ _ _ (E270.trans e276) r277
  · have hm281 := iteE2 hm hb278
    have E282 := E262.trans e280
    have r283 := Enc.mono e280.f r255
    have r284 := Enc.mono e280.f r258
    have r285 := Enc.mono e280.f r261
    obtain ⟨o286, ho287, hm281⟩ := bndE hm281
    refine do_forF (ρ := Bool) (υ := Unit) PassesOwn.never rfl (ei_str (ev_var 0 rfl r283)) (pg_name (i := 3) sc_is_made_of.nd rfl (by first | exact Or.inl rfl | exact Or.inr rfl)) tg_n ho287 (fun (b288 : Unit) (σ' : L2.St) (t' : S) => Ex s0 t' ∧ ∃ (y_sign : Option V), σ' = [some v254, some v257, some v260, y_sign]) (fun s348 k349 => by have E350 := E282.trans k349; have r351 := Enc.mono k349.f r283; have r352 := Enc.mono k349.f r284; have r353 := Enc.mono k349.f r285; exact ⟨E350, _, rfl⟩) (fun s291 k292 x290 b288 q315 σ301 σ302 t299 t300 hx293 hm294 hq316 fl295 hR296 k297 hB298 => ?_) (fun s342 k343 b354 σ344 t345 ho355 fl346 hR347 => ?_)
    · have hf303 := Fle.trans k292.f fl295
      obtain ⟨E304, y305, rfl⟩ := hR296
      have r306 := Enc.mono hf303 r283
      have r307 := Enc.mono hf303 r284
      have r308 := Enc.mono hf303 r285
      obtain ⟨v309, r310, rfl⟩ := hB298
      have E311 := E304.trans k297
      have r312 := Enc.mono k297.f r306
      have r313 := Enc.mono k297.f r307
      have r314 := Enc.mono k297.f r308
      refine do_ifR ((eb_notInS (ev_var 3 rfl r310) (ev_var 1 rfl r313))).t (fun hb318 s319 e320 => ?_) (fun hb332 s333 e334 => ?_)
      · have hm321 := iteE1 hm294 hb318
        have E322 := E311.trans e320
        have fl323 := Fle.trans (Fle.refl t300.F) e320.f
        have r324 := Enc.mono e320.f r312
        have r325 := Enc.mono e320.f r313
        have r326 := Enc.mono e320.f r314
        have r327 := Enc.mono e320.f r310
        obtain rfl := Option.some.inj hm321
        obtain rfl := hq316 _ rfl
        obtain rfl := Option.some.inj hm281
        exact do_ret ev_bl fun v328 s329 e330 r331 => hQ _ _ (E322.trans e330) r331
      · have hm335 := iteE2 hm294 hb332
        have E336 := E311.trans e334
        have fl337 := Fle.trans (Fle.refl t300.F) e334.f
        have r338 := Enc.mono e334.f r312
        have r339 := Enc.mono e334.f r313
        have r340 := Enc.mono e334.f r314
        have r341 := Enc.mono e334.f r310
        obtain rfl := Option.some.inj hm335
        exact do_nil ⟨s333, rfl, _, rfl, fl337, ⟨E336, _, rfl⟩⟩
    · subst ho355
      have hf356 := Fle.trans k343.f fl346
      obtain ⟨E357, y358, rfl⟩ := hR347
      have r359 := Enc.mono hf356 r283
      have r360 := Enc.mono hf356 r284
      have r361 := Enc.mono hf356 r285
      obtain rfl := Option.some.inj hm281
      exact do_ret ev_bl fun v362 s363 e364 r365 => hQ _ _ (E357.trans e364) r365
abbrev s_is_name : Stmt := topS 3
abbrev N_is_name : List Str := ["text"]
theorem sc_is_name : FnScope N_is_name ["text"] (defScope s_is_name) := ⟨rfl, rfl, rfl, by decide +kernel, rfl, by decide +kernel, by decide +kernel⟩
noncomputable def m_is_name (text366 : Str) : Option Bool :=
 (bnd (m_is_made_of text366 c_LETTERS (10 : Int)) fun is_made_of370 => (some is_made_of370))
noncomputable abbrev a_is_name : Str × Unit → Option Bool := fun a => m_is_name a.1
theorem ok_is_name {P : Program} {w : World} {K : PySem.W.Frag} {mg : Str → Option Value} {base : Heap} {f : Addr} {fd : FuncData} (F : FunP K "is_name" s_is_name f fd) (hmg : mg "is_name" = some (.ref f)) (C_is_made_of : Cal P w K mg base CX0 1 "is_made_of" (sp K a_is_made_of)) (G_LETTERS : ∃ v u, mg "LETTERS" = some u ∧ RelV v u ∧ ∀ F, rep K F v c_LETTERS) : Cal P w K mg base CX0 2 "is_name" (sp K a_is_name) := by
  refine mk_cal (k := 1) F hmg (F.bindsN fun _ _ _ _ _ _ us hl => match us, hl with | [_], _ => rfl) sc_is_name len1 ?_
  rintro cdv A' outer sh0 H0 X0 hr s0 vs ⟨text366, _⟩ r0 Q ⟨v367, _, rfl, r368, rfl⟩ hm hQ
  have E369 := Ex.refl s0
  unfold a_is_name m_is_name at hm
  dsimp only at hm
  obtain ⟨is_made_of370, h_is_made_of370, hm⟩ := bndE hm
  obtain rfl := Option.some.inj hm
  exact do_ret (ev_call C_is_made_of hr (by decide) (ea_cons (ev_var 0 rfl r368) (ea_cons (ev_glob G_LETTERS) (ea_cons ev_int ea_nil))) h_is_made_of370) fun v371 s372 e373 r374 => hQ _ _ (E369.trans e373) r374
abbrev s_law : Stmt := topS 7
abbrev N_law : List Str := ["_law_script", "_law_texts", "_law_text_here", "_law_due", "_law_sign", "_law_said", "_law_cell"]
theorem sc_law : FnScope N_law ["_law_script"] (defScope s_law) := ⟨rfl, rfl, rfl, by decide +kernel, rfl, by decide +kernel, by decide +kernel⟩
noncomputable def m_law (script375 : (List Int)) : Option Bool :=
 (chk ((([(0 : Int)] : List Int)).length + ((cut script375 none (some (20 : Int)))).length ≤ sizeLine) (bnd (mapO (fun (x380 : Int) => (bnd (m_l_text x380) fun text389 => (some text389))) (([(0 : Int)] : List Int) ++ (cut script375 none (some (20 : Int))))) fun ys390 => (chk ((ys390).length ≤ sizeLine) (lt (ys390 : (List Str)) fun texts392 =>
 (chk ((texts392).length + (([("oboe\n" : Str), ("\noboe" : Str), ("ob\noe" : Str)] : List Str)).length ≤ sizeLine) (bnd (foldF (ρ := Bool) (fun (b409 : Unit) (x411 : Str) =>
 (chk ((x411).length ≤ sizeLine) (lt ((decide ((1 : Int) ≤ ((x411).length : Int)) && decide (((x411).length : Int) ≤ (10 : Int))) : Bool) fun due440 =>
 (bnd (foldO (fun (b453 : Bool) (x455 : Str) =>
 (bnd (if (!inS x455 ("abcdefghijklmnopqrstuvwxyz" : Str)) = true then
 (lt (false : Bool) fun due498 =>
 (some due498))
 else
 (some b453) : Option Bool) fun b484 =>
 (some b484))) due440 (chars x411)) fun o451 =>
 (bnd (m_is_name x411) fun is_name559 => (lt (is_name559 : Bool) fun said560 =>
 (if ((!true) || (!decide (said560 = o451))) = true then
 (some (Fl.rt false))
 else
 (some (Fl.nx ()))))))))) () (texts392 ++ ([("oboe\n" : Str), ("\noboe" : Str), ("ob\noe" : Str)] : List Str))) fun o407 =>
 (Fl.go o407 (fun b610 => (some true)) (fun rr => (some rr)))))))))
noncomputable abbrev a_law : (List Int) × Unit → Option Bool := fun a => m_law a.1
theorem ok_law_fn {P : Program} {w : World} {K : PySem.W.Frag} {mg : Str → Option Value} {base : Heap} {f : Addr} {fd : FuncData} (F : FunP K "law" s_law f fd) (hmg : mg "law" = some (.ref f)) (C_l_text : Cal P w K mg base CX0 2 "_law_text" (sp K a_l_text)) (C_is_name : Cal P w K mg base CX0 2 "is_name" (sp K a_is_name)) (z_len : mg "len" = none) (z_isinstance : mg "isinstance" = none) (z_bool : mg "bool" = none) : FnOk P w K mg base CX0 3 f fd ["_law_script"] (sp K a_law) := by
  refine mk_fn (k := 2) F sc_law len1 ?_
  rintro cdv A' outer sh0 H0 X0 hr s0 vs ⟨script375, _⟩ r0 Q ⟨v376, _, rfl, r377, rfl⟩ hm hQ
  have E378 := Ex.refl s0
  unfold a_law m_law at hm
  dsimp only at hm
  obtain ⟨hc379, hm⟩ := chkE hm
  obtain ⟨ys390, h_ys390, hm⟩ := bndE hm
  obtain ⟨hc391, hm⟩ := chkE hm
  refine do_setL 1 (en_comp0 (own := [("_law_cell", 6)]) (j := 6) (f := fun (x380 : Int) => (bnd (m_l_text x380) fun text389 => (some text389))) rfl sc_law.nd (ei_list ((en_cat ((en_list (xs := ([(0 : Int)] : List Int)) (ee_cons ev_int ee_nil) (by simp [sizeLine]))).r ((en_slice ((ev_var 0 rfl r377)).r eo_none (eo_some ev_int))).r hc379)).ev) (blkOk_by (own := [("_law_cell", 6)]) (N := N_law) (sc := defScope s_law) (by decide +kernel)) rfl (by decide) (fun _ _ _ _ _ => pg_name (i := 6) sc_law.nd rfl (by first | exact Or.inl rfl | exact Or.inr rfl)) h_ys390 hc391 (fun x380 y381 v387 s382 hx384 e383 r388 hf385 _ _ _ _ _ => by obtain ⟨text389, h_text389, hf385⟩ := bndE hf385; obtain rfl := Option.some.inj hf385; exact (ev_call C_l_text hr (by decide) (ea_cons (ev_var 6 rfl r388) ea_nil) h_text389))) (fun p398 s394 e395 n399 o400 => ?_) rfl rfl
  obtain ⟨s401, hs402, e403, r397⟩ := frz_ex e395 n399 o400
  rw [← hs402]
  have E404 := E378.trans e403
  have r405 := Enc.mono e403.f r377
  obtain ⟨texts392, q393, hm⟩ := ltE hm
  rw [← q393] at r397
  obtain ⟨hc406, hm⟩ := chkE hm
  obtain ⟨o407, ho408, hm⟩ := bndE hm
  refine do_forF (ρ := Bool) (υ := Unit) PassesOwn.never rfl (ei_list ((en_cat ((ev_var 1 rfl r397)).r ((en_list (xs := ([("oboe\n" : Str), ("\noboe" : Str), ("ob\noe" : Str)] : List Str)) (ee_cons ev_str (ee_cons ev_str (ee_cons ev_str ee_nil))) (by simp [sizeLine]))).r hc406)).ev) (pg_name (i := 2) sc_law.nd rfl (by first | exact Or.inl rfl | exact Or.inr rfl)) tg_n ho408 (fun (b409 : Unit) (σ' : L2.St) (t' : S) => Ex s0 t' ∧ ∃ (y_due : Option V) (y_sign : Option V) (y_said : Option V) (y_text_here : Option V), σ' = [some v376, some (V.ref p398), y_text_here, y_due, y_sign, y_said, none]) (fun s605 k606 => by have E607 := E404.trans k606; have r608 := Enc.mono k606.f r405; have r609 := Enc.mono k606.f r397; exact ⟨E607, _, _, _, _, rfl⟩) (fun s412 k413 x411 b409 q437 σ422 σ423 t420 t421 hx414 hm415 hq438 fl416 hR417 k418 hB419 => ?_) (fun s599 k600 b610 σ601 t602 ho611 fl603 hR604 => ?_)
  · have hf424 := Fle.trans k413.f fl416
    obtain ⟨E425, y426, y427, y428, y429, rfl⟩ := hR417
    have r430 := Enc.mono hf424 r405
    have r431 := Enc.mono hf424 r397
    obtain ⟨v432, r433, rfl⟩ := hB419
    have E434 := E425.trans k418
    have r435 := Enc.mono k418.f r430
    have r436 := Enc.mono k418.f r431
    obtain ⟨hc439, hm415⟩ := chkE hm415
    refine do_set 3 ((eb_chain op_le rfl op_le rfl ev_int (ev_lenS z_len hc439 (ev_var 2 rfl r433)) ev_int)).v (fun v444 s442 e443 r445 => ?_) sc_law.nd
    have E446 := E434.trans e443
    have fl447 := Fle.trans (Fle.refl t421.F) e443.f
    have r448 := Enc.mono e443.f r435
    have r449 := Enc.mono e443.f r436
    have r450 := Enc.mono e443.f r433
    obtain ⟨due440, q441, hm415⟩ := ltE hm415
    rw [← q441] at r445
    obtain ⟨o451, ho452, hm415⟩ := bndE hm415
    refine do_forO (υ := Bool) PassesOwn.never rfl (ei_str (ev_var 2 rfl r450)) (pg_name (i := 4) sc_law.nd rfl (by first | exact Or.inl rfl | exact Or.inr rfl)) tg_n ho452 (fun (b453 : Bool) (σ' : L2.St) (t' : S) => Ex s0 t' ∧ ∃ (v_due : V) (y_sign : Option V), σ' = [some v376, some (V.ref p398), some v432, some v_due, y_sign, y428, none] ∧ rep K t'.F v_due (b453 : Bool)) (fun s542 k543 => by have E544 := E446.trans k543; have fl545 := Fle.trans fl447 k543.f; have r546 := Enc.mono k543.f r448; have r547 := Enc.mono k543.f r449; have r548 := Enc.mono k543.f r450; have r549 := Enc.mono k543.f r445; exact ⟨E544, v444, _, rfl, r549⟩) (fun s456 k457 x455 b453 b454 σ466 σ467 t464 t465 hx458 hm459 fl460 hR461 k462 hB463 => ?_) (fun s536 k537 σ538 t539 fl540 hR541 => ?_)
    · have hf468 := Fle.trans k457.f fl460
      obtain ⟨E469, v470, y471, rfl, r472⟩ := hR461
      have r473 := Enc.mono hf468 r448
      have r474 := Enc.mono hf468 r449
      have r475 := Enc.mono hf468 r450
      obtain ⟨v476, r477, rfl⟩ := hB463
      have E478 := E469.trans k462
      have r479 := Enc.mono k462.f r472
      have r480 := Enc.mono k462.f r473
      have r481 := Enc.mono k462.f r474
      have r482 := Enc.mono k462.f r475
      obtain ⟨b484, hj485, hm459⟩ := bndE hm459
      refine do_if ((eb_notInS (ev_var 4 rfl r477) ev_str)).t (fun (σ' : L2.St) (t' : S) => Fle t465.F t'.F ∧ Ex s0 t' ∧ ∃ (v_due : V), σ' = [some v376, some (V.ref p398), some v432, some v_due, some v476, y428, none] ∧ rep K t'.F v_due (b484 : Bool)) (fun hb486 s487 e488 => ?_) (fun hb511 s512 e513 => ?_) (fun σ523 s524 hM525 => ?_)
      · have hm489 := iteE1 hj485 hb486
        have E490 := E478.trans e488
        have fl491 := Fle.trans (Fle.refl t465.F) e488.f
        have fl492 := Fle.trans (Fle.refl t465.F) e488.f
        have r493 := Enc.mono e488.f r479
        have r494 := Enc.mono e488.f r480
        have r495 := Enc.mono e488.f r481
        have r496 := Enc.mono e488.f r482
        have r497 := Enc.mono e488.f r477
        refine do_set 3 ev_bl (fun v502 s500 e501 r503 => ?_) sc_law.nd
        have E504 := E490.trans e501
        have fl505 := Fle.trans fl491 e501.f
        have fl506 := Fle.trans fl492 e501.f
        have r507 := Enc.mono e501.f r494
        have r508 := Enc.mono e501.f r495
        have r509 := Enc.mono e501.f r496
        have r510 := Enc.mono e501.f r497
        obtain ⟨due498, q499, hm489⟩ := ltE hm489
        rw [← q499] at r503
        obtain rfl := Option.some.inj hm489
        exact do_nil ⟨s500, rfl, fl506, ⟨E504, v502, rfl, r503⟩⟩
      · have hm514 := iteE2 hj485 hb511
        have E515 := E478.trans e513
        have fl516 := Fle.trans (Fle.refl t465.F) e513.f
        have fl517 := Fle.trans (Fle.refl t465.F) e513.f
        have r518 := Enc.mono e513.f r479
        have r519 := Enc.mono e513.f r480
        have r520 := Enc.mono e513.f r481
        have r521 := Enc.mono e513.f r482
        have r522 := Enc.mono e513.f r477
        obtain rfl := Option.some.inj hm514
        exact do_nil ⟨s512, rfl, fl517, ⟨E515, v470, rfl, r518⟩⟩
      · obtain ⟨hf526, hR527⟩ := hM525
        obtain ⟨E528, v529, rfl, r530⟩ := hR527
        have r531 := Enc.mono hf526 r480
        have r532 := Enc.mono hf526 r481
        have r533 := Enc.mono hf526 r482
        have r534 := Enc.mono hf526 r477
        have fl535 := Fle.trans (Fle.refl t465.F) hf526
        obtain rfl := Option.some.inj hm459
        exact do_nil ⟨s524, rfl, fl535, ⟨E528, v529, _, rfl, r530⟩⟩
    · have hf550 := Fle.trans k537.f fl540
      obtain ⟨E551, v552, y553, rfl, r554⟩ := hR541
      have r555 := Enc.mono hf550 r448
      have r556 := Enc.mono hf550 r449
      have r557 := Enc.mono hf550 r450
      have fl558 := Fle.trans fl447 hf550
      obtain ⟨is_name559, h_is_name559, hm415⟩ := bndE hm415
      refine do_set 5 (ev_call C_is_name hr (by decide) (ea_cons (ev_var 2 rfl r557) ea_nil) h_is_name559) (fun v564 s562 e563 r565 => ?_) sc_law.nd
      have E566 := E551.trans e563
      have fl567 := Fle.trans fl558 e563.f
      have r568 := Enc.mono e563.f r554
      have r569 := Enc.mono e563.f r555
      have r570 := Enc.mono e563.f r556
      have r571 := Enc.mono e563.f r557
      obtain ⟨said560, q561, hm415⟩ := ltE hm415
      rw [← q561] at r565
      refine do_ifR ((ec_or (eb_not (eb_v (ev_isi (T := "bool") (r := true) z_isinstance z_bool (by decide +kernel) (ev_var 5 rfl r565) (by show kitB "bool" "bool" = _; decide +kernel)))) fun _ => (ec_or1 (eb_ne (ev_var 5 rfl r565) (ev_var 3 rfl r568))))).w.tt (fun hb573 s574 e575 => ?_) (fun hb588 s589 e590 => ?_)
      · have hm576 := iteE1 hm415 hb573
        have E577 := E566.trans e575
        have fl578 := Fle.trans fl567 e575.f
        have r579 := Enc.mono e575.f r568
        have r580 := Enc.mono e575.f r569
        have r581 := Enc.mono e575.f r570
        have r582 := Enc.mono e575.f r571
        have r583 := Enc.mono e575.f r565
        obtain rfl := Option.some.inj hm576
        obtain rfl := hq438 _ rfl
        obtain rfl := Option.some.inj hm
        exact do_ret ev_bl fun v584 s585 e586 r587 => hQ _ _ (E577.trans e586) r587
      · have hm591 := iteE2 hm415 hb588
        have E592 := E566.trans e590
        have fl593 := Fle.trans fl567 e590.f
        have r594 := Enc.mono e590.f r568
        have r595 := Enc.mono e590.f r569
        have r596 := Enc.mono e590.f r570
        have r597 := Enc.mono e590.f r571
        have r598 := Enc.mono e590.f r565
        obtain rfl := Option.some.inj hm591
        exact do_nil ⟨s589, rfl, _, rfl, fl593, ⟨E592, _, _, _, _, rfl⟩⟩
  · subst ho611
    have hf612 := Fle.trans k600.f fl603
    obtain ⟨E613, y614, y615, y616, y617, rfl⟩ := hR604
    have r618 := Enc.mono hf612 r405
    have r619 := Enc.mono hf612 r397
    obtain rfl := Option.some.inj hm
    exact do_ret ev_bl fun v620 s621 e622 r623 => hQ _ _ (E613.trans e622) r623
def d_l_row : He.DefD := ⟨("_law_row", none), "_law_row", "_law_row", defArgs s_l_row, defBody s_l_row, defScope s_l_row, [], []⟩
def d_l_text : He.DefD := ⟨("_law_text", none), "_law_text", "_law_text", defArgs s_l_text, defBody s_l_text, defScope s_l_text, [], []⟩
def d_is_made_of : He.DefD := ⟨("is_made_of", none), "is_made_of", "is_made_of", defArgs s_is_made_of, defBody s_is_made_of, defScope s_is_made_of, [], []⟩
def d_is_name : He.DefD := ⟨("is_name", none), "is_name", "is_name", defArgs s_is_name, defBody s_is_name, defScope s_is_name, [], []⟩
def d_law : He.DefD := ⟨("law", none), "law", "law", defArgs s_law, defBody s_law, defScope s_law, [], []⟩
def fn : List He.DefD := [d_l_row, d_l_text, d_is_made_of, d_is_name, d_law]
def fa : List He.Fa := [.glo "_law_row", .glo "_law_text", .glo "is_made_of", .glo "is_name", .glo "law", .free "range", .free "len", .free "isinstance", .free "bool", .str "LETTERS" ("abcdefghijklmnopqrstuvwxyz" : Str)]
abbrev R : PySem.W.OpenRow := PySem.W.OpenLaw.row PySem.Challenge.rw_deskpairs_k01_names
abbrev hk : PySem.W.Hook := He.hookD 4 fa fn
def ob (s : PySem.W.SharedT) : He.AlD := He.obsDG 4 fa fn (HandSHeadRun.getT s)
theorem ob_eq (s : PySem.W.SharedT) : ob s = hk.obs s.abs := He.obsDG_eq (HandSHeadRun.getT_eq s)
def loose0 : List Str := ["LETTERS", "is_made_of", "is_name", "_law_row", "_law_text"]
def loose : List Str := loose0
theorem run (w : World) : HandSHeadRun.RunEq R (PySem.W.view R.prog [7]) hk ob 720 loose w := by
  intro os
  kernel_rfl
theorem facts {P : Program} {w : World} {K : PySem.W.Frag} {h : Heap} {mg : Str → Option Value} {f : Addr} (X : K.In h) (G : h.Ns mainGlobals mg) (hfa : mg ("law" : Str) = some (.ref f)) (c : He.SaysD fa fn K) :
    ∃ fd : FuncData, (∀ (s : Shared) (v : Value), BindsTo s fd ⟨[v], []⟩ [("_law_script", v)]) ∧ ∀ base : Heap, K.In base → base.Ns mainGlobals mg → FnOk P w K mg base CX0 3 f fd ["_law_script"] (sp K a_law) := by
  obtain ⟨fd_l_row, F_l_row⟩ := c.def_ 0 (d := d_l_row) rfl
  have g_l_row : mg "_law_row" = some (.ref (He.fAd K ("_law_row", none))) := He.glo_ok X G (c.fact 0 (f := .glo "_law_row") rfl)
  obtain ⟨fd_l_text, F_l_text⟩ := c.def_ 1 (d := d_l_text) rfl
  have g_l_text : mg "_law_text" = some (.ref (He.fAd K ("_law_text", none))) := He.glo_ok X G (c.fact 1 (f := .glo "_law_text") rfl)
  obtain ⟨fd_is_made_of, F_is_made_of⟩ := c.def_ 2 (d := d_is_made_of) rfl
  have g_is_made_of : mg "is_made_of" = some (.ref (He.fAd K ("is_made_of", none))) := He.glo_ok X G (c.fact 2 (f := .glo "is_made_of") rfl)
  obtain ⟨fd_is_name, F_is_name⟩ := c.def_ 3 (d := d_is_name) rfl
  have g_is_name : mg "is_name" = some (.ref (He.fAd K ("is_name", none))) := He.glo_ok X G (c.fact 3 (f := .glo "is_name") rfl)
  obtain ⟨fd_law, F_law⟩ := c.def_ 4 (d := d_law) rfl
  have g_law : mg "law" = some (.ref (He.fAd K ("law", none))) := He.glo_ok X G (c.fact 4 (f := .glo "law") rfl)
  have z_range : mg "range" = none := He.free_ok X G (c.fact 5 (f := .free "range") rfl)
  have z_len : mg "len" = none := He.free_ok X G (c.fact 6 (f := .free "len") rfl)
  have z_isinstance : mg "isinstance" = none := He.free_ok X G (c.fact 7 (f := .free "isinstance") rfl)
  have z_bool : mg "bool" = none := He.free_ok X G (c.fact 8 (f := .free "bool") rfl)
  have G_LETTERS : ∃ v u, mg "LETTERS" = some u ∧ RelV v u ∧ ∀ F, Enc.rep K F v c_LETTERS := by
    obtain ⟨t, e⟩ := He.str_ok X G (c.fact 9 (f := .str "LETTERS" ("abcdefghijklmnopqrstuvwxyz" : Str)) rfl)
    exact ⟨.str c_LETTERS, _, e, ⟨t, rfl⟩, fun _ => rfl⟩
  have e := hfa.symm.trans g_law
  cases e
  have b := FunD.bindsA (ps := ["_law_script"]) F_law fun _ _ _ _ _ _ us hl => match us, hl with | [_], _ => rfl
  refine ⟨fd_law, fun s v => b s [v] rfl, fun base _ _ => ?_⟩
  have C_l_row := ok_l_row (P := P) (w := w) (base := base) F_l_row g_l_row z_range
  have C_l_text := ok_l_text (P := P) (w := w) (base := base) F_l_text g_l_text C_l_row
  have C_is_made_of := ok_is_made_of (P := P) (w := w) (base := base) F_is_made_of g_is_made_of z_len
  have C_is_name := ok_is_name (P := P) (w := w) (base := base) F_is_name g_is_name C_is_made_of G_LETTERS
  exact ok_law_fn (P := P) (w := w) (base := base) F_law g_law C_l_text C_is_name z_len z_isinstance z_bool
theorem row_ok {cell many count : Int} (h1 : 0 < many) (h2 : many < 100000000) (h3 : 0 ≤ count) (h4 : count ≤ 1000) : Ok (m_l_row cell many count) (fun r => (r.length : Int) = count ∧ ∀ x ∈ r, 0 ≤ x ∧ x < many) := by
  unfold m_l_row
  refine ok_lt fun f hf => ok_lt fun n _ => ok_chk ⟨by omega, by omega⟩ (ok_bnd (P := fun b => (b.1.length : Int) = count ∧ ∀ x ∈ b.1, 0 ≤ x ∧ x < many) (ok_foldO (fun i b => b.1.length = i ∧ ∀ x ∈ b.1, 0 ≤ x ∧ x < many) ⟨by rw [hf]; rfl, by rw [hf]; simp⟩ ?_ ?_) ?_)
  · rintro i ⟨b1, b2⟩ x hx ⟨hl, hm⟩
    obtain ⟨e1, e2⟩ := rng_at hx
    dsimp only at hl hm ⊢
    have hz := szl
    have key : ∀ v : Int, (b1 ++ [v % many]).length = i + 1 ∧ ∀ z ∈ b1 ++ [v % many], 0 ≤ z ∧ z < many := fun v => by
      refine ⟨by rw [List.length_append, hl]; rfl, fun z hz => ?_⟩
      rcases List.mem_append.mp hz with h | h
      · exact hm z h
      · rw [List.mem_singleton.mp h]
        exact ⟨Int.emod_nonneg _ (by omega), Int.emod_lt_of_pos _ h1⟩
    refine ok_bnd (P := fun b => b.1.length = i + 1 ∧ ∀ z ∈ b.1, 0 ≤ z ∧ z < many) (ok_ite (fun _ => ?_) (fun _ => ?_)) (fun r hr => ok_some hr)
    · refine ok_chk h1 (ok_chk (by omega) (ok_lt fun y hy => ok_chk (div_small h1 (by omega)) (ok_lt fun _ _ => ok_some ?_)))
      rw [hy]; exact key _
    · refine ok_chk (mul_l (by omega) (by omega)) (ok_lt fun w _ => ok_chk h1 (ok_chk (by omega) (ok_lt fun y hy => ok_some ?_)))
      rw [hy]; exact key _
  · rintro b ⟨hl, hm⟩
    exact ⟨by rw [hl, rng_len_nn h3]; omega, hm⟩
  · exact fun b hb => ok_some hb
theorem text_ok (cell : Int) : Ok (m_l_text cell) (fun t => t.length ≤ 13) := by
  unfold m_l_text
  refine ok_lt fun sg hsg => ok_lt fun size hs => ok_bnd (P := fun x => x = 26 ∨ x = 40) (ok_atI (by omega) (by simp; omega) fun x hx => ?_) fun at1 h1 => ok_lt fun many hm => ?_
  · have h : (cell / 14 % 2).toNat = 0 ∨ (cell / 14 % 2).toNat = 1 := by omega
    rcases h with h | h <;> rw [h] at hx <;> simp at hx
    · exact .inl hx.symm
    · exact .inr hx.symm
  · have hs1 : 0 ≤ size ∧ size ≤ 13 := by omega
    have hl : sg.cps.toList.length = 40 := by rw [hsg]; rfl
    have hz : sg.length ≤ sizeLine := by rw [hsg]; decide
    refine ok_bnd (row_ok (by omega) (by omega) hs1.1 (by omega)) fun row ⟨r1, r2⟩ => ?_
    refine ok_bnd (ok_mapO (P := fun _ y => y.length = 1) fun x hx => ?_) fun ys ⟨y1, y2⟩ => ?_
    · obtain ⟨h3, h4⟩ := r2 x hx
      refine ok_bnd (P := fun y => y.length = 1) ?_ fun y hy => ok_some hy
      unfold sgn
      rw [if_pos hz]
      obtain ⟨c, hc⟩ : ∃ c, atI sg.cps.toList x = some c := ⟨_, (ok_atI (Q := fun _ => True) h3 (by rw [hl]; omega) fun _ _ => trivial).choose_spec.1⟩
      rw [hc]
      exact ok_some rfl
    · have one : ∀ y ∈ ys, y.length = 1 := fun y hy => by
        obtain ⟨i, hi⟩ := List.mem_iff_getElem?.mp hy
        obtain ⟨_, _, h⟩ := y2 i y hi
        exact h
      have hlen : ys.length ≤ 13 := by omega
      refine ok_chk (by have := szl; omega) (ok_chk ?_ (ok_some ?_))
      · unfold Dy.JnOk
        rw [sum_ones one]
        show ys.length + ys.length * 0 ≤ 16777216
        omega
      · rw [join_len0, sum_ones one]; exact hlen
theorem made_eq (t s : Str) (m : Int) (h : t.length ≤ sizeLine) : m_is_made_of t s m = some (!(decide ((t.length : Int) < 1) || decide (m < (t.length : Int))) && !(chars t).any (fun x => !inS x s)) := by
  unfold m_is_made_of
  rw [chk_pos h]
  split
  · rename_i e
    rw [e]; rfl
  · rename_i e
    rw [Bool.not_eq_true] at e
    rw [e, foldF_any (p := fun x => !inS x s) (r := false) (fun x => rfl)]
    cases (chars t).any (fun x => !inS x s) <;> rfl
theorem fold_due (p : Str → Bool) (f : Bool → Str → Option Bool) (hf : ∀ b x, f b x = some (b && !p x)) : ∀ (xs : List Str) (d : Bool), foldO f d xs = some (d && !xs.any p)
  | [], d => by simp [foldO]
  | x :: xs, d => by
    unfold foldO
    rw [hf d x, Option.bind_some, fold_due p f hf xs, List.any_cons]
    cases d <;> cases p x <;> simp
theorem law_true : ∀ ns : List Int, ns.length ≤ 63 → a_law (ns, ()) = some true := by
  intro ns hn
  refine Ok.eq ?_
  show Ok (m_law ns) _
  unfold m_law
  have hc := cut_len_le ns none (some 20)
  have hz := szl
  refine ok_chk (by simp only [List.length_singleton]; omega) (ok_bnd (ok_mapO (P := fun _ y => y.length ≤ 13) fun x _ => ok_bnd (text_ok x) fun y hy => ok_some hy) fun ys ⟨y1, y2⟩ => ?_)
  rw [List.length_append, List.length_singleton] at y1
  refine ok_chk (by omega) (ok_lt fun texts ht => ?_)
  subst ht
  refine ok_chk (by simp only [List.length_cons, List.length_nil]; omega) (ok_bnd (P := fun o => o = .nx ()) (ok_foldF (fun _ _ => True) (fun _ => False) trivial ?_ (fun _ _ => rfl) (fun _ h => h.elim)) ?_)
  · intro i b x hx _
    have hl : x.length ≤ 13 := by
      rw [List.getElem?_append] at hx
      split at hx
      · obtain ⟨_, _, h⟩ := y2 i x hx
        exact h
      · have h3 : x ∈ [("oboe\n" : Str), ("\noboe" : Str), ("ob\noe" : Str)] := List.mem_of_getElem? hx
        simp only [List.mem_cons, List.not_mem_nil, or_false] at h3
        rcases h3 with rfl | rfl | rfl <;> decide
    refine ok_chk (by omega) (ok_lt fun due hd => ?_)
    rw [fold_due (fun x => !inS x ("abcdefghijklmnopqrstuvwxyz" : Str)) _ (fun b y => ?_)]
    · refine ok_bnd (P := fun o => o = (due && !(chars x).any fun x => !inS x ("abcdefghijklmnopqrstuvwxyz" : Str))) (ok_some rfl) fun o ho => ?_
      refine ok_bnd (P := fun r => r = o) ?_ fun r hr => ok_lt fun said hs => ?_
      · unfold m_is_name
        rw [made_eq x c_LETTERS 10 (by omega)]
        refine ok_some ?_
        rw [ho, hd]
        have e : (!(decide ((x.length : Int) < 1) || decide (10 < (x.length : Int)))) = (decide (1 ≤ (x.length : Int)) && decide ((x.length : Int) ≤ 10)) := by
          rw [Bool.eq_iff_iff]
          simp
        rw [e]; rfl
      · rw [hs, hr]
        refine ok_ite (fun h => ?_) (fun _ => ok_some trivial)
        simp at h
    · cases (inS y ("abcdefghijklmnopqrstuvwxyz" : Str)) <;> cases b <;> rfl
  · intro o ho
    subst ho
    exact ok_some rfl

end K01

open PySem PySem.W PySem.Calls PyProof.Rows
set_option maxHeartbeats 0 in
theorem PySem.Challenge.cw_deskpairs_k01_names_holds : PySem.Challenge.rw_deskpairs_k01_names.Holds := by
  w_on; o_law
  refine HandSHeadRun.head_any (r := OpenLaw.row PySem.Challenge.rw_deskpairs_k01_names) (q := view (OpenLaw.row PySem.Challenge.rw_deskpairs_k01_names).prog [7]) (H := K01.hk) (ob := K01.ob) (M := 720) (loose := K01.loose) (d := HandSHeadRun.topDef (OpenLaw.row PySem.Challenge.rw_deskpairs_k01_names).prog 7) (kwd := []) K01.ob_eq
    (by kernel_rfl) (fun s => by kernel_rfl) K01.run (by kernel_rfl) (by kernel_rfl) (by kernel_rfl) (by rfl) (by first | assumption | decide +kernel) (by decide +kernel) ⟨rfl, rfl, rfl, rfl, rfl, by decide +kernel⟩ ?hw ?hc
  case hw => w_witness2
  case hc =>
    refine L2.walk_ofE (l := PySem.Challenge.rw_deskpairs_k01_names) (n := 63) (k := 3) (x := "_law_script") (CX := L2.CX0) rfl (by decide) (by kernel_rfl) ⟨rfl, by decide, by decide⟩ ?F (fun _ _ _ _ z => z)
    intro w mg fa h Y G hmg0
    obtain ⟨K, KX, c⟩ := Y
    have hmg : mg ("law" : PySem.Str) = some (.ref fa) := by
      have e : (HandSHeadRun.topDef (OpenLaw.row PySem.Challenge.rw_deskpairs_k01_names).prog 7).name = ("law" : PySem.Str) := by kernel_rfl
      rw [← e]
      exact hmg0
    obtain ⟨fd, hb, hF⟩ := K01.facts (P := (PySem.Challenge.rw_deskpairs_k01_names).prog) (w := w) KX G hmg c
    exact ⟨K, fd, Dy.spLaw K, KX, hb, fun H a ns hl _ hS => ⟨a, ns, rfl, hS, hl, fun _ => rfl⟩, fun base h1 h2 => Dy.law_of (hF base h1 h2) K01.law_true⟩

