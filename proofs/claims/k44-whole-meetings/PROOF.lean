import PyProof.Rows.All
import Wide.All
import OpenK.AllK
import Wide.FinOn
import HandS.ForMost
import HandS.Codes
import HandS.Wide
import HandS.SortInts
import HandS.Conv
import HandS.IsInst
import HandS.Defaults
import HandS.Head0
import HandS.Head1
import HandS.Head2
import HandS.HeadEnd
import HandS.HeadHook1
import HandS.HeadHook2
import HandS.Zip
import HandS.Exc
import HandS.TryOnly
import HandS.ExcOwn
import HandS.WordsExc
import HandS.ExcInit
import HandS.ExcIs
import HandS.ExcField
import HandS.Style
import HandS.TupAny
import HandS.More
import HandS.Replace
import HandS.Dict
import HandS.Iter
import HandS.WordsDict
import HandS.Rev
import KE.KDictList
import HandS.Comp
import HandS.TupLen
import PySem.Challenge.RW_deskpairs_k44_whole_meetings
set_option Elab.async false
set_option linter.all false
set_option maxRecDepth 100000
namespace Dy
open PySem PySem.Spec PyProof.Rows L2

structure S where
  F : Hp
  H : Hp
  sub : ∀ a o, F a = some o → H a = some o
abbrev Fle (F F' : Hp) : Prop := ∀ a o, F a = some o → F' a = some o
theorem Fle.refl (F : Hp) : Fle F F := fun _ _ h => h
theorem Fle.trans {F G I : Hp} (a : Fle F G) (b : Fle G I) : Fle F I := fun x o h => b x o (a x o h)
structure Ex (s t : S) : Prop where
  f : Fle s.F t.F
  h : ∀ a o, s.H a = some o → t.H a = some o
  n : ∀ a o, s.H a = some o → s.F a = none → t.F a = none
theorem Ex.refl (s : S) : Ex s s := ⟨fun _ _ h => h, fun _ _ h => h, fun _ _ _ h => h⟩
theorem Ex.trans {s t u : S} (a : Ex s t) (b : Ex t u) : Ex s u :=
  ⟨fun x o h => b.f x o (a.f x o h), fun x o h => b.h x o (a.h x o h), fun x o h n => b.n x o (a.h x o h) (a.n x o h n)⟩
theorem fr_back {s t : S} (e : Ex s t) {p : Addr} (h : t.H p = none) : s.H p = none := by
  cases q : s.H p with
  | none => rfl
  | some o => rw [e.h p o q] at h; cases h
theorem fF {s : S} {p : Addr} (h : s.H p = none) : s.F p = none := by
  cases q : s.F p with
  | none => rfl
  | some o => rw [s.sub p o q] at h; cases h
def S.newF (s : S) (p : Addr) (o : HO) (h : s.H p = none) : S := ⟨upd s.F p o, upd s.H p o, fun a u q => by
  unfold upd at q ⊢
  split
  · rename_i e; rw [if_pos e] at q; exact q
  · rename_i e; rw [if_neg e] at q; exact s.sub a u q⟩
def S.newO (s : S) (p : Addr) (o : HO) (h : s.H p = none) : S := ⟨s.F, upd s.H p o, fun a u q => by
  rw [upd_ne (ne_of_none (s.sub a u q) h)]; exact s.sub a u q⟩
def S.put (s : S) (p : Addr) (o : HO) (h : s.F p = none) : S := ⟨s.F, upd s.H p o, fun a u q => by
  rw [upd_ne (ne_of_none q h)]; exact s.sub a u q⟩
theorem Ex.newF {s : S} {p : Addr} {o : HO} (h : s.H p = none) : Ex s (s.newF p o h) :=
  ⟨fun a u q => by show upd s.F p o a = some u; rw [upd_ne (ne_of_none (s.sub a u q) h)]; exact q,
   fun a u q => by show upd s.H p o a = some u; rw [upd_ne (ne_of_none q h)]; exact q,
   fun a u q n => by show upd s.F p o a = none; rw [upd_ne (ne_of_none q h)]; exact n⟩
theorem Ex.newO {s : S} {p : Addr} {o : HO} (h : s.H p = none) : Ex s (s.newO p o h) :=
  ⟨fun a u q => q, fun a u q => by show upd s.H p o a = some u; rw [upd_ne (ne_of_none q h)]; exact q, fun a u q n => n⟩
structure Mx (P : Addr → Prop) (s t : S) : Prop where
  f : Fle s.F t.F
  h : ∀ a o, s.H a = some o → ¬ P a → t.H a = some o
  n : ∀ a o, s.H a = some o → s.F a = none → t.F a = none
  d : ∀ a o, s.H a = some o → ∃ u, t.H a = some u
theorem Ex.mx {P : Addr → Prop} {s t : S} (e : Ex s t) : Mx P s t := ⟨e.f, fun a o h _ => e.h a o h, e.n, fun a o h => ⟨o, e.h a o h⟩⟩
theorem Mx.trans {P : Addr → Prop} {s t u : S} (a : Mx P s t) (b : Mx P t u) : Mx P s u :=
  ⟨fun x o h => b.f x o (a.f x o h), fun x o h n => b.h x o (a.h x o h n) n,
   fun x o h n => by obtain ⟨v, hv⟩ := a.d x o h; exact b.n x v hv (a.n x o h n),
   fun x o h => by obtain ⟨v, hv⟩ := a.d x o h; exact b.d x v hv⟩
theorem Mx.put {s : S} {p : Addr} {o : HO} (h : s.F p = none) : Mx (· = p) s (s.put p o h) :=
  ⟨fun a u q => q, fun a u q n => by show upd s.H p o a = some u; rw [upd_ne n]; exact q, fun a u q n => n,
   fun a u q => by
    by_cases e : a = p
    · exact ⟨o, by rw [e]; exact upd_same⟩
    · exact ⟨u, by show upd s.H p o a = some u; rw [upd_ne e]; exact q⟩⟩
theorem Mx.fr_back {P : Addr → Prop} {s t : S} (e : Mx P s t) {p : Addr} (h : t.H p = none) : s.H p = none := by
  cases q : s.H p with
  | none => rfl
  | some o => obtain ⟨u, z⟩ := e.d p o q; rw [z] at h; cases h
theorem Ex.mu {s t u : S} {P : Addr → Prop} (a : Ex s t) (b : Mx P t u) (h : ∀ p, P p → s.H p = none) : Ex s u :=
  ⟨fun x o q => b.f x o (a.f x o q), fun x o q => b.h x o (a.h x o q) fun z => (by rw [h x z] at q; cases q), fun x o q n => b.n x o (a.h x o q) (a.n x o q n)⟩
theorem Ex.mu1 {s t u : S} {p : Addr} (a : Ex s t) (b : Mx (· = p) t u) (h : s.H p = none) : Ex s u := a.mu b fun _ e => e ▸ h

class Enc (α : Type) where
  rep : PySem.W.Frag → Hp → V → α → Prop
  mono : ∀ {K : PySem.W.Frag} {F F' : Hp} {v : V} {x : α}, Fle F F' → rep K F v x → rep K F' v x
open Enc (rep)
def Reps {α : Type} [Enc α] (K : PySem.W.Frag) (F : Hp) : List V → List α → Prop
  | [], [] => True
  | v :: vs, x :: xs => rep K F v x ∧ Reps K F vs xs
  | _, _ => False
section
variable {α β : Type} [Enc α] [Enc β] {K : PySem.W.Frag} {F F' : Hp}
theorem Reps.mono (e : Fle F F') : ∀ {vs : List V} {xs : List α}, Reps K F vs xs → Reps K F' vs xs
  | [], [], _ => trivial
  | _ :: _, _ :: _, ⟨h, t⟩ => ⟨Enc.mono e h, Reps.mono e t⟩
  | [], _ :: _, h => h.elim
  | _ :: _, [], h => h.elim
theorem Reps.len : ∀ {vs : List V} {xs : List α}, Reps K F vs xs → vs.length = xs.length
  | [], [], _ => rfl
  | _ :: _, _ :: _, ⟨_, t⟩ => congrArg (· + 1) (Reps.len t)
  | [], _ :: _, h => h.elim
  | _ :: _, [], h => h.elim
theorem Reps.get : ∀ {vs : List V} {xs : List α} {i : Nat} {x : α}, Reps K F vs xs → xs[i]? = some x → ∃ v, vs[i]? = some v ∧ rep K F v x
  | [], [], _, _, _, e => by simp at e
  | v :: _, y :: _, 0, x, ⟨h, _⟩, e => by
    have : y = x := Option.some.inj e
    subst this
    exact ⟨v, rfl, h⟩
  | _ :: vs, _ :: xs, i + 1, x, ⟨_, t⟩, e => by
    obtain ⟨v, h1, h2⟩ := Reps.get (i := i) t (by simpa using e)
    exact ⟨v, by simpa using h1, h2⟩
  | [], _ :: _, _, _, h, _ => h.elim
  | _ :: _, [], _, _, h, _ => h.elim
theorem Reps.get' : ∀ {vs : List V} {xs : List α} {i : Nat} {v : V}, Reps K F vs xs → vs[i]? = some v → ∃ x, xs[i]? = some x ∧ rep K F v x
  | [], [], _, _, _, e => by simp at e
  | v :: _, y :: _, 0, w, ⟨h, _⟩, e => by
    have : v = w := Option.some.inj e
    subst this
    exact ⟨y, rfl, h⟩
  | _ :: vs, _ :: xs, i + 1, w, ⟨_, t⟩, e => by
    obtain ⟨x, h1, h2⟩ := Reps.get' (i := i) t (by simpa using e)
    exact ⟨x, by simpa using h1, h2⟩
  | [], _ :: _, _, _, h, _ => h.elim
  | _ :: _, [], _, _, h, _ => h.elim
theorem Reps.app : ∀ {vs ws : List V} {xs ys : List α}, Reps K F vs xs → Reps K F ws ys → Reps K F (vs ++ ws) (xs ++ ys)
  | [], _, [], _, _, t => t
  | _ :: _, _, _ :: _, _, ⟨h, t⟩, u => ⟨h, Reps.app t u⟩
  | [], _, _ :: _, _, h, _ => h.elim
  | _ :: _, _, [], _, h, _ => h.elim
theorem Reps.snoc {vs : List V} {xs : List α} {v : V} {x : α} (h : Reps K F vs xs) (r : rep K F v x) : Reps K F (vs ++ [v]) (xs ++ [x]) := h.app ⟨r, trivial⟩
theorem Reps.take : ∀ {vs : List V} {xs : List α} (n : Nat), Reps K F vs xs → Reps K F (vs.take n) (xs.take n)
  | _, _, 0, _ => by rw [List.take_zero, List.take_zero]; trivial
  | [], [], _ + 1, _ => trivial
  | _ :: _, _ :: _, n + 1, ⟨h, t⟩ => ⟨h, Reps.take n t⟩
  | [], _ :: _, _ + 1, h => h.elim
  | _ :: _, [], _ + 1, h => h.elim
theorem Reps.drop : ∀ {vs : List V} {xs : List α} (n : Nat), Reps K F vs xs → Reps K F (vs.drop n) (xs.drop n)
  | _, _, 0, h => h
  | [], [], _ + 1, _ => trivial
  | _ :: _, _ :: _, n + 1, ⟨_, t⟩ => Reps.drop n t
  | [], _ :: _, _ + 1, h => h.elim
  | _ :: _, [], _ + 1, h => h.elim
theorem Reps.set : ∀ {vs : List V} {xs : List α} {v : V} {x : α} (i : Nat), Reps K F vs xs → rep K F v x → Reps K F (vs.set i v) (xs.set i x)
  | [], [], _, _, _, _, _ => trivial
  | _ :: _, _ :: _, _, _, 0, ⟨_, t⟩, r => ⟨r, t⟩
  | _ :: _, _ :: _, _, _, i + 1, ⟨h, t⟩, r => ⟨h, Reps.set i t r⟩
  | [], _ :: _, _, _, _, h, _ => h.elim
  | _ :: _, [], _, _, _, h, _ => h.elim
theorem Reps.erase : ∀ {vs : List V} {xs : List α} (i : Nat), Reps K F vs xs → Reps K F (vs.eraseIdx i) (xs.eraseIdx i)
  | [], [], _, _ => trivial
  | _ :: _, _ :: _, 0, ⟨_, t⟩ => t
  | _ :: _, _ :: _, i + 1, ⟨h, t⟩ => ⟨h, Reps.erase i t⟩
  | [], _ :: _, _, h => h.elim
  | _ :: _, [], _, h => h.elim
theorem Reps.rev : ∀ {vs : List V} {xs : List α}, Reps K F vs xs → Reps K F vs.reverse xs.reverse
  | [], [], _ => trivial
  | _ :: _, _ :: _, ⟨h, t⟩ => by rw [List.reverse_cons, List.reverse_cons]; exact (Reps.rev t).snoc h
  | [], _ :: _, h => h.elim
  | _ :: _, [], h => h.elim
theorem Reps.mem : ∀ {vs : List V} {xs : List α} {x : α}, Reps K F vs xs → x ∈ xs → ∃ v, v ∈ vs ∧ rep K F v x
  | v :: _, y :: _, x, ⟨h, t⟩, e => by
    rcases List.mem_cons.mp e with rfl | e
    · exact ⟨v, List.mem_cons_self, h⟩
    · obtain ⟨w, a, b⟩ := Reps.mem t e
      exact ⟨w, List.mem_cons_of_mem _ a, b⟩
  | [], _ :: _, _, h, _ => h.elim
theorem Reps.repl {v : V} {x : α} (r : rep K F v x) : ∀ n : Nat, Reps K F (List.replicate n v) (List.replicate n x)
  | 0 => trivial
  | n + 1 => ⟨r, Reps.repl r n⟩
end
instance : Enc Int := ⟨fun _ _ v x => v = .int x, fun _ h => h⟩
instance : Enc Bool := ⟨fun _ _ v x => v = .bl x, fun _ h => h⟩
instance : Enc Str := ⟨fun _ _ v x => v = .str x, fun _ h => h⟩
instance : Enc Unit := ⟨fun _ _ v _ => v = .non, fun _ h => h⟩
class Opn (α : Type) extends Enc α where
  notNon : ∀ {K : PySem.W.Frag} {F : Hp} {x : α}, ¬ rep K F .non x
instance : Opn Int := ⟨fun {K F x} h => nomatch (show V.non = V.int x from h)⟩
instance : Opn Str := ⟨fun {K F x} h => nomatch (show V.non = V.str x from h)⟩
instance : Opn Bool := ⟨fun {K F x} h => nomatch (show V.non = V.bl x from h)⟩
instance {α : Type} [Enc α] : Enc (Option α) := ⟨fun K F v x => match x with | none => v = .non | some y => rep K F v y, fun {K F F' v x} e h => by
  cases x with
  | none => exact h
  | some y => exact Enc.mono (α := α) e h⟩
theorem sql_mono {K : PySem.W.Frag} {F F' : Hp} {a : Addr} {vs : List V} (e : Fle F F') (h : SqL K F a vs) : SqL K F' a vs := by
  rcases h with (h | ⟨o, h⟩) | h
  · exact .inl (.inl (e _ _ h))
  · exact .inl (.inr ⟨o, e _ _ h⟩)
  · exact .inr h
theorem sqt_mono {K : PySem.W.Frag} {F F' : Hp} {a : Addr} {vs : List V} (e : Fle F F') (h : SqT K F a vs) : SqT K F' a vs := by
  rcases h with (h | ⟨o, h⟩) | h
  · exact .inl (.inl (e _ _ h))
  · exact .inl (.inr ⟨o, e _ _ h⟩)
  · exact .inr h
def RepL {α : Type} [Enc α] (K : PySem.W.Frag) (F : Hp) (v : V) (xs : List α) : Prop := ∃ a vs, v = .ref a ∧ SqL K F a vs ∧ Reps K F vs xs
instance {α : Type} [Enc α] : Enc (List α) := ⟨RepL, fun e h => by
  obtain ⟨a, vs, rfl, h1, h2⟩ := h
  exact ⟨a, vs, rfl, sql_mono e h1, h2.mono e⟩⟩
structure T1 (α : Type) where
  a : α
deriving DecidableEq
structure T3 (α β γ : Type) where
  a : α
  b : β
  c : γ
deriving DecidableEq
structure T4 (α β γ δ : Type) where
  a : α
  b : β
  c : γ
  d : δ
deriving DecidableEq
structure T5 (α β γ δ ε : Type) where
  a : α
  b : β
  c : γ
  d : δ
  e : ε
deriving DecidableEq
structure Tu (α : Type) where
  l : List α
deriving DecidableEq
instance {α β : Type} [Enc α] [Enc β] : Enc (α × β) := ⟨fun K F v x => ∃ p v1 v2, v = .ref p ∧ SqT K F p [v1, v2] ∧ rep K F v1 x.1 ∧ rep K F v2 x.2, fun e h => by
  obtain ⟨p, v1, v2, rfl, h0, h1, h2⟩ := h
  exact ⟨p, v1, v2, rfl, sqt_mono e h0, Enc.mono e h1, Enc.mono e h2⟩⟩
instance {α : Type} [Enc α] : Enc (T1 α) := ⟨fun K F v x => ∃ p v1, v = .ref p ∧ SqT K F p [v1] ∧ rep K F v1 x.a, fun e h => by
  obtain ⟨p, v1, rfl, h0, h1⟩ := h
  exact ⟨p, v1, rfl, sqt_mono e h0, Enc.mono e h1⟩⟩
instance {α β γ : Type} [Enc α] [Enc β] [Enc γ] : Enc (T3 α β γ) := ⟨fun K F v x => ∃ p v1 v2 v3, v = .ref p ∧ SqT K F p [v1, v2, v3] ∧ rep K F v1 x.a ∧ rep K F v2 x.b ∧ rep K F v3 x.c, fun e h => by
  obtain ⟨p, v1, v2, v3, rfl, h0, h1, h2, h3⟩ := h
  exact ⟨p, v1, v2, v3, rfl, sqt_mono e h0, Enc.mono e h1, Enc.mono e h2, Enc.mono e h3⟩⟩
instance {α β γ δ : Type} [Enc α] [Enc β] [Enc γ] [Enc δ] : Enc (T4 α β γ δ) := ⟨fun K F v x => ∃ p v1 v2 v3 v4, v = .ref p ∧ SqT K F p [v1, v2, v3, v4] ∧ rep K F v1 x.a ∧ rep K F v2 x.b ∧ rep K F v3 x.c ∧ rep K F v4 x.d, fun e h => by
  obtain ⟨p, v1, v2, v3, v4, rfl, h0, h1, h2, h3, h4⟩ := h
  exact ⟨p, v1, v2, v3, v4, rfl, sqt_mono e h0, Enc.mono e h1, Enc.mono e h2, Enc.mono e h3, Enc.mono e h4⟩⟩
instance {α β γ δ ε : Type} [Enc α] [Enc β] [Enc γ] [Enc δ] [Enc ε] : Enc (T5 α β γ δ ε) := ⟨fun K F v x => ∃ p v1 v2 v3 v4 v5, v = .ref p ∧ SqT K F p [v1, v2, v3, v4, v5] ∧ rep K F v1 x.a ∧ rep K F v2 x.b ∧ rep K F v3 x.c ∧ rep K F v4 x.d ∧ rep K F v5 x.e, fun e h => by
  obtain ⟨p, v1, v2, v3, v4, v5, rfl, h0, h1, h2, h3, h4, h5⟩ := h
  exact ⟨p, v1, v2, v3, v4, v5, rfl, sqt_mono e h0, Enc.mono e h1, Enc.mono e h2, Enc.mono e h3, Enc.mono e h4, Enc.mono e h5⟩⟩
def RepT {α : Type} [Enc α] (K : PySem.W.Frag) (F : Hp) (v : V) (xs : List α) : Prop := ∃ a vs, v = .ref a ∧ SqT K F a vs ∧ Reps K F vs xs
instance {α : Type} [Enc α] : Enc (Tu α) := ⟨fun K F v x => RepT K F v x.l, fun e h => by
  obtain ⟨a, vs, rfl, h1, h2⟩ := h
  exact ⟨a, vs, rfl, sqt_mono e h1, h2.mono e⟩⟩
instance {α : Type} [Enc α] : Opn (List α) := ⟨fun h => by obtain ⟨_, _, e, _⟩ := h; cases e⟩
instance {α : Type} [Enc α] : Opn (Tu α) := ⟨fun h => by obtain ⟨_, _, e, _⟩ := h; cases e⟩
class Flat (α : Type) extends Enc α where
  toV : α → V
  iff : ∀ {K : PySem.W.Frag} {F : Hp} {v : V} {x : α}, rep K F v x ↔ v = toV x
  flat : ∀ x, flatV (toV x) = true
  inj : ∀ x y, eqV (toV x) (toV y) = true ↔ x = y
open Flat (toV)
instance : Flat Int := ⟨V.int, Iff.rfl, fun _ => rfl, fun x y => by show (x == y) = true ↔ _; simp⟩
instance : Flat Bool := ⟨V.bl, Iff.rfl, fun _ => rfl, fun x y => by show (x == y) = true ↔ _; simp⟩
instance : Flat Str := ⟨V.str, Iff.rfl, fun _ => rfl, fun x y => by show (x == y) = true ↔ _; simp⟩
instance : Flat (Option Int) := ⟨fun x => match x with | none => .non | some i => .int i, fun {K F v x} => by cases x <;> exact Iff.rfl, fun x => by cases x <;> rfl, fun x y => by
  cases x <;> cases y <;> simp [eqV]⟩
instance : Flat (Option Str) := ⟨fun x => match x with | none => .non | some i => .str i, fun {K F v x} => by cases x <;> exact Iff.rfl, fun x => by cases x <;> rfl, fun x y => by
  cases x <;> cases y <;> simp [eqV]⟩
section
variable {α : Type} [Flat α] {K : PySem.W.Frag} {F : Hp}
theorem Reps.flat : ∀ {vs : List V} {xs : List α}, Reps K F vs xs → vs = xs.map toV
  | [], [], _ => rfl
  | _ :: _, _ :: _, ⟨h, t⟩ => by rw [List.map_cons, ← Flat.iff.mp h, ← Reps.flat t]
  | [], _ :: _, h => h.elim
  | _ :: _, [], h => h.elim
theorem Reps.of_flat : ∀ (xs : List α), Reps K F (xs.map toV) xs
  | [] => trivial
  | _ :: xs => ⟨Flat.iff.mpr rfl, Reps.of_flat xs⟩
theorem flat_all (xs : List α) : (xs.map toV).all flatV = true := by
  rw [List.all_eq_true]
  intro v hv
  obtain ⟨x, _, rfl⟩ := List.mem_map.mp hv
  exact Flat.flat x
theorem inV_flat [DecidableEq α] (x : α) (xs : List α) : inV (toV x) (xs.map toV) = decide (x ∈ xs) := by
  rw [Bool.eq_iff_iff, decide_eq_true_eq]
  unfold inV
  rw [List.any_eq_true]
  constructor
  · rintro ⟨v, hv, e⟩
    obtain ⟨y, hy, rfl⟩ := List.mem_map.mp hv
    rw [Flat.inj] at e
    rw [← e]; exact hy
  · intro h
    exact ⟨_, List.mem_map.mpr ⟨x, h, rfl⟩, (Flat.inj x x).mpr rfl⟩
end
end Dy

namespace Dy
open PySem PySem.Spec L2
open PyProof.Rows hiding St
open Enc (rep)
open Flat (toV)

def WE (X : Cx) (e : Expr) : TE := fun σ H Q => ∀ (pins : List (Addr × Obj)) (s : Shared), Inv X pins σ H s → wpAny (model X.prog X.w) X.A (eval e X.env) (EP X pins σ Q) X.xe s
def WT (X : Cx) (e : Expr) : TT := fun σ H Q => ∀ (pins : List (Addr × Obj)) (s : Shared), Inv X pins σ H s → wpAny (model X.prog X.w) X.A (isTrue e X.env (eval e X.env)) (TP X pins σ Q) X.xe s
def WW (X : Cx) (e : Expr) : TT := fun σ H Q => ∀ (whole : Sem Value) (pins : List (Addr × Obj)) (s : Shared), Inv X pins σ H s → wpAny (model X.prog X.w) X.A (isTrue e X.env whole) (TP X pins σ Q) X.xe s
def WA (X : Cx) (es : List Expr) : TA := fun σ H Q => ∀ (pos : Pos) (pins : List (Addr × Obj)) (s : Shared), Inv X pins σ H s → wpAny (model X.prog X.w) X.A (spliced (backTo pos (starEach es X.env))) (AP X pins σ Q) X.xe s
def WSs (X : Cx) (ss : List Stmt) : TS := fun D σ H => ∀ (pins : List (Addr × Obj)) (s : Shared), Inv X pins σ H s → wpAny (model X.prog X.w) X.A (execs ss X.env) (SP X pins D) X.xe s
theorem pe_we {X : Cx} {e : Expr} : PE X e (WE X e) := ⟨fun pins s _ _ _ I h => h pins s I⟩
theorem pt_wt {X : Cx} {e : Expr} : PT X e (WT X e) := ⟨fun pins s _ _ _ I h => h pins s I⟩
theorem pw_ww {X : Cx} {e : Expr} : PW X e (WW X e) := ⟨fun whole pins s _ _ _ I h => h whole pins s I⟩
theorem pa_wa {X : Cx} {es : List Expr} : PA X es (WA X es) := ⟨fun pos pins s _ _ _ I h => h pos pins s I⟩
theorem pss_ws {X : Cx} {ss : List Stmt} : PSs X ss (WSs X ss) := ⟨fun pins s _ _ _ I h => h pins s I⟩
theorem we_of {X : Cx} {e : Expr} {t : TE} {σ : St} {H : Hp} {Q : VK} (h : PE X e t) (q : t σ H Q) : WE X e σ H Q := fun pins s I => h.run pins s σ H Q I q
theorem wt_of {X : Cx} {e : Expr} {t : TT} {σ : St} {H : Hp} {Q : Bool → Hp → Prop} (h : PT X e t) (q : t σ H Q) : WT X e σ H Q := fun pins s I => h.run pins s σ H Q I q
theorem ww_of {X : Cx} {e : Expr} {t : TT} {σ : St} {H : Hp} {Q : Bool → Hp → Prop} (h : PW X e t) (q : t σ H Q) : WW X e σ H Q := fun w pins s I => h.run w pins s σ H Q I q
theorem wa_of {X : Cx} {es : List Expr} {t : TA} {σ : St} {H : Hp} {Q : List V → Hp → Prop} (h : PA X es t) (q : t σ H Q) : WA X es σ H Q := fun pos pins s I => h.run pos pins s σ H Q I q
theorem ws_of {X : Cx} {ss : List Stmt} {t : TS} {D : Ends} {σ : St} {H : Hp} (h : PSs X ss t) (q : t D σ H) : WSs X ss D σ H := fun pins s I => h.run pins s σ H D I q
theorem WSs.imp {X : Cx} {ss : List Stmt} {D D' : Ends} {σ : St} {H : Hp} (h : WSs X ss D σ H) (h1 : ∀ σ H, D.nx σ H → D'.nx σ H) (h2 : ∀ v H, D.rt v H → D'.rt v H) (h3 : ∀ σ H, D.bk σ H → D'.bk σ H) (h4 : ∀ σ H, D.ct σ H → D'.ct σ H) : WSs X ss D' σ H := fun pins s I => thn (h pins s I) fun f s1 q => by
  cases f with
  | next => obtain ⟨a, b, c, d⟩ := q; exact ⟨a, b, c, h1 _ _ d⟩
  | brk => obtain ⟨a, b, c, d⟩ := q; exact ⟨a, b, c, h3 _ _ d⟩
  | cont => obtain ⟨a, b, c, d⟩ := q; exact ⟨a, b, c, h4 _ _ d⟩
  | ret u => obtain ⟨a, b, c, d, e, f⟩ := q; exact ⟨a, b, c, d, e, h2 _ _ f⟩

section
variable {α β γ δ : Type} [Enc α] [Enc β] [Enc γ] [Enc δ]
def Ev (X : Cx) (e : Expr) (σ : St) (s : S) (x : α) : Prop := ∀ s1, Ex s s1 → ∀ Q : VK, (∀ v s2, Ex s1 s2 → rep X.K s2.F v x → Q v s2.H) → WE X e σ s1.H Q
def RepR (K : PySem.W.Frag) (s : S) (v : V) (xs : List α) : Prop := ∃ a vs, v = .ref a ∧ SqL K s.H a vs ∧ Reps K s.F vs xs
def EvR (X : Cx) (e : Expr) (σ : St) (s : S) (xs : List α) : Prop := ∀ s1, Ex s s1 → ∀ Q : VK, (∀ v s2, Ex s1 s2 → RepR X.K s2 v xs → Q v s2.H) → WE X e σ s1.H Q
def Own (K : PySem.W.Frag) (s : S) (p : Addr) (xs : List α) : Prop := s.F p = none ∧ ∃ vs, s.H p = some (.lst vs) ∧ Reps K s.F vs xs
def EvN (X : Cx) (e : Expr) (σ : St) (s : S) (xs : List α) : Prop := ∀ s1, Ex s s1 → ∀ Q : VK, (∀ p s2, Ex s1 s2 → s1.H p = none → Own X.K s2 p xs → Q (.ref p) s2.H) → WE X e σ s1.H Q
def EvT (X : Cx) (e : Expr) (σ : St) (s : S) (b : Bool) : Prop := ∀ s1, Ex s s1 → ∀ Q : Bool → Hp → Prop, (∀ s2, Ex s1 s2 → Q b s2.H) → WT X e σ s1.H Q
def EvW (X : Cx) (e : Expr) (σ : St) (s : S) (b : Bool) : Prop := ∀ s1, Ex s s1 → ∀ Q : Bool → Hp → Prop, (∀ s2, Ex s1 s2 → Q b s2.H) → WW X e σ s1.H Q
structure EvB (X : Cx) (e : Expr) (σ : St) (s : S) (b : Bool) : Prop where
  v : Ev X e σ s b
  t : EvT X e σ s b
structure EvC (X : Cx) (e : Expr) (σ : St) (s : S) (b : Bool) : Prop where
  v : Ev X e σ s b
  w : EvW X e σ s b
end
class EncA (A : Type) where
  repA : PySem.W.Frag → Hp → List V → A → Prop
  monoA : ∀ {K : PySem.W.Frag} {F F' : Hp} {vs : List V} {x : A}, Fle F F' → repA K F vs x → repA K F' vs x
open EncA (repA)
instance : EncA Unit := ⟨fun _ _ vs _ => vs = [], fun _ h => h⟩
instance {α A : Type} [Enc α] [EncA A] : EncA (α × A) := ⟨fun K F vs x => ∃ v r, vs = v :: r ∧ rep K F v x.1 ∧ repA K F r x.2, fun e h => by
  obtain ⟨v, r, rfl, h1, h2⟩ := h
  exact ⟨v, r, rfl, Enc.mono e h1, EncA.monoA e h2⟩⟩
def EvA {A : Type} [EncA A] (X : Cx) (es : List Expr) (σ : St) (s : S) (a : A) : Prop := ∀ s1, Ex s s1 → ∀ Q : List V → Hp → Prop, (∀ vs s2, Ex s1 s2 → repA X.K s2.F vs a → Q vs s2.H) → WA X es σ s1.H Q

section
variable {α β γ δ : Type} [Enc α] [Enc β] [Enc γ] [Enc δ] {X : Cx} {σ : St} {s t : S} {e a b c : Expr} {es : List Expr} {pos p0 p1 p2 p3 : Pos}
theorem Own.frz {K : PySem.W.Frag} {p : Addr} {xs : List α} (h : Own K s p xs) : ∃ s' : S, s'.H = s.H ∧ Fle s.F s'.F ∧ (∀ q, q ≠ p → s'.F q = s.F q) ∧ rep K s'.F (.ref p) xs := by
  obtain ⟨hn, vs, hp, r⟩ := h
  have f : Fle s.F (upd s.F p (.lst vs)) := fun a o q => by rw [upd_ne (ne_of_none q hn)]; exact q
  refine ⟨⟨upd s.F p (.lst vs), s.H, fun a o q => ?_⟩, rfl, f, fun q hq => upd_ne hq, p, vs, rfl, .inl (.inl upd_same), r.mono f⟩
  unfold upd at q
  split at q
  · rename_i e; cases q; rw [e]; exact hp
  · exact s.sub a o q
theorem Own.ex {K : PySem.W.Frag} {p : Addr} {xs : List α} (h : Own K s p xs) (e : Ex s t) : Own K t p xs := by
  obtain ⟨hn, vs, hp, r⟩ := h
  exact ⟨e.n _ _ hp hn, vs, e.h _ _ hp, r.mono e.f⟩
theorem Own.mx {K : PySem.W.Frag} {p : Addr} {P : Addr → Prop} {xs : List α} (h : Own K s p xs) (e : Mx P s t) (n : ¬ P p) : Own K t p xs := by
  obtain ⟨hn, vs, hp, r⟩ := h
  exact ⟨e.n _ _ hp hn, vs, e.h _ _ hp n, r.mono e.f⟩
theorem Own.ne {K : PySem.W.Frag} {p q : Addr} {xs : List α} (h : Own K s p xs) (n : s.H q = none) : p ≠ q := by
  obtain ⟨_, vs, hp, _⟩ := h
  exact ne_of_none hp n
theorem Own.r {K : PySem.W.Frag} {p : Addr} {xs : List α} (h : Own K s p xs) : RepR K s (.ref p) xs := by
  obtain ⟨hn, vs, hp, r⟩ := h
  exact ⟨p, vs, rfl, .inl (.inl hp), r⟩
theorem RepR.ex {K : PySem.W.Frag} {v : V} {xs : List α} (h : RepR K s v xs) (e : Ex s t) : RepR K t v xs := by
  obtain ⟨p, vs, rfl, h1, h2⟩ := h
  exact ⟨p, vs, rfl, sql_mono e.h h1, h2.mono e.f⟩
theorem rep_r {K : PySem.W.Frag} {v : V} {xs : List α} (h : rep K s.F v xs) : RepR K s v xs := by
  obtain ⟨p, vs, rfl, h1, h2⟩ := h
  exact ⟨p, vs, rfl, sql_mono s.sub h1, h2⟩
theorem Ev.mono {x : α} (h : Ev X e σ s x) (k : Ex s t) : Ev X e σ t x := fun s1 k1 Q q => h s1 (k.trans k1) Q q
theorem EvT.mono {x : Bool} (h : EvT X e σ s x) (k : Ex s t) : EvT X e σ t x := fun s1 k1 Q q => h s1 (k.trans k1) Q q
theorem Ev.r {xs : List α} (h : Ev X e σ s xs) : EvR X e σ s xs := fun s1 k Q q => h s1 k Q fun v s2 k2 r => q v s2 k2 (rep_r r)
theorem EvN.r {xs : List α} (h : EvN X e σ s xs) : EvR X e σ s xs := fun s1 k Q q => h s1 k Q fun p s2 k2 _ o => q (.ref p) s2 k2 o.r
theorem frz_ex {K : PySem.W.Frag} {p : Addr} {xs : List α} (k : Ex s t) (n : s.H p = none) (o : Own K t p xs) : ∃ t' : S, t'.H = t.H ∧ Ex s t' ∧ rep K t'.F (.ref p) xs := by
  obtain ⟨t', h1, h2, h3, h4⟩ := o.frz
  refine ⟨t', h1, ⟨k.f.trans h2, fun a u q => by rw [h1]; exact k.h a u q, fun a u q m => ?_⟩, h4⟩
  have : a ≠ p := ne_of_none q n
  rw [h3 a this]
  exact k.n a u q m
theorem EvN.ev {xs : List α} (h : EvN X e σ s xs) : Ev X e σ s xs := fun s1 k Q q => h s1 k Q fun p s2 k2 n o => by
  obtain ⟨t', h1, h2, h3⟩ := frz_ex k2 n o
  rw [← h1]
  exact q _ t' h2 h3
theorem Ev.cast {x y : α} (h : Ev X e σ s x) (k : x = y) : Ev X e σ s y := k ▸ h

theorem ev_var (i : Nat) {v : V} {x : α} {n : Str} (h : σ[i]? = some (some v)) (r : rep X.K s.F v x) (hN : X.N[i]? = some n := by rfl) (hv : Vis X.env.scope n := by first | exact Or.inl rfl | exact Or.inr (Or.inl rfl) | exact Or.inr (Or.inr rfl)) (hd : (n == ("__debug__" : Str)) = false := by decide)
    (hcd : (n == ("__classdict__" : Str)) = false := by decide) : Ev X (.Name n pos) σ s x := fun s1 k Q q => we_of (pe_var hN hv hd hcd) ⟨v, h, q v s1 (Ex.refl _) (Enc.mono k.f r)⟩
theorem ev_varR (i : Nat) {p : Addr} {xs : List α} {n : Str} (h : σ[i]? = some (some (.ref p))) (r : Own X.K s p xs) (hN : X.N[i]? = some n := by rfl) (hv : Vis X.env.scope n := by first | exact Or.inl rfl | exact Or.inr (Or.inl rfl) | exact Or.inr (Or.inr rfl)) (hd : (n == ("__debug__" : Str)) = false := by decide)
    (hcd : (n == ("__classdict__" : Str)) = false := by decide) : EvR X (.Name n pos) σ s xs := fun s1 k Q q => we_of (pe_var hN hv hd hcd) ⟨_, h, q _ s1 (Ex.refl _) (r.ex k).r⟩
theorem ev_int {i : Int} {j} : Ev X (.Constant (.int i) j pos) σ s i := fun s1 k Q q => we_of pe_int (q _ s1 (Ex.refl _) rfl)
theorem ev_bl {i : Bool} {j} : Ev X (.Constant (.bool i) j pos) σ s i := fun s1 k Q q => we_of pe_bl (q _ s1 (Ex.refl _) rfl)
theorem ev_str {i : Str} {j} : Ev X (.Constant (.str i) j pos) σ s i := fun s1 k Q q => we_of pe_str (q _ s1 (Ex.refl _) rfl)
theorem ev_non {j} : Ev X (.Constant .none j pos) σ s () := fun s1 k Q q => we_of pe_non (q _ s1 (Ex.refl _) rfl)
theorem ev_nonO {j} : Ev X (.Constant .none j pos) σ s (none : Option α) := fun s1 k Q q => we_of pe_non (q _ s1 (Ex.refl _) rfl)
theorem ev_some {x : α} (h : Ev X e σ s x) : Ev X e σ s (some x) := h
theorem ev_glob {n : Str} {x : α} (h : ∃ v u, X.mg n = some u ∧ RelV v u ∧ ∀ F, rep X.K F v x) (hg : Gl X n := by rfl) (hd : (n == ("__debug__" : Str)) = false := by decide) : Ev X (.Name n pos) σ s x := fun s1 k Q q => by
  obtain ⟨v, u, h1, h2, h3⟩ := h
  exact we_of (pe_glob hg h1 h2 hd) (q v s1 (Ex.refl _) (h3 _))

theorem ev_op {op : Operator} {r : R2} {x : α} {y : β} {z : γ} (ho : OpR X (binaryOp op) r) (ha : Ev X a σ s x) (hb : Ev X b σ s y)
    (hr : ∀ v u s2, rep X.K s2.F v x → rep X.K s2.F u y → ∀ Q : VK, (∀ v' s3, Ex s2 s3 → rep X.K s3.F v' z → Q v' s3.H) → r v u s2.H Q) : Ev X (.BinOp a op b pos) σ s z := fun s1 k Q q =>
  we_of (pe_op ho pe_we pe_we) (ha s1 k _ fun v s2 k2 r2 => hb s2 (k.trans k2) _ fun u s3 k3 r3 => hr v u s3 (Enc.mono k3.f r2) r3 Q fun w s4 k4 r4 => q w s4 ((k2.trans k3).trans k4) r4)
theorem ev_I0 {op : Operator} {g : Int → Int → V} {x y : Int} {z : γ} (ho : OpR X (binaryOp op) (rI0 g)) (ha : Ev X a σ s x) (hb : Ev X b σ s y) (hz : ∀ K F, rep K F (g x y) z) : Ev X (.BinOp a op b pos) σ s z :=
  ev_op ho ha hb fun v u s2 hv hu Q q => ⟨x, y, hv, hu, q _ s2 (Ex.refl _) (hz _ _)⟩
theorem ev_I {op : Operator} {C : Int → Int → Prop} {g : Int → Int → V} {x y : Int} {z : γ} (ho : OpR X (binaryOp op) (rI C g)) (ha : Ev X a σ s x) (hb : Ev X b σ s y) (hc : C x y) (hz : ∀ K F, rep K F (g x y) z) : Ev X (.BinOp a op b pos) σ s z :=
  ev_op ho ha hb fun v u s2 hv hu Q q => ⟨x, y, hv, hu, hc, q _ s2 (Ex.refl _) (hz _ _)⟩
theorem ev_add {x y : Int} (ha : Ev X a σ s x) (hb : Ev X b σ s y) : Ev X (.BinOp a .Add b pos) σ s (x + y) := ev_I0 op_add ha hb fun _ _ => rfl
theorem ev_sub {x y : Int} (ha : Ev X a σ s x) (hb : Ev X b σ s y) : Ev X (.BinOp a .Sub b pos) σ s (x - y) := ev_I0 op_sub ha hb fun _ _ => rfl
def MulOk (x y : Int) : Prop := CMul x y ∨ CMulW x y
theorem ev_mul {x y : Int} (ha : Ev X a σ s x) (hb : Ev X b σ s y) (hc : MulOk x y) : Ev X (.BinOp a .Mult b pos) σ s (x * y) := by
  rcases hc with hc | hc
  · exact ev_I op_mul ha hb hc fun _ _ => rfl
  · exact ev_I op_mulW ha hb hc fun _ _ => rfl
theorem ev_mod {x y : Int} (ha : Ev X a σ s x) (hb : Ev X b σ s y) (hc : 0 < y) : Ev X (.BinOp a .Mod b pos) σ s (x % y) := ev_I op_mod ha hb hc fun _ _ => rfl
def DivOk (y : Int) : Prop := 0 < y ∧ y.natAbs.log2 < 9000
theorem ev_div {x y : Int} (ha : Ev X a σ s x) (hb : Ev X b σ s y) (hc : DivOk y) : Ev X (.BinOp a .FloorDiv b pos) σ s (x / y) := ev_I op_fdivW ha hb hc fun _ _ => rfl
theorem ev_pow {x y : Int} (ha : Ev X a σ s x) (hb : Ev X b σ s y) (hc : CPow x y) : Ev X (.BinOp a .Pow b pos) σ s (x ^ y.toNat) := ev_I op_pow ha hb hc fun _ _ => rfl
theorem ev_adds {x y : Str} (ha : Ev X a σ s x) (hb : Ev X b σ s y) (hc : x.length + y.length ≤ sizeLine) : Ev X (.BinOp a .Add b pos) σ s (x ++ y) :=
  ev_op op_add_str ha hb fun v u s2 hv hu Q q => ⟨x, y, hv, hu, hc, q _ s2 (Ex.refl _) rfl⟩
theorem ev_neg {x : Int} (ha : Ev X a σ s x) : Ev X (.UnaryOp .USub a pos) σ s (-x) := fun s1 k Q q =>
  we_of (pe_un un_neg pe_we) (ha s1 k _ fun v s2 k2 r2 => ⟨x, r2, q _ s2 k2 rfl⟩)

theorem atI_rep {K : PySem.W.Frag} {F : Hp} {vs : List V} {xs : List α} {i : Int} {x : α} (r : Reps K F vs xs) (h : atI xs i = some x) : ∃ v, atI vs i = some v ∧ rep K F v x := by
  unfold atI at h ⊢
  rw [r.len]
  cases hj : ixN xs.length i with
  | none => rw [hj] at h; cases h
  | some j =>
    rw [hj] at h
    obtain ⟨v, h1, h2⟩ := r.get (i := j) h
    exact ⟨v, h1, h2⟩
theorem ev_ix {xs : List α} {i : Int} {x : α} (ha : EvR X a σ s xs) (hb : Ev X b σ s i) (h : atI xs i = some x) (hp : PlainIx b := by intro _ _; rfl) : Ev X (.Subscript a b pos) σ s x := fun s1 k Q q =>
  we_of (pe_ix ix_list pe_we pe_we hp) (ha s1 k _ fun v s2 k2 r2 => hb s2 (k.trans k2) _ fun u s3 k3 r3 => by
    obtain ⟨p, vs, rfl, h1, h2⟩ := r2.ex k3
    obtain ⟨w, h3, h4⟩ := atI_rep h2 h
    exact ⟨p, vs, i, w, rfl, r3, h1, h3, q w s3 (k2.trans k3) h4⟩)
theorem ev_ixT {xs : Tu α} {i : Int} {x : α} (ha : Ev X a σ s xs) (hb : Ev X b σ s i) (h : atI xs.l i = some x) (hp : PlainIx b := by intro _ _; rfl) : Ev X (.Subscript a b pos) σ s x := fun s1 k Q q =>
  we_of (pe_ix ix_tup pe_we pe_we hp) (ha s1 k _ fun v s2 k2 r2 => hb s2 (k.trans k2) _ fun u s3 k3 r3 => by
    obtain ⟨p, vs, rfl, h1, h2⟩ := Enc.mono (α := Tu α) k3.f r2
    obtain ⟨w, h3, h4⟩ := atI_rep h2 h
    exact ⟨p, vs, i, w, rfl, r3, sqt_mono s3.sub h1, h3, q w s3 (k2.trans k3) h4⟩)
theorem ev_ixP {x : β} {i : Int} {y : α} (ha : Ev X a σ s x) (hb : Ev X b σ s i) (h : ∀ {F : Hp} {v : V}, rep X.K F v x → ∃ p vs w, v = .ref p ∧ SqT X.K F p vs ∧ atI vs i = some w ∧ rep X.K F w y) (hp : PlainIx b := by intro _ _; rfl) : Ev X (.Subscript a b pos) σ s y := fun s1 k Q q =>
  we_of (pe_ix ix_tup pe_we pe_we hp) (ha s1 k _ fun v s2 k2 r2 => hb s2 (k.trans k2) _ fun u s3 k3 r3 => by
    obtain ⟨p, vs, w, rfl, h1, h2, h3⟩ := h (Enc.mono k3.f r2)
    exact ⟨p, vs, i, w, rfl, r3, sqt_mono s3.sub h1, h2, q w s3 (k2.trans k3) h3⟩)
theorem p2_0 {K : PySem.W.Frag} {x : α × β} {F : Hp} {v : V} (h : rep K F v x) : ∃ p vs w, v = .ref p ∧ SqT K F p vs ∧ atI vs 0 = some w ∧ rep K F w x.1 := by
  obtain ⟨p, v1, v2, rfl, h0, h1, h2⟩ := h
  exact ⟨p, _, v1, rfl, h0, rfl, h1⟩
theorem p2_1 {K : PySem.W.Frag} {x : α × β} {F : Hp} {v : V} (h : rep K F v x) : ∃ p vs w, v = .ref p ∧ SqT K F p vs ∧ atI vs 1 = some w ∧ rep K F w x.2 := by
  obtain ⟨p, v1, v2, rfl, h0, h1, h2⟩ := h
  exact ⟨p, _, v2, rfl, h0, rfl, h2⟩
theorem p3_0 {K : PySem.W.Frag} {x : T3 α β γ} {F : Hp} {v : V} (h : rep K F v x) : ∃ p vs w, v = .ref p ∧ SqT K F p vs ∧ atI vs 0 = some w ∧ rep K F w x.a := by
  obtain ⟨p, v1, v2, v3, rfl, h0, h1, h2, h3⟩ := h
  exact ⟨p, _, v1, rfl, h0, rfl, h1⟩
theorem p3_1 {K : PySem.W.Frag} {x : T3 α β γ} {F : Hp} {v : V} (h : rep K F v x) : ∃ p vs w, v = .ref p ∧ SqT K F p vs ∧ atI vs 1 = some w ∧ rep K F w x.b := by
  obtain ⟨p, v1, v2, v3, rfl, h0, h1, h2, h3⟩ := h
  exact ⟨p, _, v2, rfl, h0, rfl, h2⟩
theorem p3_2 {K : PySem.W.Frag} {x : T3 α β γ} {F : Hp} {v : V} (h : rep K F v x) : ∃ p vs w, v = .ref p ∧ SqT K F p vs ∧ atI vs 2 = some w ∧ rep K F w x.c := by
  obtain ⟨p, v1, v2, v3, rfl, h0, h1, h2, h3⟩ := h
  exact ⟨p, _, v3, rfl, h0, rfl, h3⟩
def sgn (x : Str) (i : Int) : Option Str := if x.length ≤ sizeLine then (atI x.cps.toList i).map fun c => ⟨#[c]⟩ else none
theorem ev_ixS {x : Str} {i : Int} {y : Str} (ha : Ev X a σ s x) (hb : Ev X b σ s i) (h : sgn x i = some y) (hp : PlainIx b := by intro _ _; rfl) : Ev X (.Subscript a b pos) σ s y := fun s1 k Q q =>
  we_of (pe_ix ix_str pe_we pe_we hp) (ha s1 k _ fun v s2 k2 r2 => hb s2 (k.trans k2) _ fun u s3 k3 r3 => by
    unfold sgn at h
    split at h
    · rename_i hz
      obtain ⟨c, h1, h2⟩ := Option.map_eq_some_iff.mp h
      exact ⟨x, i, c, r2, r3, hz, h1, q _ s3 (k2.trans k3) (by rw [h2]; rfl)⟩
    · cases h)
end
end Dy

namespace Dy
open PySem PySem.Spec L2
open PyProof.Rows hiding St
open Enc (rep)
open Flat (toV)
open EncA (repA)

section
variable {α β γ δ : Type} [Enc α] [Enc β] [Enc γ] [Enc δ] {X : Cx} {σ : St} {s t : S} {e a b c : Expr} {es : List Expr} {pos p0 p1 p2 p3 : Pos}

theorem et_v {x : Bool} (h : Ev X e σ s x) (he : ∀ whole, isTrue e X.env whole = (do let v ← whole; standAt e.pos; holding [v] (truthy v)) := by intro _; rfl) : EvT X e σ s x := fun s1 k Q q =>
  wt_of (pt_val pe_we he) (h s1 k _ fun v s2 k2 r => ⟨x, r, q s2 k2⟩)
theorem eb_v {x : Bool} (h : Ev X e σ s x) (he : ∀ whole, isTrue e X.env whole = (do let v ← whole; standAt e.pos; holding [v] (truthy v)) := by intro _; rfl) : EvB X e σ s x := ⟨h, et_v h he⟩
theorem EvW.tt {x : Bool} (h : EvW X e σ s x) : EvT X e σ s x := fun s1 k Q q => wt_of pw_ww.pt (h s1 k Q q)
theorem EvC.bb {x : Bool} (h : EvC X e σ s x) : EvB X e σ s x := ⟨h.v, h.w.tt⟩
theorem EvB.cast {x y : Bool} (h : EvB X e σ s x) (k : x = y) : EvB X e σ s y := k ▸ h
theorem ec_and1 {x : Bool} (h : EvB X a σ s x) : EvC X (.BoolOp .And [a] pos) σ s x :=
  ⟨fun s1 k Q q => we_of (pe_one pe_we) (h.v s1 k Q q), fun s1 k Q q => ww_of (pw_and1 pt_wt) (h.t s1 k Q q)⟩
theorem ec_or1 {x : Bool} (h : EvB X a σ s x) : EvC X (.BoolOp .Or [a] pos) σ s x :=
  ⟨fun s1 k Q q => we_of (pe_one pe_we) (h.v s1 k Q q), fun s1 k Q q => ww_of (pw_or1 pt_wt) (h.t s1 k Q q)⟩
theorem ec_and {x y : Bool} (h : EvB X a σ s x) (h2 : x = true → EvC X (.BoolOp .And (b :: es) pos) σ s y) : EvC X (.BoolOp .And (a :: b :: es) pos) σ s (x && y) :=
  ⟨fun s1 k Q q => we_of (pe_and pe_we pe_we) (h.v s1 k _ fun v s2 k2 r => ⟨x, r, by
    cases x with
    | true => exact iteT ((h2 rfl).v s2 (k.trans k2) Q fun v s3 k3 r3 => q v s3 (k2.trans k3) r3)
    | false => exact iteF (q _ s2 k2 rfl)⟩),
   fun s1 k Q q => ww_of (pw_and pt_wt pw_ww) (h.t s1 k _ fun s2 k2 => by
    cases x with
    | true => exact iteT ((h2 rfl).w s2 (k.trans k2) Q fun s3 k3 => q s3 (k2.trans k3))
    | false => exact iteF (q s2 k2))⟩
theorem ec_or {x y : Bool} (h : EvB X a σ s x) (h2 : x = false → EvC X (.BoolOp .Or (b :: es) pos) σ s y) : EvC X (.BoolOp .Or (a :: b :: es) pos) σ s (x || y) :=
  ⟨fun s1 k Q q => we_of (pe_or pe_we pe_we) (h.v s1 k _ fun v s2 k2 r => ⟨x, r, by
    cases x with
    | true => exact iteT (q _ s2 k2 rfl)
    | false => exact iteF ((h2 rfl).v s2 (k.trans k2) Q fun v s3 k3 r3 => q v s3 (k2.trans k3) r3)⟩),
   fun s1 k Q q => ww_of (pw_or pt_wt pw_ww) (h.t s1 k _ fun s2 k2 => by
    cases x with
    | true => exact iteT (q s2 k2)
    | false => exact iteF ((h2 rfl).w s2 (k.trans k2) Q fun s3 k3 => q s3 (k2.trans k3)))⟩
theorem eb_not {x : Bool} (h : EvB X a σ s x) : EvB X (.UnaryOp .Not a pos) σ s (!x) :=
  ⟨fun s1 k Q q => we_of (pe_not pe_we) (h.v s1 k _ fun v s2 k2 r => ⟨x, r, q _ s2 k2 rfl⟩), fun s1 k Q q => wt_of (pt_not pt_wt) (h.t s1 k _ fun s2 k2 => q s2 k2)⟩
theorem ev_ifE {x : Bool} {y z : α} (h : EvT X c σ s x) (h1 : x = true → Ev X a σ s y) (h2 : x = false → Ev X b σ s z) : Ev X (.IfExp c a b pos) σ s (if x = true then y else z) := fun s1 k Q q =>
  we_of (pe_ifExp pt_wt pe_we pe_we) (h s1 k _ fun s2 k2 => by
    cases x with
    | true => exact iteT (h1 rfl s2 (k.trans k2) Q fun v s3 k3 r => q v s3 (k2.trans k3) r)
    | false => exact iteF (h2 rfl s2 (k.trans k2) Q fun v s3 k3 r => q v s3 (k2.trans k3) r))

theorem eb_cmp {op : CmpOp} {r : R2} {x : α} {y : β} {z : Bool} (ho : OpR X (compareOp op) r) (ha : Ev X a σ s x) (hb : Ev X b σ s y)
    (hr : ∀ (v u : V) (s2 : S), rep X.K s2.F v x → rep X.K s2.F u y → ∀ Q : VK, Q (.bl z) s2.H → r v u s2.H Q) (hm : behindInMarks op b = false) : EvB X (.Compare a [op] [b] pos) σ s z :=
  ⟨fun s1 k Q q => we_of (pe_cmpR ho pe_we pe_we hm) (ha s1 k _ fun v s2 k2 r2 => hb s2 (k.trans k2) _ fun u s3 k3 r3 => hr v u s3 (Enc.mono k3.f r2) r3 Q (q _ s3 (k2.trans k3) rfl)),
   fun s1 k Q q => wt_of (pt_cmpR ho pe_we pe_we hm) (ha s1 k _ fun v s2 k2 r2 => hb s2 (k.trans k2) _ fun u s3 k3 r3 => hr v u s3 (Enc.mono k3.f r2) r3 _ ⟨z, rfl, q s3 (k2.trans k3)⟩)⟩
theorem eb_cmpR {op : CmpOp} {r : R2} {x : α} {ys : List β} {z : Bool} (ho : OpR X (compareOp op) r) (ha : Ev X a σ s x) (hb : EvR X b σ s ys)
    (hr : ∀ (v u : V) (s2 : S), rep X.K s2.F v x → RepR X.K s2 u ys → ∀ Q : VK, Q (.bl z) s2.H → r v u s2.H Q) (hm : behindInMarks op b = false) : EvB X (.Compare a [op] [b] pos) σ s z :=
  ⟨fun s1 k Q q => we_of (pe_cmpR ho pe_we pe_we hm) (ha s1 k _ fun v s2 k2 r2 => hb s2 (k.trans k2) _ fun u s3 k3 r3 => hr v u s3 (Enc.mono k3.f r2) r3 Q (q _ s3 (k2.trans k3) rfl)),
   fun s1 k Q q => wt_of (pt_cmpR ho pe_we pe_we hm) (ha s1 k _ fun v s2 k2 r2 => hb s2 (k.trans k2) _ fun u s3 k3 r3 => hr v u s3 (Enc.mono k3.f r2) r3 _ ⟨z, rfl, q s3 (k2.trans k3)⟩)⟩
theorem eb_cmpRR {op : CmpOp} {r : R2} {xs : List α} {ys : List β} {z : Bool} (ho : OpR X (compareOp op) r) (ha : EvR X a σ s xs) (hb : EvR X b σ s ys)
    (hr : ∀ (v u : V) (s2 : S), RepR X.K s2 v xs → RepR X.K s2 u ys → ∀ Q : VK, Q (.bl z) s2.H → r v u s2.H Q) (hm : behindInMarks op b = false) : EvB X (.Compare a [op] [b] pos) σ s z :=
  ⟨fun s1 k Q q => we_of (pe_cmpR ho pe_we pe_we hm) (ha s1 k _ fun v s2 k2 r2 => hb s2 (k.trans k2) _ fun u s3 k3 r3 => hr v u s3 (r2.ex k3) r3 Q (q _ s3 (k2.trans k3) rfl)),
   fun s1 k Q q => wt_of (pt_cmpR ho pe_we pe_we hm) (ha s1 k _ fun v s2 k2 r2 => hb s2 (k.trans k2) _ fun u s3 k3 r3 => hr v u s3 (r2.ex k3) r3 _ ⟨z, rfl, q s3 (k2.trans k3)⟩)⟩
theorem eb_I0 {op : CmpOp} {g : Int → Int → V} {x y : Int} {z : Bool} (ho : OpR X (compareOp op) (rI0 g)) (hg : g x y = .bl z) (hm : behindInMarks op b = false) (ha : Ev X a σ s x) (hb : Ev X b σ s y) : EvB X (.Compare a [op] [b] pos) σ s z :=
  eb_cmp ho ha hb (fun v u s2 hv hu Q q => ⟨x, y, hv, hu, by rw [hg]; exact q⟩) hm
theorem eb_lt {x y : Int} (ha : Ev X a σ s x) (hb : Ev X b σ s y) : EvB X (.Compare a [.Lt] [b] pos) σ s (decide (x < y)) := eb_I0 op_lt rfl (nomark _) ha hb
theorem eb_le {x y : Int} (ha : Ev X a σ s x) (hb : Ev X b σ s y) : EvB X (.Compare a [.LtE] [b] pos) σ s (decide (x ≤ y)) := eb_I0 op_le rfl (nomark _) ha hb
theorem eb_gt {x y : Int} (ha : Ev X a σ s x) (hb : Ev X b σ s y) : EvB X (.Compare a [.Gt] [b] pos) σ s (decide (y < x)) := eb_I0 op_gt rfl (nomark _) ha hb
theorem eb_ge {x y : Int} (ha : Ev X a σ s x) (hb : Ev X b σ s y) : EvB X (.Compare a [.GtE] [b] pos) σ s (decide (y ≤ x)) := eb_I0 op_ge rfl (nomark _) ha hb
class Eqs (α : Type) extends Flat α where
  sc : ∀ x y : α, scal (toV x) (toV y) = true
  ij : ∀ x y : α, toV x = toV y ↔ x = y
instance : Eqs Int := { sc := fun _ _ => rfl, ij := fun x y => by show V.int x = V.int y ↔ _; simp }
instance : Eqs Bool := { sc := fun _ _ => rfl, ij := fun x y => by show V.bl x = V.bl y ↔ _; simp }
instance : Eqs Str := { sc := fun _ _ => rfl, ij := fun x y => by show V.str x = V.str y ↔ _; simp }
theorem eb_eq {ε : Type} [Eqs ε] [DecidableEq ε] {x y : ε} (ha : Ev X a σ s x) (hb : Ev X b σ s y) : EvB X (.Compare a [.Eq] [b] pos) σ s (decide (x = y)) :=
  eb_cmp op_eq ha hb (fun v u s2 hv hu Q q => by
    rw [Flat.iff.mp hv, Flat.iff.mp hu]
    refine ⟨Eqs.sc x y, ?_⟩
    rw [show decide (toV x = toV y) = decide (x = y) from decide_eq_decide.mpr (Eqs.ij x y)]
    exact q) (nomark _)
theorem eb_ne {ε : Type} [Eqs ε] [DecidableEq ε] {x y : ε} (ha : Ev X a σ s x) (hb : Ev X b σ s y) : EvB X (.Compare a [.NotEq] [b] pos) σ s (!decide (x = y)) :=
  eb_cmp op_ne ha hb (fun v u s2 hv hu Q q => by
    rw [Flat.iff.mp hv, Flat.iff.mp hu]
    refine ⟨Eqs.sc x y, ?_⟩
    rw [show decide (toV x = toV y) = decide (x = y) from decide_eq_decide.mpr (Eqs.ij x y)]
    exact q) (nomark _)
theorem eb_isN {o : Type} [Opn o] {x : Option o} {j} (ha : Ev X a σ s x) : EvB X (.Compare a [.Is] [.Constant .none j p1] pos) σ s x.isNone :=
  eb_cmp op_isN ha ev_non (fun v u s2 hv hu Q q => by
    refine ⟨hu, ?_⟩
    have : decide (v = V.non) = x.isNone := by
      cases x with
      | none => cases (show v = V.non from hv); rfl
      | some y => exact decide_eq_false fun z => Opn.notNon (z ▸ (show rep X.K s2.F v y from hv))
    rw [this]; exact q) (nomark _)
theorem eb_notN {o : Type} [Opn o] {x : Option o} {j} (ha : Ev X a σ s x) : EvB X (.Compare a [.IsNot] [.Constant .none j p1] pos) σ s x.isSome :=
  eb_cmp op_notN ha ev_non (fun v u s2 hv hu Q q => by
    refine ⟨hu, ?_⟩
    have : (!decide (v = V.non)) = x.isSome := by
      cases x with
      | none => cases (show v = V.non from hv); rfl
      | some y => rw [decide_eq_false fun z => Opn.notNon (z ▸ (show rep X.K s2.F v y from hv))]; rfl
    rw [this]; exact q) (nomark _)
theorem eb_in {ε : Type} [Eqs ε] [DecidableEq ε] {x : ε} {xs : List ε} (ha : Ev X a σ s x) (hb : EvR X b σ s xs) (hm : behindInMarks .In b = false := by rfl) : EvB X (.Compare a [.In] [b] pos) σ s (decide (x ∈ xs)) :=
  eb_cmpR op_in_seq ha hb (fun v u s2 hv hu Q q => by
    obtain ⟨p, vs, rfl, h1, h2⟩ := hu
    rw [Flat.iff.mp hv]
    obtain rfl := h2.flat
    refine ⟨p, _, rfl, .inl h1, Flat.flat x, flat_all xs, ?_⟩
    rw [inV_flat]; exact q) hm
theorem eb_notIn {ε : Type} [Eqs ε] [DecidableEq ε] {x : ε} {xs : List ε} (ha : Ev X a σ s x) (hb : EvR X b σ s xs) (hm : behindInMarks .NotIn b = false := by rfl) : EvB X (.Compare a [.NotIn] [b] pos) σ s (!decide (x ∈ xs)) :=
  eb_cmpR op_notIn_seq ha hb (fun v u s2 hv hu Q q => by
    obtain ⟨p, vs, rfl, h1, h2⟩ := hu
    rw [Flat.iff.mp hv]
    obtain rfl := h2.flat
    refine ⟨p, _, rfl, .inl h1, Flat.flat x, flat_all xs, ?_⟩
    rw [inV_flat]; exact q) hm
theorem eb_inT {ε : Type} [Eqs ε] [DecidableEq ε] {x : ε} {xs : Tu ε} (ha : Ev X a σ s x) (hb : Ev X b σ s xs) (hm : behindInMarks .In b = false := by rfl) : EvB X (.Compare a [.In] [b] pos) σ s (decide (x ∈ xs.l)) :=
  eb_cmp op_in_seq ha hb (fun v u s2 hv hu Q q => by
    obtain ⟨p, vs, rfl, h1, h2⟩ := hu
    rw [Flat.iff.mp hv]
    obtain rfl := h2.flat
    refine ⟨p, _, rfl, .inr (sqt_mono s2.sub h1), Flat.flat x, flat_all xs.l, ?_⟩
    rw [inV_flat]; exact q) hm
theorem eb_notInT {ε : Type} [Eqs ε] [DecidableEq ε] {x : ε} {xs : Tu ε} (ha : Ev X a σ s x) (hb : Ev X b σ s xs) (hm : behindInMarks .NotIn b = false := by rfl) : EvB X (.Compare a [.NotIn] [b] pos) σ s (!decide (x ∈ xs.l)) :=
  eb_cmp op_notIn_seq ha hb (fun v u s2 hv hu Q q => by
    obtain ⟨p, vs, rfl, h1, h2⟩ := hu
    rw [Flat.iff.mp hv]
    obtain rfl := h2.flat
    refine ⟨p, _, rfl, .inr (sqt_mono s2.sub h1), Flat.flat x, flat_all xs.l, ?_⟩
    rw [inV_flat]; exact q) hm
def inS (x y : Str) : Bool := !(Builtin.Str.occurrences y x 0 y.length 1).isEmpty
theorem eb_inS {x y : Str} (ha : Ev X a σ s x) (hb : Ev X b σ s y) (hm : behindInMarks .In b = false := by rfl) : EvB X (.Compare a [.In] [b] pos) σ s (inS x y) :=
  eb_cmp op_in_str ha hb (fun v u s2 hv hu Q q => ⟨x, y, hv, hu, q⟩) hm
theorem eb_notInS {x y : Str} (ha : Ev X a σ s x) (hb : Ev X b σ s y) (hm : behindInMarks .NotIn b = false := by rfl) : EvB X (.Compare a [.NotIn] [b] pos) σ s (!inS x y) :=
  eb_cmp op_notIn_str ha hb (fun v u s2 hv hu Q q => ⟨x, y, hv, hu, q⟩) hm
theorem eb_chain {op op' : CmpOp} {g g' : Int → Int → V} {x y z : Int} {k1 k2 : Bool} (ho : OpR X (compareOp op) (rI0 g)) (hg : g x y = .bl k1) (ho' : OpR X (compareOp op') (rI0 g')) (hg' : g' y z = .bl k2) (ha : Ev X a σ s x) (hb : Ev X b σ s y) (hc : Ev X c σ s z)
    (hm : lastMarks [op, op'] [b, c] = false := by with_unfolding_all rfl) : EvB X (.Compare a [op, op'] [b, c] pos) σ s (k1 && k2) :=
  ⟨fun s1 k Q q => we_of (pe_chain ho ho' pe_we pe_we pe_we hm) (ha s1 k _ fun v s2 j2 r2 => hb s2 (k.trans j2) _ fun u s3 j3 r3 => ⟨x, y, r2, r3, k1, hg, by
    cases k1 with
    | true => exact iteT (hc s3 ((k.trans j2).trans j3) _ fun w s4 j4 r4 => ⟨y, z, r3, r4, by rw [hg']; exact q _ s4 ((j2.trans j3).trans j4) rfl⟩)
    | false => exact iteF (q _ s3 (j2.trans j3) rfl)⟩),
   fun s1 k Q q => wt_of (pt_chain ho ho' pe_we pe_we pe_we hm) (ha s1 k _ fun v s2 j2 r2 => hb s2 (k.trans j2) _ fun u s3 j3 r3 => ⟨x, y, r2, r3, k1, hg, by
    cases k1 with
    | true => exact iteT (hc s3 ((k.trans j2).trans j3) _ fun w s4 j4 r4 => ⟨y, z, r3, r4, by rw [hg']; exact ⟨_, rfl, q s4 ((j2.trans j3).trans j4)⟩⟩)
    | false => exact iteF ⟨_, rfl, q s3 (j2.trans j3)⟩⟩)⟩

theorem ea_nil : EvA X [] σ s () := fun s1 k Q q => wa_of pa_nil (q [] s1 (Ex.refl _) rfl)
theorem ea_cons {A : Type} [EncA A] {x : α} {r : A} (h : Ev X e σ s x) (hr : EvA X es σ s r) (hs : starEach (e :: es) X.env = (false, eval e X.env) :: starEach es X.env := by rfl) : EvA X (e :: es) σ s (x, r) := fun s1 k Q q =>
  wa_of (pa_cons pe_we pa_wa hs) (h s1 k _ fun v s2 k2 r2 => hr s2 (k.trans k2) _ fun vs s3 k3 r3 => q _ s3 (k2.trans k3) ⟨v, vs, rfl, Enc.mono k3.f r2, r3⟩)
theorem ev_B1 {id : String} {n : Str} {r : List V → Hp → VK → Prop} {x : β} {y : α} (hc : CallR X (.builtin id) r) (hg : Gl X n) (hm : X.mg n = none) (hv : bootBuiltins n = some (.builtin id)) (ha : Ev X e σ s x)
    (hr : ∀ (v : V) (s2 : S), rep X.K s2.F v x → ∀ Q : VK, (∀ w s3, Ex s2 s3 → rep X.K s3.F w y → Q w s3.H) → r [v] s2.H Q) (hn : n ≠ "__name__" := by decide) (hdb : (n == ("__debug__" : Str)) = false := by decide)
    (he : starEach [e] X.env = (false, eval e X.env) :: starEach [] X.env := by rfl) (hpl : (backTo pos (starEach [] X.env)).any (·.1) = false := by rfl) : Ev X (.Call (.Name n p0) [e] [] pos) σ s y := fun s1 k Q q =>
  we_of (pe_callB hc hg hm hv (pa_cons pe_we pa_nil he) hn hdb he hpl) (ha s1 k _ fun v s2 k2 r2 => hr v s2 r2 Q fun w s3 k3 r3 => q w s3 (k2.trans k3) r3)
theorem ev_BR {id : String} {n : Str} {r : List V → Hp → VK → Prop} {xs : List β} {y : α} (hc : CallR X (.builtin id) r) (hg : Gl X n) (hm : X.mg n = none) (hv : bootBuiltins n = some (.builtin id)) (ha : EvR X e σ s xs)
    (hr : ∀ (v : V) (s2 : S), RepR X.K s2 v xs → ∀ Q : VK, (∀ w s3, Ex s2 s3 → rep X.K s3.F w y → Q w s3.H) → r [v] s2.H Q) (hn : n ≠ "__name__" := by decide) (hdb : (n == ("__debug__" : Str)) = false := by decide)
    (he : starEach [e] X.env = (false, eval e X.env) :: starEach [] X.env := by rfl) (hpl : (backTo pos (starEach [] X.env)).any (·.1) = false := by rfl) : Ev X (.Call (.Name n p0) [e] [] pos) σ s y := fun s1 k Q q =>
  we_of (pe_callB hc hg hm hv (pa_cons pe_we pa_nil he) hn hdb he hpl) (ha s1 k _ fun v s2 k2 r2 => hr v s2 r2 Q fun w s3 k3 r3 => q w s3 (k2.trans k3) r3)
theorem ev_len {xs : List β} (hm : X.mg "len" = none) (ha : EvR X e σ s xs) (hg : Gl X "len" := by rfl) (he : starEach [e] X.env = (false, eval e X.env) :: starEach [] X.env := by rfl) (hpl : (backTo pos (starEach [] X.env)).any (·.1) = false := by rfl) : Ev X (.Call (.Name "len" p0) [e] [] pos) σ s (xs.length : Int) :=
  ev_BR call_len_seq hg hm boot_len ha (fun v s2 r2 Q q => by
    obtain ⟨p, vs, rfl, h1, h2⟩ := r2
    exact ⟨p, vs, rfl, .inl h1, q _ s2 (Ex.refl _) (by rw [h2.len]; rfl)⟩) (he := he) (hpl := hpl)
theorem ev_lenT {xs : Tu β} (hm : X.mg "len" = none) (ha : Ev X e σ s xs) (hg : Gl X "len" := by rfl) (he : starEach [e] X.env = (false, eval e X.env) :: starEach [] X.env := by rfl) (hpl : (backTo pos (starEach [] X.env)).any (·.1) = false := by rfl) : Ev X (.Call (.Name "len" p0) [e] [] pos) σ s (xs.l.length : Int) :=
  ev_B1 call_len_seq hg hm boot_len ha (fun v s2 r2 Q q => by
    obtain ⟨p, vs, rfl, h1, h2⟩ := r2
    exact ⟨p, vs, rfl, .inr (sqt_mono s2.sub h1), q _ s2 (Ex.refl _) (by rw [h2.len]; rfl)⟩) (he := he) (hpl := hpl)
theorem ev_lenS {x : Str} (hm : X.mg "len" = none) (hz : x.length ≤ sizeLine) (ha : Ev X e σ s x) (hg : Gl X "len" := by rfl) (he : starEach [e] X.env = (false, eval e X.env) :: starEach [] X.env := by rfl) (hpl : (backTo pos (starEach [] X.env)).any (·.1) = false := by rfl) : Ev X (.Call (.Name "len" p0) [e] [] pos) σ s (x.length : Int) :=
  ev_B1 call_len_str hg hm boot_len ha (fun v s2 r2 Q q => ⟨x, by rw [show v = V.str x from r2], hz, q _ s2 (Ex.refl _) rfl⟩) (he := he) (hpl := hpl)
theorem ev_sum {xs : List Int} (hm : X.mg "sum" = none) (ha : EvR X e σ s xs) (hc : X.calm = true := by rfl) (hg : Gl X "sum" := by rfl) (he : starEach [e] X.env = (false, eval e X.env) :: starEach [] X.env := by rfl) (hpl : (backTo pos (starEach [] X.env)).any (·.1) = false := by rfl) : Ev X (.Call (.Name "sum" p0) [e] [] pos) σ s xs.sum :=
  ev_BR (cr_sum hc) hg hm (by decide +kernel) ha (fun v s2 r2 Q q => by
    obtain ⟨p, vs, rfl, h1, h2⟩ := r2
    rw [h2.flat] at h1
    exact ⟨p, xs, rfl, h1, q _ s2 (Ex.refl _) rfl⟩) (he := he) (hpl := hpl)
theorem ev_all {xs : List Bool} (hm : X.mg "all" = none) (ha : EvR X e σ s xs) (hc : X.calm = true := by rfl) (hg : Gl X "all" := by rfl) (he : starEach [e] X.env = (false, eval e X.env) :: starEach [] X.env := by rfl) (hpl : (backTo pos (starEach [] X.env)).any (·.1) = false := by rfl) : Ev X (.Call (.Name "all" p0) [e] [] pos) σ s (xs.all id) :=
  ev_BR (cr_all hc) hg hm (by decide +kernel) ha (fun v s2 r2 Q q => by
    obtain ⟨p, vs, rfl, h1, h2⟩ := r2
    rw [h2.flat] at h1
    exact ⟨p, xs, rfl, h1, q _ s2 (Ex.refl _) rfl⟩) (he := he) (hpl := hpl)
theorem ev_any {xs : List Bool} (hm : X.mg "any" = none) (ha : EvR X e σ s xs) (hc : X.calm = true := by rfl) (hg : Gl X "any" := by rfl) (he : starEach [e] X.env = (false, eval e X.env) :: starEach [] X.env := by rfl) (hpl : (backTo pos (starEach [] X.env)).any (·.1) = false := by rfl) : Ev X (.Call (.Name "any" p0) [e] [] pos) σ s (xs.any id) :=
  ev_BR (cr_any hc) hg hm (by decide +kernel) ha (fun v s2 r2 Q q => by
    obtain ⟨p, vs, rfl, h1, h2⟩ := r2
    rw [h2.flat] at h1
    exact ⟨p, xs, rfl, h1, q _ s2 (Ex.refl _) rfl⟩) (he := he) (hpl := hpl)
def minL : List Int → Option Int
  | [] => none
  | x :: xs => some (xs.foldl min x)
def maxL : List Int → Option Int
  | [] => none
  | x :: xs => some (xs.foldl max x)
theorem foldl_min (xs : List Int) : ∀ x : Int, (xs.foldl min x ∈ x :: xs) ∧ ∀ y ∈ x :: xs, xs.foldl min x ≤ y := by
  induction xs with
  | nil => intro x; exact ⟨by simp, fun y hy => by simp at hy; simp [hy]⟩
  | cons a r ih =>
    intro x
    obtain ⟨h1, h2⟩ := ih (min x a)
    refine ⟨?_, fun y hy => ?_⟩
    · rw [List.foldl_cons]
      rcases List.mem_cons.mp h1 with h | h
      · rw [h]
        by_cases hx : x ≤ a
        · rw [Int.min_eq_left hx]; exact List.mem_cons_self
        · rw [Int.min_eq_right (by omega)]; exact List.mem_cons_of_mem _ List.mem_cons_self
      · exact List.mem_cons_of_mem _ (List.mem_cons_of_mem _ h)
    · rw [List.foldl_cons]
      have h3 := h2 (min x a) List.mem_cons_self
      rcases List.mem_cons.mp hy with rfl | hy
      · exact Int.le_trans h3 (Int.min_le_left _ _)
      · rcases List.mem_cons.mp hy with rfl | hy
        · exact Int.le_trans h3 (Int.min_le_right _ _)
        · exact h2 y (List.mem_cons_of_mem _ hy)
theorem foldl_max (xs : List Int) : ∀ x : Int, (xs.foldl max x ∈ x :: xs) ∧ ∀ y ∈ x :: xs, y ≤ xs.foldl max x := by
  induction xs with
  | nil => intro x; exact ⟨by simp, fun y hy => by simp at hy; simp [hy]⟩
  | cons a r ih =>
    intro x
    obtain ⟨h1, h2⟩ := ih (max x a)
    refine ⟨?_, fun y hy => ?_⟩
    · rw [List.foldl_cons]
      rcases List.mem_cons.mp h1 with h | h
      · rw [h]
        by_cases hx : a ≤ x
        · rw [Int.max_eq_left hx]; exact List.mem_cons_self
        · rw [Int.max_eq_right (by omega)]; exact List.mem_cons_of_mem _ List.mem_cons_self
      · exact List.mem_cons_of_mem _ (List.mem_cons_of_mem _ h)
    · rw [List.foldl_cons]
      have h3 := h2 (max x a) List.mem_cons_self
      rcases List.mem_cons.mp hy with rfl | hy
      · exact Int.le_trans (Int.le_max_left _ _) h3
      · rcases List.mem_cons.mp hy with rfl | hy
        · exact Int.le_trans (Int.le_max_right _ _) h3
        · exact h2 y (List.mem_cons_of_mem _ hy)
theorem minL_of {xs : List Int} {m : Int} (h1 : m ∈ xs) (h2 : ∀ y ∈ xs, m ≤ y) : minL xs = some m := by
  cases xs with
  | nil => simp at h1
  | cons x r =>
    obtain ⟨h3, h4⟩ := foldl_min r x
    exact congrArg some (Int.le_antisymm (h4 m h1) (h2 _ h3))
theorem maxL_of {xs : List Int} {m : Int} (h1 : m ∈ xs) (h2 : ∀ y ∈ xs, y ≤ m) : maxL xs = some m := by
  cases xs with
  | nil => simp at h1
  | cons x r =>
    obtain ⟨h3, h4⟩ := foldl_max r x
    exact congrArg some (Int.le_antisymm (h2 _ h3) (h4 m h1))
theorem ev_min {xs : List Int} {m : Int} (hm : X.mg "min" = none) (ha : EvR X e σ s xs) (h : minL xs = some m) (hc : X.calm = true := by rfl) (hg : Gl X "min" := by rfl) (he : starEach [e] X.env = (false, eval e X.env) :: starEach [] X.env := by rfl) (hpl : (backTo pos (starEach [] X.env)).any (·.1) = false := by rfl) : Ev X (.Call (.Name "min" p0) [e] [] pos) σ s m :=
  ev_BR (cr_min hc) hg hm (by decide +kernel) ha (fun v s2 r2 Q q => by
    obtain ⟨p, vs, rfl, h1, h2⟩ := r2
    rw [h2.flat] at h1
    refine ⟨p, xs, rfl, h1, ?_, fun z hz1 hz2 => ?_⟩
    · cases xs with
      | nil => cases h
      | cons _ _ => exact Nat.succ_pos _
    · rw [minL_of hz1 hz2] at h
      cases h
      exact q _ s2 (Ex.refl _) rfl) (he := he) (hpl := hpl)
theorem ev_max {xs : List Int} {m : Int} (hm : X.mg "max" = none) (ha : EvR X e σ s xs) (h : maxL xs = some m) (hc : X.calm = true := by rfl) (hg : Gl X "max" := by rfl) (he : starEach [e] X.env = (false, eval e X.env) :: starEach [] X.env := by rfl) (hpl : (backTo pos (starEach [] X.env)).any (·.1) = false := by rfl) : Ev X (.Call (.Name "max" p0) [e] [] pos) σ s m :=
  ev_BR (cr_max hc) hg hm (by decide +kernel) ha (fun v s2 r2 Q q => by
    obtain ⟨p, vs, rfl, h1, h2⟩ := r2
    rw [h2.flat] at h1
    refine ⟨p, xs, rfl, h1, ?_, fun z hz1 hz2 => ?_⟩
    · cases xs with
      | nil => cases h
      | cons _ _ => exact Nat.succ_pos _
    · rw [maxL_of hz1 hz2] at h
      cases h
      exact q _ s2 (Ex.refl _) rfl) (he := he) (hpl := hpl)
theorem ev_min2 {x y : Int} (hm : X.mg "min" = none) (ha : Ev X a σ s x) (hb : Ev X b σ s y) (hc : X.calm = true := by rfl) (hg : Gl X "min" := by rfl) (he : starEach [a, b] X.env = (false, eval a X.env) :: starEach [b] X.env := by rfl) (he2 : starEach [b] X.env = (false, eval b X.env) :: starEach [] X.env := by rfl) (hpl : (backTo pos (starEach [b] X.env)).any (·.1) = false := by rfl) : Ev X (.Call (.Name "min" p0) [a, b] [] pos) σ s (min x y) := fun s1 k Q q =>
  we_of (pe_callB (call_min2 hc) hg hm (by decide +kernel) (pa_cons pe_we (pa_cons pe_we pa_nil he2) he) (he := he) (hpl := hpl)) (ha s1 k _ fun v s2 k2 r2 => hb s2 (k.trans k2) _ fun u s3 k3 r3 =>
    ⟨x, y, by rw [show v = V.int x from r2, show u = V.int y from r3], q _ s3 (k2.trans k3) (by
      show V.int _ = V.int _
      by_cases h : y < x
      · rw [if_pos h, Int.min_eq_right (by omega)]
      · rw [if_neg h, Int.min_eq_left (by omega)])⟩)
theorem ev_max2 {x y : Int} (hm : X.mg "max" = none) (ha : Ev X a σ s x) (hb : Ev X b σ s y) (hc : X.calm = true := by rfl) (hg : Gl X "max" := by rfl) (he : starEach [a, b] X.env = (false, eval a X.env) :: starEach [b] X.env := by rfl) (he2 : starEach [b] X.env = (false, eval b X.env) :: starEach [] X.env := by rfl) (hpl : (backTo pos (starEach [b] X.env)).any (·.1) = false := by rfl) : Ev X (.Call (.Name "max" p0) [a, b] [] pos) σ s (max x y) := fun s1 k Q q =>
  we_of (pe_callB (call_max2 hc) hg hm (by decide +kernel) (pa_cons pe_we (pa_cons pe_we pa_nil he2) he) (he := he) (hpl := hpl)) (ha s1 k _ fun v s2 k2 r2 => hb s2 (k.trans k2) _ fun u s3 k3 r3 =>
    ⟨x, y, by rw [show v = V.int x from r2, show u = V.int y from r3], q _ s3 (k2.trans k3) (by
      show V.int _ = V.int _
      by_cases h : y > x
      · rw [if_pos h, Int.max_eq_right (by omega)]
      · rw [if_neg h, Int.max_eq_left (by omega)])⟩)
theorem ev_T1 {T : String} {n : Str} {r : List V → Hp → VK → Prop} {x : β} {y : α} (hc : CallR X (.type T) r) (hg : Gl X n) (hm : X.mg n = none) (hv : bootBuiltins n = some (.type T)) (ha : Ev X e σ s x)
    (hr : ∀ (v : V) (s2 : S), rep X.K s2.F v x → ∀ Q : VK, (∀ w s3, Ex s2 s3 → rep X.K s3.F w y → Q w s3.H) → r [v] s2.H Q) (hn : n ≠ "__name__" := by decide) (hdb : (n == ("__debug__" : Str)) = false := by decide)
    (he : starEach [e] X.env = (false, eval e X.env) :: starEach [] X.env := by rfl) (hpl : (backTo pos (starEach [] X.env)).any (·.1) = false := by rfl) : Ev X (.Call (.Name n p0) [e] [] pos) σ s y := fun s1 k Q q =>
  we_of (pe_callTy hc hg hm hv (pa_cons pe_we pa_nil he) hn hdb he hpl) (ha s1 k _ fun v s2 k2 r2 => hr v s2 r2 Q fun w s3 k3 r3 => q w s3 (k2.trans k3) r3)
theorem ev_intB {x : Bool} (hm : X.mg "int" = none) (ha : Ev X e σ s x) (hg : Gl X "int" := by rfl) (he : starEach [e] X.env = (false, eval e X.env) :: starEach [] X.env := by rfl) (hpl : (backTo pos (starEach [] X.env)).any (·.1) = false := by rfl) : Ev X (.Call (.Name "int" p0) [e] [] pos) σ s (if x = true then (1 : Int) else 0) :=
  ev_T1 call_int1 hg hm (by decide +kernel) ha (fun v s2 r2 Q q => .inr ⟨x, by rw [show v = V.bl x from r2], q _ s2 (Ex.refl _) rfl⟩) (he := he) (hpl := hpl)
theorem ev_intS {x : Str} {n : Int} (hm : X.mg "int" = none) (ha : Ev X e σ s x) (h : PySem.intText? x = some n) (hl : x.length ≤ 640) (hg : Gl X "int" := by rfl) (he : starEach [e] X.env = (false, eval e X.env) :: starEach [] X.env := by rfl) (hpl : (backTo pos (starEach [] X.env)).any (·.1) = false := by rfl) : Ev X (.Call (.Name "int" p0) [e] [] pos) σ s n :=
  ev_T1 call_int_str hg hm (by decide +kernel) ha (fun v s2 r2 Q q => ⟨x, n, by rw [show v = V.str x from r2], h, hl, q _ s2 (Ex.refl _) rfl⟩) (he := he) (hpl := hpl)
theorem ev_strI {x : Int} (hm : X.mg "str" = none) (h : x.natAbs.log2 < 1920) (ha : Ev X e σ s x) (hg : Gl X "str" := by rfl) (he : starEach [e] X.env = (false, eval e X.env) :: starEach [] X.env := by rfl) (hpl : (backTo pos (starEach [] X.env)).any (·.1) = false := by rfl) : Ev X (.Call (.Name "str" p0) [e] [] pos) σ s (toString x : Str) :=
  ev_T1 call_str_int hg hm (by decide +kernel) ha (fun v s2 r2 Q q => ⟨x, by rw [show v = V.int x from r2], h, q _ s2 (Ex.refl _) rfl⟩) (he := he) (hpl := hpl)
end
end Dy

namespace Dy
open PySem PySem.Spec L2
open PyProof.Rows hiding St
open Enc (rep)
open Flat (toV)
open EncA (repA)

section
variable {α β γ δ ζ : Type} [Enc α] [Enc β] [Enc γ] [Enc δ] [Enc ζ] {X : Cx} {σ : St} {s t : S} {e a b c : Expr} {es : List Expr} {pos p0 p1 p2 p3 : Pos}

def EvE (X : Cx) (es : List Expr) (σ : St) (s : S) (xs : List α) : Prop := ∀ s1, Ex s s1 → ∀ Q : List V → Hp → Prop, (∀ vs s2, Ex s1 s2 → Reps X.K s2.F vs xs → Q vs s2.H) → WA X es σ s1.H Q
theorem ee_nil : EvE X [] σ s ([] : List α) := fun s1 k Q q => wa_of pa_nil (q [] s1 (Ex.refl _) trivial)
theorem ee_cons {x : α} {xs : List α} (h : Ev X e σ s x) (hr : EvE X es σ s xs) (hs : starEach (e :: es) X.env = (false, eval e X.env) :: starEach es X.env := by rfl) : EvE X (e :: es) σ s (x :: xs) := fun s1 k Q q =>
  wa_of (pa_cons pe_we pa_wa hs) (h s1 k _ fun v s2 k2 r2 => hr s2 (k.trans k2) _ fun vs s3 k3 r3 => q _ s3 (k2.trans k3) ⟨Enc.mono k3.f r2, r3⟩)
theorem own_new {K : PySem.W.Frag} {p : Addr} {vs : List V} {xs : List α} (h : s.H p = none) (r : Reps K s.F vs xs) : Own K (s.newO p (.lst vs) h) p xs := ⟨(fF h : s.F p = none), vs, upd_same, r⟩
theorem en_list {xs : List α} (h : EvE X es σ s xs) (hz : xs.length ≤ sizeLine := by decide) : EvN X (.List es pos) σ s xs := fun s1 k Q q =>
  we_of (pe_lst pa_wa) (h s1 k _ fun vs s2 k2 r2 => ⟨by rw [r2.len]; exact hz, fun p hp => q p (s2.newO p (.lst vs) hp) (k2.trans (Ex.newO hp)) (fr_back k2 hp) (own_new hp r2)⟩)
theorem tup_new {K : PySem.W.Frag} {p : Addr} {vs : List V} (h : s.H p = none) : SqT K (s.newF p (.tup vs) h).F p vs := .inl (.inl upd_same)
theorem ev_tu {xs : List α} (h : EvE X es σ s xs) (hz : xs.length ≤ sizeLine := by decide) {n} : Ev X (.Tuple es n pos) σ s (⟨xs⟩ : Tu α) := fun s1 k Q q =>
  we_of (pe_tup pa_wa) (h s1 k _ fun vs s2 k2 r2 => ⟨by rw [r2.len]; exact hz, fun p hp => q _ (s2.newF p (.tup vs) hp) (k2.trans (Ex.newF hp)) ⟨p, vs, rfl, tup_new hp, r2.mono (Ex.newF hp).f⟩⟩)
theorem ev_t1 {x : α} {n} (h : EvA X es σ s (x, ())) : Ev X (.Tuple es n pos) σ s (⟨x⟩ : T1 α) := fun s1 k Q q =>
  we_of (pe_tup pa_wa) (h s1 k _ fun vs s2 k2 r2 => by
    obtain ⟨v1, _, rfl, r1, rfl⟩ := r2
    refine ⟨show _ ≤ 2 ^ 24 by simp, fun p hp => q _ (s2.newF p _ hp) (k2.trans (Ex.newF hp)) ⟨p, v1, rfl, tup_new hp, Enc.mono (Ex.newF hp).f r1⟩⟩)
theorem ev_t2 {x : α} {y : β} {n} (h : EvA X es σ s (x, y, ())) : Ev X (.Tuple es n pos) σ s (x, y) := fun s1 k Q q =>
  we_of (pe_tup pa_wa) (h s1 k _ fun vs s2 k2 r2 => by
    obtain ⟨v1, _, rfl, r1, v2, _, rfl, r2, rfl⟩ := r2
    refine ⟨show _ ≤ 2 ^ 24 by simp, fun p hp => q _ (s2.newF p _ hp) (k2.trans (Ex.newF hp)) ⟨p, v1, v2, rfl, tup_new hp, Enc.mono (Ex.newF hp).f r1, Enc.mono (Ex.newF hp).f r2⟩⟩)
theorem ev_t3 {x : α} {y : β} {z : γ} {n} (h : EvA X es σ s (x, y, z, ())) : Ev X (.Tuple es n pos) σ s (⟨x, y, z⟩ : T3 α β γ) := fun s1 k Q q =>
  we_of (pe_tup pa_wa) (h s1 k _ fun vs s2 k2 r2 => by
    obtain ⟨v1, _, rfl, r1, v2, _, rfl, r2, v3, _, rfl, r3, rfl⟩ := r2
    refine ⟨show _ ≤ 2 ^ 24 by simp, fun p hp => q _ (s2.newF p _ hp) (k2.trans (Ex.newF hp)) ⟨p, v1, v2, v3, rfl, tup_new hp, Enc.mono (Ex.newF hp).f r1, Enc.mono (Ex.newF hp).f r2, Enc.mono (Ex.newF hp).f r3⟩⟩)
theorem ev_t4 {x : α} {y : β} {z : γ} {u : δ} {n} (h : EvA X es σ s (x, y, z, u, ())) : Ev X (.Tuple es n pos) σ s (⟨x, y, z, u⟩ : T4 α β γ δ) := fun s1 k Q q =>
  we_of (pe_tup pa_wa) (h s1 k _ fun vs s2 k2 r2 => by
    obtain ⟨v1, _, rfl, r1, v2, _, rfl, r2, v3, _, rfl, r3, v4, _, rfl, r4, rfl⟩ := r2
    refine ⟨show _ ≤ 2 ^ 24 by simp, fun p hp => q _ (s2.newF p _ hp) (k2.trans (Ex.newF hp)) ⟨p, v1, v2, v3, v4, rfl, tup_new hp, Enc.mono (Ex.newF hp).f r1, Enc.mono (Ex.newF hp).f r2, Enc.mono (Ex.newF hp).f r3, Enc.mono (Ex.newF hp).f r4⟩⟩)
theorem ev_t5 {x : α} {y : β} {z : γ} {u : δ} {w : ζ} {n} (h : EvA X es σ s (x, y, z, u, w, ())) : Ev X (.Tuple es n pos) σ s (⟨x, y, z, u, w⟩ : T5 α β γ δ ζ) := fun s1 k Q q =>
  we_of (pe_tup pa_wa) (h s1 k _ fun vs s2 k2 r2 => by
    obtain ⟨v1, _, rfl, r1, v2, _, rfl, r2, v3, _, rfl, r3, v4, _, rfl, r4, v5, _, rfl, r5, rfl⟩ := r2
    refine ⟨show _ ≤ 2 ^ 24 by simp, fun p hp => q _ (s2.newF p _ hp) (k2.trans (Ex.newF hp)) ⟨p, v1, v2, v3, v4, v5, rfl, tup_new hp, Enc.mono (Ex.newF hp).f r1, Enc.mono (Ex.newF hp).f r2, Enc.mono (Ex.newF hp).f r3, Enc.mono (Ex.newF hp).f r4, Enc.mono (Ex.newF hp).f r5⟩⟩)

theorem en_T1 {n : Str} {T : String} {r : List V → Hp → VK → Prop} {xs : List β} {ys : List α} (hc : CallR X (.type T) r) (hg : Gl X n) (hm : X.mg n = none) (hv : bootBuiltins n = some (.type T)) (ha : EvR X e σ s xs)
    (hr : ∀ (v : V) (s2 : S), RepR X.K s2 v xs → ∀ Q : VK, (∀ p s3, Ex s2 s3 → s2.H p = none → Own X.K s3 p ys → Q (.ref p) s3.H) → r [v] s2.H Q) (hn : n ≠ "__name__" := by decide) (hdb : (n == ("__debug__" : Str)) = false := by decide)
    (he : starEach [e] X.env = (false, eval e X.env) :: starEach [] X.env := by rfl) (hpl : (backTo pos (starEach [] X.env)).any (·.1) = false := by rfl) : EvN X (.Call (.Name n p0) [e] [] pos) σ s ys := fun s1 k Q q =>
  we_of (pe_callTy hc hg hm hv (pa_cons pe_we pa_nil he) hn hdb he hpl) (ha s1 k _ fun v s2 k2 r2 => hr v s2 r2 Q fun w s3 k3 n3 r3 => q w s3 (k2.trans k3) (fr_back k2 n3) r3)
theorem en_copy {xs : List α} (hm : X.mg "list" = none) (ha : EvR X e σ s xs) (hg : Gl X "list" := by rfl) (he : starEach [e] X.env = (false, eval e X.env) :: starEach [] X.env := by rfl) (hpl : (backTo pos (starEach [] X.env)).any (·.1) = false := by rfl) : EvN X (.Call (.Name "list" p0) [e] [] pos) σ s xs :=
  en_T1 call_list_of hg hm (by decide +kernel) ha (fun v s2 r2 Q q => by
    obtain ⟨p, vs, rfl, h1, h2⟩ := r2
    exact ⟨p, vs, rfl, .inl h1, fun l hl => q l (s2.newO l _ hl) (Ex.newO hl) hl (own_new hl h2)⟩) (he := he) (hpl := hpl)
theorem en_copyT {xs : Tu α} (hm : X.mg "list" = none) (ha : Ev X e σ s xs) (hg : Gl X "list" := by rfl) (he : starEach [e] X.env = (false, eval e X.env) :: starEach [] X.env := by rfl) (hpl : (backTo pos (starEach [] X.env)).any (·.1) = false := by rfl) : EvN X (.Call (.Name "list" p0) [e] [] pos) σ s xs.l := fun s1 k Q q =>
  we_of (pe_callTy call_list_of hg hm (by decide +kernel) (pa_cons pe_we pa_nil he) (he := he) (hpl := hpl)) (ha s1 k _ fun v s2 k2 r2 => by
    obtain ⟨p, vs, rfl, h1, h2⟩ := r2
    exact ⟨p, vs, rfl, .inr (sqt_mono s2.sub h1), fun l hl => q l (s2.newO l _ hl) (k2.trans (Ex.newO hl)) (fr_back k2 hl) (own_new hl h2)⟩)
theorem ev_tuple {xs : List α} (hm : X.mg "tuple" = none) (ha : EvR X e σ s xs) (hg : Gl X "tuple" := by rfl) (he : starEach [e] X.env = (false, eval e X.env) :: starEach [] X.env := by rfl) (hpl : (backTo pos (starEach [] X.env)).any (·.1) = false := by rfl) : Ev X (.Call (.Name "tuple" p0) [e] [] pos) σ s (⟨xs⟩ : Tu α) := fun s1 k Q q =>
  we_of (pe_callTy call_tuple_of hg hm (by decide +kernel) (pa_cons pe_we pa_nil he) (he := he) (hpl := hpl)) (ha s1 k _ fun v s2 k2 r2 => by
    obtain ⟨p, vs, rfl, h1, h2⟩ := r2
    exact ⟨p, vs, rfl, .inl ⟨h1, fun l hl => q _ (s2.newF l _ hl) (k2.trans (Ex.newF hl)) ⟨l, vs, rfl, tup_new hl, h2.mono (Ex.newF hl).f⟩⟩⟩)
theorem ev_tupleT {xs : Tu α} (hm : X.mg "tuple" = none) (ha : Ev X e σ s xs) (hg : Gl X "tuple" := by rfl) (he : starEach [e] X.env = (false, eval e X.env) :: starEach [] X.env := by rfl) (hpl : (backTo pos (starEach [] X.env)).any (·.1) = false := by rfl) : Ev X (.Call (.Name "tuple" p0) [e] [] pos) σ s xs := fun s1 k Q q =>
  we_of (pe_callTy call_tuple_of hg hm (by decide +kernel) (pa_cons pe_we pa_nil he) (he := he) (hpl := hpl)) (ha s1 k _ fun v s2 k2 r2 => by
    obtain ⟨p, vs, rfl, h1, h2⟩ := r2
    exact ⟨p, vs, rfl, .inr ⟨sqt_mono s2.sub h1, q _ s2 k2 ⟨p, vs, rfl, h1, h2⟩⟩⟩)
def rng (a b : Int) : List Int := (List.range (b - a).toNat).map fun i : Nat => a + (i : Int)
theorem rgV_rng (a b : Int) : rgV a b = (rng a b).map V.int := by
  unfold rgV rng
  rw [List.map_map]; rfl
theorem en_listRg1 {n : Int} (hm : X.mg "list" = none) (hr : X.mg "range" = none) (ha : Ev X e σ s n) (hz : RgOk 0 n) (hc : X.calm = true := by rfl) (hg : Gl X "list" := by rfl) (hgr : Gl X "range" := by rfl)
    (he : starEach [e] X.env = (false, eval e X.env) :: starEach [] X.env := by rfl) (he2 : starEach [.Call (.Name "range" p1) [e] [] p2] X.env = (false, eval (.Call (.Name "range" p1) [e] [] p2) X.env) :: starEach [] X.env := by rfl) :
    EvN X (.Call (.Name "list" p0) [.Call (.Name "range" p1) [e] [] p2] [] pos) σ s (rng 0 n) := fun s1 k Q q =>
  we_of (pe_listRg hc hg hm (prg_1 hgr hr pe_we he) he2) (ha s1 k _ fun v s2 k2 r2 => ⟨n, r2, hz, fun l hl => q l (s2.newO l _ hl) (k2.trans (Ex.newO hl)) (fr_back k2 hl) (own_new hl (by rw [rgV_rng]; exact Reps.of_flat _))⟩)
theorem en_listRg2 {m n : Int} (hm : X.mg "list" = none) (hr : X.mg "range" = none) (ha : Ev X a σ s m) (hb : Ev X b σ s n) (hz : RgOk m n) (hc : X.calm = true := by rfl) (hg : Gl X "list" := by rfl) (hgr : Gl X "range" := by rfl)
    (he : starEach [a, b] X.env = (false, eval a X.env) :: starEach [b] X.env := by rfl) (heb : starEach [b] X.env = (false, eval b X.env) :: starEach [] X.env := by rfl) (hpl : (backTo p2 (starEach [b] X.env)).any (·.1) = false := by rfl)
    (he2 : starEach [.Call (.Name "range" p1) [a, b] [] p2] X.env = (false, eval (.Call (.Name "range" p1) [a, b] [] p2) X.env) :: starEach [] X.env := by rfl) :
    EvN X (.Call (.Name "list" p0) [.Call (.Name "range" p1) [a, b] [] p2] [] pos) σ s (rng m n) := fun s1 k Q q =>
  we_of (pe_listRg hc hg hm (prg_2 hgr hr pe_we pe_we he heb hpl) he2) (ha s1 k _ fun v s2 k2 r2 => hb s2 (k.trans k2) _ fun u s3 k3 r3 => ⟨m, n, r2, r3, hz, fun l hl => q l (s3.newO l _ hl) ((k2.trans k3).trans (Ex.newO hl)) (fr_back (k2.trans k3) hl) (own_new hl (by rw [rgV_rng]; exact Reps.of_flat _))⟩)
def cut {τ : Type} (xs : List τ) (lo hi : Option Int) : List τ := (xs.drop (HT.sIx xs.length 0 lo)).take (HT.sIx xs.length xs.length hi - HT.sIx xs.length 0 lo)
theorem Reps.cut {K : PySem.W.Frag} {F : Hp} {vs : List V} {xs : List α} (r : Reps K F vs xs) (lo hi : Option Int) : Reps K F (cutV vs lo hi) (Dy.cut xs lo hi) := by
  unfold cutV Dy.cut
  rw [r.len]
  exact (r.drop _).take _
def EvO (X : Cx) (o : Option Expr) (σ : St) (s : S) (x : Option Int) : Prop := match o, x with
  | none, none => True
  | some e, some i => Ev X e σ s i
  | _, _ => False
theorem po_evo {o : Option Expr} {x : Option Int} (h : EvO X o σ s x) : ∃ t, PO X o t ∧ ∀ s1, Ex s s1 → ∀ Q : Option Int → Hp → Prop, (∀ s2, Ex s1 s2 → Q x s2.H) → t σ s1.H Q := by
  cases o with
  | none =>
    cases x with
    | none => exact ⟨_, po_none, fun s1 k Q q => q s1 (Ex.refl _)⟩
    | some i => exact h.elim
  | some e =>
    cases x with
    | none => exact h.elim
    | some i => exact ⟨_, po_some pe_we, fun s1 k Q q => (show Ev X e σ s i from h) s1 k _ fun v s2 k2 r2 => ⟨i, r2, q s2 k2⟩⟩
theorem eo_none : EvO X none σ s none := trivial
theorem eo_some {i : Int} (h : Ev X e σ s i) : EvO X (some e) σ s (some i) := h
theorem en_slice {xs : List α} {lo hi : Option Expr} {l h : Option Int} (ha : EvR X a σ s xs) (hl : EvO X lo σ s l) (hh : EvO X hi σ s h) : EvN X (.Subscript a (.Slice lo hi none p2) pos) σ s (cut xs l h) := fun s1 k Q q => by
  obtain ⟨tl, pl, ql⟩ := po_evo hl
  obtain ⟨th, ph, qh⟩ := po_evo hh
  refine we_of (pe_slice sl_list pe_we pl ph) (ha s1 k _ fun v s2 k2 r2 => ql s2 (k.trans k2) _ fun s3 k3 => qh s3 ((k.trans k2).trans k3) _ fun s4 k4 => ?_)
  obtain ⟨p, vs, rfl, h1, h2⟩ := (r2.ex k3).ex k4
  exact ⟨p, vs, rfl, h1, fun l hl => q l (s4.newO l _ hl) (((k2.trans k3).trans k4).trans (Ex.newO hl)) (fr_back ((k2.trans k3).trans k4) hl) (own_new hl (h2.cut _ _))⟩
theorem ev_sliceS {x : Str} {lo hi : Option Expr} {l h : Option Int} (hz : x.length ≤ sizeLine) (ha : Ev X a σ s x) (hl : EvO X lo σ s l) (hh : EvO X hi σ s h) : Ev X (.Subscript a (.Slice lo hi none p2) pos) σ s (cutS x l h) := fun s1 k Q q => by
  obtain ⟨tl, pl, ql⟩ := po_evo hl
  obtain ⟨th, ph, qh⟩ := po_evo hh
  exact we_of (pe_slice sl_str pe_we pl ph) (ha s1 k _ fun v s2 k2 r2 => ql s2 (k.trans k2) _ fun s3 k3 => qh s3 ((k.trans k2).trans k3) _ fun s4 k4 => ⟨x, r2, hz, q _ s4 ((k2.trans k3).trans k4) rfl⟩)
theorem op_catS : OpR X (binaryOp .Add) (fun x y H Q => ∃ l b xs zs, x = .ref l ∧ y = .ref b ∧ SqL X.K H l xs ∧ SqL X.K H b zs ∧ xs.length + zs.length ≤ sizeLine ∧ ∀ p, H p = none → Q (.ref p) (upd H p (.lst (xs ++ zs)))) := by
  intro pins s σ H x y v u Q I rx ry h
  obtain ⟨l, b, xs, zs, rfl, rfl, hH, hB, hz, q⟩ := h
  cases rx
  cases ry
  obtain ⟨its, r, ⟨⟨cls, dd, data, sl⟩, n, ho, hc, hd0, hd⟩, z1⟩ := I.list hH
  obtain ⟨its2, r2, ⟨⟨cls2, dd2, data2, sl2⟩, n2, ho2, hc2, hd02, hd2⟩, z2⟩ := I.list hB
  simp only at hc hd hc2 hd2 hd0 hd02
  subst hc hd hc2 hd2 hd0 hd02
  have e : its.toArray ++ its2.toArray = (its ++ its2).toArray := by simp
  have h1 := r.length
  have h2 := r2.length
  refine concat_meets ⟨_, ho, rfl⟩ ⟨_, ho2, rfl⟩ noFill_list_add seq_list_add PySem.F.slot_list_add PySem.F.entry_list_add (PySem.F.args_list_add_2 _ _) (list_addW l b its.toArray its2.toArray n n2 none none sl sl2 (by rw [List.size_toArray, List.size_toArray]; omega)) ⟨ho, ho2, ?_⟩
  rw [e]
  exact ⟨.ref _, _, I.lnew (t' := s.toks) (r.append r2) (by rw [List.length_append]; omega), rfl, q _ I.fresh⟩
theorem en_cat {xs ys : List α} (ha : EvR X a σ s xs) (hb : EvR X b σ s ys) (hz : xs.length + ys.length ≤ sizeLine) : EvN X (.BinOp a .Add b pos) σ s (xs ++ ys) := fun s1 k Q q =>
  we_of (pe_op op_catS pe_we pe_we) (ha s1 k _ fun v s2 k2 r2 => hb s2 (k.trans k2) _ fun u s3 k3 r3 => by
    obtain ⟨p, vs, rfl, h1, h2⟩ := r2.ex k3
    obtain ⟨p', ws, rfl, h3, h4⟩ := r3
    exact ⟨p, p', vs, ws, rfl, rfl, h1, h3, by rw [h2.len, h4.len]; exact hz, fun l hl => q l (s3.newO l _ hl) ((k2.trans k3).trans (Ex.newO hl)) (fr_back (k2.trans k3) hl) (own_new hl (h2.app h4))⟩)
def repl {τ : Type} (n : Int) (xs : List τ) : List τ := (List.replicate n.toNat xs).flatten
theorem Reps.repF {K : PySem.W.Frag} {F : Hp} {vs : List V} {xs : List α} (r : Reps K F vs xs) (n : Nat) : Reps K F (List.replicate n vs).flatten (List.replicate n xs).flatten := by
  induction n with
  | zero => exact trivial
  | succ n ih => rw [List.replicate_succ, List.replicate_succ, List.flatten_cons, List.flatten_cons]; exact r.app ih
def RepOk (n : Int) (l : Nat) : Prop := -(2 ^ 63) ≤ n ∧ n < 2 ^ 63 ∧ l * n.toNat ≤ sizeLine
theorem en_rep {xs : List α} {n : Int} (ha : EvN X a σ s xs) (hb : ∀ t, Ex s t → Ev X b σ t n) (hz : RepOk n xs.length) : EvN X (.BinOp a .Mult b pos) σ s (repl n xs) := fun s1 k Q q =>
  we_of (pe_op op_rep pe_we pe_we) (ha s1 k _ fun p s2 k2 n2 o2 => hb s2 (k.trans k2) s2 (Ex.refl _) _ fun u s3 k3 r3 => by
    obtain ⟨_, vs, h1, h2⟩ := o2.ex k3
    exact ⟨p, n, vs, rfl, r3, h1, hz.1, hz.2.1, by rw [h2.len]; exact hz.2.2, fun l hl => q l (s3.newO l _ hl) ((k2.trans k3).trans (Ex.newO hl)) (fr_back (k2.trans k3) hl) (own_new hl (h2.repF _))⟩)
theorem en_sorted {xs : List Int} (hm : X.mg "sorted" = none) (ha : EvR X e σ s xs) (hg : Gl X "sorted" := by rfl) (he : starEach [e] X.env = (false, eval e X.env) :: starEach [] X.env := by rfl) (hpl : (backTo pos (starEach [] X.env)).any (·.1) = false := by rfl) :
    EvN X (.Call (.Name "sorted" p0) [e] [] pos) σ s (xs.mergeSort (fun x y => decide (x ≤ y))) := fun s1 k Q q =>
  we_of (pe_callB cr_sortedI hg hm (by decide +kernel) (pa_cons pe_we pa_nil he) (he := he) (hpl := hpl)) (ha s1 k _ fun v s2 k2 r2 => by
    obtain ⟨p, vs, rfl, h1, h2⟩ := r2
    rw [h2.flat] at h1
    refine ⟨p, xs, rfl, h1, fun ys l hp hs hl => ?_⟩
    have e1 : ys = xs.mergeSort (fun x y => decide (x ≤ y)) := by
      refine List.Perm.eq_of_pairwise (le := fun x y : Int => x ≤ y) (fun a b _ _ h h' => Int.le_antisymm h h') hs ?_ (hp.trans (List.mergeSort_perm _ _).symm)
      have := List.pairwise_mergeSort (le := fun x y : Int => decide (x ≤ y)) (fun a b c h1 h2 => by simp at *; omega) (fun a b => by simp; omega) xs
      exact this.imp (by simp)
    subst e1
    exact q l (s2.newO l _ hl) (k2.trans (Ex.newO hl)) (fr_back k2 hl) (own_new hl (Reps.of_flat _)))
theorem en_split {x y : Str} (ha : Ev X a σ s x) (hb : Ev X b σ s y) (h1 : (y.length == 0) = false) (h2 : x.length + 2 ≤ sizeLine) (hs : starEach [b] X.env = [(false, eval b X.env)] := by rfl) (hbase : attributeBase a "split" X.env (eval a X.env) = eval a X.env := by rfl) (hline : (p1.endLine == pos.line) = true := by rfl) :
    EvN X (.Call (.Attribute a "split" p1) [b] [] pos) σ s (Txt.split x y) := fun s1 k Q q =>
  we_of (pe_split pe_we pe_we hs hbase hline) (ha s1 k _ fun v s2 k2 r2 => ⟨⟨x, r2⟩, hb s2 (k.trans k2) _ fun u s3 k3 r3 => ⟨x, y, r2, by rw [show u = V.str y from r3], h1, h2, fun l hl =>
    q l (s3.newO l _ hl) ((k2.trans k3).trans (Ex.newO hl)) (fr_back (k2.trans k3) hl) (own_new hl (Reps.of_flat _))⟩⟩)
def JnOk (x : Str) (ys : List Str) : Prop := (ys.map (·.length)).sum + ys.length * x.length ≤ 16777216
theorem ev_join {x : Str} {ys : List Str} (ha : Ev X a σ s x) (hb : EvR X b σ s ys) (h : JnOk x ys) (hs : starEach [b] X.env = [(false, eval b X.env)] := by rfl) (hbase : attributeBase a "join" X.env (eval a X.env) = eval a X.env := by rfl) (hline : (p1.endLine == pos.line) = true := by rfl) :
    Ev X (.Call (.Attribute a "join" p1) [b] [] pos) σ s (Txt.join x ys) := fun s1 k Q q =>
  we_of (pe_join pe_we pe_we hs hbase hline) (ha s1 k _ fun v s2 k2 r2 => ⟨⟨x, r2⟩, hb s2 (k.trans k2) _ fun u s3 k3 r3 => by
    obtain ⟨p, vs, rfl, h1, h2⟩ := r3
    obtain rfl := h2.flat
    exact ⟨x, p, ys, r2, rfl, .inl h1, h, q _ s3 (k2.trans k3) rfl⟩⟩)
def ixOf {τ : Type} [DecidableEq τ] (x : τ) : List τ → Option Nat
  | [] => none
  | y :: ys => if y = x then some 0 else (ixOf x ys).map (· + 1)
theorem ixOf_some {τ : Type} [DecidableEq τ] {x : τ} : ∀ {ys : List τ} {j : Nat}, ixOf x ys = some j → ys[j]? = some x ∧ ∀ m z, m < j → ys[m]? = some z → z ≠ x
  | [], _, h => by cases h
  | y :: ys, j, h => by
    unfold ixOf at h
    split at h
    · rename_i e; cases h; exact ⟨by simp [e], fun m z hm => absurd hm (Nat.not_lt_zero _)⟩
    · rename_i e
      obtain ⟨i, h1, rfl⟩ := Option.map_eq_some_iff.mp h
      obtain ⟨h2, h3⟩ := ixOf_some h1
      refine ⟨by simpa using h2, fun m z hm hz => ?_⟩
      cases m with
      | zero => simp at hz; subst hz; exact e
      | succ m => exact h3 m z (by omega) (by simpa using hz)
theorem ev_index {ε : Type} [Eqs ε] [DecidableEq ε] {x : ε} {xs : List ε} {j : Nat} (ha : EvR X a σ s xs) (hb : Ev X b σ s x) (h : ixOf x xs = some j)
    (hbase : attributeBase a "index" X.env (eval a X.env) = eval a X.env := by rfl)
    (hfew : ((backTo pos (starEach [b] X.env)).all (fun x => !x.1) && (backToKw pos (keywordEach [] X.env)).all (fun x => x.1.isSome) && decide (([b] : List Expr).length + ([] : List Keyword).length + (if ([] : List Keyword).isEmpty then 0 else 1) < 30)) = true := by rfl)
    (hline : (p1.endLine == pos.line) = true := by rfl) (hs : starEach [b] X.env = (false, eval b X.env) :: starEach [] X.env := by rfl) (hplain : (backTo pos (starEach [] X.env)).any (·.1) = false := by rfl) :
    Ev X (.Call (.Attribute a "index" p1) [b] [] pos) σ s (j : Int) := fun s1 k Q q =>
  we_of (pe_bm PySem.F.plainAttrs_list PySem.F.slot_list_index PySem.F.type_list_index mt_index pe_we (pa_cons pe_we pa_nil hs) hbase hfew hline hs hplain) (ha s1 k _ fun v s2 k2 r2 => by
    obtain ⟨p, vs, rfl, h1, h2⟩ := r2
    obtain rfl := h2.flat
    refine ⟨.inl ⟨rfl, _, h1⟩, hb s2 (k.trans k2) _ fun u s3 k3 r3 => ?_⟩
    rw [Flat.iff.mp r3]
    obtain ⟨h3, h4⟩ := ixOf_some h
    refine ⟨p, _, toV x, j, toV x, rfl, rfl, sql_mono k3.h h1, Flat.flat x, flat_all xs, by rw [List.getElem?_map, h3]; rfl, (Flat.inj x x).mpr rfl, fun m z hm hz => ?_, q _ s3 (k2.trans k3) rfl⟩
    rw [List.getElem?_map] at hz
    obtain ⟨y, h5, rfl⟩ := Option.map_eq_some_iff.mp hz
    exact Bool.eq_false_iff.mpr fun z => h4 m y hm h5 ((Flat.inj y x).mp z))

structure Cal (P : Program) (w : World) (K : PySem.W.Frag) (mg : Str → Option Value) (base : Heap) (CX : CXT) (k : Nat) (x : Str) (q : Sp) : Prop where
  ex : ∃ (f : Addr) (fd : FuncData) (ps : List Str), FnOk P w K mg base CX k f fd ps q ∧ mg x = some (.ref f) ∧ PySem.W.keepIn K (.ref f) = true ∧ Binds K fd ps []
theorem pe_c0 {n : Str} {k j : Nat} {q : Sp} {ta : TA} (C : Cal X.prog X.w X.K X.mg X.base CX0 k n q) (hr : Room j X.A) (hk : k ≤ j) (hg : Gl X n) (ha : PA X (e :: es) ta) (hdb : (n == ("__debug__" : Str)) = false := by decide)
    (he : starEach (e :: es) X.env = (false, eval e X.env) :: starEach es X.env := by rfl) (hpl : (backTo pos (starEach es X.env)).any (·.1) = false := by rfl) : PE X (.Call (.Name n p0) (e :: es) [] pos) (tCall q [] E0 ta) := by
  obtain ⟨f, fd, ps, F, hm, kp, b⟩ := C.ex
  exact pe_call F (hr.mono hk) hg hm kp b .nil pass0 ha hdb he hpl
def sp {A : Type} [EncA A] {ρ : Type} [Enc ρ] (K : PySem.W.Frag) (m : A → Option ρ) : Sp := fun vs H Q _ => ∃ (s : S) (x : A) (r : ρ), s.H = H ∧ repA K s.F vs x ∧ m x = some r ∧ ∀ v s', Ex s s' → rep K s'.F v r → Q v s'.H
def spN {A : Type} [EncA A] {ρ : Type} [Enc ρ] (K : PySem.W.Frag) (m : A → Option (List ρ)) : Sp := fun vs H Q _ => ∃ (s : S) (x : A) (r : List ρ), s.H = H ∧ repA K s.F vs x ∧ m x = some r ∧ ∀ p s', Ex s s' → s.H p = none → Own K s' p r → Q (.ref p) s'.H
theorem ev_call {A : Type} [EncA A] {m : A → Option α} {n : Str} {k j : Nat} {x : A} {r : α} (C : Cal X.prog X.w X.K X.mg X.base CX0 k n (sp X.K m)) (hr : Room j X.A) (hk : k ≤ j) (ha : EvA X (e :: es) σ s x) (h : m x = some r) (hg : Gl X n := by rfl)
    (hdb : (n == ("__debug__" : Str)) = false := by decide) (he : starEach (e :: es) X.env = (false, eval e X.env) :: starEach es X.env := by rfl) (hpl : (backTo pos (starEach es X.env)).any (·.1) = false := by rfl) : Ev X (.Call (.Name n p0) (e :: es) [] pos) σ s r := fun s1 k1 Q q =>
  we_of (pe_c0 C hr hk hg pa_wa hdb he hpl) (ha s1 k1 _ fun vs s2 k2 r2 => ⟨s2, x, r, rfl, by rw [List.append_nil]; exact r2, h, fun v s3 k3 r3 => q v s3 (k2.trans k3) r3⟩)
theorem en_call {A : Type} [EncA A] {m : A → Option (List α)} {n : Str} {k j : Nat} {x : A} {r : List α} (C : Cal X.prog X.w X.K X.mg X.base CX0 k n (spN X.K m)) (hr : Room j X.A) (hk : k ≤ j) (ha : EvA X (e :: es) σ s x) (h : m x = some r) (hg : Gl X n := by rfl)
    (hdb : (n == ("__debug__" : Str)) = false := by decide) (he : starEach (e :: es) X.env = (false, eval e X.env) :: starEach es X.env := by rfl) (hpl : (backTo pos (starEach es X.env)).any (·.1) = false := by rfl) : EvN X (.Call (.Name n p0) (e :: es) [] pos) σ s r := fun s1 k1 Q q =>
  we_of (pe_c0 C hr hk hg pa_wa hdb he hpl) (ha s1 k1 _ fun vs s2 k2 r2 => ⟨s2, x, r, rfl, by rw [List.append_nil]; exact r2, h, fun v s3 k3 n3 r3 => q v s3 (k2.trans k3) (fr_back k2 n3) r3⟩)
end
end Dy

namespace Dy
open PySem PySem.Spec L2
open PyProof.Rows hiding St
open Enc (rep)
open Flat (toV)
open EncA (repA)

noncomputable def chk {α : Type} (c : Prop) (m : Option α) : Option α := open Classical in if c then m else none
theorem chk_pos {α : Type} {c : Prop} {m : Option α} (h : c) : chk c m = m := by unfold chk; exact if_pos h
theorem chkE {α : Type} {c : Prop} {m : Option α} {r : α} (h : chk c m = some r) : c ∧ m = some r := by
  unfold chk at h
  split at h
  · rename_i hc; exact ⟨hc, h⟩
  · cases h
def lt {α β : Type} (x : α) (f : α → Option β) : Option β := f x
theorem ltE {α β : Type} {x : α} {f : α → Option β} {r : β} (h : lt x f = some r) : ∃ y, y = x ∧ f y = some r := ⟨x, rfl, h⟩
abbrev bnd {α β : Type} (m : Option α) (f : α → Option β) : Option β := m.bind f
theorem bndE {α β : Type} {m : Option α} {f : α → Option β} {r : β} (h : bnd m f = some r) : ∃ y, m = some y ∧ f y = some r := by
  cases m with
  | none => cases h
  | some y => exact ⟨y, rfl, h⟩
theorem iteE1 {α : Type} {b : Bool} {m k : Option α} {r : α} (h : (if b = true then m else k) = some r) (e : b = true) : m = some r := by rw [if_pos e] at h; exact h
theorem iteE2 {α : Type} {b : Bool} {m k : Option α} {r : α} (h : (if b = true then m else k) = some r) (e : b = false) : k = some r := by rw [if_neg (by rw [e]; exact Bool.false_ne_true)] at h; exact h
def andO (a : Bool) (m : Option Bool) : Option Bool := if a = true then m else some false
def orO (a : Bool) (m : Option Bool) : Option Bool := if a = true then some true else m
theorem andE {a r : Bool} {m : Option Bool} (h : andO a m = some r) : (a = true → m = some r) ∧ (a = false → r = false) := by
  unfold andO at h
  cases a with
  | true => exact ⟨fun _ => h, fun z => Bool.noConfusion z⟩
  | false => exact ⟨fun z => Bool.noConfusion z, fun _ => (Option.some.inj h).symm⟩
theorem orE {a r : Bool} {m : Option Bool} (h : orO a m = some r) : (a = false → m = some r) ∧ (a = true → r = true) := by
  unfold orO at h
  cases a with
  | false => exact ⟨fun _ => h, fun z => Bool.noConfusion z⟩
  | true => exact ⟨fun z => Bool.noConfusion z, fun _ => (Option.some.inj h).symm⟩
inductive Fl (β ρ : Type) where
  | nx (b : β)
  | rt (r : ρ)
def foldO {α β : Type} (f : β → α → Option β) : β → List α → Option β
  | b, [] => some b
  | b, x :: r => (f b x).bind fun b' => foldO f b' r
def foldF {α β ρ : Type} (f : β → α → Option (Fl β ρ)) : β → List α → Option (Fl β ρ)
  | b, [] => some (.nx b)
  | b, x :: r => (f b x).bind fun o => match o with
    | .nx b' => foldF f b' r
    | .rt v => some (.rt v)
def whileO {β : Type} (c : β → Option Bool) (f : β → Option β) : Nat → β → Option β
  | 0, _ => none
  | n + 1, b => (c b).bind fun t => if t = true then (f b).bind fun b' => whileO c f n b' else some b
def whileF {β ρ : Type} (c : β → Option Bool) (f : β → Option (Fl β ρ)) : Nat → β → Option (Fl β ρ)
  | 0, _ => none
  | n + 1, b => (c b).bind fun t => if t = true then (f b).bind fun o => (match o with
    | .nx b' => whileF c f n b'
    | .rt v => some (.rt v)) else some (.nx b)
def compO {α β : Type} (t : α → Option Bool) (f : α → Option β) : List α → Option (List β)
  | [] => some []
  | x :: r => (t x).bind fun b => if b = true then (f x).bind fun y => (compO t f r).bind fun ys => some (y :: ys) else compO t f r
theorem compO_pure {α β : Type} (t : α → Bool) (f : α → β) : ∀ xs : List α, compO (fun x => some (t x)) (fun x => some (f x)) xs = some ((xs.filter t).map f)
  | [] => rfl
  | x :: r => by
    unfold compO
    rw [Option.bind_some, compO_pure t f r, List.filter_cons]
    split
    · rfl
    · rfl
theorem compO_map {α β : Type} (f : α → β) : ∀ xs : List α, compO (fun _ => some true) (fun x => some (f x)) xs = some (xs.map f)
  | [] => rfl
  | x :: r => by
    unfold compO
    rw [Option.bind_some, compO_map f r]
    rfl
def mapO {α β : Type} (f : α → Option β) (xs : List α) : Option (List β) := compO (fun _ => some true) f xs

def WI (X : Cx) (tg iter : Expr) : TI := fun σ H R => ∀ (pins : List (Addr × Obj)) (s : Shared), Inv X pins σ H s →
  wpAny (model X.prog X.w) X.A (eval iter X.env) (fun v s1 => wpAny (model X.prog X.w) X.A (pyIter v) (PIE X pins σ tg R) X.xe s1) X.xe s
theorem pi_wi {X : Cx} {tg iter : Expr} : PI X tg iter (WI X tg iter) := ⟨fun pins s _ _ _ I h => h pins s I⟩
theorem wi_of {X : Cx} {tg iter : Expr} {t : TI} {σ : St} {H : Hp} {R : It → Hp → Prop} (h : PI X tg iter t) (q : t σ H R) : WI X tg iter σ H R := fun pins s I => h.run pins s σ H R I q
section
variable {α β γ δ : Type} [Enc α] [Enc β] [Enc γ] [Enc δ] {X : Cx} {σ : St} {s t : S} {e a b c tg : Expr} {es : List Expr} {pos p0 p1 p2 p3 : Pos}
structure Walk (K : PySem.W.Frag) (F : Hp) (J : It) (xs : List α) : Prop where
  go : ∀ (i : Nat) (t : S) (x : α), Fle F t.F → xs[i]? = some x → J.go i t.H ∧ ∀ v H', J.yld i t.H v H' → ∃ t' : S, t'.H = H' ∧ Ex t t' ∧ rep K t'.F v x
  stop : ∀ (i : Nat) (t : S), Fle F t.F → xs.length ≤ i → J.stop i t.H
def EvI (X : Cx) (tg e : Expr) (σ : St) (s : S) (xs : List α) : Prop := ∀ s1, Ex s s1 → ∀ R : It → Hp → Prop, (∀ J s2, Ex s1 s2 → Walk X.K s2.F J xs → R J s2.H) → WI X tg e σ s1.H R
theorem ei_list {xs : List α} (h : Ev X e σ s xs) : EvI X tg e σ s xs := fun s1 k R q =>
  wi_of (pi_list pe_we) (h s1 k _ fun v s2 k2 r2 => by
    obtain ⟨p, vs, rfl, h1, h2⟩ := r2
    refine ⟨p, rfl, ⟨vs, sql_mono s2.sub h1⟩, q _ s2 k2 ⟨fun i t x f hx => ?_, fun i t f hi => ⟨vs, sql_mono t.sub (sql_mono f h1), by rw [h2.len]; exact hi⟩⟩⟩
    obtain ⟨v, h3, h4⟩ := h2.get hx
    refine ⟨⟨vs, v, sql_mono t.sub (sql_mono f h1), h3⟩, fun w H' ⟨e1, hy⟩ => ⟨t, e1.symm, Ex.refl _, ?_⟩⟩
    have := hy vs (sql_mono t.sub (sql_mono f h1))
    rw [h3] at this
    cases this
    exact Enc.mono f h4)
theorem ei_tup {xs : Tu α} (h : Ev X e σ s xs) : EvI X tg e σ s xs.l := fun s1 k R q =>
  wi_of (pi_tup pe_we) (h s1 k _ fun v s2 k2 r2 => by
    obtain ⟨p, vs, rfl, h1, h2⟩ := r2
    refine ⟨p, rfl, ⟨vs, sqt_mono s2.sub h1⟩, q _ s2 k2 ⟨fun i t x f hx => ?_, fun i t f hi => ⟨vs, sqt_mono t.sub (sqt_mono f h1), by rw [h2.len]; exact hi⟩⟩⟩
    obtain ⟨v, h3, h4⟩ := h2.get hx
    refine ⟨⟨vs, v, sqt_mono t.sub (sqt_mono f h1), h3⟩, fun w H' ⟨e1, hy⟩ => ⟨t, e1.symm, Ex.refl _, ?_⟩⟩
    have := hy vs (sqt_mono t.sub (sqt_mono f h1))
    rw [h3] at this
    cases this
    exact Enc.mono f h4)
theorem rng_get {a b : Int} {i : Nat} {x : Int} (h : (rng a b)[i]? = some x) : i < (b - a).toNat ∧ x = a + (i : Int) := by
  unfold rng at h
  rw [List.getElem?_map] at h
  obtain ⟨j, h1, rfl⟩ := Option.map_eq_some_iff.mp h
  obtain ⟨h2, h3⟩ := List.getElem?_eq_some_iff.mp h1
  rw [List.length_range] at h2
  rw [List.getElem_range] at h3
  subst h3
  exact ⟨h2, rfl⟩
theorem rng_len (a b : Int) : (rng a b).length = (b - a).toNat := by unfold rng; rw [List.length_map, List.length_range]
theorem walk_rng {K : PySem.W.Frag} {F : Hp} {a b : Int} : Walk K F (Itr a (b - a).toNat) (rng a b) :=
  ⟨fun i t x f hx => ⟨(rng_get hx).1, fun v H' ⟨e1, e2⟩ => ⟨t, e1.symm, Ex.refl _, by rw [e2, (rng_get hx).2]; rfl⟩⟩, fun i t f hi => by rw [rng_len] at hi; exact hi⟩
def RgB (x : Int) : Prop := -(2 ^ 62) ≤ x ∧ x < 2 ^ 62
theorem ei_range1 {n : Int} (hm : X.mg "range" = none) (h : Ev X e σ s n) (hb : RgB n) (hg : Gl X "range" := by rfl) (hs : starEach [e] X.env = [(false, eval e X.env)] := by rfl) (hs2 : starEach [e] X.env = (false, eval e X.env) :: starEach [] X.env := by rfl) :
    EvI X tg (.Call (.Name "range" p0) [e] [] pos) σ s (rng 0 n) := fun s1 k R q =>
  wi_of (pi_range1 hg hm (pa_cons pe_we pa_nil hs2) hs) (h s1 k _ fun v s2 k2 r2 => ⟨n, by rw [show v = V.int n from r2], hb.1, hb.2, q _ s2 k2 (by
    have := walk_rng (K := X.K) (F := s2.F) (a := 0) (b := n)
    rw [Int.sub_zero] at this
    exact this)⟩)
theorem ei_range2 {m n : Int} (hm : X.mg "range" = none) (ha : Ev X a σ s m) (hb : Ev X b σ s n) (h1 : RgB m) (h2 : RgB n) (hg : Gl X "range" := by rfl) (hs : starEach [a, b] X.env = [(false, eval a X.env), (false, eval b X.env)] := by rfl) (hs2 : starEach [b] X.env = [(false, eval b X.env)] := by rfl)
    (hs3 : starEach [a, b] X.env = (false, eval a X.env) :: starEach [b] X.env := by rfl) (hs4 : starEach [b] X.env = (false, eval b X.env) :: starEach [] X.env := by rfl) :
    EvI X tg (.Call (.Name "range" p0) [a, b] [] pos) σ s (rng m n) := fun s1 k R q =>
  wi_of (pi_range2 hg hm (pa_cons pe_we (pa_cons pe_we pa_nil hs4) hs3) hs hs2) (ha s1 k _ fun v s2 k2 r2 => hb s2 (k.trans k2) _ fun u s3 k3 r3 => ⟨m, n, by rw [show v = V.int m from r2, show u = V.int n from r3], ⟨h1.1, h1.2, h2.1, h2.2⟩, q _ s3 (k2.trans k3) walk_rng⟩)
def chars (x : Str) : List Str := x.cps.toList.map fun c => ⟨#[c]⟩
theorem ei_str {x : Str} (h : Ev X e σ s x) : EvI X tg e σ s (chars x) := fun s1 k R q =>
  wi_of (pi_str pe_we) (h s1 k _ fun v s2 k2 r2 => ⟨x, r2, q _ s2 k2 ⟨fun i t y f hy => by
    unfold chars at hy
    rw [List.getElem?_map] at hy
    obtain ⟨c, h1, rfl⟩ := Option.map_eq_some_iff.mp hy
    have h1' : x.cps[i]? = some c := by simpa using h1
    refine ⟨?_, fun v H' ⟨e1, d, h2, h3⟩ => ⟨t, e1.symm, Ex.refl _, ?_⟩⟩
    · obtain ⟨z, _⟩ := Array.getElem?_eq_some_iff.mp h1'
      exact z
    · rw [h1'] at h2
      cases h2
      exact h3, fun i t f hi => by
    unfold chars at hi
    rw [List.length_map, Array.length_toList] at hi
    exact hi⟩⟩)
end

structure Tgt {α : Type} [Enc α] (K : PySem.W.Frag) (g : TG) (B : Hp → α → St → St → Prop) : Prop where
  run : ∀ (t : S) (v : V) (x : α) (σ : St) (Q : St → Hp → Prop), rep K t.F v x → (∀ σ2, B t.F x σ σ2 → Q σ2 t.H) → g v σ t.H Q
def BN {α : Type} [Enc α] (K : PySem.W.Frag) (j : Nat) : Hp → α → St → St → Prop := fun F x σ σ2 => ∃ v, rep K F v x ∧ σ2 = σ.set j (some v)
def B2 {α β : Type} [Enc α] [Enc β] (K : PySem.W.Frag) (i j : Nat) : Hp → α × β → St → St → Prop := fun F x σ σ2 => ∃ v w, rep K F v x.1 ∧ rep K F w x.2 ∧ σ2 = (σ.set i (some v)).set j (some w)
def B3 {α β γ : Type} [Enc α] [Enc β] [Enc γ] (K : PySem.W.Frag) (i j k : Nat) : Hp → T3 α β γ → St → St → Prop := fun F x σ σ2 => ∃ v w u, rep K F v x.a ∧ rep K F w x.b ∧ rep K F u x.c ∧ σ2 = ((σ.set i (some v)).set j (some w)).set k (some u)
theorem tg_n {α : Type} [Enc α] {K : PySem.W.Frag} {j : Nat} : Tgt (α := α) K (gName j) (BN K j) := ⟨fun t v x σ Q r h => h _ ⟨v, r, rfl⟩⟩
theorem tg_2 {α β : Type} [Enc α] [Enc β] {K : PySem.W.Frag} {i j : Nat} : Tgt (α := α × β) K (gTup K 2 (gCons (gName i) (gCons (gName j) gNil))) (B2 K i j) := ⟨fun t v x σ Q r h => by
  obtain ⟨p, v1, v2, rfl, h0, h1, h2⟩ := r
  exact ⟨p, _, rfl, sqt_mono t.sub h0, rfl, v1, _, rfl, v2, _, rfl, rfl, h _ ⟨v1, v2, h1, h2, rfl⟩⟩⟩
theorem tg_3 {α β γ : Type} [Enc α] [Enc β] [Enc γ] {K : PySem.W.Frag} {i j k : Nat} : Tgt (α := T3 α β γ) K (gTup K 3 (gCons (gName i) (gCons (gName j) (gCons (gName k) gNil)))) (B3 K i j k) := ⟨fun t v x σ Q r h => by
  obtain ⟨p, v1, v2, v3, rfl, h0, h1, h2, h3⟩ := r
  exact ⟨p, _, rfl, sqt_mono t.sub h0, rfl, v1, _, rfl, v2, _, rfl, v3, _, rfl, rfl, h _ ⟨v1, v2, v3, h1, h2, h3, rfl⟩⟩⟩

section
variable {α β : Type} [Enc α] [Enc β] {X : Cx} {σ : St} {s : S} {elt tg iter c : Expr} {ifs : List Expr} {scope : Scope} {own : List (Str × Nat)} {pos : Pos}
abbrev Blk (X : Cx) (scope : Scope) (s0 : Shared) (H0 : Hp) (C : Addr) (cl : List (Str × Addr)) (fp : List Addr) : Cx := X.blk s0 H0 scope (compEnvC scope cl C X.env) fp
theorem comp_read {xs : List α} {ys : List β} {t : α → Option Bool} {f : α → Option β} {g : TG} {B : Hp → α → St → St → Prop} {tt : TT} (hc : X.calm = true) (hN : X.N.Nodup) (hi : EvI X tg iter σ s xs) (ok : BlkOk X.N X.env.scope scope own)
    (hg : ∀ s0 H0 C cl fp, PG (Blk X scope s0 H0 C cl fp) tg g) (T : Tgt (α := α) X.K g B) (htt : ∀ s0 H0 C cl fp, PTs (Blk X scope s0 H0 C cl fp) ifs tt) (hf : compO t f xs = some ys) (hz : ys.length ≤ sizeLine)
    (hw : ∀ (F : Hp) (x : α) σ2, B F x (wipe σ (own.map (·.2))) σ2 → wipe σ2 (own.map (·.2)) = wipe σ (own.map (·.2)))
    (ht : ∀ (x : α) (b : Bool) (s1 : S) (σ2 : St) (Q : Bool → Hp → Prop), x ∈ xs → Ex s s1 → B s1.F x (wipe σ (own.map (·.2))) σ2 → t x = some b → (∀ s2, Ex s1 s2 → Q b s2.H) → tt σ2 s1.H Q)
    (he : ∀ (x : α) (y : β) (s1 : S) (σ2 : St), x ∈ xs → Ex s s1 → B s1.F x (wipe σ (own.map (·.2))) σ2 → t x = some true → f x = some y → ∀ s0 H0 C cl fp, Ev (Blk X scope s0 H0 C cl fp) elt σ2 s1 y)
    (s1 : S) (k : Ex s s1) (Q : VK) (q : ∀ p s2, Ex s1 s2 → s1.H p = none → Own X.K s2 p ys → Q (.ref p) s2.H) : tLc (WI X tg iter) g tt (fun σ H Q => ∀ s0 H0 C cl fp, WE (Blk X scope s0 H0 C cl fp) elt σ H Q) (own.map (·.2)) σ s1.H Q := by
  refine hi s1 k _ fun J s2 k2 W => ?_
  intro D hD
  refine ⟨fun i m H => ∃ (u : S) (pre : List β) (vs : List V), u.H = H ∧ m = xs.length - i ∧ Ex s2 u ∧ u.F D = none ∧ u.H D = some (.lst vs) ∧ Reps X.K u.F vs pre ∧ (∃ suf, compO t f (xs.drop i) = some suf ∧ pre ++ suf = ys), ⟨xs.length, s2.newO D (.lst []) hD, [], [], rfl, rfl, Ex.newO hD, (fF hD : s2.F D = none), upd_same, trivial, ys, hf, rfl⟩, ?_⟩
  rintro i m H ⟨u, pre, vs, rfl, rfl, ku, n1, n2, n3, suf, h1, h2⟩
  by_cases hi' : i < xs.length
  · right
    have hx : xs[i]? = some xs[i] := List.getElem?_eq_getElem hi'
    obtain ⟨g1, g2⟩ := W.go i u xs[i] ku.f hx
    refine ⟨g1, fun H' => ∃ m', m' < xs.length - i ∧ ∃ (u : S) (pre : List β) (vs : List V), u.H = H' ∧ m' = xs.length - (i + 1) ∧ Ex s2 u ∧ u.F D = none ∧ u.H D = some (.lst vs) ∧ Reps X.K u.F vs pre ∧ (∃ suf, compO t f (xs.drop (i + 1)) = some suf ∧ pre ++ suf = ys), fun H' z => z, fun v H' hy => ?_⟩
    obtain ⟨u', rfl, ku', rv⟩ := g2 v H' hy
    refine T.run u' v xs[i] _ _ rv fun σ2 hB => ⟨hw _ _ _ hB, ?_⟩
    rw [List.drop_eq_getElem_cons hi'] at h1
    unfold compO at h1
    cases hb : t xs[i] with
    | none => rw [hb] at h1; cases h1
    | some b =>
      rw [hb, Option.bind_some] at h1
      have mem : xs[i] ∈ xs := List.getElem_mem hi'
      have base : Ex s u' := (k.trans k2).trans (ku.trans ku')
      refine ht xs[i] b u' σ2 _ mem base hB hb fun u3 k3 => ?_
      have hlt : xs.length - (i + 1) < xs.length - i := by omega
      have kk : Ex u u3 := ku'.trans k3
      cases b with
      | false =>
        rw [if_neg Bool.false_ne_true] at h1 ⊢
        exact ⟨_, hlt, u3, pre, vs, rfl, rfl, ku.trans kk, kk.n _ _ n2 n1, kk.h _ _ n2, n3.mono kk.f, suf, h1, h2⟩
      | true =>
        rw [if_pos rfl] at h1 ⊢
        cases hfx : f xs[i] with
        | none => rw [hfx] at h1; cases h1
        | some y =>
          rw [hfx, Option.bind_some] at h1
          cases hr : compO t f (xs.drop (i + 1)) with
          | none => rw [hr] at h1; cases h1
          | some suf' =>
            rw [hr] at h1
            cases h1
            intro s0 H0 C cl fp
            refine he xs[i] y u' σ2 mem base hB hb hfx s0 H0 C cl fp u3 k3 _ fun w u4 k4 r4 => ?_
            have k5 : Ex u u4 := kk.trans k4
            have hD4 : u4.H D = some (.lst vs) := k5.h _ _ n2
            have hF4 : u4.F D = none := k5.n _ _ n2 n1
            have hlen : vs.length < sizeLine := by
              have e1 := n3.len
              have e2 : ys.length = pre.length + (suf'.length + 1) := by rw [← h2, List.length_append, List.length_cons]
              omega
            refine ⟨vs, hD4, hlen, _, hlt, u4.put D (.lst (vs ++ [w])) hF4, pre ++ [y], vs ++ [w], rfl, rfl, (ku.trans k5).mu1 (Mx.put hF4) hD, hF4, upd_same, (n3.mono k5.f).snoc r4, suf', rfl, by rw [List.append_assoc]; exact h2⟩
  · left
    have hd : xs.drop i = [] := List.drop_eq_nil_of_le (by omega)
    rw [hd] at h1
    cases h1
    refine ⟨W.stop i u ku.f (by omega), q D u (k2.trans ku) (fr_back k2 hD) ⟨n1, vs, n2, ?_⟩⟩
    rw [← h2, List.append_nil]
    exact n3
structure EvL (X : Cx) (elt tg iter : Expr) (ifs : List Expr) (scope : Scope) (σ : St) (s : S) (ys : List β) : Prop where
  calm : X.calm = true
  nd : X.N.Nodup
  fs : ∀ x, foldedSetIterable iter X.env x = pure x
  ex : ∃ (own : List (Str × Nat)) (g : TG) (tt : TT), BlkOk X.N X.env.scope scope own ∧ (∀ s0 H0 C cl fp, PG (Blk X scope s0 H0 C cl fp) tg g) ∧ (∀ s0 H0 C cl fp, PTs (Blk X scope s0 H0 C cl fp) ifs tt) ∧
    ∀ s1, Ex s s1 → ∀ Q : VK, (∀ p s2, Ex s1 s2 → s1.H p = none → Own X.K s2 p ys → Q (.ref p) s2.H) → tLc (WI X tg iter) g tt (fun σ H Q => ∀ s0 H0 C cl fp, WE (Blk X scope s0 H0 C cl fp) elt σ H Q) (own.map (·.2)) σ s1.H Q
theorem EvL.n {ys : List β} (h : EvL X elt tg iter ifs scope σ s ys) : EvN X (.ListComp elt [⟨tg, iter, ifs, 0⟩] scope pos) σ s ys := fun s1 k Q q => by
  obtain ⟨own, g, tt, h1, h2, h3, h4⟩ := h.ex
  exact we_of (pe_lc h.calm h.nd pi_wi h1 h2 h3 (fun s0 H0 C cl fp => ⟨fun pins s _ _ _ I h => h s0 H0 C cl fp pins s I⟩) h.fs) (h4 s1 k Q q)
theorem do_setL (i : Nat) {ys : List β} {n : Str} {py : Pos} {rest : List Stmt} {D : Ends} {spos : Pos} (h : EvL X elt tg iter ifs scope σ s ys) (k : ∀ p s1, Ex s s1 → s.H p = none → Own X.K s1 p ys → WSs X rest D (σ.set i (some (.ref p))) s1.H) (hk : X.env.scope.kind = .function) (hy : X.env.scope.names.lookup n = some .local)
    (hl : (py.line == pos.line) = true := by rfl) (ha : (scope.names.any fun (m, k) => m == n && (k == .local || k == .cell)) = false := by decide +kernel) (hi : X.N[i]? = some n := by rfl) :
    WSs X (.Assign [.Name n py] (.ListComp elt [⟨tg, iter, ifs, 0⟩] scope pos) spos :: rest) D σ s.H := by
  obtain ⟨own, g, tt, h1, h2, h3, h4⟩ := h.ex
  exact ws_of (pss_cons (ps_setLc (te := fun σ H Q => ∀ s0 H0 C cl fp, WE (Blk X scope s0 H0 C cl fp) elt σ H Q) h.calm h.nd hi hy (sw_true hk hy hl ha) pi_wi h1 h2 h3 (fun s0 H0 C cl fp => ⟨fun pins s _ _ _ I h => h s0 H0 C cl fp pins s I⟩) h.fs) pss_ws) (h4 s (Ex.refl _) (fun x H1 => WSs X rest D (σ.set i (some x)) H1) fun p s2 k2 n2 o2 => k p s2 k2 n2 o2)
theorem wipe_set {τ : St} {j : Nat} {o : Option V} : ∀ {vs : List Nat}, j ∈ vs → wipe (τ.set j o) vs = wipe τ vs
  | v :: vs, h => by
    show (wipe (τ.set j o) vs).set v none = (wipe τ vs).set v none
    by_cases e : j ∈ vs
    · rw [wipe_set e]
    · have : j = v := by
        rcases List.mem_cons.mp h with z | z
        · exact z
        · exact absurd z e
      subst this
      have : ∀ {ws : List Nat} {τ : St}, j ∉ ws → wipe (τ.set j o) ws = (wipe τ ws).set j o := by
        intro ws
        induction ws with
        | nil => intro τ _; rfl
        | cons a r ih =>
          intro τ h
          show (wipe (τ.set j o) r).set a none = ((wipe τ r).set a none).set j o
          rw [ih fun z => h (List.mem_cons_of_mem _ z), List.set_comm _ _ (fun z => h (by rw [z]; exact List.mem_cons_self))]
      rw [this e, List.set_set]
theorem wipe_wipe {τ : St} : ∀ {vs ws : List Nat}, (∀ v ∈ vs, v ∈ ws) → wipe (wipe τ vs) ws = wipe τ ws
  | [], _, _ => rfl
  | v :: vs, ws, h => by
    show wipe ((wipe τ vs).set v none) ws = wipe τ ws
    rw [wipe_set (h v List.mem_cons_self)]
    exact wipe_wipe fun u hu => h u (List.mem_cons_of_mem _ hu)
theorem en_comp0 {xs : List α} {ys : List β} {f : α → Option β} {j : Nat} {n : Str} {py : Pos} (hc : X.calm = true) (hN : X.N.Nodup) (hi : EvI X (.Name n py) iter σ s xs) (ok : BlkOk X.N X.env.scope scope own) (hj : X.N[j]? = some n)
    (hjo : j ∈ own.map (·.2)) (hg : ∀ s0 H0 C cl fp, PG (Blk X scope s0 H0 C cl fp) (.Name n py) (gName j)) (hf : mapO f xs = some ys) (hz : ys.length ≤ sizeLine)
    (he : ∀ (x : α) (y : β) (v : V) (s1 : S), x ∈ xs → Ex s s1 → rep X.K s1.F v x → f x = some y → ∀ s0 H0 C cl fp, Ev (Blk X scope s0 H0 C cl fp) elt ((wipe σ (own.map (·.2))).set j (some v)) s1 y)
    (hs : ∀ x, foldedSetIterable iter X.env x = pure x := by intro _; rfl) : EvL X elt (.Name n py) iter [] scope σ s ys :=
  ⟨hc, hN, hs, own, _, _, ok, hg, fun _ _ _ _ _ => pts_nil, fun s1 k Q q => comp_read (t := fun _ => some true) hc hN hi ok hg tg_n (fun _ _ _ _ _ => pts_nil) hf hz (fun F x σ2 ⟨v, _, e⟩ => by rw [e, wipe_set hjo]; exact wipe_wipe fun _ z => z)
    (fun x b s1 σ2 Q _ _ _ hb q => by cases hb; exact q s1 (Ex.refl _)) (fun x y s1 σ2 hx k ⟨v, r, e⟩ _ hfx => by subst e; exact he x y v s1 hx k r hfx) s1 k Q q⟩
theorem en_comp1 {xs : List α} {ys : List β} {t : α → Option Bool} {f : α → Option β} {j : Nat} {n : Str} {py : Pos} (hc : X.calm = true) (hN : X.N.Nodup) (hi : EvI X (.Name n py) iter σ s xs) (ok : BlkOk X.N X.env.scope scope own) (hj : X.N[j]? = some n)
    (hjo : j ∈ own.map (·.2)) (hg : ∀ s0 H0 C cl fp, PG (Blk X scope s0 H0 C cl fp) (.Name n py) (gName j)) (hf : compO t f xs = some ys) (hz : ys.length ≤ sizeLine)
    (ht : ∀ (x : α) (b : Bool) (v : V) (s1 : S), x ∈ xs → Ex s s1 → rep X.K s1.F v x → t x = some b → ∀ s0 H0 C cl fp, EvT (Blk X scope s0 H0 C cl fp) c ((wipe σ (own.map (·.2))).set j (some v)) s1 b)
    (he : ∀ (x : α) (y : β) (v : V) (s1 : S), x ∈ xs → Ex s s1 → rep X.K s1.F v x → t x = some true → f x = some y → ∀ s0 H0 C cl fp, Ev (Blk X scope s0 H0 C cl fp) elt ((wipe σ (own.map (·.2))).set j (some v)) s1 y)
    (hs : ∀ x, foldedSetIterable iter X.env x = pure x := by intro _; rfl) : EvL X elt (.Name n py) iter [c] scope σ s ys :=
  ⟨hc, hN, hs, own, _, _, ok, hg, fun s0 H0 C cl fp => pts_one ⟨fun pins s _ _ _ I h => h s0 H0 C cl fp pins s I⟩, fun s1 k Q q => comp_read (tt := fun σ H Q => ∀ s0 H0 C cl fp, WT (Blk X scope s0 H0 C cl fp) c σ H Q) hc hN hi ok hg tg_n (fun s0 H0 C cl fp => pts_one ⟨fun pins s _ _ _ I h => h s0 H0 C cl fp pins s I⟩) hf hz (fun F x σ2 ⟨v, _, e⟩ => by rw [e, wipe_set hjo]; exact wipe_wipe fun _ z => z)
    (fun x b s1 σ2 Q hx k ⟨v, r, e⟩ hb q => by subst e; intro s0 H0 C cl fp; exact ht x b v s1 hx k r hb s0 H0 C cl fp s1 (Ex.refl _) Q q) (fun x y s1 σ2 hx k ⟨v, r, e⟩ htx hfx => by subst e; exact he x y v s1 hx k r htx hfx) s1 k Q q⟩
end
end Dy

namespace Dy
open PySem PySem.Spec L2
open PyProof.Rows hiding St
open Enc (rep)
open Flat (toV)
open EncA (repA)

abbrev MD (D : Ends) (M : St → S → Prop) : Ends := { D with nx := fun σ H => ∃ s : S, s.H = H ∧ M σ s }
abbrev ND (D : Ends) : Ends := { D with nx := fun _ _ => False }
abbrev LD (D : Ends) (M : St → S → Prop) : Ends := { nx := fun σ H => ∃ s : S, s.H = H ∧ M σ s, rt := D.rt }
abbrev RD (Q : VK) : Ends := { nx := fun _ H' => Q .non H', rt := Q }
section
variable {α β γ δ : Type} [Enc α] [Enc β] [Enc γ] [Enc δ] {X : Cx} {σ : St} {s t : S} {e a b c tg iter : Expr} {es : List Expr} {pos p0 p1 p2 p3 : Pos} {D : Ends} {rest A B : List Stmt}
theorem do_nil (h : D.nx σ s.H) : WSs X [] D σ s.H := ws_of pss_nil h
theorem do_cons {st : Stmt} {ts : TS} (h : PS X st ts) (q : ts { D with nx := fun σ' H' => WSs X rest D σ' H' } σ s.H) : WSs X (st :: rest) D σ s.H := ws_of (pss_cons h pss_ws) q
theorem do_set (i : Nat) {x : α} {n : Str} {py : Pos} (h : Ev X e σ s x) (k : ∀ v s1, Ex s s1 → rep X.K s1.F v x → WSs X rest D (σ.set i (some v)) s1.H) (hN : X.N.Nodup) (hx : Loc X.env.scope n := by first | exact Or.inl rfl | exact Or.inr rfl) (hi : X.N[i]? = some n := by rfl)
    (hs : swapsWith e (some (.Name n py)) pos.line X.env = pure false := by rfl) (hf : X.fn n = true ∨ X.env.scope.names.lookup n = some .local := by first | exact .inl rfl | exact .inr rfl) : WSs X (.Assign [.Name n py] e pos :: rest) D σ s.H :=
  do_cons (ps_set hN hi hx pe_we hs hf) (h s (Ex.refl _) _ fun v s1 k1 r => k v s1 k1 r)
theorem do_setN (i : Nat) {xs : List α} {n : Str} {py : Pos} (h : EvN X e σ s xs) (k : ∀ p s1, Ex s s1 → s.H p = none → Own X.K s1 p xs → WSs X rest D (σ.set i (some (.ref p))) s1.H) (hN : X.N.Nodup) (hx : Loc X.env.scope n := by first | exact Or.inl rfl | exact Or.inr rfl) (hi : X.N[i]? = some n := by rfl)
    (hs : swapsWith e (some (.Name n py)) pos.line X.env = pure false := by rfl) (hf : X.fn n = true ∨ X.env.scope.names.lookup n = some .local := by first | exact .inl rfl | exact .inr rfl) : WSs X (.Assign [.Name n py] e pos :: rest) D σ s.H :=
  do_cons (ps_set hN hi hx pe_we hs hf) (h s (Ex.refl _) _ fun v s1 k1 n1 r => k v s1 k1 n1 r)
theorem do_ret {x : α} (h : Ev X e σ s x) (k : ∀ v s1, Ex s s1 → rep X.K s1.F v x → D.rt v s1.H) : WSs X (.Return (some e) pos :: rest) D σ s.H :=
  do_cons (ps_ret pe_we) (h s (Ex.refl _) _ fun v s1 k1 r => k v s1 k1 r)
theorem do_retN {xs : List α} (h : EvN X e σ s xs) (k : ∀ p s1, Ex s s1 → s.H p = none → Own X.K s1 p xs → D.rt (.ref p) s1.H) : WSs X (.Return (some e) pos :: rest) D σ s.H :=
  do_cons (ps_ret pe_we) (h s (Ex.refl _) _ fun v s1 k1 n1 r => k v s1 k1 n1 r)
theorem do_retO (i : Nat) {p : Addr} {n : Str} (h : σ[i]? = some (some (.ref p))) (k : D.rt (.ref p) s.H) (hN : X.N[i]? = some n := by rfl) (hv : Vis X.env.scope n := by first | exact Or.inl rfl | exact Or.inr (Or.inl rfl) | exact Or.inr (Or.inr rfl)) (hd : (n == ("__debug__" : Str)) = false := by decide)
    (hcd : (n == ("__classdict__" : Str)) = false := by decide) : WSs X (.Return (some (.Name n p0)) pos :: rest) D σ s.H :=
  do_cons (ps_ret (pe_var hN hv hd hcd)) ⟨_, h, k⟩
theorem do_if {x : Bool} (hc : EvT X c σ s x) (M : St → S → Prop) (h1 : x = true → ∀ s1, Ex s s1 → WSs X A (MD D M) σ s1.H) (h2 : x = false → ∀ s1, Ex s s1 → WSs X B (MD D M) σ s1.H)
    (h3 : ∀ σ' s', M σ' s' → WSs X rest D σ' s'.H) : WSs X (.If c A B pos :: rest) D σ s.H :=
  do_cons (ps_if pt_wt pss_ws pss_ws) (hc s (Ex.refl _) _ fun s1 k => by
    cases x with
    | true => exact iteT ((h1 rfl s1 k).imp (fun σ' H' ⟨s', e, m⟩ => e ▸ h3 σ' s' m) (fun _ _ q => q) (fun _ _ q => q) fun _ _ q => q)
    | false => exact iteF ((h2 rfl s1 k).imp (fun σ' H' ⟨s', e, m⟩ => e ▸ h3 σ' s' m) (fun _ _ q => q) (fun _ _ q => q) fun _ _ q => q))
theorem do_ifR {x : Bool} (hc : EvT X c σ s x) (h1 : x = true → ∀ s1, Ex s s1 → WSs X A (ND D) σ s1.H) (h2 : x = false → ∀ s1, Ex s s1 → WSs X rest D σ s1.H) : WSs X (.If c A [] pos :: rest) D σ s.H :=
  do_cons (ps_if pt_wt pss_ws pss_nil) (hc s (Ex.refl _) _ fun s1 k => by
    cases x with
    | true => exact iteT ((h1 rfl s1 k).imp (fun _ _ z => z.elim) (fun _ _ q => q) (fun _ _ q => q) fun _ _ q => q)
    | false => exact iteF (h2 rfl s1 k))
theorem do_ifRR {x : Bool} (hc : EvT X c σ s x) (h1 : x = true → ∀ s1, Ex s s1 → WSs X A (ND D) σ s1.H) (h2 : x = false → ∀ s1, Ex s s1 → WSs X B (ND D) σ s1.H) : WSs X (.If c A B pos :: rest) D σ s.H :=
  do_cons (ps_if pt_wt pss_ws pss_ws) (hc s (Ex.refl _) _ fun s1 k => by
    cases x with
    | true => exact iteT ((h1 rfl s1 k).imp (fun _ _ z => z.elim) (fun _ _ q => q) (fun _ _ q => q) fun _ _ q => q)
    | false => exact iteF ((h2 rfl s1 k).imp (fun _ _ z => z.elim) (fun _ _ q => q) (fun _ _ q => q) fun _ _ q => q))

theorem st_set {l : St} {i : Nat} {v : V} (h : l[i]? = some (some v)) : l[i]? = some (some v) := h
theorem do_append (i : Nat) {p : Addr} {n : Str} {xs : List α} {x : α} (hσ : σ[i]? = some (some (.ref p))) (o : Own X.K s p xs) (he : Ev X e σ s x) (hz : xs.length < sizeLine)
    (k : ∀ s1, Mx (· = p) s s1 → Own X.K s1 p (xs ++ [x]) → WSs X rest D σ s1.H)
    (hN : X.N[i]? = some n := by rfl) (hv : Vis X.env.scope n := by first | exact Or.inl rfl | exact Or.inr (Or.inl rfl) | exact Or.inr (Or.inr rfl)) (hd : (n == ("__debug__" : Str)) = false := by decide) (hcd : (n == ("__classdict__" : Str)) = false := by decide)
    (hbase : attributeBase (.Name n p0) "append" X.env (eval (.Name n p0) X.env) = eval (.Name n p0) X.env := by rfl)
    (hfew : ((backTo p2 (starEach [e] X.env)).all (fun x => !x.1) && (backToKw p2 (keywordEach [] X.env)).all (fun x => x.1.isSome) && decide (([e] : List Expr).length + ([] : List Keyword).length + (if ([] : List Keyword).isEmpty then 0 else 1) < 30)) = true := by rfl)
    (hline : (p1.endLine == p2.line) = true := by rfl) (hs : starEach [e] X.env = (false, eval e X.env) :: starEach [] X.env := by rfl) (hplain : (backTo p2 (starEach [] X.env)).any (·.1) = false := by rfl)
    (hsw : swapsWith (.Call (.Attribute (.Name n p0) "append" p1) [e] [] p2) none p3.line X.env = pure false := by rfl) :
    WSs X (.Expr (.Call (.Attribute (.Name n p0) "append" p1) [e] [] p2) p3 :: rest) D σ s.H :=
  do_cons (ps_expr (pe_bm PySem.F.plainAttrs_list PySem.F.slot_list_append PySem.F.type_list_append mt_append (pe_var hN hv hd hcd) (pa_cons pe_we pa_nil hs) hbase hfew hline hs hplain) hsw) (by
    obtain ⟨h1, vs, h2, h3⟩ := id o
    refine ⟨_, hσ, .inl ⟨rfl, vs, .inl (.inl h2)⟩, he s (Ex.refl _) _ fun v s1 k1 r1 => ?_⟩
    have f1 := k1.n _ _ h2 h1
    have g1 := k1.h _ _ h2
    refine ⟨p, vs, v, rfl, rfl, g1, by rw [h3.len]; exact hz, ?_⟩
    exact k (s1.put p (.lst (vs ++ [v])) f1) (k1.mx.trans (Mx.put f1)) ⟨f1, _, upd_same, (h3.mono k1.f).snoc r1⟩)
theorem do_extend (i : Nat) {p : Addr} {n : Str} {xs ys : List α} (hσ : σ[i]? = some (some (.ref p))) (o : Own X.K s p xs) (he : EvN X e σ s ys) (hz : xs.length + ys.length ≤ sizeLine)
    (k : ∀ s1, Mx (· = p) s s1 → Own X.K s1 p (xs ++ ys) → WSs X rest D σ s1.H)
    (hN : X.N[i]? = some n := by rfl) (hv : Vis X.env.scope n := by first | exact Or.inl rfl | exact Or.inr (Or.inl rfl) | exact Or.inr (Or.inr rfl)) (hd : (n == ("__debug__" : Str)) = false := by decide) (hcd : (n == ("__classdict__" : Str)) = false := by decide)
    (hbase : attributeBase (.Name n p0) "extend" X.env (eval (.Name n p0) X.env) = eval (.Name n p0) X.env := by rfl)
    (hfew : ((backTo p2 (starEach [e] X.env)).all (fun x => !x.1) && (backToKw p2 (keywordEach [] X.env)).all (fun x => x.1.isSome) && decide (([e] : List Expr).length + ([] : List Keyword).length + (if ([] : List Keyword).isEmpty then 0 else 1) < 30)) = true := by rfl)
    (hline : (p1.endLine == p2.line) = true := by rfl) (hs : starEach [e] X.env = (false, eval e X.env) :: starEach [] X.env := by rfl) (hplain : (backTo p2 (starEach [] X.env)).any (·.1) = false := by rfl)
    (hsw : swapsWith (.Call (.Attribute (.Name n p0) "extend" p1) [e] [] p2) none p3.line X.env = pure false := by rfl) :
    WSs X (.Expr (.Call (.Attribute (.Name n p0) "extend" p1) [e] [] p2) p3 :: rest) D σ s.H :=
  do_cons (ps_expr (pe_bm PySem.F.plainAttrs_list PySem.F.slot_list_extend PySem.F.type_list_extend mt_extend (pe_var hN hv hd hcd) (pa_cons pe_we pa_nil hs) hbase hfew hline hs hplain) hsw) (by
    obtain ⟨h1, vs, h2, h3⟩ := id o
    refine ⟨_, hσ, .inl ⟨rfl, vs, .inl (.inl h2)⟩, he s (Ex.refl _) _ fun q s1 k1 n1 o1 => ?_⟩
    obtain ⟨_, ws, h4, h5⟩ := o1
    have f1 := k1.n _ _ h2 h1
    have g1 := k1.h _ _ h2
    refine ⟨p, q, vs, ws, rfl, rfl, g1, h4, by rw [h3.len, h5.len]; exact hz, ?_⟩
    exact k (s1.put p (.lst (vs ++ ws)) f1) (k1.mx.trans (Mx.put f1)) ⟨f1, _, upd_same, (h3.mono k1.f).app h5⟩)
theorem do_setItem (i : Nat) {p : Addr} {n : Str} {xs : List α} {x : α} {z : Int} {j : Nat} (hσ : σ[i]? = some (some (.ref p))) (o : Own X.K s p xs) (he : Ev X e σ s x) (hi : Ev X a σ s z) (hj : ixN xs.length z = some j)
    (k : ∀ s1, Mx (· = p) s s1 → Own X.K s1 p (xs.set j x) → WSs X rest D σ s1.H)
    (hN : X.N[i]? = some n := by rfl) (hv : Vis X.env.scope n := by first | exact Or.inl rfl | exact Or.inr (Or.inl rfl) | exact Or.inr (Or.inr rfl)) (hd : (n == ("__debug__" : Str)) = false := by decide) (hcd : (n == ("__classdict__" : Str)) = false := by decide)
    (ha : ∀ v, assign (.Subscript (.Name n p0) a p1) X.env v = (do
      let ov ← holding [v] (eval (.Name n p0) X.env)
      let iv ← holding [v, ov] (eval a X.env)
      standAt p1
      holding [v, ov, iv] (setItem ov iv v)
      release [v, ov, iv] []) := by intro _; rfl)
    (hs : swapsWithSole [.Subscript (.Name n p0) a p1] e pos.line X.env = pure false := by rfl) (hw : swappedStores [.Subscript (.Name n p0) a p1] e X.env = pure none := by rfl)
    (h1 : (assignEach [.Subscript (.Name n p0) a p1] X.env).map (·.2) = [assign (.Subscript (.Name n p0) a p1) X.env] := by rfl) :
    WSs X (.Assign [.Subscript (.Name n p0) a p1] e pos :: rest) D σ s.H :=
  do_cons (ps_asg pe_we (pg_sub (pe_var hN hv hd hcd) pe_we set_list ha) hs hw h1) (by
    obtain ⟨f0, vs, h2, h3⟩ := id o
    refine he s (Ex.refl _) _ fun v s1 k1 r1 => ⟨_, hσ, hi s1 k1 _ fun u s2 k2 r2 => ?_⟩
    have k3 := k1.trans k2
    have f1 := k3.n _ _ h2 f0
    have g1 := k3.h _ _ h2
    refine ⟨p, vs, z, j, rfl, r2, g1, by rw [h3.len]; exact hj, ?_⟩
    exact k (s2.put p (.lst (vs.set j v)) f1) (k3.mx.trans (Mx.put f1)) ⟨f1, _, upd_same, (h3.mono k3.f).set j (Enc.mono k2.f r1)⟩)
theorem do_frz {p : Addr} {xs : List α} {ss : List Stmt} (o : Own X.K s p xs) (k : ∀ s' : S, s'.H = s.H → Fle s.F s'.F → (∀ q, q ≠ p → s'.F q = s.F q) → rep X.K s'.F (.ref p) xs → WSs X ss D σ s'.H) : WSs X ss D σ s.H := by
  obtain ⟨s', h1, h2, h3, h4⟩ := o.frz
  have := k s' h1 h2 h3 h4
  rw [h1] at this
  exact this

theorem foldO_drop {τ υ : Type} {f : υ → τ → Option υ} {b b1 : υ} {xs : List τ} {i : Nat} (hi : i < xs.length) (h : foldO f b (xs.drop i) = some b1) : ∃ b', f b xs[i] = some b' ∧ foldO f b' (xs.drop (i + 1)) = some b1 := by
  rw [List.drop_eq_getElem_cons hi] at h
  exact bndE h
theorem do_for_core {τ : Type} [Enc τ] {xs : List τ} {body : List Stmt} {g : TG} {B : Hp → τ → St → St → Prop} (hp : PassesOwn (model X.prog X.w) X.A X.env X.xe) (hc : X.calm = true) (hi : EvI X tg iter σ s xs) (hg : PG X tg g) (T : Tgt (α := τ) X.K g B)
    (R : Nat → St → S → Prop) (h0 : ∀ s1, Ex s s1 → R 0 σ s1)
    (hb : ∀ s1, Ex s s1 → ∀ (i : Nat) (x : τ) (σ' σ2 : St) (t t' : S), xs[i]? = some x → Fle s1.F t.F → R i σ' t → Ex t t' → B t'.F x σ' σ2 → WSs X body (LD D fun σ s => Fle t'.F s.F ∧ R (i + 1) σ s) σ2 t'.H)
    (hd : ∀ s1, Ex s s1 → ∀ σ' t, Fle s1.F t.F → R xs.length σ' t → WSs X rest D σ' t.H)
    (hs : ∀ x, foldedSetIterable iter X.env x = pure x := by intro _; rfl) : WSs X (.For tg iter body [] pos :: rest) D σ s.H :=
  do_cons (ps_for hp hc pi_wi hg pss_ws hs) (hi s (Ex.refl _) _ fun J s1 k1 W => by
    refine ⟨fun i m σ' H' => ∃ t : S, t.H = H' ∧ m = xs.length - i ∧ i ≤ xs.length ∧ Fle s1.F t.F ∧ R i σ' t, ⟨xs.length, s1, rfl, rfl, Nat.zero_le _, Fle.refl _, h0 s1 k1⟩, ?_⟩
    rintro i m σ' H' ⟨t, rfl, rfl, hle, f, r⟩
    by_cases hlt : i < xs.length
    · right
      obtain ⟨g1, g2⟩ := W.go i t xs[i] f (List.getElem?_eq_getElem hlt)
      refine ⟨g1, fun σ' H' => ∃ u : S, u.H = H' ∧ Fle s1.F u.F ∧ R (i + 1) σ' u, fun σ' H' ⟨u, e1, f1, r1⟩ => ⟨xs.length - (i + 1), by omega, u, e1, rfl, hlt, f1, r1⟩, fun v H' hy => ?_⟩
      obtain ⟨t', rfl, kt, rv⟩ := g2 v H' hy
      refine T.run t' v xs[i] _ _ rv fun σ2 hB => ?_
      have := hb s1 k1 i xs[i] σ' σ2 t t' (List.getElem?_eq_getElem hlt) f r kt hB
      exact this.imp (fun σ3 H3 ⟨u, e1, f1, r1⟩ => ⟨u, e1, (f.trans kt.f).trans f1, r1⟩) (fun _ _ q => q) (fun _ _ q => q.elim) (fun _ _ q => q.elim)
    · left
      have e : i = xs.length := by omega
      subst e
      exact ⟨W.stop _ t f (Nat.le_refl _), hd s1 k1 σ' t f r⟩)
theorem do_forO {τ υ : Type} [Enc τ] {xs : List τ} {f : υ → τ → Option υ} {b0 b1 : υ} {body : List Stmt} {g : TG} {B : Hp → τ → St → St → Prop} (hp : PassesOwn (model X.prog X.w) X.A X.env X.xe) (hc : X.calm = true) (hi : EvI X tg iter σ s xs) (hg : PG X tg g) (T : Tgt (α := τ) X.K g B)
    (hf : foldO f b0 xs = some b1) (R : υ → St → S → Prop) (h0 : ∀ s1, Ex s s1 → R b0 σ s1)
    (hb : ∀ s1, Ex s s1 → ∀ (x : τ) (b b' : υ) (σ' σ2 : St) (t t' : S), x ∈ xs → f b x = some b' → Fle s1.F t.F → R b σ' t → Ex t t' → B t'.F x σ' σ2 → WSs X body (LD D fun σ s => Fle t'.F s.F ∧ R b' σ s) σ2 t'.H)
    (hd : ∀ s1, Ex s s1 → ∀ σ' t, Fle s1.F t.F → R b1 σ' t → WSs X rest D σ' t.H)
    (hs : ∀ x, foldedSetIterable iter X.env x = pure x := by intro _; rfl) : WSs X (.For tg iter body [] pos :: rest) D σ s.H :=
  do_for_core hp hc hi hg T (fun i σ' t => ∃ b, foldO f b (xs.drop i) = some b1 ∧ R b σ' t) (fun s1 k => ⟨b0, hf, h0 s1 k⟩)
    (fun s1 k i x σ' σ2 t t' hx fl ⟨b, h1, h2⟩ kt hB => by
      obtain ⟨hlt, rfl⟩ := List.getElem?_eq_some_iff.mp hx
      obtain ⟨b', h3, h4⟩ := foldO_drop hlt h1
      exact (hb s1 k xs[i] b b' σ' σ2 t t' (List.getElem_mem hlt) h3 fl h2 kt hB).imp (fun σ3 H3 ⟨u, e1, f1, r1⟩ => ⟨u, e1, f1, b', h4, r1⟩) (fun _ _ q => q) (fun _ _ q => q.elim) (fun _ _ q => q.elim))
    (fun s1 k σ' t fl ⟨b, h1, h2⟩ => by
      rw [List.drop_length] at h1
      cases h1
      exact hd s1 k σ' t fl h2) hs
theorem foldF_drop {τ υ ρ : Type} {f : υ → τ → Option (Fl υ ρ)} {b : υ} {o : Fl υ ρ} {xs : List τ} {i : Nat} (hi : i < xs.length) (h : foldF f b (xs.drop i) = some o) : ∃ q, f b xs[i] = some q ∧ (∀ b', q = .nx b' → foldF f b' (xs.drop (i + 1)) = some o) ∧ ∀ r, q = .rt r → o = .rt r := by
  rw [List.drop_eq_getElem_cons hi] at h
  obtain ⟨q, h1, h2⟩ := bndE h
  refine ⟨q, h1, fun b' e => by subst e; exact h2, fun r e => by subst e; exact (Option.some.inj h2).symm⟩
theorem do_forF {τ υ ρ : Type} [Enc τ] {xs : List τ} {f : υ → τ → Option (Fl υ ρ)} {b0 : υ} {o : Fl υ ρ} {body : List Stmt} {g : TG} {B : Hp → τ → St → St → Prop} (hp : PassesOwn (model X.prog X.w) X.A X.env X.xe) (hc : X.calm = true) (hi : EvI X tg iter σ s xs) (hg : PG X tg g) (T : Tgt (α := τ) X.K g B)
    (hf : foldF f b0 xs = some o) (R : υ → St → S → Prop) (h0 : ∀ s1, Ex s s1 → R b0 σ s1)
    (hb : ∀ s1, Ex s s1 → ∀ (x : τ) (b : υ) (q : Fl υ ρ) (σ' σ2 : St) (t t' : S), x ∈ xs → f b x = some q → (∀ r, q = .rt r → o = .rt r) → Fle s1.F t.F → R b σ' t → Ex t t' → B t'.F x σ' σ2 → WSs X body (LD D fun σ s => ∃ b', q = .nx b' ∧ Fle t'.F s.F ∧ R b' σ s) σ2 t'.H)
    (hd : ∀ s1, Ex s s1 → ∀ b1 σ' t, o = .nx b1 → Fle s1.F t.F → R b1 σ' t → WSs X rest D σ' t.H)
    (hs : ∀ x, foldedSetIterable iter X.env x = pure x := by intro _; rfl) : WSs X (.For tg iter body [] pos :: rest) D σ s.H :=
  do_for_core hp hc hi hg T (fun i σ' t => ∃ b, foldF f b (xs.drop i) = some o ∧ R b σ' t) (fun s1 k => ⟨b0, hf, h0 s1 k⟩)
    (fun s1 k i x σ' σ2 t t' hx fl ⟨b, h1, h2⟩ kt hB => by
      obtain ⟨hlt, rfl⟩ := List.getElem?_eq_some_iff.mp hx
      obtain ⟨q, h3, h4, h5⟩ := foldF_drop hlt h1
      exact (hb s1 k xs[i] b q σ' σ2 t t' (List.getElem_mem hlt) h3 h5 fl h2 kt hB).imp (fun σ3 H3 ⟨u, e1, b', e2, f1, r1⟩ => ⟨u, e1, f1, b', h4 b' e2, r1⟩) (fun _ _ q => q) (fun _ _ q => q.elim) (fun _ _ q => q.elim))
    (fun s1 k σ' t fl ⟨b, h1, h2⟩ => by
      rw [List.drop_length] at h1
      cases h1
      exact hd s1 k b σ' t rfl fl h2) hs
theorem do_whileO {υ : Type} {cf : υ → Option Bool} {f : υ → Option υ} {n : Nat} {b0 b1 : υ} {body : List Stmt} (hp : PassesOwn (model X.prog X.w) X.A X.env X.xe) (hf : whileO cf f n b0 = some b1) (R : υ → St → S → Prop) (h0 : R b0 σ s)
    (hc : ∀ (b : υ) (x : Bool) (σ' : St) (t : S), cf b = some x → Fle s.F t.F → R b σ' t → EvT X c σ' t x)
    (hb : ∀ (b b' : υ) (σ' : St) (t t' : S), cf b = some true → f b = some b' → Fle s.F t.F → R b σ' t → Ex t t' → WSs X body (LD D fun σ s => Fle t'.F s.F ∧ R b' σ s) σ' t'.H)
    (hd : ∀ σ' t t', cf b1 = some false → Fle s.F t.F → R b1 σ' t → Ex t t' → WSs X rest D σ' t'.H) : WSs X (.While c body [] pos :: rest) D σ s.H :=
  do_cons (ps_while hp pt_wt pss_ws) (by
    refine ⟨fun m σ' H' => ∃ (t : S) (b : υ), t.H = H' ∧ Fle s.F t.F ∧ whileO cf f m b = some b1 ∧ R b σ' t, ⟨n, s, b0, rfl, Fle.refl _, hf, h0⟩, ?_⟩
    rintro m σ' H' ⟨t, b, rfl, fl, h1, h2⟩
    cases m with
    | zero => cases h1
    | succ m =>
      obtain ⟨x, h3, h4⟩ := bndE h1
      refine hc b x σ' t h3 fl h2 t (Ex.refl _) _ fun t' kt => ?_
      cases x with
      | true =>
        refine iteT ?_
        rw [if_pos rfl] at h4
        obtain ⟨b', h5, h6⟩ := bndE h4
        refine ⟨fun σ3 H3 => ∃ u : S, u.H = H3 ∧ Fle s.F u.F ∧ R b' σ3 u, fun σ3 H3 ⟨u, e1, f1, r1⟩ => ⟨m, Nat.lt_succ_self _, u, b', e1, f1, h6, r1⟩, ?_⟩
        exact (hb b b' σ' t t' h3 h5 fl h2 kt).imp (fun σ3 H3 ⟨u, e1, f1, r1⟩ => ⟨u, e1, (fl.trans kt.f).trans f1, r1⟩) (fun _ _ q => q) (fun _ _ q => q.elim) (fun _ _ q => q.elim)
      | false =>
        refine iteF ?_
        rw [if_neg Bool.false_ne_true] at h4
        cases h4
        exact hd σ' t t' h3 fl h2 kt)
end
end Dy

namespace Dy
open PySem PySem.Spec L2
open PyProof.Rows hiding St
open Enc (rep)
open Flat (toV)
open EncA (repA)

section
variable {P : Program} {w : World} {K : PySem.W.Frag} {mg : Str → Option Value} {base : Heap}
abbrev FunP (K : PySem.W.Frag) (x : Str) (st : Stmt) (f : Addr) (fd : FuncData) : Prop := FunD K x x (defArgs st) (defBody st) (defScope st) [] [] f fd
theorem mk_fn {A ρ : Type} [EncA A] [Enc ρ] {m : A → Option ρ} {x : Str} {st : Stmt} {f : Addr} {fd : FuncData} {N ps : List Str} {k : Nat} (F : FunP K x st f fd) (Sc : FnScope N ps (defScope st))
    (hl : ∀ (F : Hp) (vs : List V) (a : A), repA K F vs a → vs.length = ps.length)
    (body : ∀ (cdv : Value) (A' : Around) (outer : List Env) (s0 : Shared) (H0 : Hp) (E0 : XK), Room k (A'.deeper (envOfC x (defScope st) s0.heap.objs.size f cdv)) → ∀ (s : S) (vs : List V) (a : A) (r : ρ) (Q : VK), repA K s.F vs a → m a = some r →
      (∀ v s', Ex s s' → rep K s'.F v r → Q v s'.H) → WSs (cxOf CX0 P w K mg base N x (defScope st) f cdv A' outer s0 H0 E0).nox (defBody st) (RD Q) (start N vs) s.H) : FnOk P w K mg base CX0 (k + 1) f fd ps (sp K m) :=
  F.ok Sc (fun vs H Q E ⟨s, a, r, _, h, _⟩ => hl s.F vs a h) (fun cdv A' outer s0 H0 vs Q E hr ⟨s, a, r, e, h1, h2, h3⟩ => ⟨_, pss_ws.nox, by
    have := body cdv A' outer s0 H0 E hr s vs a r Q h1 h2 h3
    rw [e] at this
    exact this⟩)
theorem mk_cal {A ρ : Type} [EncA A] [Enc ρ] {m : A → Option ρ} {x : Str} {st : Stmt} {f : Addr} {fd : FuncData} {N ps : List Str} {k : Nat} (F : FunP K x st f fd) (hm : mg x = some (.ref f)) (b : Binds K fd ps []) (Sc : FnScope N ps (defScope st))
    (hl : ∀ (F : Hp) (vs : List V) (a : A), repA K F vs a → vs.length = ps.length)
    (body : ∀ (cdv : Value) (A' : Around) (outer : List Env) (s0 : Shared) (H0 : Hp) (E0 : XK), Room k (A'.deeper (envOfC x (defScope st) s0.heap.objs.size f cdv)) → ∀ (s : S) (vs : List V) (a : A) (r : ρ) (Q : VK), repA K s.F vs a → m a = some r →
      (∀ v s', Ex s s' → rep K s'.F v r → Q v s'.H) → WSs (cxOf CX0 P w K mg base N x (defScope st) f cdv A' outer s0 H0 E0).nox (defBody st) (RD Q) (start N vs) s.H) : Cal P w K mg base CX0 (k + 1) x (sp K m) :=
  ⟨f, fd, ps, F.ok Sc (fun vs H Q E ⟨s, a, r, _, h, _⟩ => hl s.F vs a h) (fun cdv A' outer s0 H0 vs Q E hr ⟨s, a, r, e, h1, h2, h3⟩ => ⟨_, pss_ws.nox, by
    have := body cdv A' outer s0 H0 E hr s vs a r Q h1 h2 h3
    rw [e] at this
    exact this⟩), hm, F.kp, b⟩
theorem mk_calN {A ρ : Type} [EncA A] [Enc ρ] {m : A → Option (List ρ)} {x : Str} {st : Stmt} {f : Addr} {fd : FuncData} {N ps : List Str} {k : Nat} (F : FunP K x st f fd) (hm : mg x = some (.ref f)) (b : Binds K fd ps []) (Sc : FnScope N ps (defScope st))
    (hl : ∀ (F : Hp) (vs : List V) (a : A), repA K F vs a → vs.length = ps.length)
    (body : ∀ (cdv : Value) (A' : Around) (outer : List Env) (s0 : Shared) (H0 : Hp) (E0 : XK), Room k (A'.deeper (envOfC x (defScope st) s0.heap.objs.size f cdv)) → ∀ (s : S) (vs : List V) (a : A) (r : List ρ) (Q : VK), repA K s.F vs a → m a = some r →
      (∀ p s', Ex s s' → s.H p = none → Own K s' p r → Q (.ref p) s'.H) → WSs (cxOf CX0 P w K mg base N x (defScope st) f cdv A' outer s0 H0 E0).nox (defBody st) (RD Q) (start N vs) s.H) : Cal P w K mg base CX0 (k + 1) x (spN K m) :=
  ⟨f, fd, ps, F.ok Sc (fun vs H Q E ⟨s, a, r, _, h, _⟩ => hl s.F vs a h) (fun cdv A' outer s0 H0 vs Q E hr ⟨s, a, r, e, h1, h2, h3⟩ => ⟨_, pss_ws.nox, by
    have := body cdv A' outer s0 H0 E hr s vs a r Q h1 h2 h3
    rw [e] at this
    exact this⟩), hm, F.kp, b⟩
theorem len1 {α : Type} [Enc α] (F : Hp) (vs : List V) (a : α × Unit) (h : repA K F vs a) : vs.length = 1 := by obtain ⟨_, _, rfl, _, rfl⟩ := h; rfl
theorem len2 {α β : Type} [Enc α] [Enc β] (F : Hp) (vs : List V) (a : α × β × Unit) (h : repA K F vs a) : vs.length = 2 := by obtain ⟨_, _, rfl, _, _, _, rfl, _, rfl⟩ := h; rfl
theorem len3 {α β γ : Type} [Enc α] [Enc β] [Enc γ] (F : Hp) (vs : List V) (a : α × β × γ × Unit) (h : repA K F vs a) : vs.length = 3 := by obtain ⟨_, _, rfl, _, _, _, rfl, _, _, _, rfl, _, rfl⟩ := h; rfl
theorem len4 {α β γ δ : Type} [Enc α] [Enc β] [Enc γ] [Enc δ] (F : Hp) (vs : List V) (a : α × β × γ × δ × Unit) (h : repA K F vs a) : vs.length = 4 := by obtain ⟨_, _, rfl, _, _, _, rfl, _, _, _, rfl, _, _, _, rfl, _, rfl⟩ := h; rfl
theorem len5 {α β γ δ ε : Type} [Enc α] [Enc β] [Enc γ] [Enc δ] [Enc ε] (F : Hp) (vs : List V) (a : α × β × γ × δ × ε × Unit) (h : repA K F vs a) : vs.length = 5 := by obtain ⟨_, _, rfl, _, _, _, rfl, _, _, _, rfl, _, _, _, rfl, _, _, _, rfl, _, rfl⟩ := h; rfl
theorem len6 {α β γ δ ε ζ : Type} [Enc α] [Enc β] [Enc γ] [Enc δ] [Enc ε] [Enc ζ] (F : Hp) (vs : List V) (a : α × β × γ × δ × ε × ζ × Unit) (h : repA K F vs a) : vs.length = 6 := by obtain ⟨_, _, rfl, _, _, _, rfl, _, _, _, rfl, _, _, _, rfl, _, _, _, rfl, _, _, _, rfl, _, rfl⟩ := h; rfl
end

class Ty (α : Type) extends Enc α where
  ty : α → String
  is : ∀ {K : PySem.W.Frag} {F H : Hp} {v : V} {x : α}, rep K F v x → Fle F H → TyX K H v (.type (ty x))
theorem sql_ty {K : PySem.W.Frag} {H : Hp} {p : Addr} {vs : List V} (h : SqL K H p vs) : TyX K H (.ref p) (.type "list") := by
  rcases h with (h | ⟨o, h⟩) | ⟨o, its, n, h, hc, _⟩
  · exact .base (.lst h)
  · exact .base (.frz h)
  · exact .kList h hc
theorem sqt_ty {K : PySem.W.Frag} {H : Hp} {p : Addr} {vs : List V} (h : SqT K H p vs) : TyX K H (.ref p) (.type "tuple") := by
  rcases h with (h | ⟨o, h⟩) | ⟨o, its, n, h, hc, _⟩
  · exact .base (.tup h)
  · exact .fTuple h
  · exact .kTuple h hc
instance : Ty Int := ⟨fun _ => "int", fun {K F H v x} h _ => by rw [show v = V.int x from h]; exact .base (.int _)⟩
instance : Ty Bool := ⟨fun _ => "bool", fun {K F H v x} h _ => by rw [show v = V.bl x from h]; exact .base (.bl _)⟩
instance : Ty Str := ⟨fun _ => "str", fun {K F H v x} h _ => by rw [show v = V.str x from h]; exact .base (.str _)⟩
instance {α : Type} [Ty α] : Ty (Option α) := ⟨fun x => match x with | none => "NoneType" | some y => Ty.ty y, fun {K F H v x} h f => by
  cases x with
  | none => rw [show v = V.non from h]; exact .base .non
  | some y => exact Ty.is (α := α) h f⟩
instance {α : Type} [Enc α] : Ty (List α) := ⟨fun _ => "list", fun h f => by
  obtain ⟨p, vs, rfl, h1, _⟩ := h
  exact sql_ty (sql_mono f h1)⟩
instance {α : Type} [Enc α] : Ty (Tu α) := ⟨fun _ => "tuple", fun h f => by
  obtain ⟨p, vs, rfl, h1, _⟩ := h
  exact sqt_ty (sqt_mono f h1)⟩
instance {α β : Type} [Enc α] [Enc β] : Ty (α × β) := ⟨fun _ => "tuple", fun h f => by
  obtain ⟨p, v1, v2, rfl, h1, _⟩ := h
  exact sqt_ty (sqt_mono f h1)⟩
instance {α : Type} [Enc α] : Ty (T1 α) := ⟨fun _ => "tuple", fun h f => by
  obtain ⟨p, v1, rfl, h1, _⟩ := h
  exact sqt_ty (sqt_mono f h1)⟩
instance {α β γ : Type} [Enc α] [Enc β] [Enc γ] : Ty (T3 α β γ) := ⟨fun _ => "tuple", fun h f => by
  obtain ⟨p, v1, v2, v3, rfl, h1, _⟩ := h
  exact sqt_ty (sqt_mono f h1)⟩
instance {α β γ δ : Type} [Enc α] [Enc β] [Enc γ] [Enc δ] : Ty (T4 α β γ δ) := ⟨fun _ => "tuple", fun h f => by
  obtain ⟨p, v1, v2, v3, v4, rfl, h1, _⟩ := h
  exact sqt_ty (sqt_mono f h1)⟩
instance {α β γ δ ε : Type} [Enc α] [Enc β] [Enc γ] [Enc δ] [Enc ε] : Ty (T5 α β γ δ ε) := ⟨fun _ => "tuple", fun h f => by
  obtain ⟨p, v1, v2, v3, v4, v5, rfl, h1, _⟩ := h
  exact sqt_ty (sqt_mono f h1)⟩
section
variable {α β : Type} {X : Cx} {σ : St} {s : S} {a b : Expr} {pos p0 p1 p2 p3 : Pos}
theorem ev_isi [Ty α] {x : α} {n : Str} {T : String} {r : Bool} (hm : X.mg "isinstance" = none) (hn : X.mg n = none) (hv : bootBuiltins n = some (.type T)) (ha : Ev X a σ s x) (h : kitB (Ty.ty x) T = some r)
    (hg : Gl X "isinstance" := by rfl) (hgn : Gl X n := by rfl) (he : starEach [a, .Name n p1] X.env = (false, eval a X.env) :: starEach [.Name n p1] X.env := by rfl) (he2 : starEach [.Name n p1] X.env = (false, eval (.Name n p1) X.env) :: starEach [] X.env := by rfl) (hpl : (backTo pos (starEach [.Name n p1] X.env)).any (·.1) = false := by rfl)
    (hnn : n ≠ "__name__" := by decide) (hnd : (n == ("__debug__" : Str)) = false := by decide) :
    Ev X (.Call (.Name "isinstance" p0) [a, .Name n p1] [] pos) σ s r := fun s1 k Q q =>
  we_of (pe_callB call_isi hg hm (by decide +kernel) (pa_cons pe_we (pa_cons (pe_bltn (v := .ty T) hgn hn hv rfl hnn hnd) pa_nil he2) he) (he := he) (hpl := hpl)) (ha s1 k _ fun v s2 k2 r2 =>
    ⟨v, .ty T, .type (Ty.ty x), .type T, r, rfl, .ty T, Ty.is r2 s2.sub, kit_ty h, q _ s2 k2 rfl⟩)

class EqD (α : Type) extends Enc α where
  toD : α → PyData
  dp : ∀ {K : PySem.W.Frag} {F H : Hp} {v : V} {x : α}, rep K F v x → Fle F H → Dp K H v (toD x)
  eqv : ∀ x y : α, PyData.eqv (toD x) (toD y) = true ↔ x = y
def DpR {α : Type} [EqD α] {K : PySem.W.Frag} {F H : Hp} (f : Fle F H) : ∀ {vs : List V} {xs : List α}, Reps K F vs xs → DpAll K H vs (xs.map EqD.toD)
  | [], [], _ => .nil
  | _ :: _, _ :: _, ⟨h, t⟩ => .cons (EqD.dp h f) (DpR f t)
  | [], _ :: _, h => h.elim
  | _ :: _, [], h => h.elim
theorem eqv_all {α : Type} [EqD α] : ∀ xs ys : List α, PyData.eqvAll (xs.map EqD.toD) (ys.map EqD.toD) = true ↔ xs = ys
  | [], [] => by simp [PyData.eqvAll]
  | [], _ :: _ => by simp [PyData.eqvAll]
  | _ :: _, [] => by simp [PyData.eqvAll]
  | x :: xs, y :: ys => by
    show (PyData.eqv (EqD.toD x) (EqD.toD y) && PyData.eqvAll (xs.map EqD.toD) (ys.map EqD.toD)) = true ↔ _
    rw [Bool.and_eq_true, EqD.eqv, eqv_all xs ys]
    simp
instance : EqD Int := ⟨PyData.int, fun {K F H v x} h _ => by rw [show v = V.int x from h]; exact .int _, fun x y => by show (x == y) = true ↔ _; simp⟩
instance : EqD Bool := ⟨PyData.bool, fun {K F H v x} h _ => by rw [show v = V.bl x from h]; exact .bl _, fun x y => by show (x == y) = true ↔ _; simp⟩
instance : EqD Str := ⟨PyData.str, fun {K F H v x} h _ => by rw [show v = V.str x from h]; exact .str _, fun x y => by show (x == y) = true ↔ _; simp⟩
instance : EqD (Option Int) := ⟨fun x => match x with | none => .none | some i => .int i, fun {K F H v x} h _ => by
  cases x with
  | none => rw [show v = V.non from h]; exact .non
  | some i => rw [show v = V.int i from h]; exact .int _, fun x y => by cases x <;> cases y <;> simp [PyData.eqv]⟩
instance : EqD (Option Str) := ⟨fun x => match x with | none => .none | some i => .str i, fun {K F H v x} h _ => by
  cases x with
  | none => rw [show v = V.non from h]; exact .non
  | some i => rw [show v = V.str i from h]; exact .str _, fun x y => by cases x <;> cases y <;> simp [PyData.eqv]⟩
instance {α : Type} [EqD α] : EqD (List α) := ⟨fun xs => .list (xs.map EqD.toD), fun h f => by
  obtain ⟨p, vs, rfl, h1, h2⟩ := h
  exact .lst (sql_mono f h1) (DpR f h2), fun x y => eqv_all x y⟩
instance {α : Type} [EqD α] : EqD (Tu α) := ⟨fun xs => .tuple (xs.l.map EqD.toD), fun h f => by
  obtain ⟨p, vs, rfl, h1, h2⟩ := h
  exact .tup (sqt_mono f h1) (DpR f h2), fun x y => by
    obtain ⟨x⟩ := x
    obtain ⟨y⟩ := y
    show PyData.eqvAll _ _ = true ↔ _
    rw [eqv_all]; simp⟩
instance {α β : Type} [EqD α] [EqD β] : EqD (α × β) := ⟨fun x => .tuple [EqD.toD x.1, EqD.toD x.2], fun h f => by
  obtain ⟨p, v1, v2, rfl, h0, h1, h2⟩ := h
  exact .tup (sqt_mono f h0) (.cons (EqD.dp h1 f) (.cons (EqD.dp h2 f) .nil)), fun x y => by
    obtain ⟨x1, x2⟩ := x
    obtain ⟨y1, y2⟩ := y
    show (PyData.eqv _ _ && (PyData.eqv _ _ && true)) = true ↔ _
    rw [Bool.and_eq_true, Bool.and_eq_true, EqD.eqv, EqD.eqv]; simp⟩
instance {α β γ : Type} [EqD α] [EqD β] [EqD γ] : EqD (T3 α β γ) := ⟨fun x => .tuple [EqD.toD x.a, EqD.toD x.b, EqD.toD x.c], fun h f => by
  obtain ⟨p, v1, v2, v3, rfl, h0, h1, h2, h3⟩ := h
  exact .tup (sqt_mono f h0) (.cons (EqD.dp h1 f) (.cons (EqD.dp h2 f) (.cons (EqD.dp h3 f) .nil))), fun x y => by
    obtain ⟨x1, x2, x3⟩ := x
    obtain ⟨y1, y2, y3⟩ := y
    show (PyData.eqv _ _ && (PyData.eqv _ _ && (PyData.eqv _ _ && true))) = true ↔ _
    rw [Bool.and_eq_true, Bool.and_eq_true, Bool.and_eq_true, EqD.eqv, EqD.eqv, EqD.eqv]; simp⟩
instance {α : Type} [EqD α] : EqD (T1 α) := ⟨fun x => .tuple [EqD.toD x.a], fun h f => by
  obtain ⟨p, v1, rfl, h0, h1⟩ := h
  exact .tup (sqt_mono f h0) (.cons (EqD.dp h1 f) .nil), fun x y => by
    obtain ⟨x1⟩ := x
    obtain ⟨y1⟩ := y
    show (PyData.eqv _ _ && true) = true ↔ _
    rw [Bool.and_eq_true, EqD.eqv]; simp⟩
def shp {α : Type} [EqD α] (x : α) : Prop := SeqAt.shaped (EqD.toD x) = true
theorem eqv_dec {α : Type} [EqD α] [DecidableEq α] (x y : α) : PyData.eqv (EqD.toD x) (EqD.toD y) = decide (x = y) := by
  rw [Bool.eq_iff_iff, EqD.eqv, decide_eq_true_eq]
theorem repR_d {α : Type} [EqD α] {K : PySem.W.Frag} {v : V} {xs : List α} (h : RepR K s v xs) : Dp K s.H v (EqD.toD xs) := by
  obtain ⟨p, vs, rfl, h1, h2⟩ := h
  exact .lst h1 (DpR s.sub h2)
theorem hu64 {j : Nat} (hr : Room j X.A) : X.A.units + 64 < cLine := by
  have := hr.un
  omega
theorem eb_eqD [EqD α] [DecidableEq α] {x y : α} {j : Nat} (hr : Room j X.A) (ha : Ev X a σ s x) (hb : Ev X b σ s y) (h1 : shp x) (h2 : shp y) : EvB X (.Compare a [.Eq] [b] pos) σ s (decide (x = y)) :=
  eb_cmp (op_eqD (hu64 hr)) ha hb (fun v u s2 hv hu Q q => ⟨_, _, EqD.dp hv s2.sub, EqD.dp hu s2.sub, h1, h2, by rw [eqv_dec]; exact q⟩) (nomark _)
theorem eb_neD [EqD α] [DecidableEq α] {x y : α} {j : Nat} (hr : Room j X.A) (ha : Ev X a σ s x) (hb : Ev X b σ s y) (h1 : shp x) (h2 : shp y) : EvB X (.Compare a [.NotEq] [b] pos) σ s (!decide (x = y)) :=
  eb_cmp (op_neD (hu64 hr)) ha hb (fun v u s2 hv hu Q q => ⟨_, _, EqD.dp hv s2.sub, EqD.dp hu s2.sub, h1, h2, by rw [eqv_dec]; exact q⟩) (nomark _)
theorem eb_eqL [EqD α] [DecidableEq α] {x y : List α} {j : Nat} (hr : Room j X.A) (ha : EvR X a σ s x) (hb : EvR X b σ s y) (h1 : shp x) (h2 : shp y) : EvB X (.Compare a [.Eq] [b] pos) σ s (decide (x = y)) :=
  eb_cmpRR (op_eqD (hu64 hr)) ha hb (fun v u s2 hv hu Q q => ⟨_, _, repR_d hv, repR_d hu, h1, h2, by rw [eqv_dec]; exact q⟩) (nomark _)
theorem eb_neL [EqD α] [DecidableEq α] {x y : List α} {j : Nat} (hr : Room j X.A) (ha : EvR X a σ s x) (hb : EvR X b σ s y) (h1 : shp x) (h2 : shp y) : EvB X (.Compare a [.NotEq] [b] pos) σ s (!decide (x = y)) :=
  eb_cmpRR (op_neD (hu64 hr)) ha hb (fun v u s2 hv hu Q q => ⟨_, _, repR_d hv, repR_d hu, h1, h2, by rw [eqv_dec]; exact q⟩) (nomark _)
end

class Shp (α : Type) (n : outParam Nat) extends EqD α where
  ok : ∀ x : α, PyData.canLay0 (EqD.toD x) = true ∧ PyData.depth (EqD.toD x) ≤ n
theorem shp_all {α : Type} {n : Nat} [Shp α n] : ∀ xs : List α, PyData.canLayAll0 (xs.map EqD.toD) = true ∧ PyData.depthAll (xs.map EqD.toD) ≤ n
  | [] => ⟨by simp [PyData.canLayAll0], by simp [PyData.depthAll]⟩
  | x :: xs => by
    obtain ⟨h1, h2⟩ := shp_all xs
    obtain ⟨h3, h4⟩ := Shp.ok x
    refine ⟨?_, ?_⟩
    · show PyData.canLayAll0 (EqD.toD x :: xs.map EqD.toD) = true
      unfold PyData.canLayAll0
      rw [h3, h1]; rfl
    · show PyData.depthAll (EqD.toD x :: xs.map EqD.toD) ≤ n
      unfold PyData.depthAll
      omega
instance : Shp Int 0 := ⟨fun x => ⟨by show PyData.canLay0 (.int x) = true; unfold PyData.canLay0; rfl, by show PyData.depth (.int x) ≤ 0; unfold PyData.depth; omega⟩⟩
instance : Shp Bool 0 := ⟨fun x => ⟨by show PyData.canLay0 (.bool x) = true; unfold PyData.canLay0; rfl, by show PyData.depth (.bool x) ≤ 0; unfold PyData.depth; omega⟩⟩
instance : Shp (Option Int) 0 := ⟨fun x => by
  cases x with
  | none => exact ⟨by show PyData.canLay0 .none = true; unfold PyData.canLay0; rfl, by show PyData.depth .none ≤ 0; unfold PyData.depth; omega⟩
  | some i => exact ⟨by show PyData.canLay0 (.int i) = true; unfold PyData.canLay0; rfl, by show PyData.depth (.int i) ≤ 0; unfold PyData.depth; omega⟩⟩
instance {α : Type} {n : Nat} [Shp α n] : Shp (List α) (n + 1) := ⟨fun x => by
  obtain ⟨h1, h2⟩ := shp_all x
  refine ⟨?_, ?_⟩
  · show PyData.canLay0 (.list (x.map EqD.toD)) = true
    unfold PyData.canLay0; exact h1
  · show PyData.depth (.list (x.map EqD.toD)) ≤ n + 1
    unfold PyData.depth; omega⟩
instance {α : Type} {n : Nat} [Shp α n] : Shp (Tu α) (n + 1) := ⟨fun x => by
  obtain ⟨h1, h2⟩ := shp_all x.l
  refine ⟨?_, ?_⟩
  · show PyData.canLay0 (.tuple (x.l.map EqD.toD)) = true
    unfold PyData.canLay0; exact h1
  · show PyData.depth (.tuple (x.l.map EqD.toD)) ≤ n + 1
    unfold PyData.depth; omega⟩
instance {α β : Type} {n m : Nat} [Shp α n] [Shp β m] : Shp (α × β) (n + m + 1) := ⟨fun x => by
  obtain ⟨h1, h2⟩ := Shp.ok x.1
  obtain ⟨h3, h4⟩ := Shp.ok x.2
  refine ⟨?_, ?_⟩
  · show PyData.canLay0 (.tuple [EqD.toD x.1, EqD.toD x.2]) = true
    simp [PyData.canLay0, PyData.canLayAll0, h1, h3]
  · show PyData.depth (.tuple [EqD.toD x.1, EqD.toD x.2]) ≤ n + m + 1
    simp [PyData.depth, PyData.depthAll]
    omega⟩
instance {α : Type} {n : Nat} [Shp α n] : Shp (T1 α) (n + 1) := ⟨fun x => by
  obtain ⟨h1, h2⟩ := Shp.ok x.a
  refine ⟨?_, ?_⟩
  · show PyData.canLay0 (.tuple [EqD.toD x.a]) = true
    simp [PyData.canLay0, PyData.canLayAll0, h1]
  · show PyData.depth (.tuple [EqD.toD x.a]) ≤ n + 1
    simp [PyData.depth, PyData.depthAll]
    omega⟩
theorem shp_of {α : Type} {n : Nat} [Shp α n] (x : α) (h : n ≤ 64 := by decide) : shp x := by
  obtain ⟨h1, h2⟩ := Shp.ok x
  unfold shp SeqAt.shaped
  rw [h1, decide_eq_true (Nat.le_trans h2 h)]; rfl

def spLaw (K : PySem.W.Frag) : Sp := fun vs H Q _ => ∃ (a : Addr) (ns : List Int), vs = [.ref a] ∧ SqL K H a (ns.map V.int) ∧ ns.length ≤ 63 ∧ ∀ H', Q (.bl true) H'
theorem law_of {P : Program} {w : World} {K : PySem.W.Frag} {mg : Str → Option Value} {base : Heap} {CX : CXT} {k : Nat} {f : Addr} {fd : FuncData} {ps : List Str} {m : List Int × Unit → Option Bool} (F : FnOk P w K mg base CX k f fd ps (sp K m)) (h : ∀ ns : List Int, ns.length ≤ 63 → m (ns, ()) = some true) : FnOk P w K mg base CX k f fd ps (spLaw K) :=
  F.imp fun vs H Q E ⟨a, ns, e, hs, hl, q⟩ => by
    subst e
    exact ⟨⟨H, H, fun _ _ h => h⟩, (ns, ()), true, rfl, ⟨.ref a, [], rfl, ⟨a, ns.map V.int, rfl, hs, Reps.of_flat ns⟩, rfl⟩, h ns hl, fun v s' _ r => by rw [show v = V.bl true from r]; exact q _⟩
end Dy

namespace Dy
open PySem PySem.Spec L2
open PyProof.Rows hiding St
open Enc (rep)
open Flat (toV)
open EncA (repA)

def strI (x : Int) : Str := toString x
noncomputable def sortI (xs : List Int) : List Int := xs.mergeSort (fun x y => decide (x ≤ y))
def Fl.go {β ρ γ : Type} (o : Fl β ρ) (k : β → γ) (e : ρ → γ) : γ := match o with
  | .nx b => k b
  | .rt r => e r
@[irreducible] def fuel : Nat := 1000000
theorem rng_mem {a b x : Int} (h : x ∈ rng a b) : a ≤ x ∧ x < b := by
  obtain ⟨i, hi⟩ := List.mem_iff_getElem?.mp h
  obtain ⟨h1, h2⟩ := rng_get hi
  omega
theorem frzE {s0 s s' : S} {p : Addr} (E : Ex s0 s) (n : s0.H p = none) (h1 : s'.H = s.H) (h2 : Fle s.F s'.F) (h3 : ∀ q, q ≠ p → s'.F q = s.F q) : Ex s0 s' :=
  ⟨E.f.trans h2, fun a o h => by rw [h1]; exact E.h a o h, fun a o h m => by rw [h3 a (ne_of_none h n)]; exact E.n a o h m⟩
theorem ownFrz {α : Type} [Enc α] {K : PySem.W.Frag} {s s' : S} {p q : Addr} {xs : List α} (o : Own K s q xs) (hne : q ≠ p) (h1 : s'.H = s.H) (h2 : Fle s.F s'.F) (h3 : ∀ q, q ≠ p → s'.F q = s.F q) : Own K s' q xs := by
  obtain ⟨hn, vs, hp, r⟩ := o
  exact ⟨by rw [h3 q hne]; exact hn, vs, by rw [h1]; exact hp, r.mono h2⟩
section
variable {α β γ δ ε : Type} [Enc α] [Enc β] [Enc γ] [Enc δ] [Enc ε] {X : Cx} {σ : St} {s t : S} {e a b c tg iter : Expr} {es : List Expr} {pos p0 p1 p2 p3 : Pos} {D : Ends} {rest A B body : List Stmt}
theorem ec_andO {x r : Bool} (h : EvB X a σ s x) (h2 : x = true → EvC X (.BoolOp .And (b :: es) pos) σ s r) (h3 : x = false → r = false) : EvC X (.BoolOp .And (a :: b :: es) pos) σ s r := by
  cases x with
  | true => exact (ec_and h h2 : EvC X _ σ s (true && r))
  | false =>
    have := ec_and (y := false) (es := es) (b := b) (pos := pos) h (fun z => Bool.noConfusion z)
    rw [h3 rfl]
    exact this
theorem ec_orO {x r : Bool} (h : EvB X a σ s x) (h2 : x = false → EvC X (.BoolOp .Or (b :: es) pos) σ s r) (h3 : x = true → r = true) : EvC X (.BoolOp .Or (a :: b :: es) pos) σ s r := by
  cases x with
  | false => exact (ec_or h h2 : EvC X _ σ s (false || r))
  | true =>
    have := ec_or (y := true) (es := es) (b := b) (pos := pos) h (fun z => Bool.noConfusion z)
    rw [h3 rfl]
    exact this
theorem et_tru {xs : List α} (h : EvR X e σ s xs) (he : ∀ whole, isTrue e X.env whole = (do let v ← whole; standAt e.pos; holding [v] (truthy v)) := by intro _; rfl) : EvT X e σ s (!xs.isEmpty) := fun s1 k Q q =>
  wt_of (pt_truth pe_we he) (h s1 k _ fun v s2 k2 r => by
    obtain ⟨p, vs, rfl, h1, h2⟩ := r
    refine ⟨_, .inl ⟨vs, h1, ?_⟩, q s2 k2⟩
    have := h2.len
    cases vs <;> cases xs <;> simp at this ⊢)
theorem isi_optT {τ : Type} [Ty τ] (x : Option τ) {T : String} (h1 : ∀ y : τ, kitB (Ty.ty y) T = some true) (h2 : kitB "NoneType" T = some false) : kitB (Ty.ty x) T = some x.isSome := by
  cases x with
  | none => exact h2
  | some y => exact h1 y
theorem isi_optF {τ : Type} [Ty τ] (x : Option τ) {T : String} (h1 : ∀ y : τ, kitB (Ty.ty y) T = some false) (h2 : kitB "NoneType" T = some false) : kitB (Ty.ty x) T = some false := by
  cases x with
  | none => exact h2
  | some y => exact h1 y
theorem en_rev {xs : List α} {k q1 q2 q3} (ha : EvR X e σ s xs) : EvN X (.Subscript e (.Slice none none (some (.UnaryOp .USub (.Constant (.int 1) k q1) q2)) q3) pos) σ s xs.reverse := fun s1 k1 Q q =>
  we_of (pe_revL pe_we) (ha s1 k1 _ fun v s2 k2 r2 => by
    obtain ⟨p, vs, rfl, h1, h2⟩ := r2
    exact ⟨p, vs, rfl, h1, fun l hl => q l (s2.newO l _ hl) (k2.trans (Ex.newO hl)) (fr_back k2 hl) (own_new hl h2.rev)⟩)
theorem do_drop {x : α} (h : Ev X e σ s x) (k : ∀ s1, Ex s s1 → WSs X rest D σ s1.H) (hs : swapsWith e none pos.line X.env = pure false := by rfl) : WSs X (.Expr e pos :: rest) D σ s.H :=
  do_cons (ps_expr pe_we hs) (h s (Ex.refl _) _ fun v s1 k1 r => k s1 k1)
theorem do_unp2 (i j : Nat) {x : α × β} (h : Ev X e σ s x) (k : ∀ v w s1, Ex s s1 → rep X.K s1.F v x.1 → rep X.K s1.F w x.2 → WSs X rest D ((σ.set i (some v)).set j (some w)) s1.H)
    (hg : PG X tg (gTup X.K 2 (gCons (gName i) (gCons (gName j) gNil)))) (hs : swapsWithSole [tg] e pos.line X.env = pure false := by rfl) (hw : swappedStores [tg] e X.env = pure none := by rfl)
    (h1 : (assignEach [tg] X.env).map (·.2) = [assign tg X.env] := by rfl) : WSs X (.Assign [tg] e pos :: rest) D σ s.H :=
  do_cons (ps_asg pe_we hg hs hw h1) (h s (Ex.refl _) _ fun v s1 k1 r => by
    obtain ⟨p, v1, v2, rfl, h0, h1, h2⟩ := r
    exact ⟨p, _, rfl, sqt_mono s1.sub h0, rfl, v1, _, rfl, v2, _, rfl, rfl, k v1 v2 s1 k1 h1 h2⟩)
theorem do_unp3 (i j l : Nat) {x : T3 α β γ} (h : Ev X e σ s x) (k : ∀ v w u s1, Ex s s1 → rep X.K s1.F v x.a → rep X.K s1.F w x.b → rep X.K s1.F u x.c → WSs X rest D (((σ.set i (some v)).set j (some w)).set l (some u)) s1.H)
    (hg : PG X tg (gTup X.K 3 (gCons (gName i) (gCons (gName j) (gCons (gName l) gNil))))) (hs : swapsWithSole [tg] e pos.line X.env = pure false := by rfl) (hw : swappedStores [tg] e X.env = pure none := by rfl)
    (h1 : (assignEach [tg] X.env).map (·.2) = [assign tg X.env] := by rfl) : WSs X (.Assign [tg] e pos :: rest) D σ s.H :=
  do_cons (ps_asg pe_we hg hs hw h1) (h s (Ex.refl _) _ fun v s1 k1 r => by
    obtain ⟨p, v1, v2, v3, rfl, h0, h1, h2, h3⟩ := r
    exact ⟨p, _, rfl, sqt_mono s1.sub h0, rfl, v1, _, rfl, v2, _, rfl, v3, _, rfl, rfl, k v1 v2 v3 s1 k1 h1 h2 h3⟩)
theorem do_whileF {υ ρ : Type} {cf : υ → Option Bool} {f : υ → Option (Fl υ ρ)} {n : Nat} {b0 : υ} {o : Fl υ ρ} (hp : PassesOwn (model X.prog X.w) X.A X.env X.xe) (hf : whileF cf f n b0 = some o) (R : υ → St → S → Prop) (h0 : R b0 σ s)
    (hc : ∀ (b : υ) (x : Bool) (σ' : St) (t : S), cf b = some x → Fle s.F t.F → R b σ' t → EvT X c σ' t x)
    (hb : ∀ (b : υ) (q : Fl υ ρ) (σ' : St) (t t' : S), cf b = some true → f b = some q → (∀ r, q = .rt r → o = .rt r) → Fle s.F t.F → R b σ' t → Ex t t' → WSs X body (LD D fun σ s => ∃ b', q = .nx b' ∧ Fle t'.F s.F ∧ R b' σ s) σ' t'.H)
    (hd : ∀ b1 σ' t t', o = .nx b1 → cf b1 = some false → Fle s.F t.F → R b1 σ' t → Ex t t' → WSs X rest D σ' t'.H) : WSs X (.While c body [] pos :: rest) D σ s.H :=
  do_cons (ps_while hp pt_wt pss_ws) (by
    refine ⟨fun m σ' H' => ∃ (t : S) (b : υ), t.H = H' ∧ Fle s.F t.F ∧ whileF cf f m b = some o ∧ R b σ' t, ⟨n, s, b0, rfl, Fle.refl _, hf, h0⟩, ?_⟩
    rintro m σ' H' ⟨t, b, rfl, fl, h1, h2⟩
    cases m with
    | zero => cases h1
    | succ m =>
      obtain ⟨x, h3, h4⟩ := bndE h1
      refine hc b x σ' t h3 fl h2 t (Ex.refl _) _ fun t' kt => ?_
      cases x with
      | true =>
        refine iteT ?_
        rw [if_pos rfl] at h4
        obtain ⟨q, h5, h6⟩ := bndE h4
        refine ⟨fun σ3 H3 => ∃ b', q = .nx b' ∧ ∃ u : S, u.H = H3 ∧ Fle s.F u.F ∧ R b' σ3 u, fun σ3 H3 ⟨b', e0, u, e1, f1, r1⟩ => ⟨m, Nat.lt_succ_self _, u, b', e1, f1, by subst e0; exact h6, r1⟩, ?_⟩
        exact (hb b q σ' t t' h3 h5 (fun r e0 => by subst e0; exact (Option.some.inj h6).symm) fl h2 kt).imp (fun σ3 H3 ⟨u, e1, b', e2, f1, r1⟩ => ⟨b', e2, u, e1, (fl.trans kt.f).trans f1, r1⟩) (fun _ _ q => q) (fun _ _ q => q.elim) (fun _ _ q => q.elim)
      | false =>
        refine iteF ?_
        rw [if_neg Bool.false_ne_true] at h4
        cases h4
        exact hd b σ' t t' rfl h3 fl h2 kt)
end
end Dy

namespace Dy
open PySem PySem.Spec L2
open PyProof.Rows hiding St

def Ok {α : Type} (m : Option α) (P : α → Prop) : Prop := ∃ r, m = some r ∧ P r
section
variable {α β γ ρ : Type}
theorem Ok.imp {m : Option α} {P Q : α → Prop} (h : Ok m P) (k : ∀ r, P r → Q r) : Ok m Q := let ⟨r, e, p⟩ := h; ⟨r, e, k r p⟩
theorem Ok.eq {m : Option α} {x : α} (h : Ok m (· = x)) : m = some x := by obtain ⟨r, e, rfl⟩ := h; exact e
theorem ok_eq {m : Option α} {x : α} {P : α → Prop} (h : m = some x) (p : P x) : Ok m P := ⟨x, h, p⟩
theorem ok_some {x : α} {P : α → Prop} (p : P x) : Ok (some x) P := ⟨x, rfl, p⟩
theorem ok_bnd {m : Option α} {f : α → Option β} {P : α → Prop} {Q : β → Prop} (h : Ok m P) (k : ∀ r, P r → Ok (f r) Q) : Ok (bnd m f) Q := by
  obtain ⟨r, e, p⟩ := h
  subst e
  exact k r p
theorem ok_chk {c : Prop} {m : Option α} {Q : α → Prop} (h : c) (k : Ok m Q) : Ok (chk c m) Q := by rw [chk_pos h]; exact k
theorem ok_lt {x : α} {f : α → Option β} {Q : β → Prop} (k : ∀ y, y = x → Ok (f y) Q) : Ok (lt x f) Q := k x rfl
theorem ok_ite {b : Bool} {m k : Option α} {Q : α → Prop} (h1 : b = true → Ok m Q) (h2 : b = false → Ok k Q) : Ok (if b = true then m else k) Q := by
  cases b with
  | true => exact h1 rfl
  | false => exact h2 rfl
theorem ok_andO {a : Bool} {m : Option Bool} {Q : Bool → Prop} (h1 : a = true → Ok m Q) (h2 : a = false → Q false) : Ok (andO a m) Q := by
  cases a with
  | true => exact h1 rfl
  | false => exact ⟨false, rfl, h2 rfl⟩
theorem ok_orO {a : Bool} {m : Option Bool} {Q : Bool → Prop} (h1 : a = false → Ok m Q) (h2 : a = true → Q true) : Ok (orO a m) Q := by
  cases a with
  | false => exact h1 rfl
  | true => exact ⟨true, rfl, h2 rfl⟩
theorem ok_foldO {f : β → α → Option β} (I : Nat → β → Prop) : ∀ {xs : List α} {b : β} {Q : β → Prop}, I 0 b → (∀ i b x, xs[i]? = some x → I i b → Ok (f b x) (I (i + 1))) → (∀ b, I xs.length b → Q b) → Ok (foldO f b xs) Q := by
  have key : ∀ (xs : List α) (b : β) (k : Nat), I k b → (∀ i b x, xs[i]? = some x → I (k + i) b → Ok (f b x) (I (k + i + 1))) → Ok (foldO f b xs) (I (k + xs.length)) := by
    intro xs
    induction xs with
    | nil => intro b k h _; exact ⟨b, rfl, h⟩
    | cons x r ih =>
      intro b k h hs
      refine ok_bnd (hs 0 b x rfl h) fun b' h' => ?_
      have := ih b' (k + 1) h' (fun i b y hy hI => by
        have := hs (i + 1) b y (by simpa using hy) (by rw [show k + (i + 1) = k + 1 + i by omega]; exact hI)
        rw [show k + (i + 1) + 1 = k + 1 + i + 1 by omega] at this
        exact this)
      rw [List.length_cons, show k + (r.length + 1) = k + 1 + r.length by omega]
      exact this
  intro xs b Q h0 hs hd
  have := key xs b 0 h0 (fun i b x hx hI => by
    have := hs i b x hx (by rw [Nat.zero_add] at hI; exact hI)
    rw [Nat.zero_add]; exact this)
  rw [Nat.zero_add] at this
  exact this.imp hd
theorem ok_foldF {f : β → α → Option (Fl β ρ)} (I : Nat → β → Prop) (Rr : ρ → Prop) : ∀ {xs : List α} {b : β} {Q : Fl β ρ → Prop}, I 0 b → (∀ i b x, xs[i]? = some x → I i b → Ok (f b x) (fun o => match o with | .nx b' => I (i + 1) b' | .rt r => Rr r)) →
    (∀ b, I xs.length b → Q (.nx b)) → (∀ r, Rr r → Q (.rt r)) → Ok (foldF f b xs) Q := by
  have key : ∀ (xs : List α) (b : β) (k : Nat), I k b → (∀ i b x, xs[i]? = some x → I (k + i) b → Ok (f b x) (fun o => match o with | .nx b' => I (k + i + 1) b' | .rt r => Rr r)) → Ok (foldF f b xs) (fun o => match o with | .nx b' => I (k + xs.length) b' | .rt r => Rr r) := by
    intro xs
    induction xs with
    | nil => intro b k h _; exact ⟨.nx b, rfl, h⟩
    | cons x r ih =>
      intro b k h hs
      refine ok_bnd (hs 0 b x rfl h) fun o h' => ?_
      cases o with
      | rt r => exact ⟨.rt r, rfl, h'⟩
      | nx b' =>
        have := ih b' (k + 1) h' (fun i b y hy hI => by
          have := hs (i + 1) b y (by simpa using hy) (by rw [show k + (i + 1) = k + 1 + i by omega]; exact hI)
          rw [show k + (i + 1) + 1 = k + 1 + i + 1 by omega] at this
          exact this)
        rw [List.length_cons, show k + (r.length + 1) = k + 1 + r.length by omega]
        exact this
  intro xs b Q h0 hs hd hr
  have := key xs b 0 h0 (fun i b x hx hI => by
    have := hs i b x hx (by rw [Nat.zero_add] at hI; exact hI)
    rw [Nat.zero_add]; exact this)
  rw [Nat.zero_add] at this
  refine this.imp fun o h => ?_
  cases o with
  | nx b => exact hd b h
  | rt r => exact hr r h
theorem ok_go {o : Fl β ρ} {k : β → Option γ} {e : ρ → Option γ} {Q : γ → Prop} (h1 : ∀ b, o = .nx b → Ok (k b) Q) (h2 : ∀ r, o = .rt r → Ok (e r) Q) : Ok (o.go k e) Q := by
  cases o with
  | nx b => exact h1 b rfl
  | rt r => exact h2 r rfl
theorem ok_compO {t : α → Option Bool} {f : α → Option β} {P : α → β → Prop} {T : α → Bool} : ∀ {xs : List α}, (∀ x ∈ xs, Ok (t x) (· = T x)) → (∀ x ∈ xs, T x = true → Ok (f x) (P x)) → Ok (compO t f xs) (fun ys => ys.length = (xs.filter T).length ∧ ∀ (i : Nat) (y : β), ys[i]? = some y → ∃ x, (xs.filter T)[i]? = some x ∧ P x y)
  | [], _, _ => ⟨[], rfl, rfl, fun i y h => by simp at h⟩
  | x :: r, h1, h2 => by
    unfold compO
    refine ok_bnd (h1 x List.mem_cons_self) fun b hb => ?_
    subst hb
    have ih := ok_compO (xs := r) (fun z hz => h1 z (List.mem_cons_of_mem _ hz)) (fun z hz => h2 z (List.mem_cons_of_mem _ hz))
    refine ok_ite (fun hb => ?_) (fun hb => ?_)
    · refine ok_bnd (h2 x List.mem_cons_self hb) fun y hy => ?_
      refine ok_bnd ih fun ys ⟨e1, e2⟩ => ok_some ?_
      rw [List.filter_cons, if_pos hb]
      refine ⟨by simp [e1], fun i z hz => ?_⟩
      cases i with
      | zero => simp at hz; subst hz; exact ⟨x, rfl, hy⟩
      | succ i => exact e2 i z (by simpa using hz)
    · rw [List.filter_cons, if_neg (by rw [hb]; exact Bool.false_ne_true)]
      exact ih
theorem ok_mapO {f : α → Option β} {P : α → β → Prop} {xs : List α} (h : ∀ x ∈ xs, Ok (f x) (P x)) : Ok (mapO f xs) (fun ys => ys.length = xs.length ∧ ∀ (i : Nat) (y : β), ys[i]? = some y → ∃ x, xs[i]? = some x ∧ P x y) := by
  have := ok_compO (t := fun _ => some true) (T := fun _ => true) (xs := xs) (fun x _ => ok_some rfl) (fun x hx _ => h x hx)
  rw [show xs.filter (fun _ => true) = xs from List.filter_eq_self.mpr (fun _ _ => rfl)] at this
  exact this
theorem mapO_eq {f : α → Option β} {g : α → β} : ∀ {xs : List α}, (∀ x ∈ xs, f x = some (g x)) → mapO f xs = some (xs.map g)
  | [], _ => rfl
  | x :: r, h => by
    have ih := mapO_eq (xs := r) (fun z hz => h z (List.mem_cons_of_mem _ hz))
    unfold mapO at ih ⊢
    unfold compO
    rw [Option.bind_some, if_pos rfl, h x List.mem_cons_self, Option.bind_some, ih]
    rfl
theorem compO_eq {t : α → Option Bool} {T : α → Bool} {f : α → Option β} {g : α → β} : ∀ {xs : List α}, (∀ x ∈ xs, t x = some (T x)) → (∀ x ∈ xs, T x = true → f x = some (g x)) → compO t f xs = some ((xs.filter T).map g)
  | [], _, _ => rfl
  | x :: r, h1, h2 => by
    have ih := compO_eq (xs := r) (fun z hz => h1 z (List.mem_cons_of_mem _ hz)) (fun z hz => h2 z (List.mem_cons_of_mem _ hz))
    unfold compO
    rw [h1 x List.mem_cons_self, Option.bind_some, List.filter_cons]
    cases hT : T x with
    | true => rw [if_pos rfl, if_pos rfl, h2 x List.mem_cons_self hT, Option.bind_some, ih]; rfl
    | false => rw [if_neg Bool.false_ne_true, if_neg Bool.false_ne_true, ih]
theorem foldO_eq {f : β → α → Option β} {g : β → α → β} : ∀ {xs : List α} {b : β}, (∀ b, ∀ x ∈ xs, f b x = some (g b x)) → foldO f b xs = some (xs.foldl g b)
  | [], _, _ => rfl
  | x :: r, b, h => by
    unfold foldO
    rw [h b x List.mem_cons_self, Option.bind_some, foldO_eq (xs := r) (fun b z hz => h b z (List.mem_cons_of_mem _ hz))]
    rfl
theorem ok_whileO {c : β → Option Bool} {f : β → Option β} (I : β → Prop) (μ : β → Nat) {Q : β → Prop} (hc : ∀ b, I b → Ok (c b) (fun t => if t = true then Ok (f b) (fun b' => I b' ∧ μ b' < μ b) else Q b)) : ∀ (n : Nat) (b : β), I b → μ b < n → Ok (whileO c f n b) Q
  | 0, b, _, h => absurd h (Nat.not_lt_zero _)
  | n + 1, b, hI, h => by
    unfold whileO
    refine ok_bnd (hc b hI) fun t ht => ?_
    cases t with
    | true =>
      rw [if_pos rfl] at ht ⊢
      exact ok_bnd ht fun b' ⟨h1, h2⟩ => ok_whileO I μ hc n b' h1 (by omega)
    | false =>
      rw [if_neg Bool.false_ne_true] at ht ⊢
      exact ok_some ht
theorem ok_whileF {c : β → Option Bool} {f : β → Option (Fl β ρ)} (I : β → Prop) (μ : β → Nat) {Q : Fl β ρ → Prop} (hc : ∀ b, I b → Ok (c b) (fun t => if t = true then Ok (f b) (fun o => match o with | .nx b' => I b' ∧ μ b' < μ b | .rt r => Q (.rt r)) else Q (.nx b))) : ∀ (n : Nat) (b : β), I b → μ b < n → Ok (whileF c f n b) Q
  | 0, b, _, h => absurd h (Nat.not_lt_zero _)
  | n + 1, b, hI, h => by
    unfold whileF
    refine ok_bnd (hc b hI) fun t ht => ?_
    cases t with
    | true =>
      rw [if_pos rfl] at ht ⊢
      refine ok_bnd ht fun o ho => ?_
      cases o with
      | nx b' => exact ok_whileF I μ hc n b' ho.1 (by have := ho.2; omega)
      | rt r => exact ok_some ho
    | false =>
      rw [if_neg Bool.false_ne_true] at ht ⊢
      exact ok_some ht
theorem fuel_eq : fuel = 1000000 := by unfold fuel; rfl
theorem mul_l {x y : Int} (h1 : -1000000000000000000 < x) (h2 : x < 1000000000000000000) : MulOk x y := .inl (.inl ⟨by omega, by omega⟩)
theorem mul_r {x y : Int} (h1 : -1000000000000000000 < y) (h2 : y < 1000000000000000000) : MulOk x y := .inl (.inr ⟨by omega, by omega⟩)
set_option exponentiation.threshold 10000 in
theorem div_small {y : Int} (h1 : 0 < y) (h2 : y < 1000000000000000000) : DivOk y := ⟨h1, PySem.Flt.log2_lt_of (by decide) (show y.natAbs < 2 ^ 9000 from Nat.lt_of_lt_of_le (show y.natAbs < 2 ^ 64 by omega) (Nat.pow_le_pow_right (by decide) (by decide)))⟩
theorem szl : sizeLine = 16777216 := rfl
theorem atI_get {xs : List α} {i : Int} (h0 : 0 ≤ i) (h1 : i < xs.length) : atI xs i = xs[i.toNat]? := by
  unfold atI ixN
  rw [if_pos h0, if_pos h1]; rfl
theorem ok_atI {xs : List α} {i : Int} {Q : α → Prop} (h0 : 0 ≤ i) (h1 : i < xs.length) (h : ∀ x, xs[i.toNat]? = some x → Q x) : Ok (atI xs i) Q := by
  rw [atI_get h0 h1]
  have hl : i.toNat < xs.length := by omega
  exact ⟨xs[i.toNat], List.getElem?_eq_getElem hl, h _ (List.getElem?_eq_getElem hl)⟩
theorem cut_len_le (xs : List α) (lo hi : Option Int) : (cut xs lo hi).length ≤ xs.length := by
  unfold cut
  rw [List.length_take, List.length_drop]
  omega
theorem cut_hi (xs : List α) (n : Nat) : cut xs none (some (n : Int)) = xs.take n := by
  unfold cut
  rw [HT.sIx_none, show HT.sIx xs.length xs.length (some (n : Int)) = min n xs.length from HT.sIx_nat xs.length xs.length n]
  simp only [List.drop_zero, Nat.sub_zero]
  by_cases h : n ≤ xs.length
  · rw [Nat.min_eq_left h]
  · rw [Nat.min_eq_right (by omega), List.take_of_length_le (Nat.le_refl _), List.take_of_length_le (by omega)]
theorem rng_len_nn {n : Int} (h : 0 ≤ n) : (rng 0 n).length = n.toNat := by rw [rng_len]; congr 1; omega
theorem rng_at {a b : Int} {i : Nat} {x : Int} (h : (rng a b)[i]? = some x) : x = a + (i : Int) ∧ a + (i : Int) < b := by
  obtain ⟨h1, h2⟩ := rng_get h
  omega
end
theorem chars_len (x : Str) : (chars x).length = x.length := by
  unfold chars
  rw [List.length_map, Array.length_toList]; rfl
theorem join_len0 (ys : List Str) : (Txt.join ("" : Str) ys).length = (ys.map (·.length)).sum := by
  have h : ∀ z : Str, z.length = (TL.tl z).length := fun z => by show z.cps.size = z.cps.toList.length; rw [Array.length_toList]
  have key : ∀ ps : List (List Nat), (TL.joinL [] ps).length = (ps.map List.length).sum := by
    intro ps
    induction ps with
    | nil => rfl
    | cons p r ih =>
      cases r with
      | nil => simp [TL.joinL]
      | cons q r =>
        have e : TL.joinL [] (p :: q :: r) = p ++ ([] ++ TL.joinL [] (q :: r)) := by simp [TL.joinL]
        rw [e, List.nil_append, List.length_append, ih]; rfl
  rw [h, TL.join_eq, TL.tl_join, show TL.tl ("" : Str) = [] from rfl, key, List.map_map]
  exact congrArg List.sum (List.map_congr_left fun z _ => (h z).symm)
theorem sum_ones {ys : List Str} (h : ∀ y ∈ ys, y.length = 1) : (ys.map (·.length)).sum = ys.length := by
  induction ys with
  | nil => rfl
  | cons y r ih =>
    rw [List.map_cons, List.sum_cons, ih fun z hz => h z (List.mem_cons_of_mem _ hz), h y List.mem_cons_self, List.length_cons]
    omega
theorem foldF_any {α ρ : Type} {p : α → Bool} {f : Unit → α → Option (Fl Unit ρ)} {r : ρ} (h : ∀ x, f () x = if p x = true then some (.rt r) else some (.nx ())) : ∀ xs : List α, foldF f () xs = some (if xs.any p = true then .rt r else .nx ())
  | [] => rfl
  | x :: xs => by
    unfold foldF
    rw [h x, List.any_cons]
    cases hp : p x with
    | true => rfl
    | false =>
      rw [if_neg Bool.false_ne_true]
      show foldF f () xs = _
      rw [foldF_any h xs, Bool.false_or]
end Dy

namespace Dy
open PySem PySem.Spec L2
open PyProof.Rows hiding St
open Enc (rep)
open Flat (toV)
open EncA (repA)

section
variable {α β γ δ : Type} [Enc α] [Enc β] [Enc γ] [Enc δ] {X : Cx} {σ : St} {s t : S} {e a b c tg iter : Expr} {es : List Expr} {pos p0 p1 p2 p3 : Pos} {D : Ends} {rest A B body : List Stmt}
def RepS (x : Str) (n : Int) : Prop := PySem.MulOk x n
def replS (x : Str) (n : Int) : Str := Txt.mul x n
theorem op_repStr : OpR X (binaryOp .Mult) (fun x y H Q => ∃ z n, x = .str z ∧ y = .int n ∧ RepS z n ∧ Q (.str (replS z n)) H) := by
  intro pins s σ H x y v u Q I rx ry h
  obtain ⟨z, n, rfl, rfl, hok, q⟩ := h
  obtain ⟨t, rfl⟩ := rx
  obtain ⟨t', rfl⟩ := ry
  exact PySem.SB.mul hok fun t' k => ⟨.str _, H, I.tok _, ⟨_, rfl⟩, q⟩
theorem ev_repS {x : Str} {n : Int} (ha : Ev X a σ s x) (hb : Ev X b σ s n) (h : RepS x n) : Ev X (.BinOp a .Mult b pos) σ s (replS x n) :=
  ev_op op_repStr ha hb fun v u s2 hv hu Q q => ⟨x, n, hv, hu, h, q _ s2 (Ex.refl _) rfl⟩
theorem repS_small {x : Str} {n : Int} (h0 : x.length ≤ 1000) (h1 : n ≤ 1000) (h2 : -1000 ≤ n) : RepS x n := by
  refine ⟨by rw [Bool.or_eq_false_iff]; exact ⟨decide_eq_false (by omega), decide_eq_false (by omega)⟩, fun h3 _ => ?_, fun h3 _ => ?_⟩
  · intro h
    have : (2 ^ 63 - 1) / n ≥ 1000 := by
      refine (Int.le_ediv_iff_mul_le (by omega)).mpr ?_
      omega
    omega
  · unfold Builtin.Str.tooLong
    have : x.length * n.toNat ≤ 1000 * 1000 := Nat.mul_le_mul h0 (by omega)
    refine decide_eq_false ?_
    have := szl
    omega
def stepN (a b c : Int) : Nat := if a < b then ((b - a - 1) / c + 1).toNat else 0
def rngS (a b c : Int) : List Int := (List.range (stepN a b c)).map fun i : Nat => a + (i : Int) * c
def RgS (a b c : Int) : Prop := (-(2 ^ 61) ≤ a ∧ a < 2 ^ 61) ∧ (-(2 ^ 61) ≤ b ∧ b < 2 ^ 61) ∧ 0 < c ∧ c < 1000000
theorem rgC_of {a b c : Int} (h : RgS a b c) : RgC a b c (stepN a b c) := by
  obtain ⟨⟨h1, h2⟩, ⟨h3, h4⟩, h5, h6⟩ := h
  have hs : Builtin.Range.rangeSize a b c = (stepN a b c : Nat) := by
    unfold Builtin.Range.rangeSize stepN
    rw [if_pos h5]
    split
    · have : 0 ≤ (b - a - 1) / c := Int.ediv_nonneg (by omega) (by omega)
      omega
    · rfl
  refine ⟨by omega, by omega, ?_, hs⟩
  have e1 : a < b → c * ((b - a - 1) / c) ≤ b - a - 1 := fun _ => Int.mul_ediv_self_le (by omega)
  have e2 : a < b → 0 ≤ (b - a - 1) / c := fun _ => Int.ediv_nonneg (by omega) (by omega)
  have e3 : a < b → (b - a - 1) / c ≤ b - a - 1 := fun _ => by
    refine Int.ediv_le_self _ (by omega)
  unfold Builtin.Range.small
  unfold Builtin.Range.rangeSize
  simp only [Builtin.Range.rangeFitsLong, Bool.and_eq_true, Bool.or_eq_true, decide_eq_true_eq, beq_iff_eq, if_pos h5]
  split
  · rename_i hlt
    have e1 := e1 hlt
    have e2 := e2 hlt
    have e3 := e3 hlt
    generalize hq : (b - a - 1) / c = q at *
    have e4 : c * q = q * c := Int.mul_comm _ _
    have e5 : (q + 1) * c = q * c + c := by rw [Int.add_mul]; omega
    have e6 : 0 ≤ c * q := Int.mul_nonneg (by omega) e2
    refine ⟨?_, ?_⟩ <;> omega
  · omega
theorem rngS_get {a b c : Int} {i : Nat} {x : Int} (h : (rngS a b c)[i]? = some x) : i < stepN a b c ∧ x = a + (i : Int) * c := by
  unfold rngS at h
  rw [List.getElem?_map] at h
  obtain ⟨j, h1, rfl⟩ := Option.map_eq_some_iff.mp h
  obtain ⟨h2, h3⟩ := List.getElem?_eq_some_iff.mp h1
  rw [List.length_range] at h2
  rw [List.getElem_range] at h3
  subst h3
  exact ⟨h2, rfl⟩
theorem rngS_len (a b c : Int) : (rngS a b c).length = stepN a b c := by unfold rngS; rw [List.length_map, List.length_range]
theorem ei_range3 {x y z : Int} (hm : X.mg "range" = none) (ha : Ev X a σ s x) (hb : Ev X b σ s y) (hc : Ev X c σ s z) (h : RgS x y z) (hg : Gl X "range" := by rfl)
    (hs : starEach [a, b, c] X.env = (false, eval a X.env) :: starEach [b, c] X.env := by rfl) (hs2 : starEach [b, c] X.env = (false, eval b X.env) :: starEach [c] X.env := by rfl) (hs3 : starEach [c] X.env = (false, eval c X.env) :: starEach [] X.env := by rfl) (hpl : (backTo pos (starEach [b, c] X.env)).any (·.1) = false := by rfl) :
    EvI X tg (.Call (.Name "range" p0) [a, b, c] [] pos) σ s (rngS x y z) := fun s1 k R q =>
  wi_of (pi_range3 hg hm (pa_cons pe_we (pa_cons pe_we (pa_cons pe_we pa_nil hs3) hs2) hs) hs hpl) (ha s1 k _ fun v s2 k2 r2 => hb s2 (k.trans k2) _ fun u s3 k3 r3 => hc s3 ((k.trans k2).trans k3) _ fun w s4 k4 r4 =>
    ⟨x, y, z, stepN x y z, by rw [show v = V.int x from r2, show u = V.int y from r3, show w = V.int z from r4], rgC_of h, q _ s4 ((k2.trans k3).trans k4) ⟨fun i t w f hw => ⟨(rngS_get hw).1, fun v' H' ⟨e1, e2⟩ => ⟨t, e1.symm, Ex.refl _, by rw [e2, (rngS_get hw).2]; rfl⟩⟩, fun i t f hi => by rw [rngS_len] at hi; exact hi⟩⟩)
theorem ev_isiR {xs : List α} {n : Str} {T : String} {r : Bool} (hm : X.mg "isinstance" = none) (hn : X.mg n = none) (hv : bootBuiltins n = some (.type T)) (ha : EvR X a σ s xs) (h : kitB "list" T = some r)
    (hg : Gl X "isinstance" := by rfl) (hgn : Gl X n := by rfl) (he : starEach [a, .Name n p1] X.env = (false, eval a X.env) :: starEach [.Name n p1] X.env := by rfl) (he2 : starEach [.Name n p1] X.env = (false, eval (.Name n p1) X.env) :: starEach [] X.env := by rfl) (hpl : (backTo pos (starEach [.Name n p1] X.env)).any (·.1) = false := by rfl)
    (hnn : n ≠ "__name__" := by decide) (hnd : (n == ("__debug__" : Str)) = false := by decide) :
    Ev X (.Call (.Name "isinstance" p0) [a, .Name n p1] [] pos) σ s r := fun s1 k Q q =>
  we_of (pe_callB call_isi hg hm (by decide +kernel) (pa_cons pe_we (pa_cons (pe_bltn (v := .ty T) hgn hn hv rfl hnn hnd) pa_nil he2) he) (he := he) (hpl := hpl)) (ha s1 k _ fun v s2 k2 r2 => by
    obtain ⟨p, vs, rfl, h1, _⟩ := r2
    exact ⟨.ref p, .ty T, .type "list", .type T, r, rfl, .ty T, sql_ty h1, kit_ty h, q _ s2 k2 rfl⟩)
theorem eb_isB {x y : Bool} (ha : Ev X a σ s x) (hb : Ev X b σ s y) : EvB X (.Compare a [.Is] [b] pos) σ s (decide (x = y)) :=
  eb_cmp op_isBl ha hb (fun v u s2 hv hu Q q => ⟨x, y, hv, hu, q⟩) (nomark _)
theorem eb_isnotB {x y : Bool} (ha : Ev X a σ s x) (hb : Ev X b σ s y) : EvB X (.Compare a [.IsNot] [b] pos) σ s (!decide (x = y)) :=
  eb_cmp op_notBl ha hb (fun v u s2 hv hu Q q => ⟨x, y, hv, hu, q⟩) (nomark _)
theorem ev_sliceT {x : Tu α} {lo hi : Option Expr} {l h : Option Int} (ha : Ev X a σ s x) (hl : EvO X lo σ s l) (hh : EvO X hi σ s h) : Ev X (.Subscript a (.Slice lo hi none p2) pos) σ s (Tu.mk (cut x.l l h)) := fun s1 k Q q => by
  obtain ⟨tl, pl, ql⟩ := po_evo hl
  obtain ⟨th, ph, qh⟩ := po_evo hh
  refine we_of (pe_slice sl_tupA pe_we pl ph) (ha s1 k _ fun v s2 k2 r2 => ql s2 (k.trans k2) _ fun s3 k3 => qh s3 ((k.trans k2).trans k3) _ fun s4 k4 => ?_)
  obtain ⟨p, vs, rfl, h1, h2⟩ := Enc.mono (α := Tu α) (k3.trans k4).f r2
  have kk := (k2.trans k3).trans k4
  refine ⟨p, vs, rfl, sqt_mono s4.sub h1, fun hw => ?_, fun _ l hl => q _ (s4.newF l _ hl) (kk.trans (Ex.newF hl)) ⟨l, _, rfl, tup_new hl, (h2.cut _ _).mono (Ex.newF hl).f⟩⟩
  refine q _ s4 kk ⟨p, vs, rfl, h1, ?_⟩
  have e : cut x.l l h = x.l := by
    unfold cut
    rw [← h2.len, hw.1, hw.2, List.drop_zero, Nat.sub_zero, h2.len, List.take_length]
  show Reps _ _ vs (cut x.l l h)
  rw [e]; exact h2
def popN (n : Nat) (i : Int) : Option Nat := if -(2 ^ 63) ≤ i ∧ i < 2 ^ 63 then seqIndex? i n else none
theorem seqIx_lt {n : Nat} {i : Int} {k : Nat} (h : seqIndex? i n = some k) : k < n := by
  unfold seqIndex? at h
  dsimp only at h
  split at h <;> split at h
  all_goals first | (rename_i h2; simp only [Bool.and_eq_true, decide_eq_true_eq] at h2; cases h; omega) | cases h
theorem do_popAt (i : Nat) {p : Addr} {n : Str} {xs : List α} {z : Int} {j : Nat} (hσ : σ[i]? = some (some (.ref p))) (o : Own X.K s p xs) (he : Ev X e σ s z) (hj : popN xs.length z = some j)
    (k : ∀ s1, Mx (· = p) s s1 → Own X.K s1 p (xs.eraseIdx j) → WSs X rest D σ s1.H)
    (hN : X.N[i]? = some n := by rfl) (hv : Vis X.env.scope n := by first | exact Or.inl rfl | exact Or.inr (Or.inl rfl) | exact Or.inr (Or.inr rfl)) (hd : (n == ("__debug__" : Str)) = false := by decide) (hcd : (n == ("__classdict__" : Str)) = false := by decide)
    (hbase : attributeBase (.Name n p0) "pop" X.env (eval (.Name n p0) X.env) = eval (.Name n p0) X.env := by rfl)
    (hfew : ((backTo p2 (starEach [e] X.env)).all (fun x => !x.1) && (backToKw p2 (keywordEach [] X.env)).all (fun x => x.1.isSome) && decide (([e] : List Expr).length + ([] : List Keyword).length + (if ([] : List Keyword).isEmpty then 0 else 1) < 30)) = true := by rfl)
    (hline : (p1.endLine == p2.line) = true := by rfl) (hs : starEach [e] X.env = (false, eval e X.env) :: starEach [] X.env := by rfl) (hplain : (backTo p2 (starEach [] X.env)).any (·.1) = false := by rfl)
    (hsw : swapsWith (.Call (.Attribute (.Name n p0) "pop" p1) [e] [] p2) none p3.line X.env = pure false := by rfl) :
    WSs X (.Expr (.Call (.Attribute (.Name n p0) "pop" p1) [e] [] p2) p3 :: rest) D σ s.H :=
  do_cons (ps_expr (pe_bm PySem.F.plainAttrs_list PySem.F.slot_list_pop PySem.F.type_list_pop mt_popAt (pe_var hN hv hd hcd) (pa_cons pe_we pa_nil hs) hbase hfew hline hs hplain) hsw) (by
    obtain ⟨h1, vs, h2, h3⟩ := id o
    refine ⟨_, hσ, .inl ⟨rfl, vs, .inl (.inl h2)⟩, he s (Ex.refl _) _ fun v s1 k1 r1 => ?_⟩
    have f1 := k1.n _ _ h2 h1
    have g1 := k1.h _ _ h2
    unfold popN at hj
    split at hj
    · rename_i hb
      have hlt : j < vs.length := by rw [h3.len]; exact seqIx_lt hj
      refine ⟨p, vs, z, j, vs[j], rfl, by rw [show v = V.int z from r1], g1, hb.1, hb.2, by rw [h3.len]; exact hj, List.getElem?_eq_getElem hlt, ?_⟩
      exact k (s1.put p (.lst (vs.eraseIdx j)) f1) (k1.mx.trans (Mx.put f1)) ⟨f1, _, upd_same, (h3.mono k1.f).erase j⟩
    · cases hj)
def InsOk (i : Int) (n : Nat) : Prop := 0 ≤ i ∧ i < 2 ^ 63 ∧ n < sizeLine
def insI {τ : Type} (xs : List τ) (i : Int) (x : τ) : List τ := xs.take i.toNat ++ [x] ++ xs.drop i.toNat
theorem do_insert (i : Nat) {p : Addr} {n : Str} {xs : List α} {z : Int} {x : α} (hσ : σ[i]? = some (some (.ref p))) (o : Own X.K s p xs) (ha : Ev X a σ s z) (hb : Ev X b σ s x) (hj : InsOk z xs.length)
    (k : ∀ s1, Mx (· = p) s s1 → Own X.K s1 p (insI xs z x) → WSs X rest D σ s1.H)
    (hN : X.N[i]? = some n := by rfl) (hv : Vis X.env.scope n := by first | exact Or.inl rfl | exact Or.inr (Or.inl rfl) | exact Or.inr (Or.inr rfl)) (hd : (n == ("__debug__" : Str)) = false := by decide) (hcd : (n == ("__classdict__" : Str)) = false := by decide)
    (hbase : attributeBase (.Name n p0) "insert" X.env (eval (.Name n p0) X.env) = eval (.Name n p0) X.env := by rfl)
    (hfew : ((backTo p2 (starEach [a, b] X.env)).all (fun x => !x.1) && (backToKw p2 (keywordEach [] X.env)).all (fun x => x.1.isSome) && decide (([a, b] : List Expr).length + ([] : List Keyword).length + (if ([] : List Keyword).isEmpty then 0 else 1) < 30)) = true := by rfl)
    (hline : (p1.endLine == p2.line) = true := by rfl) (hs : starEach [a, b] X.env = (false, eval a X.env) :: starEach [b] X.env := by rfl) (hs2 : starEach [b] X.env = (false, eval b X.env) :: starEach [] X.env := by rfl) (hplain : (backTo p2 (starEach [b] X.env)).any (·.1) = false := by rfl)
    (hsw : swapsWith (.Call (.Attribute (.Name n p0) "insert" p1) [a, b] [] p2) none p3.line X.env = pure false := by rfl) :
    WSs X (.Expr (.Call (.Attribute (.Name n p0) "insert" p1) [a, b] [] p2) p3 :: rest) D σ s.H :=
  do_cons (ps_expr (pe_bm PySem.F.plainAttrs_list PySem.F.slot_list_insert PySem.F.type_list_insert mt_insert (pe_var hN hv hd hcd) (pa_cons pe_we (pa_cons pe_we pa_nil hs2) hs) hbase hfew hline hs hplain) hsw) (by
    obtain ⟨h1, vs, h2, h3⟩ := id o
    refine ⟨_, hσ, .inl ⟨rfl, vs, .inl (.inl h2)⟩, ha s (Ex.refl _) _ fun u s1 k1 r1 => hb s1 k1 _ fun v s2 k2 r2 => ?_⟩
    have kk := k1.trans k2
    have f1 := kk.n _ _ h2 h1
    have g1 := kk.h _ _ h2
    refine ⟨p, vs, z, v, rfl, by rw [show u = V.int z from r1], g1, by rw [h3.len]; exact hj.2.2, hj.1, hj.2.1, ?_⟩
    exact k (s2.put p (.lst (vs.take z.toNat ++ [v] ++ vs.drop z.toNat)) f1) (kk.mx.trans (Mx.put f1)) ⟨f1, _, upd_same, (((h3.mono kk.f).take _).snoc r2).app ((h3.mono kk.f).drop _)⟩)
theorem do_reverse (i : Nat) {p : Addr} {n : Str} {xs : List α} (hσ : σ[i]? = some (some (.ref p))) (o : Own X.K s p xs)
    (k : ∀ s1, Mx (· = p) s s1 → Own X.K s1 p xs.reverse → WSs X rest D σ s1.H)
    (hN : X.N[i]? = some n := by rfl) (hv : Vis X.env.scope n := by first | exact Or.inl rfl | exact Or.inr (Or.inl rfl) | exact Or.inr (Or.inr rfl)) (hd : (n == ("__debug__" : Str)) = false := by decide) (hcd : (n == ("__classdict__" : Str)) = false := by decide)
    (hbase : attributeBase (.Name n p0) "reverse" X.env (eval (.Name n p0) X.env) = eval (.Name n p0) X.env := by rfl) (hline : (p1.endLine == p2.line) = true := by rfl)
    (hsw : swapsWith (.Call (.Attribute (.Name n p0) "reverse" p1) [] [] p2) none p3.line X.env = pure false := by rfl) :
    WSs X (.Expr (.Call (.Attribute (.Name n p0) "reverse" p1) [] [] p2) p3 :: rest) D σ s.H :=
  do_cons (ps_expr (pe_bm0 PySem.F.plainAttrs_list PySem.F.slot_list_reverse PySem.F.type_list_reverse mt_reverse (pe_var hN hv hd hcd) hbase hline) hsw) (by
    obtain ⟨h1, vs, h2, h3⟩ := id o
    refine ⟨_, hσ, .inl ⟨rfl, vs, .inl (.inl h2)⟩, p, vs, rfl, rfl, h2, ?_⟩
    exact k (s.put p (.lst vs.reverse) h1) (Mx.put h1) ⟨h1, _, upd_same, h3.rev⟩)
theorem do_clear (i : Nat) {p : Addr} {n : Str} {xs : List α} (hσ : σ[i]? = some (some (.ref p))) (o : Own X.K s p xs)
    (k : ∀ s1, Mx (· = p) s s1 → Own X.K s1 p ([] : List α) → WSs X rest D σ s1.H)
    (hN : X.N[i]? = some n := by rfl) (hv : Vis X.env.scope n := by first | exact Or.inl rfl | exact Or.inr (Or.inl rfl) | exact Or.inr (Or.inr rfl)) (hd : (n == ("__debug__" : Str)) = false := by decide) (hcd : (n == ("__classdict__" : Str)) = false := by decide)
    (hbase : attributeBase (.Name n p0) "clear" X.env (eval (.Name n p0) X.env) = eval (.Name n p0) X.env := by rfl) (hline : (p1.endLine == p2.line) = true := by rfl)
    (hsw : swapsWith (.Call (.Attribute (.Name n p0) "clear" p1) [] [] p2) none p3.line X.env = pure false := by rfl) :
    WSs X (.Expr (.Call (.Attribute (.Name n p0) "clear" p1) [] [] p2) p3 :: rest) D σ s.H :=
  do_cons (ps_expr (pe_bm0 PySem.F.plainAttrs_list PySem.F.slot_list_clear PySem.F.type_list_clear mt_clear (pe_var hN hv hd hcd) hbase hline) hsw) (by
    obtain ⟨h1, vs, h2, h3⟩ := id o
    refine ⟨_, hσ, .inl ⟨rfl, vs, .inl (.inl h2)⟩, p, vs, rfl, rfl, h2, ?_⟩
    exact k (s.put p (.lst []) h1) (Mx.put h1) ⟨h1, _, upd_same, trivial⟩)
theorem ev_catT {x y : Tu α} (ha : Ev X a σ s x) (hb : Ev X b σ s y) (hz : x.l.length + y.l.length ≤ sizeLine) : Ev X (.BinOp a .Add b pos) σ s (Tu.mk (x.l ++ y.l)) := fun s1 k Q q =>
  we_of (pe_op op_catA pe_we pe_we) (ha s1 k _ fun v s2 k2 r2 => hb s2 (k.trans k2) _ fun u s3 k3 r3 => by
    obtain ⟨p, vs, rfl, h1, h2⟩ := Enc.mono (α := Tu α) k3.f r2
    obtain ⟨p', ws, rfl, h3, h4⟩ := r3
    have kk := k2.trans k3
    refine ⟨p, p', vs, ws, rfl, rfl, sqt_mono s3.sub h1, sqt_mono s3.sub h3, by rw [h2.len, h4.len]; exact hz, fun e => ?_, fun _ e => ?_, fun _ _ l hl => q _ (s3.newF l _ hl) (kk.trans (Ex.newF hl)) ⟨l, _, rfl, tup_new hl, (h2.app h4).mono (Ex.newF hl).f⟩⟩
    · refine q _ s3 kk ⟨p', ws, rfl, h3, ?_⟩
      subst e
      have e2 : x.l = [] := List.length_eq_zero_iff.mp h2.len.symm
      show Reps _ _ ws (x.l ++ y.l)
      rw [e2]; exact h4
    · refine q _ s3 kk ⟨p, vs, rfl, h1, ?_⟩
      subst e
      have e2 : y.l = [] := List.length_eq_zero_iff.mp h4.len.symm
      show Reps _ _ vs (x.l ++ y.l)
      rw [e2, List.append_nil]; exact h2)
end
theorem foldO_app {α β : Type} {N : Nat} {f : List β → α → Option (List β)} {g : α → β} : ∀ {xs : List α} {b : List β}, (∀ b x, b.length < N → x ∈ xs → f b x = some (b ++ [g x])) → b.length + xs.length ≤ N → foldO f b xs = some (b ++ xs.map g)
  | [], b, _, _ => by simp [foldO]
  | x :: r, b, h, hl => by
    rw [List.length_cons] at hl
    unfold foldO
    rw [h b x (by omega) List.mem_cons_self, Option.bind_some, foldO_app (xs := r) (b := b ++ [g x]) (fun b y hb hy => h b y hb (List.mem_cons_of_mem _ hy)) (by rw [List.length_append, List.length_singleton]; omega)]
    simp
theorem atI_map {α β : Type} {f : α → β} {xs : List α} {i : Int} {x : α} (h : atI xs i = some x) : atI (xs.map f) i = some (f x) := by
  unfold atI at h ⊢
  rw [List.length_map]
  cases hj : ixN xs.length i with
  | none => rw [hj] at h; cases h
  | some j =>
    rw [hj] at h
    show (xs.map f)[j]? = _
    rw [List.getElem?_map]
    have : xs[j]? = some x := h
    rw [this]; rfl
theorem foldF_none {α ρ : Type} {f : Unit → α → Option (Fl Unit ρ)} : ∀ {xs : List α}, (∀ x ∈ xs, f () x = some (.nx ())) → foldF f () xs = some (.nx ())
  | [], _ => rfl
  | x :: r, h => by
    unfold foldF
    rw [h x List.mem_cons_self]
    exact foldF_none fun y hy => h y (List.mem_cons_of_mem _ hy)
theorem foldF_ok {α ρ : Type} {f : Unit → α → Option (Fl Unit ρ)} {xs : List α} {Q : Fl Unit ρ → Prop} (h : ∀ x ∈ xs, Ok (f () x) (· = .nx ())) (q : Q (.nx ())) : Ok (foldF f () xs) Q :=
  ⟨_, foldF_none fun x hx => (h x hx).eq, q⟩
def Drawn (sizes ds : List Int) : Prop := ds.length = sizes.length ∧ ∀ (j : Nat) (d n : Int), ds[j]? = some d → sizes[j]? = some n → 0 ≤ d ∧ d < n
theorem ok_draw {sizes ds : List Int} (h : Drawn sizes ds) (k : Nat) {n : Int} (hk : sizes[k]? = some n) {Q : Int → Prop} (q : ∀ d, 0 ≤ d → d < n → Q d) : Ok (atI ds (k : Int)) Q := by
  obtain ⟨h1, h2⟩ := h
  have hlt : k < ds.length := by rw [h1]; exact (List.getElem?_eq_some_iff.mp hk).1
  refine ok_atI (by omega) (by omega) fun d hd => ?_
  rw [show (k : Int).toNat = k by omega] at hd
  obtain ⟨a, b⟩ := h2 k d n hd hk
  exact q d a b
theorem ok_sgn {x : Str} {i : Int} {Q : Str → Prop} (hz : x.length ≤ sizeLine) (h0 : 0 ≤ i) (h1 : i < x.length) (h : ∀ c, x.cps.toList[i.toNat]? = some c → Q ⟨#[c]⟩) : Ok (sgn x i) Q := by
  unfold sgn
  rw [if_pos hz]
  have hl : i.toNat < x.cps.toList.length := by
    rw [Array.length_toList]
    show i.toNat < x.length
    omega
  rw [atI_get h0 (by rw [Array.length_toList]; show i < (x.length : Int); exact h1), List.getElem?_eq_getElem hl]
  exact ok_some (h _ (List.getElem?_eq_getElem hl))
theorem bnd_some {α : Type} (m : Option α) : (bnd m fun x => some x) = m := by cases m <;> rfl
theorem ok_ret {α : Type} {m : Option α} {P : α → Prop} (h : Ok m P) : Ok (bnd m fun x => some x) P := by rw [bnd_some]; exact h
def txt (x : Str) : Prop := PyData.strOk x = true
theorem shp_strs {xs : List Str} (h : ∀ x ∈ xs, txt x) : shp xs := by
  unfold shp SeqAt.shaped
  have h1 : PyData.canLay0 (EqD.toD xs) = true := by
    show PyData.canLay0 (.list (xs.map PyData.str)) = true
    unfold PyData.canLay0
    induction xs with
    | nil => simp [PyData.canLayAll0]
    | cons x r ih =>
      rw [List.map_cons]
      unfold PyData.canLayAll0
      rw [ih fun y hy => h y (List.mem_cons_of_mem _ hy)]
      show (PyData.canLay0 (.str x) && true) = true
      unfold PyData.canLay0
      rw [show PyData.strOk x = true from h x List.mem_cons_self]; rfl
  have h2 : PyData.depth (EqD.toD xs) ≤ 64 := by
    show PyData.depth (.list (xs.map PyData.str)) ≤ 64
    unfold PyData.depth
    have : PyData.depthAll (xs.map PyData.str) = 0 := by
      clear h h1
      induction xs with
      | nil => simp [PyData.depthAll]
      | cons x r ih => rw [List.map_cons]; unfold PyData.depthAll; rw [ih]; simp [PyData.depth]
    omega
  rw [h1, decide_eq_true h2]; rfl
end Dy

namespace Dy
open PySem PySem.Spec L2
open PyProof.Rows hiding St
open Enc (rep)
open Flat (toV)
open EncA (repA)

def S.back (s t : S) (h : Fle s.F t.F) : S := ⟨s.F, t.H, fun a o q => t.sub a o (h a o q)⟩
theorem backE {s0 s t : S} (h : Fle s.F t.F) (E : Ex s0 s) (E' : Ex s0 t) : Ex s0 (s.back t h) := ⟨E.f, E'.h, E.n⟩
theorem backOwn {α : Type} [Enc α] {K : PySem.W.Frag} {s s1 t : S} {p : Addr} {xs : List α} (h : Fle s.F t.F) (o : Own K s p xs) (h1 : s1.F p = s.H p) (h2 : Fle s1.F t.F) : Own K (s.back t h) p xs := by
  obtain ⟨n, vs, e, r⟩ := o
  exact ⟨n, vs, t.sub _ _ (h2 _ _ (h1.trans e)), r⟩
theorem backOwn2 {α : Type} [Flat α] {K : PySem.W.Frag} {s t : S} {q : Addr} {xs : List α} (h : Fle s.F t.F) (o : Own K t q xs) : Own K (s.back t h) q xs := by
  obtain ⟨n, vs, e, r⟩ := o
  refine ⟨?_, vs, e, ?_⟩
  · show s.F q = none
    cases z : s.F q with
    | none => rfl
    | some u => rw [h _ _ z] at n; cases n
  · rw [r.flat]; exact Reps.of_flat xs
theorem backFlat {α : Type} [Flat α] {K : PySem.W.Frag} {s t : S} {v : V} {x : α} (h : Fle s.F t.F) (r : rep K t.F v x) : rep K (s.back t h).F v x := Flat.iff.mpr (Flat.iff.mp r)
section
variable {α β γ δ : Type} [Enc α] [Enc β] [Enc γ] [Enc δ] {X : Cx} {σ : St} {s t : S} {e a b c tg iter : Expr} {es : List Expr} {pos p0 p1 p2 p3 p4 p5 : Pos} {D : Ends} {rest A B body : List Stmt}
theorem do_frz2 {p : Addr} {xs : List α} {ss : List Stmt} (o : Own X.K s p xs) (k : ∀ s' : S, s'.H = s.H → Fle s.F s'.F → (∀ q, q ≠ p → s'.F q = s.F q) → rep X.K s'.F (.ref p) xs → s'.F p = s.H p → WSs X ss D σ s'.H) : WSs X ss D σ s.H := by
  obtain ⟨hn, vs, hp, r⟩ := o
  have f : Fle s.F (upd s.F p (.lst vs)) := fun a o q => by rw [upd_ne (ne_of_none q hn)]; exact q
  exact k ⟨upd s.F p (.lst vs), s.H, fun a o q => by
    unfold upd at q
    split at q
    · rename_i e; cases q; rw [e]; exact hp
    · exact s.sub a o q⟩ rfl f (fun q hq => upd_ne hq) ⟨p, vs, rfl, .inl (.inl upd_same), r.mono f⟩ (by show upd s.F p (.lst vs) p = _; rw [upd_same, hp])
theorem do_back {ss : List Stmt} (s : S) {t : S} (h : Fle s.F t.F) (k : WSs X ss D σ (s.back t h).H) : WSs X ss D σ t.H := k

section
variable {p : Addr} {n : Str} {xs : List α}
theorem we_pop (i : Nat) {z : Int} {j : Nat} {y : α} {Q : VK} (hσ : σ[i]? = some (some (.ref p))) (o : Own X.K s p xs) (he : Ev X e σ s z) (hj : popN xs.length z = some j) (hy : xs[j]? = some y)
    (k : ∀ v s1, Mx (· = p) s s1 → Own X.K s1 p (xs.eraseIdx j) → rep X.K s1.F v y → Q v s1.H)
    (hN : X.N[i]? = some n := by rfl) (hv : Vis X.env.scope n := by first | exact Or.inl rfl | exact Or.inr (Or.inl rfl) | exact Or.inr (Or.inr rfl)) (hd : (n == ("__debug__" : Str)) = false := by decide) (hcd : (n == ("__classdict__" : Str)) = false := by decide)
    (hbase : attributeBase (.Name n p0) "pop" X.env (eval (.Name n p0) X.env) = eval (.Name n p0) X.env := by rfl)
    (hfew : ((backTo p2 (starEach [e] X.env)).all (fun x => !x.1) && (backToKw p2 (keywordEach [] X.env)).all (fun x => x.1.isSome) && decide (([e] : List Expr).length + ([] : List Keyword).length + (if ([] : List Keyword).isEmpty then 0 else 1) < 30)) = true := by rfl)
    (hline : (p1.endLine == p2.line) = true := by rfl) (hs : starEach [e] X.env = (false, eval e X.env) :: starEach [] X.env := by rfl) (hplain : (backTo p2 (starEach [] X.env)).any (·.1) = false := by rfl) :
    WE X (.Call (.Attribute (.Name n p0) "pop" p1) [e] [] p2) σ s.H Q :=
  we_of (pe_bm PySem.F.plainAttrs_list PySem.F.slot_list_pop PySem.F.type_list_pop mt_popAt (pe_var hN hv hd hcd) (pa_cons pe_we pa_nil hs) hbase hfew hline hs hplain) (by
    obtain ⟨h1, vs, h2, h3⟩ := id o
    refine ⟨_, hσ, .inl ⟨rfl, vs, .inl (.inl h2)⟩, he s (Ex.refl _) _ fun v s1 k1 r1 => ?_⟩
    have f1 := k1.n _ _ h2 h1
    have g1 := k1.h _ _ h2
    unfold popN at hj
    split at hj
    · rename_i hb
      obtain ⟨w, hw, rw'⟩ := (h3.mono k1.f).get hy
      refine ⟨p, vs, z, j, w, rfl, by rw [show v = V.int z from r1], g1, hb.1, hb.2, by rw [h3.len]; exact hj, hw, ?_⟩
      exact k w (s1.put p (.lst (vs.eraseIdx j)) f1) (k1.mx.trans (Mx.put f1)) ⟨f1, _, upd_same, (h3.mono k1.f).erase j⟩ rw'
    · cases hj)
end
def popAt {τ : Type} (xs : List τ) (z : Int) : Option (τ × List τ) := (popN xs.length z).bind fun j => (xs[j]?).map fun y => (y, xs.eraseIdx j)
theorem popAt_some {τ : Type} {xs ys : List τ} {z : Int} {y : τ} (h : popAt xs z = some (y, ys)) : ∃ j, popN xs.length z = some j ∧ xs[j]? = some y ∧ ys = xs.eraseIdx j := by
  unfold popAt at h
  obtain ⟨j, h1, h2⟩ := bndE h
  obtain ⟨w, h3, h4⟩ := Option.map_eq_some_iff.mp h2
  cases h4
  exact ⟨j, h1, h3, rfl⟩
theorem do_setPop (i l : Nat) {p : Addr} {n m : Str} {xs ys : List α} {z : Int} {y : α} {py : Pos} (hσ : σ[i]? = some (some (.ref p))) (o : Own X.K s p xs) (he : Ev X e σ s z) (hj : popAt xs z = some (y, ys))
    (k : ∀ v s1, Mx (· = p) s s1 → Own X.K s1 p ys → rep X.K s1.F v y → WSs X rest D (σ.set l (some v)) s1.H)
    (hnd : X.N.Nodup) (hN : X.N[i]? = some n := by rfl) (hv : Vis X.env.scope n := by first | exact Or.inl rfl | exact Or.inr (Or.inl rfl) | exact Or.inr (Or.inr rfl)) (hd : (n == ("__debug__" : Str)) = false := by decide) (hcd : (n == ("__classdict__" : Str)) = false := by decide)
    (hbase : attributeBase (.Name n p0) "pop" X.env (eval (.Name n p0) X.env) = eval (.Name n p0) X.env := by rfl)
    (hfew : ((backTo p2 (starEach [e] X.env)).all (fun x => !x.1) && (backToKw p2 (keywordEach [] X.env)).all (fun x => x.1.isSome) && decide (([e] : List Expr).length + ([] : List Keyword).length + (if ([] : List Keyword).isEmpty then 0 else 1) < 30)) = true := by rfl)
    (hline : (p1.endLine == p2.line) = true := by rfl) (hs : starEach [e] X.env = (false, eval e X.env) :: starEach [] X.env := by rfl) (hplain : (backTo p2 (starEach [] X.env)).any (·.1) = false := by rfl)
    (hx : Loc X.env.scope m := by first | exact Or.inl rfl | exact Or.inr rfl) (hi : X.N[l]? = some m := by rfl)
    (hsw : swapsWith (.Call (.Attribute (.Name n p0) "pop" p1) [e] [] p2) (some (.Name m py)) pos.line X.env = pure false := by rfl) (hf : X.fn m = true ∨ X.env.scope.names.lookup m = some .local := by first | exact .inl rfl | exact .inr rfl) :
    WSs X (.Assign [.Name m py] (.Call (.Attribute (.Name n p0) "pop" p1) [e] [] p2) pos :: rest) D σ s.H := by
  obtain ⟨j, h1, h2, rfl⟩ := popAt_some hj
  exact do_cons (ps_set hnd hi hx pe_we hsw hf) (we_pop i hσ o he h1 h2 (fun v s1 m1 o1 r1 => k v s1 m1 o1 r1) hN hv hd hcd hbase hfew hline hs hplain)
theorem do_appPop (i l : Nat) {p q : Addr} {n m : Str} {xs ys zs : List α} {z : Int} {y : α} {py : Pos} (hσ : σ[i]? = some (some (.ref p))) (hσ2 : σ[l]? = some (some (.ref q))) (hpq : q ≠ p) (o : Own X.K s p xs) (o2 : Own X.K s q zs) (hz : zs.length < sizeLine) (he : Ev X e σ s z) (hj : popAt xs z = some (y, ys))
    (k : ∀ s1, Mx (fun a => a = p ∨ a = q) s s1 → Own X.K s1 p ys → Own X.K s1 q (zs ++ [y]) → WSs X rest D σ s1.H)
    (hN : X.N[i]? = some n := by rfl) (hv : Vis X.env.scope n := by first | exact Or.inl rfl | exact Or.inr (Or.inl rfl) | exact Or.inr (Or.inr rfl)) (hd : (n == ("__debug__" : Str)) = false := by decide) (hcd : (n == ("__classdict__" : Str)) = false := by decide)
    (hbase : attributeBase (.Name n p0) "pop" X.env (eval (.Name n p0) X.env) = eval (.Name n p0) X.env := by rfl)
    (hfew : ((backTo p2 (starEach [e] X.env)).all (fun x => !x.1) && (backToKw p2 (keywordEach [] X.env)).all (fun x => x.1.isSome) && decide (([e] : List Expr).length + ([] : List Keyword).length + (if ([] : List Keyword).isEmpty then 0 else 1) < 30)) = true := by rfl)
    (hline : (p1.endLine == p2.line) = true := by rfl) (hs : starEach [e] X.env = (false, eval e X.env) :: starEach [] X.env := by rfl) (hplain : (backTo p2 (starEach [] X.env)).any (·.1) = false := by rfl)
    (hN2 : X.N[l]? = some m := by rfl) (hv2 : Vis X.env.scope m := by first | exact Or.inl rfl | exact Or.inr (Or.inl rfl) | exact Or.inr (Or.inr rfl)) (hd2 : (m == ("__debug__" : Str)) = false := by decide) (hcd2 : (m == ("__classdict__" : Str)) = false := by decide)
    (hbase2 : attributeBase (.Name m py) "append" X.env (eval (.Name m py) X.env) = eval (.Name m py) X.env := by rfl)
    (hfew2 : ((backTo p4 (starEach [.Call (.Attribute (.Name n p0) "pop" p1) [e] [] p2] X.env)).all (fun x => !x.1) && (backToKw p4 (keywordEach [] X.env)).all (fun x => x.1.isSome) && decide (([.Call (.Attribute (.Name n p0) "pop" p1) [e] [] p2] : List Expr).length + ([] : List Keyword).length + (if ([] : List Keyword).isEmpty then 0 else 1) < 30)) = true := by rfl)
    (hline2 : (p3.endLine == p4.line) = true := by rfl) (hs2 : starEach [.Call (.Attribute (.Name n p0) "pop" p1) [e] [] p2] X.env = (false, eval (.Call (.Attribute (.Name n p0) "pop" p1) [e] [] p2) X.env) :: starEach [] X.env := by rfl) (hplain2 : (backTo p4 (starEach [] X.env)).any (·.1) = false := by rfl)
    (hsw : swapsWith (.Call (.Attribute (.Name m py) "append" p3) [.Call (.Attribute (.Name n p0) "pop" p1) [e] [] p2] [] p4) none p5.line X.env = pure false := by rfl) :
    WSs X (.Expr (.Call (.Attribute (.Name m py) "append" p3) [.Call (.Attribute (.Name n p0) "pop" p1) [e] [] p2] [] p4) p5 :: rest) D σ s.H := by
  obtain ⟨j, h1, h2, rfl⟩ := popAt_some hj
  refine do_cons (ps_expr (pe_bm PySem.F.plainAttrs_list PySem.F.slot_list_append PySem.F.type_list_append mt_append (pe_var hN2 hv2 hd2 hcd2) (pa_cons pe_we pa_nil hs2) hbase2 hfew2 hline2 hs2 hplain2) hsw) ?_
  obtain ⟨g1, vs, g2, g3⟩ := id o2
  refine ⟨_, hσ2, .inl ⟨rfl, vs, .inl (.inl g2)⟩, we_pop i hσ o he h1 h2 (fun v s1 m1 o1 r1 => ?_) hN hv hd hcd hbase hfew hline hs hplain⟩
  obtain ⟨f1, ws, f2, f3⟩ := o2.mx m1 hpq
  refine ⟨q, ws, v, rfl, rfl, f2, by rw [f3.len]; exact hz, ?_⟩
  have m2 : Mx (fun a => a = p ∨ a = q) s1 (s1.put q (.lst (ws ++ [v])) f1) := ⟨(Mx.put f1).f, fun a u h nn => (Mx.put f1).h a u h fun z => nn (.inr z), (Mx.put f1).n, (Mx.put f1).d⟩
  have m0 : Mx (fun a => a = p ∨ a = q) s s1 := ⟨m1.f, fun a u h nn => m1.h a u h fun z => nn (.inl z), m1.n, m1.d⟩
  refine k (s1.put q (.lst (ws ++ [v])) f1) (m0.trans m2) (o1.mx (Mx.put f1) fun z => hpq z.symm) ⟨f1, _, upd_same, f3.snoc r1⟩
theorem Ex.mu2 {s t u : S} {p q : Addr} (a : Ex s t) (b : Mx (fun a => a = p ∨ a = q) t u) (h : s.H p = none) (h2 : s.H q = none) : Ex s u := a.mu b fun _ e => e.elim (fun z => z ▸ h) fun z => z ▸ h2
def popAll {σ τ : Type} (f : List τ → σ → Option Int) : List τ → List σ → Option (List τ)
  | _, [] => some []
  | l, x :: r => (f l x).bind fun z => (popAt l z).bind fun y => (popAll f y.2 r).bind fun ys => some (y.1 :: ys)
theorem do_retPop (i j : Nat) {τ : Type} [Enc τ] {zs : List τ} {xs ys : List α} {f : List α → τ → Option Int} {p : Addr} {n x : Str} {px : Pos} {ie : Expr} {scope : Scope} {own : List (Str × Nat)} (hc : X.calm = true) (hN : X.N.Nodup) (hi : EvI X (.Name x px) iter σ s zs) (o : Own X.K s p xs) (ok : BlkOk X.N X.env.scope scope own)
    (hj : X.N[j]? = some x) (hjo : j ∈ own.map (·.2)) (hg : ∀ s0 H0 C cl fp, PG (Blk X scope s0 H0 C cl fp) (.Name x px) (gName j)) (hσ : ∀ v, ((wipe σ (own.map (·.2))).set j (some v))[i]? = some (some (.ref p))) (hf : popAll f xs zs = some ys) (hz : ys.length ≤ sizeLine)
    (he : ∀ (l : List α) (y : τ) (z : Int) (v : V) (s1 : S), y ∈ zs → Mx (· = p) s s1 → Own X.K s1 p l → rep X.K s1.F v y → f l y = some z → ∀ s0 H0 C cl fp, Ev (Blk X scope s0 H0 C cl fp) ie ((wipe σ (own.map (·.2))).set j (some v)) s1 z)
    (k : ∀ q s1, Mx (· = p) s s1 → s.H q = none → Own X.K s1 q ys → D.rt (.ref q) s1.H)
    (hNi : X.N[i]? = some n := by rfl)
    (hv : ∀ s0 H0 C cl fp, Vis (Blk X scope s0 H0 C cl fp).env.scope n := by intros; first | exact Or.inl rfl | exact Or.inr (Or.inl rfl) | exact Or.inr (Or.inr rfl)) (hd : (n == ("__debug__" : Str)) = false := by decide) (hcd : (n == ("__classdict__" : Str)) = false := by decide)
    (hbase : ∀ s0 H0 C cl fp, attributeBase (.Name n p0) "pop" (Blk X scope s0 H0 C cl fp).env (eval (.Name n p0) (Blk X scope s0 H0 C cl fp).env) = eval (.Name n p0) (Blk X scope s0 H0 C cl fp).env := by intros; rfl)
    (hfew : ∀ s0 H0 C cl fp, ((backTo p2 (starEach [ie] (Blk X scope s0 H0 C cl fp).env)).all (fun x => !x.1) && (backToKw p2 (keywordEach [] (Blk X scope s0 H0 C cl fp).env)).all (fun x => x.1.isSome) && decide (([ie] : List Expr).length + ([] : List Keyword).length + (if ([] : List Keyword).isEmpty then 0 else 1) < 30)) = true := by intros; rfl)
    (hline : (p1.endLine == p2.line) = true := by rfl) (hs1 : ∀ s0 H0 C cl fp, starEach [ie] (Blk X scope s0 H0 C cl fp).env = (false, eval ie (Blk X scope s0 H0 C cl fp).env) :: starEach [] (Blk X scope s0 H0 C cl fp).env := by intros; rfl) (hplain : ∀ s0 H0 C cl fp, (backTo p2 (starEach [] (Blk X scope s0 H0 C cl fp).env)).any (·.1) = false := by intros; rfl)
    (hs : ∀ x, foldedSetIterable iter X.env x = pure x := by intro _; rfl) : WSs X (.Return (some (.ListComp (.Call (.Attribute (.Name n p0) "pop" p1) [ie] [] p2) [⟨.Name x px, iter, [], 0⟩] scope p3)) pos :: rest) D σ s.H := by
  have hpe : PE X (.ListComp (.Call (.Attribute (.Name n p0) "pop" p1) [ie] [] p2) [⟨.Name x px, iter, [], 0⟩] scope p3) (tLc (WI X (.Name x px) iter) (gName j) tYes (fun σ H Q => ∀ s0 H0 C cl fp, WE (Blk X scope s0 H0 C cl fp) (.Call (.Attribute (.Name n p0) "pop" p1) [ie] [] p2) σ H Q) (own.map (·.2))) :=
    pe_lc hc hN pi_wi ok hg (fun s0 H0 C cl fp => pts_nil) (fun s0 H0 C cl fp => ⟨fun pins s _ _ _ I h => h s0 H0 C cl fp pins s I⟩) hs
  refine do_cons (ps_ret hpe) ?_
  refine (show EvI X (.Name x px) iter σ s zs from hi) s (Ex.refl _) _ fun J s2 k2 W => ?_
  intro Dd hD
  have o2 : Own X.K s2 p xs := o.ex k2
  have hne : p ≠ Dd := Own.ne o2 hD
  refine ⟨fun i m H => ∃ (u : S) (pre l : List α) (vs : List V), u.H = H ∧ m = zs.length - i ∧ Mx (· = p) s2 u ∧ Own X.K u p l ∧ u.F Dd = none ∧ u.H Dd = some (.lst vs) ∧ Reps X.K u.F vs pre ∧ (∃ suf, popAll f l (zs.drop i) = some suf ∧ pre ++ suf = ys), ⟨zs.length, s2.newO Dd (.lst []) hD, [], xs, [], rfl, rfl, (Ex.newO hD).mx, o2.ex (Ex.newO hD), (fF hD : s2.F Dd = none), upd_same, trivial, ys, hf, rfl⟩, ?_⟩
  rintro i' m H ⟨u, pre, l, vs, rfl, rfl, ku, ol, n1, n2, n3, suf, h1, h2⟩
  by_cases hi' : i' < zs.length
  · right
    obtain ⟨g1, g2⟩ := W.go i' u zs[i'] ku.f (List.getElem?_eq_getElem hi')
    refine ⟨g1, fun H' => ∃ m', m' < zs.length - i' ∧ ∃ (u : S) (pre l : List α) (vs : List V), u.H = H' ∧ m' = zs.length - (i' + 1) ∧ Mx (· = p) s2 u ∧ Own X.K u p l ∧ u.F Dd = none ∧ u.H Dd = some (.lst vs) ∧ Reps X.K u.F vs pre ∧ (∃ suf, popAll f l (zs.drop (i' + 1)) = some suf ∧ pre ++ suf = ys), fun H' z => z, fun v H' hy => ?_⟩
    obtain ⟨u', rfl, ku', rv⟩ := g2 v H' hy
    refine ⟨by show wipe ((wipe σ (own.map (·.2))).set j (some v)) (own.map (·.2)) = _; rw [wipe_set hjo]; exact wipe_wipe fun _ z => z, ?_⟩
    unfold tYes
    dsimp only
    rw [if_pos rfl]
    rw [List.drop_eq_getElem_cons hi'] at h1
    unfold popAll at h1
    obtain ⟨z, hz1, h1⟩ := bndE h1
    obtain ⟨⟨y, l'⟩, hz2, h1⟩ := bndE h1
    obtain ⟨suf', hz3, h1⟩ := bndE h1
    cases h1
    obtain ⟨jj, e1, e2, e3⟩ := popAt_some hz2
    subst e3
    have kk : Mx (· = p) s u' := (k2.mx.trans ku).trans ku'.mx
    intro s0 H0 C cl fp
    refine we_pop (X := Blk X scope s0 H0 C cl fp) (e := ie) i (hσ v) (ol.ex ku') (he l zs[i'] z v u' (List.getElem_mem hi') kk (ol.ex ku') rv hz1 s0 H0 C cl fp) e1 e2 (fun w u4 m4 o4 r4 => ?_) hNi (hv s0 H0 C cl fp) hd hcd (hbase s0 H0 C cl fp) (hfew s0 H0 C cl fp) hline (hs1 s0 H0 C cl fp) (hplain s0 H0 C cl fp)
    have k5 : Mx (· = p) u u4 := ku'.mx.trans m4
    have hD4 : u4.H Dd = some (.lst vs) := k5.h _ _ n2 fun z => hne z.symm
    have hF4 : u4.F Dd = none := k5.n _ _ n2 n1
    have hlen : vs.length < sizeLine := by
      have e1 := n3.len
      have e2 : ys.length = pre.length + (suf'.length + 1) := by rw [← h2, List.length_append, List.length_cons]
      omega
    have hlt : zs.length - (i' + 1) < zs.length - i' := by omega
    have md : Mx (· = p) s2 (u4.put Dd (.lst (vs ++ [w])) hF4) := ⟨(ku.trans k5).f, fun a ob h nn => by
      show upd u4.H Dd _ a = some ob
      rw [upd_ne (ne_of_none h hD)]; exact (ku.trans k5).h a ob h nn, (ku.trans k5).n, fun a ob h => by
      obtain ⟨ob', h'⟩ := (ku.trans k5).d a ob h
      exact ⟨ob', by show upd u4.H Dd _ a = some ob'; rw [upd_ne (ne_of_none h hD)]; exact h'⟩⟩
    exact ⟨vs, hD4, hlen, _, hlt, u4.put Dd (.lst (vs ++ [w])) hF4, pre ++ [y], _, vs ++ [w], rfl, rfl, md, o4.mx (Mx.put hF4) hne, hF4, upd_same, (n3.mono k5.f).snoc r4, suf', hz3, by rw [List.append_assoc]; exact h2⟩
  · left
    have hd : zs.drop i' = [] := List.drop_eq_nil_of_le (by omega)
    rw [hd] at h1
    cases h1
    refine ⟨W.stop i' u ku.f (by omega), k Dd u (k2.mx.trans ku) (fr_back k2 hD) ⟨n1, vs, n2, ?_⟩⟩
    rw [← h2, List.append_nil]
    exact n3
end
end Dy

namespace Dy
open PySem PySem.Spec L2
open PyProof.Rows hiding St

theorem php : ∀ (n : Nat) (l : List Nat), l.Nodup → (∀ x ∈ l, x < n) → l.length ≤ n
  | 0, [], _, _ => Nat.le_refl _
  | 0, x :: _, _, h => absurd (h x List.mem_cons_self) (Nat.not_lt_zero _)
  | n + 1, l, hn, h => by
    by_cases hm : n ∈ l
    · have h1 := php n (l.erase n) (hn.erase n) (fun x hx => by
        have h2 := h x (List.mem_of_mem_erase hx)
        have h3 : x ≠ n := (hn.mem_erase_iff.mp hx).1
        omega)
      rw [List.length_erase_of_mem hm] at h1
      omega
    · have := php n l hn (fun x hx => by
        have h2 := h x hx
        have h3 : x ≠ n := fun e => hm (e ▸ hx)
        omega)
      omega
theorem mem_rng {a b x : Int} : x ∈ rng a b ↔ a ≤ x ∧ x < b := by
  constructor
  · exact rng_mem
  · intro ⟨h1, h2⟩
    unfold rng
    refine List.mem_map.mpr ⟨(x - a).toNat, List.mem_range.mpr (by omega), by omega⟩
theorem rng_nodup (a b : Int) : (rng a b).Nodup := by
  unfold rng
  refine List.Pairwise.map _ (fun x y h e => h (by omega)) List.nodup_range
theorem rng_sorted (a b : Int) : (rng a b).Pairwise (· ≤ ·) := by
  unfold rng
  refine List.Pairwise.map _ (fun x y h => ?_) List.pairwise_lt_range
  omega
theorem sort_perm (xs : List Int) : (sortI xs).Perm xs := List.mergeSort_perm _ _
theorem sort_of_perm {xs ys : List Int} (h : xs.Perm ys) (hs : ys.Pairwise (· ≤ ·)) : sortI xs = ys := by
  refine List.Perm.eq_of_pairwise (le := fun x y : Int => x ≤ y) (fun a b _ _ h h' => Int.le_antisymm h h') ?_ hs ((sort_perm xs).trans h)
  have := List.pairwise_mergeSort (le := fun x y : Int => decide (x ≤ y)) (fun a b c h1 h2 => by simp at *; omega) (fun a b => by simp; omega) xs
  exact this.imp (by simp)
theorem perm_rng {l : List Int} {n : Nat} (h1 : l.Nodup) (h2 : l.length = n) (h3 : ∀ x ∈ l, 0 ≤ x ∧ x < n) : l.Perm (rng 0 n) := by
  refine (List.perm_ext_iff_of_nodup h1 (rng_nodup 0 n)).mpr fun a => ⟨fun h => mem_rng.mpr (h3 a h), fun h => ?_⟩
  obtain ⟨a0, a1⟩ := mem_rng.mp h
  refine Classical.byContradiction fun hn => ?_
  have h4 : ((a :: l).map Int.toNat).Nodup := by
    refine List.Pairwise.map (R := fun x y => x ≠ y ∧ 0 ≤ x ∧ 0 ≤ y) _ (fun x y ⟨h, p, q⟩ e => h (by omega)) ?_
    refine List.pairwise_cons.mpr ⟨fun x hx => ⟨fun e => hn (e ▸ hx), a0, (h3 x hx).1⟩, ?_⟩
    refine List.Pairwise.imp_of_mem (fun {x y} hx hy h => ⟨h, (h3 x hx).1, (h3 y hy).1⟩) h1
  have h5 := php n _ h4 (fun x hx => by
    obtain ⟨y, hy, rfl⟩ := List.mem_map.mp hx
    rcases List.mem_cons.mp hy with rfl | hy
    · omega
    · have := h3 y hy; omega)
  simp at h5
  omega
def nxt (o : List Int) (x : Int) : Int := o.getD x.toNat 0
def it (o : List Int) : Nat → Int → Int
  | 0, x => x
  | k + 1, x => nxt o (it o k x)
theorem it_add (o : List Int) (a b : Nat) (x : Int) : it o (a + b) x = it o a (it o b x) := by
  induction a with
  | zero => rw [Nat.zero_add]; rfl
  | succ a ih => rw [Nat.succ_add]; show nxt o _ = nxt o _; rw [ih]
theorem it_one (o : List Int) (x : Int) : it o 1 x = nxt o x := rfl
theorem it_comm (o : List Int) (a b : Nat) (x : Int) : it o a (it o b x) = it o b (it o a x) := by rw [← it_add, ← it_add, Nat.add_comm]
structure IsOrd (o : List Int) : Prop where
  l1 : 1 ≤ o.length
  l2 : o.length ≤ 40
  pm : o.Perm (rng 0 o.length)
theorem isOrd_sort {o : List Int} (h1 : 1 ≤ o.length) (h2 : o.length ≤ 40) (h3 : sortI o = rng 0 o.length) : IsOrd o := ⟨h1, h2, by rw [← h3]; exact (sort_perm o).symm⟩
section
variable {o : List Int}
theorem IsOrd.sort (h : IsOrd o) : sortI o = rng 0 o.length := sort_of_perm h.pm (rng_sorted _ _)
theorem IsOrd.nd (h : IsOrd o) : o.Nodup := h.pm.nodup_iff.mpr (rng_nodup _ _)
theorem IsOrd.mem (h : IsOrd o) {x : Int} : x ∈ o ↔ 0 ≤ x ∧ x < o.length := h.pm.mem_iff.trans mem_rng
theorem nxt_get {x : Int} (h0 : 0 ≤ x) (h1 : x < o.length) : o[x.toNat]? = some (nxt o x) := by
  unfold nxt
  have : x.toNat < o.length := by omega
  rw [List.getElem?_eq_getElem this, List.getD_eq_getElem?_getD, List.getElem?_eq_getElem this]; rfl
theorem nxt_at {x : Int} (h0 : 0 ≤ x) (h1 : x < o.length) : atI o x = some (nxt o x) := by rw [atI_get h0 h1, nxt_get h0 h1]
theorem IsOrd.nxt (h : IsOrd o) {x : Int} (h0 : 0 ≤ x) (h1 : x < o.length) : 0 ≤ Dy.nxt o x ∧ Dy.nxt o x < o.length := h.mem.mp (List.mem_of_getElem? (nxt_get h0 h1))
theorem IsOrd.it (h : IsOrd o) {x : Int} (h0 : 0 ≤ x) (h1 : x < o.length) : ∀ k, 0 ≤ Dy.it o k x ∧ Dy.it o k x < o.length
  | 0 => ⟨h0, h1⟩
  | k + 1 => h.nxt (h.it h0 h1 k).1 (h.it h0 h1 k).2
theorem IsOrd.inj (h : IsOrd o) {x y : Int} (x0 : 0 ≤ x) (x1 : x < o.length) (y0 : 0 ≤ y) (y1 : y < o.length) (e : Dy.nxt o x = Dy.nxt o y) : x = y := by
  have h1 := nxt_get x0 x1
  have h2 := nxt_get y0 y1
  rw [← e] at h2
  obtain ⟨a1, b1⟩ := List.getElem?_eq_some_iff.mp h1
  obtain ⟨a2, b2⟩ := List.getElem?_eq_some_iff.mp h2
  have := (List.getElem_inj h.nd (i := x.toNat) (j := y.toNat) (h₀ := a1) (h₁ := a2)).mp (b1.trans b2.symm)
  omega
theorem IsOrd.itInj (h : IsOrd o) : ∀ (k : Nat) {x y : Int}, 0 ≤ x → x < o.length → 0 ≤ y → y < o.length → Dy.it o k x = Dy.it o k y → x = y
  | 0, _, _, _, _, _, _, e => e
  | k + 1, _, _, x0, x1, y0, y1, e => h.itInj k x0 x1 y0 y1 (h.inj (h.it x0 x1 k).1 (h.it x0 x1 k).2 (h.it y0 y1 k).1 (h.it y0 y1 k).2 e)
theorem least {p : Nat → Prop} : ∀ n, p n → ∃ m, m ≤ n ∧ p m ∧ ∀ k, k < m → ¬ p k := by
  intro n
  induction n using Nat.strongRecOn with
  | _ n ih =>
    intro h
    by_cases hk : ∃ k, k < n ∧ p k
    · obtain ⟨k, h1, h2⟩ := hk
      obtain ⟨m, h3, h4, h5⟩ := ih k h1 h2
      exact ⟨m, by omega, h4, h5⟩
    · exact ⟨n, Nat.le_refl _, h, fun k hk' hp => hk ⟨k, hk', hp⟩⟩
theorem IsOrd.cycle (h : IsOrd o) {x : Int} (h0 : 0 ≤ x) (h1 : x < o.length) : ∃ L, 1 ≤ L ∧ L ≤ o.length ∧ Dy.it o L x = x ∧ ∀ k, 0 < k → k < L → Dy.it o k x ≠ x := by
  have ex : ∃ L, 1 ≤ L ∧ L ≤ o.length ∧ Dy.it o L x = x := by
    refine Classical.byContradiction fun hn => ?_
    have hne : ∀ i j, i < j → j ≤ o.length → Dy.it o i x ≠ Dy.it o j x := fun i j hij hj e => by
      refine hn ⟨j - i, by omega, by omega, ?_⟩
      have e2 : Dy.it o i x = Dy.it o i (Dy.it o (j - i) x) := by rw [← it_add, show i + (j - i) = j by omega]; exact e
      have := h.it h0 h1 (j - i)
      exact (h.itInj i h0 h1 this.1 this.2 e2).symm
    have h2 : ((List.range (o.length + 1)).map fun k => (Dy.it o k x).toNat).Nodup := by
      refine List.Pairwise.map (R := fun a b => a < b ∧ b ≤ o.length) _ (fun a b ⟨p, q⟩ e => ?_) ?_
      · have e1 := h.it h0 h1 a
        have e2 := h.it h0 h1 b
        exact hne a b p q (by omega)
      · refine List.Pairwise.imp_of_mem (fun {a b} ha hb hlt => ⟨hlt, by have := List.mem_range.mp hb; omega⟩) List.pairwise_lt_range
    have h3 := php o.length _ h2 (fun y hy => by
      obtain ⟨k, _, rfl⟩ := List.mem_map.mp hy
      have := h.it h0 h1 k
      omega)
    rw [List.length_map, List.length_range] at h3
    omega
  obtain ⟨L, a, b, c⟩ := ex
  obtain ⟨m, m1, ⟨m2, m3, m4⟩, m5⟩ := least (p := fun L => 1 ≤ L ∧ L ≤ o.length ∧ Dy.it o L x = x) L ⟨a, b, c⟩
  exact ⟨m, m2, m3, m4, fun k k0 k1 e => m5 k k1 ⟨by omega, by omega, e⟩⟩
theorem it_mul {L : Nat} {x : Int} (h : Dy.it o L x = x) : ∀ q, Dy.it o (L * q) x = x
  | 0 => rfl
  | q + 1 => by rw [Nat.mul_succ, it_add, h, it_mul h q]
theorem it_mod {L : Nat} {x : Int} (h : Dy.it o L x = x) (m : Nat) : Dy.it o (m % L) x = Dy.it o m x := by
  conv => rhs; rw [← Nat.mod_add_div m L, it_add, it_mul h]
def srv (o : List Int) (m : Nat) : List Int := (rng 0 o.length).map (Dy.it o m)
theorem srv_len (o : List Int) (m : Nat) : (srv o m).length = o.length := by unfold srv; rw [List.length_map, rng_len]; omega
theorem rng_getE {a b : Int} {i : Nat} (h : i < (b - a).toNat) : (rng a b)[i]? = some (a + (i : Int)) := by
  unfold rng
  rw [List.getElem?_map, List.getElem?_range h]; rfl
theorem srv_at {m : Nat} {x : Int} (h0 : 0 ≤ x) (h1 : x < o.length) : atI (srv o m) x = some (Dy.it o m x) := by
  rw [atI_get h0 (by rw [srv_len]; exact h1)]
  unfold srv
  rw [List.getElem?_map, rng_getE (by omega)]
  show some (Dy.it o m (0 + (x.toNat : Int))) = _
  rw [show (0 : Int) + (x.toNat : Int) = x by omega]
theorem srv_perm (h : IsOrd o) (m : Nat) : (srv o m).Perm (rng 0 o.length) := by
  refine perm_rng ?_ (srv_len o m) (fun x hx => ?_)
  · refine List.Pairwise.map (R := fun (a b : Int) => a ≠ b ∧ (0 ≤ a ∧ a < (o.length : Int)) ∧ 0 ≤ b ∧ b < (o.length : Int)) _ (fun a b ⟨p, q, r⟩ e => p (h.itInj m q.1 q.2 r.1 r.2 e)) ?_
    exact List.Pairwise.imp_of_mem (fun {a b} ha hb hne => ⟨hne, mem_rng.mp ha, mem_rng.mp hb⟩) (rng_nodup _ _)
  · obtain ⟨y, hy, rfl⟩ := List.mem_map.mp hx
    obtain ⟨a, b⟩ := mem_rng.mp hy
    exact h.it a b m
theorem srv_mem (h : IsOrd o) {m : Nat} {x : Int} (hx : x ∈ srv o m) : 0 ≤ x ∧ x < o.length := mem_rng.mp ((srv_perm h m).mem_iff.mp hx)
theorem srv_zero (o : List Int) : srv o 0 = rng 0 o.length := by
  unfold srv
  have : (Dy.it o 0 : Int → Int) = id := by funext x; rfl
  rw [this, List.map_id]
theorem srv_one (o : List Int) : srv o 1 = o := by
  refine List.ext_getElem? fun i => ?_
  unfold srv
  rw [List.getElem?_map]
  by_cases h : i < o.length
  · rw [rng_getE (by omega)]
    show some (Dy.nxt o (0 + (i : Int))) = _
    have := nxt_get (o := o) (x := (i : Int)) (by omega) (by omega)
    rw [show (0 : Int) + (i : Int) = (i : Int) by omega, ← this]
    congr 1
  · rw [List.getElem?_eq_none (by rw [rng_len]; omega), List.getElem?_eq_none (by omega)]; rfl
theorem srv_add (a b : Nat) : (srv o a).map (Dy.it o b) = srv o (b + a) := by
  unfold srv
  rw [List.map_map]
  exact List.map_congr_left fun x _ => (it_add o b a x).symm
end
theorem erase_perm {τ : Type} : ∀ (l : List τ) (i : Nat) (h : i < l.length), (l[i] :: l.eraseIdx i).Perm l
  | [], i, h => absurd h (Nat.not_lt_zero _)
  | x :: xs, 0, _ => List.Perm.refl _
  | x :: xs, i + 1, h => (List.Perm.swap x _ _).trans (List.Perm.cons x (erase_perm xs i (Nat.lt_of_succ_lt_succ h)))
theorem popAt_ok {τ : Type} {l : List τ} {z : Int} (h0 : 0 ≤ z) (h1 : z < l.length) (h2 : l.length < 1000000) : Ok (popAt l z) (fun r => (r.1 :: r.2).Perm l) := by
  unfold popAt popN seqIndex?
  have hl : z.toNat < l.length := by omega
  rw [if_pos ⟨by omega, by omega⟩]
  simp only
  rw [show (if z < 0 then z + (l.length : Int) else z) = z from if_neg (by omega), if_pos (by rw [Bool.and_eq_true]; exact ⟨decide_eq_true h0, decide_eq_true h1⟩), Option.bind_some, List.getElem?_eq_getElem hl]
  exact ok_some (erase_perm l _ hl)
theorem ok_popAll {σ τ : Type} {f : List τ → σ → Option Int} : ∀ {xs : List σ} {l : List τ}, (∀ l' x, l' ≠ [] → l'.length ≤ l.length → x ∈ xs → Ok (f l' x) (fun z => 0 ≤ z ∧ z < l'.length)) → xs.length ≤ l.length → l.length < 1000000 → Ok (popAll f l xs) (fun ys => ys.length = xs.length ∧ ∃ r, (ys ++ r).Perm l)
  | [], l, _, _, _ => ⟨[], rfl, rfl, l, List.Perm.refl _⟩
  | x :: xs, l, h, hl, hz => by
    rw [List.length_cons] at hl
    have hne : l ≠ [] := fun e => by subst e; simp at hl
    unfold popAll
    refine ok_bnd (h l x hne (Nat.le_refl _) List.mem_cons_self) fun z ⟨z0, z1⟩ => ok_bnd (popAt_ok z0 z1 hz) fun r hr => ?_
    have hlen : r.2.length + 1 = l.length := by have := hr.length_eq; rw [List.length_cons] at this; exact this
    refine ok_bnd (ok_popAll (fun l' y hn hl' hy => h l' y hn (by omega) (List.mem_cons_of_mem _ hy)) (by omega) (by omega)) fun ys ⟨e1, r', e2⟩ => ok_some ⟨by rw [List.length_cons, List.length_cons, e1], r', ?_⟩
    exact (List.Perm.cons r.1 e2).trans hr
theorem repl_one {τ : Type} (n : Int) (x : τ) : repl n [x] = List.replicate n.toNat x := by
  unfold repl
  exact List.flatten_replicate_singleton
end Dy

namespace Dy
open PySem PySem.Spec L2
open PyProof.Rows hiding St
instance {α β : Type} [Enc α] [Enc β] : Opn (α × β) := ⟨fun h => by obtain ⟨_, _, _, e, _⟩ := h; cases e⟩
instance {α β γ : Type} [Enc α] [Enc β] [Enc γ] : Opn (T3 α β γ) := ⟨fun h => by obtain ⟨_, _, _, _, e, _⟩ := h; cases e⟩
instance {α β γ : Type} {n m k : Nat} [Shp α n] [Shp β m] [Shp γ k] : Shp (T3 α β γ) (n + m + k + 1) := ⟨fun x => by
  obtain ⟨h1, h2⟩ := Shp.ok x.a
  obtain ⟨h3, h4⟩ := Shp.ok x.b
  obtain ⟨h5, h6⟩ := Shp.ok x.c
  refine ⟨?_, ?_⟩
  · show PyData.canLay0 (.tuple [EqD.toD x.a, EqD.toD x.b, EqD.toD x.c]) = true
    simp [PyData.canLay0, PyData.canLayAll0, h1, h3, h5]
  · show PyData.depth (.tuple [EqD.toD x.a, EqD.toD x.b, EqD.toD x.c]) ≤ n + m + k + 1
    simp [PyData.depth, PyData.depthAll]
    omega⟩
section
variable {X : Cx} {K : PySem.W.Frag} {a b e : Expr} {σ : St} {s : S} {p0 p1 p2 pos : Pos} {α β : Type} [Enc α] [Enc β]
def ixS (x y : Str) : Option Nat := (Builtin.Str.occurrences y x 0 y.length 1).head?
theorem ev_indexS {x y : Str} {j : Nat} (ha : Ev X a σ s y) (hb : Ev X b σ s x) (h : ixS x y = some j)
    (hs : starEach [b] X.env = [(false, eval b X.env)] := by rfl) (hbase : attributeBase a "index" X.env (eval a X.env) = eval a X.env := by rfl) (hline : (p1.endLine == pos.line) = true := by rfl) :
    Ev X (.Call (.Attribute a "index" p1) [b] [] pos) σ s (j : Int) := fun s1 k Q q =>
  we_of (pe_m1 PySem.F.slot_str_index PySem.F.type_str_index mt_sindex pe_we pe_we hs hbase hline) (ha s1 k _ fun v s2 k2 r2 => ⟨⟨y, r2⟩, hb s2 (k.trans k2) _ fun u s3 k3 r3 => by
    unfold ixS at h
    obtain ⟨rest, hr⟩ : ∃ rest, Builtin.Str.occurrences y x 0 y.length 1 = j :: rest := by
      cases ho : Builtin.Str.occurrences y x 0 y.length 1 with
      | nil => rw [ho] at h; cases h
      | cons i rest => rw [ho] at h; cases h; exact ⟨rest, rfl⟩
    exact ⟨y, x, j, rest, r2, by rw [show u = V.str x from r3], hr, q _ s3 (k2.trans k3) rfl⟩⟩)
end
section
variable {α α' α'' β : Type} [Enc α] [Enc α'] [Enc α''] [Enc β] {X : Cx} {σ : St} {s : S} {elt tg iter c : Expr} {ifs : List Expr} {scope : Scope} {own : List (Str × Nat)} {pos : Pos}
theorem ev_some' {e : Expr} {x : Option α} {y : α} (ha : Ev X e σ s x) (h : x = some y) : Ev X e σ s y := fun s1 k Q q => by
  subst h
  exact ha s1 k Q fun v s2 k2 r2 => q v s2 k2 r2
theorem en_comp0P {xs : List (α × α')} {ys : List β} {f : α × α' → Option β} {i j : Nat} (hc : X.calm = true) (hN : X.N.Nodup) (hi : EvI X tg iter σ s xs) (ok : BlkOk X.N X.env.scope scope own)
    (hio : i ∈ own.map (·.2)) (hjo : j ∈ own.map (·.2)) (hg : ∀ s0 H0 C cl fp, PG (Blk X scope s0 H0 C cl fp) tg (gTup X.K 2 (gCons (gName i) (gCons (gName j) gNil)))) (hf : mapO f xs = some ys) (hz : ys.length ≤ sizeLine)
    (he : ∀ (x : α × α') (y : β) (v u : V) (s1 : S), x ∈ xs → Ex s s1 → Enc.rep X.K s1.F v x.1 → Enc.rep X.K s1.F u x.2 → f x = some y → ∀ s0 H0 C cl fp, Ev (Blk X scope s0 H0 C cl fp) elt (((wipe σ (own.map (·.2))).set i (some v)).set j (some u)) s1 y)
    (hs : ∀ x, foldedSetIterable iter X.env x = pure x := by intro _; rfl) : EvL X elt tg iter [] scope σ s ys :=
  ⟨hc, hN, hs, own, _, _, ok, hg, fun _ _ _ _ _ => pts_nil, fun s1 k Q q => comp_read (t := fun _ => some true) hc hN hi ok hg tg_2 (fun _ _ _ _ _ => pts_nil) hf hz (fun F x σ2 ⟨v, u, _, _, e⟩ => by rw [e, wipe_set hjo, wipe_set hio]; exact wipe_wipe fun _ z => z)
    (fun x b s1 σ2 Q _ _ _ hb q => by cases hb; exact q s1 (Ex.refl _)) (fun x y s1 σ2 hx k ⟨v, u, r, r', e⟩ _ hfx => by subst e; exact he x y v u s1 hx k r r' hfx) s1 k Q q⟩
theorem en_comp1P {xs : List (α × α')} {ys : List β} {t : α × α' → Option Bool} {f : α × α' → Option β} {i j : Nat} (hc : X.calm = true) (hN : X.N.Nodup) (hi : EvI X tg iter σ s xs) (ok : BlkOk X.N X.env.scope scope own)
    (hio : i ∈ own.map (·.2)) (hjo : j ∈ own.map (·.2)) (hg : ∀ s0 H0 C cl fp, PG (Blk X scope s0 H0 C cl fp) tg (gTup X.K 2 (gCons (gName i) (gCons (gName j) gNil)))) (hf : compO t f xs = some ys) (hz : ys.length ≤ sizeLine)
    (ht : ∀ (x : α × α') (b : Bool) (v u : V) (s1 : S), x ∈ xs → Ex s s1 → Enc.rep X.K s1.F v x.1 → Enc.rep X.K s1.F u x.2 → t x = some b → ∀ s0 H0 C cl fp, EvT (Blk X scope s0 H0 C cl fp) c (((wipe σ (own.map (·.2))).set i (some v)).set j (some u)) s1 b)
    (he : ∀ (x : α × α') (y : β) (v u : V) (s1 : S), x ∈ xs → Ex s s1 → Enc.rep X.K s1.F v x.1 → Enc.rep X.K s1.F u x.2 → t x = some true → f x = some y → ∀ s0 H0 C cl fp, Ev (Blk X scope s0 H0 C cl fp) elt (((wipe σ (own.map (·.2))).set i (some v)).set j (some u)) s1 y)
    (hs : ∀ x, foldedSetIterable iter X.env x = pure x := by intro _; rfl) : EvL X elt tg iter [c] scope σ s ys :=
  ⟨hc, hN, hs, own, _, _, ok, hg, fun s0 H0 C cl fp => pts_one ⟨fun pins s _ _ _ I h => h s0 H0 C cl fp pins s I⟩, fun s1 k Q q => comp_read (tt := fun σ H Q => ∀ s0 H0 C cl fp, WT (Blk X scope s0 H0 C cl fp) c σ H Q) hc hN hi ok hg tg_2 (fun s0 H0 C cl fp => pts_one ⟨fun pins s _ _ _ I h => h s0 H0 C cl fp pins s I⟩) hf hz (fun F x σ2 ⟨v, u, _, _, e⟩ => by rw [e, wipe_set hjo, wipe_set hio]; exact wipe_wipe fun _ z => z)
    (fun x b s1 σ2 Q hx k ⟨v, u, r, r', e⟩ hb q => by subst e; intro s0 H0 C cl fp; exact ht x b v u s1 hx k r r' hb s0 H0 C cl fp s1 (Ex.refl _) Q q) (fun x y s1 σ2 hx k ⟨v, u, r, r', e⟩ htx hfx => by subst e; exact he x y v u s1 hx k r r' htx hfx) s1 k Q q⟩
end
end Dy

namespace Dy
open PySem PySem.Spec L2
open PyProof.Rows hiding St
open Enc (rep)
open EncA (repA)

inductive Er where
  | pl (c : Str)
  | pi (c f : Str) (i : Int)
  | ps (c f x : Str)
def Er.c : Er → Str
  | .pl c => c
  | .pi c _ _ => c
  | .ps c _ _ => c
inductive Rz (ρ : Type) where
  | ok (r : ρ)
  | er (e : Er)
def tb {α β : Type} (m : Option (Rz α)) (h : Er → Option β) (k : α → Option β) : Option β := match m with
  | none => none
  | some (.ok r) => k r
  | some (.er e) => h e
theorem tbE {α β : Type} {m : Option (Rz α)} {h : Er → Option β} {k : α → Option β} {o : β} (hm : tb m h k = some o) : (∃ e, m = some (.er e) ∧ h e = some o) ∨ ∃ r, m = some (.ok r) ∧ k r = some o := by
  cases m with
  | none => cases hm
  | some x => cases x with
    | ok r => exact .inr ⟨r, rfl, hm⟩
    | er e => exact .inl ⟨e, rfl, hm⟩
def ExR (K : PySem.W.Frag) (F : Hp) (e : Er) (cls : Value) (d : Option Addr) : Prop := match e with
  | .pl c => cls = .ref (He.ga K c) ∧ d = none
  | .pi c f i => cls = .ref (He.ga K c) ∧ ∃ dd, d = some dd ∧ F dd = some (.xd [(f, V.int i)])
  | .ps c f x => cls = .ref (He.ga K c) ∧ ∃ dd, d = some dd ∧ F dd = some (.xd [(f, V.str x)])
theorem exR_cls {K : PySem.W.Frag} {F : Hp} {e : Er} {cls : Value} {d : Option Addr} (h : ExR K F e cls d) : cls = .ref (He.ga K e.c) := by
  cases e with
  | pl c => exact h.1
  | pi c f i => exact h.1
  | ps c f x => exact h.1
theorem ExR.mono {K : PySem.W.Frag} {F F' : Hp} {e : Er} {cls : Value} {d : Option Addr} (k : Fle F F') (h : ExR K F e cls d) : ExR K F' e cls d := by
  cases e with
  | pl c => exact h
  | pi c f i => obtain ⟨h1, dd, h2, h3⟩ := h; exact ⟨h1, dd, h2, k _ _ h3⟩
  | ps c f x => obtain ⟨h1, dd, h2, h3⟩ := h; exact ⟨h1, dd, h2, k _ _ h3⟩
def RzQ {ρ : Type} [Enc ρ] (K : PySem.W.Frag) (s : S) (o : Rz ρ) (Q : VK) (E : XK) : Prop := match o with
  | .ok r => ∀ v s', Ex s s' → rep K s'.F v r → Q v s'.H
  | .er e => ∀ cls d s', Ex s s' → ExR K s'.F e cls d → E cls d s'.H
def spR {A : Type} [EncA A] {ρ : Type} [Enc ρ] (K : PySem.W.Frag) (m : A → Option (Rz ρ)) : Sp := fun vs H Q E => ∃ (s : S) (x : A) (o : Rz ρ), s.H = H ∧ repA K s.F vs x ∧ m x = some o ∧ RzQ K s o Q E
section
variable {X : Cx} {σ : St} {s : S} {e : Expr} {es : List Expr} {p0 p1 p2 pos : Pos} {α : Type} [Enc α]
theorem ev_callR {A : Type} [EncA A] {m : A → Option (Rz α)} {n : Str} {k j : Nat} {x : A} {r : α} (C : Cal X.prog X.w X.K X.mg X.base (L2.CX X.prog X.w) k n (spR X.K m)) (hr : Room j X.A) (hk : k ≤ j) (ha : EvA X (e :: es) σ s x) (h : m x = some (.ok r)) (hg : Gl X n := by rfl)
    (hdb : (n == ("__debug__" : Str)) = false := by decide) (he : starEach (e :: es) X.env = (false, eval e X.env) :: starEach es X.env := by rfl) (hpl : (backTo pos (starEach es X.env)).any (·.1) = false := by rfl) : Ev X (.Call (.Name n p0) (e :: es) [] pos) σ s r := fun s1 k1 Q q => by
  obtain ⟨f, fd, ps, F, hm, kp, b⟩ := C.ex
  refine we_of (pe_callS (E := fun _ _ _ _ => False) F (hr.mono hk) hg hm kp b (fun σ' pins H sh ev s' I c => ?_) pa_wa hdb he hpl) (ha s1 k1 _ fun vs s2 k2 r2 => ⟨s2, x, .ok r, rfl, r2, h, fun v s3 k3 r3 => q v s3 (k2.trans k3) r3⟩)
  obtain ⟨_, _, _, _, _, _, _, _, _, _, _, _, hf⟩ := c
  exact hf.elim
def EvX (X : Cx) (e : Expr) (σ : St) (s : S) : Prop := ∀ s1, Ex s s1 → ∀ Q, WE X e σ s1.H Q
theorem EvX.ev (h : EvX X e σ s) (x : α) : Ev X e σ s x := fun s1 k Q _ => h s1 k Q
theorem evX_call {A : Type} [EncA A] {ρ : Type} [Enc ρ] {m : A → Option (Rz ρ)} {n : Str} {k j : Nat} {x : A} {er : Er} {W : WX} (C : Cal X.prog X.w X.K X.mg X.base (L2.CX X.prog X.w) k n (spR X.K m)) (tk : Takes X W) (hr : Room j X.A) (hk : k ≤ j) (ha : EvA X (e :: es) σ s x) (h : m x = some (.er er))
    (hw : ∀ cls d s2, Ex s s2 → ExR X.K s2.F er cls d → W cls d σ s2.H) (hg : Gl X n := by rfl)
    (hdb : (n == ("__debug__" : Str)) = false := by decide) (he : starEach (e :: es) X.env = (false, eval e X.env) :: starEach es X.env := by rfl) (hpl : (backTo pos (starEach es X.env)).any (·.1) = false := by rfl) : EvX X (.Call (.Name n p0) (e :: es) [] pos) σ s := fun s1 k1 Q => by
  obtain ⟨f, fd, ps, F, hm, kp, b⟩ := C.ex
  exact we_of (pe_callS (E := L2.WE W) F (hr.mono hk) hg hm kp b (fun σ' => passAt tk σ') pa_wa hdb he hpl) (ha s1 k1 _ fun vs s2 k2 r2 => ⟨s2, x, .er er, rfl, r2, h, fun cls d s3 k3 r3 => hw cls d s3 ((k1.trans k2).trans k3) r3⟩)
inductive Nv where
  | nv
instance : Enc Nv := ⟨fun _ _ _ _ => False, fun _ h => h⟩
theorem nv_elim {K : PySem.W.Frag} {F : Hp} {v : V} {x : Nv} {p : Prop} (h : rep K F v x) : p := (show False from h).elim
theorem nv2_elim {β : Type} [Enc β] {K : PySem.W.Frag} {F : Hp} {v : V} {x : β × Nv} {p : Prop} (h : rep K F v x) : p := by
  obtain ⟨_, _, _, _, _, _, h⟩ := h
  exact (show False from h).elim
end
section
variable {P : Program} {w : World} {K : PySem.W.Frag} {mg : Str → Option Value} {base : Heap}
theorem mk_calR {A ρ : Type} [EncA A] [Enc ρ] {m : A → Option (Rz ρ)} {x : Str} {st : Stmt} {f : Addr} {fd : FuncData} {N ps : List Str} {k : Nat} (F : FunP K x st f fd) (hm : mg x = some (.ref f)) (b : Binds K fd ps []) (Sc : FnScope N ps (defScope st))
    (hl : ∀ (F : Hp) (vs : List V) (a : A), repA K F vs a → vs.length = ps.length)
    (body : ∀ (cdv : Value) (A' : Around) (outer : List Env) (s0 : Shared) (H0 : Hp) (E0 : XK), Room k (A'.deeper (envOfC x (defScope st) s0.heap.objs.size f cdv)) → ∀ (s : S) (vs : List V) (a : A) (o : Rz ρ) (Q : VK), repA K s.F vs a → m a = some o →
      RzQ K s o Q E0 → WSs (cxOf (L2.CX P w) P w K mg base N x (defScope st) f cdv A' outer s0 H0 E0) (defBody st) (RD Q) (start N vs) s.H) : Cal P w K mg base (L2.CX P w) (k + 1) x (spR K m) :=
  ⟨f, fd, ps, F.ok Sc (fun vs H Q E ⟨s, a, r, _, h, _⟩ => hl s.F vs a h) (fun cdv A' outer s0 H0 vs Q E hr ⟨s, a, o, e, h1, h2, h3⟩ => ⟨_, pss_ws, by
    have := body cdv A' outer s0 H0 E hr s vs a o Q h1 h2 h3
    rw [e] at this
    exact this⟩), hm, F.kp, b⟩
end
structure ExcF (K : PySem.W.Frag) (mg : Str → Option Value) (c : Str) : Prop where
  q : PySem.W.excIn K (He.ga K c) He.veBase "ValueError.__new__" = true
  kp : PySem.W.keepIn K (.ref (He.ga K c)) = true
  sb : PySem.W.subIn K (.ref (He.ga K c)) (.type "BaseException") = some true
  ty : PySem.W.typeIn K (.ref (He.ga K c)) = some (.type "type")
  gl : mg c = some (.ref (He.ga K c))
section
variable {X : Cx} {σ : St} {s : S} {D : Ends} {rest : List Stmt} {W : WX}
theorem do_raise0 {c m : Str} {j : Nat} {p p2 pos pos' : Pos} (T : ExcF X.K X.mg c) (tk : Takes X W) (h : W (.ref (He.ga X.K c)) none σ s.H) (hc : X.calm = true := by rfl) (hg : Gl X c := by rfl) (hdb : (c == ("__debug__" : Str)) = false := by decide) :
    WSs X (.Raise (some (.Call (.Name c p) [.Constant (.str m) j p2] [] pos)) none pos' :: rest) D σ s.H :=
  do_cons (ps_raise hc tk (pmk_own F.excBase_ValueError T.q T.gl T.kp (raises_own T.sb T.ty) hg hdb)) h
theorem do_tryAs (i : Nat) {x n : Str} {c : Value} {body suite : List Stmt} {b₀ : Stmt} {np pos pos' : Pos} {Wout : WX} (hN : X.N.Nodup) (hcN : Names X x c) (tk : Takes X Wout)
    (h : ∀ pn xe, Takes (X.tr pn xe) (wAs X.K c i (fun a cls d D σ H => ∀ (oe : Obj) (pn : List (Addr × Obj)), Zc cls d oe → (∃ vs, oe.data = .fields vs) → WSs (X.suite a ((a, oe) :: pn)) (b₀ :: suite) D σ H) Wout { D with nx := fun σ' H' => WSs X rest D σ' H' }) → PassesOwn (model X.prog X.w) X.A X.env xe →
      WSs (X.tr pn xe) body { D with nx := fun σ' H' => WSs X rest D σ' H' } σ s.H)
    (hs : X.stack = X.env :: X.outer := by rfl) (hf : X.env.frame = some X.env.locals := by rfl) (hi : X.N[i]? = some n := by rfl) (hln : X.env.kindOf n = some .local := by rfl) :
    WSs X (.Try body [.ExceptHandler (some (.Name x np)) (some n) (b₀ :: suite) pos'] [] [] pos :: rest) D σ s.H :=
  do_cons (ps_try_as (tb := fun W D σ H => ∀ pn xe, Takes (X.tr pn xe) W → PassesOwn (model X.prog X.w) X.A X.env xe → WSs (X.tr pn xe) body D σ H) (ts := fun a cls d D σ H => ∀ (oe : Obj) (pn : List (Addr × Obj)), Zc cls d oe → (∃ vs, oe.data = .fields vs) → WSs (X.suite a ((a, oe) :: pn)) (b₀ :: suite) D σ H)
    hs hf hN hi hln hcN tk (fun W pn xe t po => ⟨fun pins sh σ H D I hh => hh pn xe t po pins sh I⟩) (fun a oe cls d pn hz hv => ⟨fun pins sh σ H D I hh => hh oe pn hz hv pins sh I⟩)) h
end
end Dy

namespace Dy
open PySem PySem.Spec L2
open PyProof.Rows hiding St
open Enc (rep)
open EncA (repA)

section
open PySem.W PySem.Calls
variable {prog : Program} {w : World} {A : Around} {E : Value → Shared → Prop} {K : Frag} {x D : Addr} {ox : Obj} {od : Option Obj}
theorem cls_bind (T : ExcC K D) : findObj K D od "__class__" = some (.bind (.builtin "getset_descriptor.__get__") (.builtin "object.__class__")) := by
  obtain ⟨cd, hc⟩ := Option.isSome_iff_exists.mp (show (clsIn K D).isSome = true by obtain ⟨cd, hc, _⟩ := any_some T.hd; rw [hc]; rfl)
  unfold findObj
  rw [hc, Option.bind_some, T.ha, Option.bind_some]
  simp [T.hn, T.ht]
theorem asks_cls {s : Shared} {Q : Option Value → Shared → Prop} (T : ExcC K D) (X : K.In s.heap) (I : PySem.W.InstAt s.heap x ox D od) (h : Q (some (.ref D)) { s with toks := s.toks + 1 }) : wpAny (model prog w) A (getAttr? (.ref x) "__class__") Q E s := by
  obtain ⟨hp, g, d, t, os⟩ := s
  have l0 := I.type (M := model prog w)
  have l1 := looks_findIn (M := model prog w) X T.hg
  have l2 := looks_findIn (M := model prog w) X T.hk
  have l3 := looks_find (M := model prog w) X I (cls_bind T)
  have sub : Looks (model prog w) hp (isInstance (.ref x) (.type "BaseException")) true := l0.andThen (looks_subIn X T.hs)
  unfold getAttr? getAttrBy? getAttrBy
  refine wpAny_bind (wpAny_mkText (wpAny_bind (wpAny_attempt (wpAny_holding (wpAny_bind (l0.at (wpAny_bind (l1.at ?_))))))))
  have no : (onTheHeap (Value.ref D) && Value.builtin "BaseException.__getattribute__" == Value.builtin "object.__getattribute__") = false := by
    rw [show (Value.builtin "BaseException.__getattribute__" == Value.builtin "object.__getattribute__") = false by decide +kernel]; rfl
  show wpAny _ _ (if (onTheHeap (Value.ref D) && Value.builtin "BaseException.__getattribute__" == Value.builtin "object.__getattribute__") = true then _ else _) _ _ _
  rw [no, if_neg Bool.false_ne_true]
  unfold getAttrByItsOwn hookBefore
  refine wpAny_bind ?_
  rw [if_pos (show onTheHeap (Value.ref D) = true from rfl)]
  refine l2.at (wpAny_bind (wpAny_attempt (wpAny_holding ?_)))
  unfold callGetattribute
  rw [show (false && onTheHeap (Value.builtin "BaseException.__getattribute__")) = false from rfl, if_neg Bool.false_ne_true]
  unfold boundAndCalled
  rw [PySem.F.excAttr_ValueError.ga.bind (.ref x)]
  refine wpAny_bind (wpAny_pure ?_)
  show wpAny _ _ (call (.builtin "BaseException.__getattribute__") [.ref x, .str "__class__" t]) _ _ _
  refine wpAny_call (codeAny_call_builtin PySem.F.excAttr_ValueError.ga.plain PySem.F.entry_bexc_ga ?_)
  refine @check_slot (model prog w) _ _ ⟨hp, g, d, t + 1, os⟩ "BaseException.__getattribute__" "BaseException" "__getattribute__" (.ref x) [.str "__class__" t] [] _ (by decide +kernel) (by decide +kernel) sub (PySem.F.args_bexc_ga (.ref x) (.str "__class__" t)) ?_
  unfold Builtin.«object.__getattribute__»
  refine wpAny_bind (wpAny_of_eq (a := ((Value.ref x : Value), [Value.str "__class__" t])) (by first | rfl | (simp only [slotArgs]; rfl)) ?_)
  refine wpAny_bind (wpAny_pure (wpAny_bind (l0.at (wpAny_bind (l3.at ?_)))))
  show wpAny _ _ (holding [Value.builtin "object.__class__"] (call (.builtin "getset_descriptor.__get__") [.builtin "object.__class__", .ref x, .ref D]) >>= ret) _ _ _
  refine wpAny_bind (wpAny_holding (wpAny_call (class_get (s := ⟨hp, g, d, t + 1, os⟩) (ox := ox) (od := od) X I T.hm (wpAny_pure ?_))))
  show wpAny _ _ (handedOut (.ref D)) _ _ _
  rw [handedOut_of (v := .ref D) rfl]
  first
    | exact wpAny_pure (wpAny_pure h)
    | exact wpAny_pure h
    | exact wpAny_pure (wpAny_bind (wpAny_pure (wpAny_pure h)))
theorem cls_at (T : ExcC K D) : ∃ c' d' cd' sl', K.lookup D = some ⟨c', d', .cls cd', sl'⟩ := by
  obtain ⟨cd, hc, _⟩ := any_some T.hd
  unfold clsIn at hc
  split at hc
  · rename_i c' d' cd' sl' ho
    exact ⟨c', d', cd', sl', ho⟩
  · cases hc
def InstE (a D : Addr) (oe : Obj) : Heap → Prop := fun h => ∃ od, PySem.W.InstAt h a oe D od
theorem kit_exc (T : ExcC K D) : KitX K (.ref x) (.ref D) (InstE x D ox) where
  ty := fun _ _ _ ⟨_, I⟩ => I.type
  it := fun _ _ X _ => by
    obtain ⟨_, _, _, _, ho⟩ := cls_at T
    intro A' Q' E' s' k q
    unfold isType loadHead
    exact wpAny_bind (wpAny_loadPart (k _ _ (X _ _ ho)) (wpAny_pure q))
  ne := fun h tp dd its n sl X htp => by
    obtain ⟨_, _, _, _, ho⟩ := cls_at T
    refine Bool.eq_false_iff.mpr fun q => ?_
    obtain rfl : D = tp := Value.ref.inj (beq_iff_eq.mp q)
    cases (X _ _ ho).symm.trans htp
  ca := fun X ⟨_, I⟩ k => asks_cls T X I k
end

structure Rw where
  v : V
instance : Enc Rw := ⟨fun _ _ v x => v = x.v, fun _ h => h⟩
theorem rw_reps {K : PySem.W.Frag} {F : Hp} : ∀ {vs : List V} {xs : List Rw}, Reps K F vs xs → vs = xs.map (·.v)
  | [], [], _ => rfl
  | _ :: _, _ :: _, ⟨h, t⟩ => by rw [List.map_cons, ← rw_reps t, show _ = _ from h]
  | [], _ :: _, h => h.elim
  | _ :: _, [], h => h.elim
def clsR (K : PySem.W.Frag) (c : Str) : V := if c = ("ValueError" : Str) then .ty "ValueError" else .ref (He.ga K c)
def clsV (K : PySem.W.Frag) (c : Str) : Value := if c = ("ValueError" : Str) then .type "ValueError" else .ref (He.ga K c)
theorem cls_cv (K : PySem.W.Frag) (c : Str) : ClsV (clsR K c) (clsV K c) := by
  unfold clsR clsV
  split
  · exact .ty _
  · exact .own _
theorem cls_all (K : PySem.W.Frag) : ∀ cs : List Str, Paired ClsV (cs.map (clsR K)) (cs.map (clsV K))
  | [] => .nil
  | c :: cs => .cons (cls_cv K c) (cls_all K cs)
def excCB (K : PySem.W.Frag) (D : Addr) : Bool := xfB K D && (He.eqO (PySem.W.findIn K (.ref D) "__class__") (some (some (.builtin "object.__class__"))) && (He.eqO (PySem.W.specialIn K (.builtin "object.__class__") "__get__") (some (some (.builtin "getset_descriptor.__get__"))) &&
  (decide (PySem.W.takesIn K (.builtin "object.__class__") = some true) && decide (PySem.W.mroIn K D (.type "object") = some true))))
theorem excCB_ok {K : PySem.W.Frag} {D : Addr} (h : excCB K D = true) : ExcC K D := by
  unfold excCB at h
  obtain ⟨h0, h⟩ := He.ba h
  obtain ⟨h5, h⟩ := He.ba h
  obtain ⟨h6, h⟩ := He.ba h
  obtain ⟨h7, h8⟩ := He.ba h
  unfold xfB at h0
  obtain ⟨h1, h0⟩ := He.ba h0
  obtain ⟨h2, h0⟩ := He.ba h0
  obtain ⟨h3, h4⟩ := He.ba h0
  exact ⟨of_decide_eq_true h1, of_decide_eq_true h2, of_decide_eq_true h3, h4, He.eqO_ok h5, He.eqO_ok h6, of_decide_eq_true h7, of_decide_eq_true h8⟩
structure ETab where
  ds : List Str
  fl : List (Str × Str)
  is : List ((Str × Str) × Bool)
  ex : List ((Str × Str) × Bool)
def lk (d c : Str) : List ((Str × Str) × Bool) → Option Bool
  | [] => none
  | q :: r => if q.1 = (d, c) then some q.2 else lk d c r
theorem lk_mem {d c : Str} {b : Bool} : ∀ {l : List ((Str × Str) × Bool)}, lk d c l = some b → ((d, c), b) ∈ l
  | [], h => by cases h
  | q :: r, h => by
    unfold lk at h
    split at h
    · rename_i e
      cases h
      rw [← e]
      exact List.mem_cons_self
    · exact List.mem_cons_of_mem _ (lk_mem h)
def ETab.ok (t : ETab) (K : PySem.W.Frag) : Bool := ((t.ds.all fun d => excCB K (He.ga K d)) && t.fl.all fun q => He.eqO (PySem.W.findIn K (.ref (He.ga K q.1)) q.2) (some none)) && ((t.is.all fun q => decide (PySem.W.kitOne K (.ref (He.ga K q.1.1)) (clsV K q.1.2) = some q.2)) && t.ex.all fun q => decide (PySem.W.exmOne K (.ref (He.ga K q.1.1)) (clsV K q.1.2) = some q.2))
def isE (t : ETab) (e : Er) (c : Str) : Option Bool := if e.c ∈ t.ds then lk e.c c t.is else none
def isEs (t : ETab) (e : Er) : List Str → Option Bool
  | [] => some false
  | c :: r => (isE t e c).bind fun b => if b = true then some true else isEs t e r
def exE (t : ETab) (e : Er) (c : Str) : Option Bool := lk e.c c t.ex
def erI (t : ETab) (e : Er) (f : Str) : Option Int := match e with
  | .pi c g i => if g = f ∧ (c, g) ∈ t.fl ∧ c ∈ t.ds then some i else none
  | _ => none
def erS (t : ETab) (e : Er) (f : Str) : Option Str := match e with
  | .ps c g x => if g = f ∧ (c, g) ∈ t.fl ∧ c ∈ t.ds then some x else none
  | _ => none
section
variable {K : PySem.W.Frag} {t : ETab}
theorem ETab.ds_ok (h : t.ok K = true) {d : Str} (hd : d ∈ t.ds) : ExcC K (He.ga K d) := by
  unfold ETab.ok at h
  exact excCB_ok (List.all_eq_true.mp (He.ba (He.ba h).1).1 d hd)
theorem ETab.xf_ok (h : t.ok K = true) {d : Str} (hd : d ∈ t.ds) : XfC K (He.ga K d) := by
  unfold ETab.ok at h
  have := List.all_eq_true.mp (He.ba (He.ba h).1).1 d hd
  unfold excCB at this
  exact xfB_ok (He.ba this).1
theorem ETab.fl_ok (h : t.ok K = true) {d f : Str} (hd : (d, f) ∈ t.fl) : PySem.W.findIn K (.ref (He.ga K d)) f = some none := by
  unfold ETab.ok at h
  exact He.eqO_ok (List.all_eq_true.mp (He.ba (He.ba h).1).2 _ hd)
theorem ETab.is_ok (h : t.ok K = true) {d c : Str} {b : Bool} (hl : lk d c t.is = some b) : PySem.W.kitOne K (.ref (He.ga K d)) (clsV K c) = some b := by
  unfold ETab.ok at h
  exact of_decide_eq_true (List.all_eq_true.mp (He.ba (He.ba h).2).1 _ (lk_mem hl))
theorem ETab.ex_ok (h : t.ok K = true) {d c : Str} {b : Bool} (hl : lk d c t.ex = some b) : PySem.W.exmOne K (.ref (He.ga K d)) (clsV K c) = some b := by
  unfold ETab.ok at h
  exact of_decide_eq_true (List.all_eq_true.mp (He.ba (He.ba h).2).2 _ (lk_mem hl))
theorem exE_ok (h : t.ok K = true) {e : Er} {c : Str} {b : Bool} {cls : Value} {d : Option Addr} {F : Hp} (he : ExR K F e cls d) (hl : exE t e c = some b) : PySem.W.exmOne K cls (clsV K c) = some b := by
  rw [exR_cls he]
  exact ETab.ex_ok h hl
end
section
variable {X : Cx} {σ : St} {s : S} {e : Expr} {es : List Expr} {p0 p1 p2 p3 pos : Pos} {a : Addr} {oe : Obj} {pn : List (Addr × Obj)}
theorem exc_inst {D : Addr} {d : Option Addr} {pins : List (Addr × Obj)} {σ : St} {H : Hp} {sh : Shared} (hz : Zc (.ref D) d oe) (hf : ∃ vs, oe.data = .fields vs) (hd : ∀ dd, d = some dd → ∃ fs, H dd = some (.xd fs)) (I : Inv (X.suite a ((a, oe) :: pn)) pins σ H sh) : InstE a D oe sh.heap := by
  obtain ⟨hget, _⟩ := I.pin (a, oe) (List.mem_append.mpr (.inl List.mem_cons_self))
  obtain ⟨vs, hv⟩ := hf
  cases d with
  | none =>
    exact ⟨none, hget, hz.1, by unfold PySem.W.notCls; rw [hv], by rw [hz.2]; trivial⟩
  | some dd =>
    obtain ⟨fs, he⟩ := hd dd rfl
    obtain ⟨mA, hns, _⟩ := (show ObjOk X.prog X.w H sh.heap dd (.xd fs) from I.hok dd _ he)
    obtain ⟨od, ho, _⟩ := lookIn_ns hns
    exact ⟨some od, hget, hz.1, by unfold PySem.W.notCls; rw [hv], by rw [hz.2]; exact ho⟩
theorem call_isE1 {D : Addr} {d : Option Addr} (C : ExcC X.K D) (hz : Zc (.ref D) d oe) (hf : ∃ vs, oe.data = .fields vs) : CallR (X.suite a ((a, oe) :: pn)) (.builtin "isinstance") (fun xs H Q => (∀ dd, d = some dd → ∃ fs, H dd = some (.xd fs)) ∧ ∃ (c : V) (cv : Value) (b : Bool), xs = [.ref a, c] ∧ ClsV c cv ∧ PySem.W.kitOne X.K (.ref D) cv = some b ∧ Q (.bl b) H) := by
  intro pins s σ H xs us Q I r h
  obtain ⟨hd, c, cv, b, rfl, k, e, q⟩ := h
  obtain ⟨u1, u2, rfl, r1, r2⟩ := vals2 r
  cases (show u1 = Value.ref a from r1)
  have e2 := k.eq r2
  subst e2
  exact PySem.W.kia_one (kit_exc C) I.kIn (exc_inst hz hf hd I) e (fun z => nomatch z) fun tk => ⟨.bl b, H, I.kept (t' := tk) fun _ _ z => z, rfl, q⟩
theorem call_isET {D : Addr} {d : Option Addr} (C : ExcC X.K D) (hz : Zc (.ref D) d oe) (hf : ∃ vs, oe.data = .fields vs) : CallR (X.suite a ((a, oe) :: pn)) (.builtin "isinstance") (fun xs H Q => (∀ dd, d = some dd → ∃ fs, H dd = some (.xd fs)) ∧ ∃ (tp : Addr) (cs : List V) (us : List Value) (b : Bool), xs = [.ref a, .ref tp] ∧ H tp = some (.tup cs) ∧ Paired ClsV cs us ∧ PySem.W.kitAny X.K (.ref D) us = some b ∧ Q (.bl b) H) := by
  intro pins s σ H xs us Q I r h
  obtain ⟨hd, tp, cs, ws, b, rfl, hT, k, e, q⟩ := h
  obtain ⟨u1, u2, rfl, r1, r2⟩ := vals2 r
  cases (show u1 = Value.ref a from r1)
  cases (show u2 = Value.ref tp from r2)
  obtain ⟨_, its, rv, o, h1, h2, n, h3⟩ := (show ObjOk X.prog X.w H s.heap tp (.tup cs) from I.hok tp _ hT)
  have e3 := ClsV.all k rv
  subst e3
  obtain ⟨oc, od, dt, sl⟩ := o
  simp only at h2 h3
  subst h2 h3
  exact PySem.W.kia_tup (kit_exc C) I.kIn (exc_inst hz hf hd I) h1 e (fun z => nomatch z) fun tk => ⟨.bl b, H, I.kept (t' := tk) fun _ _ z => z, rfl, q⟩
theorem exR_xd {K : PySem.W.Frag} {F : Hp} {e : Er} {cls : Value} {d : Option Addr} (h : ExR K F e cls d) : ∀ dd, d = some dd → ∃ fs, F dd = some (.xd fs) := fun dd e1 => by
  cases e with
  | pl c => rw [h.2] at e1; cases e1
  | pi c f i => obtain ⟨_, d2, h2, h3⟩ := h; rw [h2] at e1; cases e1; exact ⟨_, h3⟩
  | ps c f x => obtain ⟨_, d2, h2, h3⟩ := h; rw [h2] at e1; cases e1; exact ⟨_, h3⟩
theorem kit_any {K : PySem.W.Frag} {t : ETab} (h : t.ok K = true) {er : Er} : ∀ {cs : List Str} {b : Bool}, isEs t er cs = some b → PySem.W.kitAny K (.ref (He.ga K er.c)) (cs.map (clsV K)) = some b
  | [], b, e => e
  | c :: r, b, e => by
    unfold isEs isE at e
    by_cases hd : er.c ∈ t.ds
    · rw [if_pos hd] at e
      cases hl : lk er.c c t.is with
      | none => rw [hl] at e; cases e
      | some b1 =>
        rw [hl] at e
        have k1 := ETab.is_ok h hl
        rw [List.map_cons]
        unfold PySem.W.kitAny
        rw [k1]
        cases b1 with
        | true => exact e
        | false => exact kit_any h e
    · rw [if_neg hd] at e; cases e
theorem ev_cls {c : Str} (h : (c ≠ ("ValueError" : Str) ∧ X.mg c = some (.ref (He.ga X.K c))) ∨ (c = ("ValueError" : Str) ∧ X.mg c = none)) (hg : Gl X c := by rfl) (hd : (c == ("__debug__" : Str)) = false := by decide) : Ev X (.Name c pos) σ s (Rw.mk (clsR X.K c)) := by
  rcases h with ⟨h1, h2⟩ | ⟨h1, h2⟩
  · have : clsR X.K c = .ref (He.ga X.K c) := if_neg h1
    rw [this]
    exact ev_glob ⟨.ref (He.ga X.K c), _, h2, rfl, fun _ => rfl⟩ hg hd
  · subst h1
    exact fun s1 k Q q => we_of (pe_bltn (v := .ty "ValueError") hg h2 PyProof.Rows.Boot.«ValueError» rfl (by decide) (by decide)) (q _ s1 (Ex.refl _) rfl)
theorem ev_isE {c : Str} {er : Er} {d : Option Addr} {b : Bool} {t : ETab} (h : t.ok X.K = true) (hl : isE t er c = some b) (hz : Zc (.ref (He.ga X.K er.c)) d oe) (hf : ∃ vs, oe.data = .fields vs) (hx : ExR X.K s.F er (.ref (He.ga X.K er.c)) d) (hm : X.mg "isinstance" = none)
    (ha : Ev (X.suite a ((a, oe) :: pn)) e σ s (Rw.mk (.ref a))) (hb : Ev (X.suite a ((a, oe) :: pn)) (.Name c p1) σ s (Rw.mk (clsR X.K c))) (hg : Gl (X.suite a ((a, oe) :: pn)) "isinstance" := by rfl)
    (he : starEach [e, .Name c p1] X.env = (false, eval e X.env) :: starEach [.Name c p1] X.env := by rfl) (he2 : starEach [.Name c p1] X.env = (false, eval (.Name c p1) X.env) :: starEach [] X.env := by rfl) (hpl : (backTo pos (starEach [.Name c p1] X.env)).any (·.1) = false := by rfl) :
    Ev (X.suite a ((a, oe) :: pn)) (.Call (.Name "isinstance" p0) [e, .Name c p1] [] pos) σ s b := fun s1 k Q q => by
  unfold isE at hl
  by_cases hd : er.c ∈ t.ds
  · rw [if_pos hd] at hl
    refine we_of (pe_callB (call_isE1 (d := d) (ETab.ds_ok h hd) hz hf) hg hm (by decide +kernel) (pa_cons pe_we (pa_cons pe_we pa_nil he2) he) (he := he) (hpl := hpl)) (ha s1 k _ fun v s2 k2 r2 => hb s2 (k.trans k2) _ fun u s3 k3 r3 => ?_)
    cases (show v = .ref a from r2)
    cases (show u = clsR X.K c from r3)
    exact ⟨fun dd e1 => by
      obtain ⟨fs, z⟩ := exR_xd hx dd e1
      exact ⟨fs, s3.sub _ _ (((k.trans k2).trans k3).f _ _ z)⟩, clsR X.K c, clsV X.K c, b, rfl, cls_cv X.K c, ETab.is_ok h hl, q _ s3 (k2.trans k3) rfl⟩
  · rw [if_neg hd] at hl; cases hl
theorem ev_xfI {f : Str} {er : Er} {d : Option Addr} {i : Int} {t : ETab} (h : t.ok X.K = true) (hl : erI t er f = some i) (hz : Zc (.ref (He.ga X.K er.c)) d oe) (hf : ∃ vs, oe.data = .fields vs) (hx : ExR X.K s.F er (.ref (He.ga X.K er.c)) d)
    (ha : Ev (X.suite a ((a, oe) :: pn)) e σ s (Rw.mk (.ref a))) (hb : attributeBase e f X.env (eval e X.env) = eval e X.env := by rfl) : Ev (X.suite a ((a, oe) :: pn)) (.Attribute e f pos) σ s i := fun s1 k Q q => by
  cases er with
  | pl c => cases hl
  | ps c g x => cases hl
  | pi c g j =>
    unfold erI at hl
    dsimp only at hl
    split at hl
    · rename_i hh
      obtain ⟨rfl, h2, h3⟩ := hh
      cases hl
      obtain ⟨_, dd, rfl, h5⟩ := hx
      refine we_of (pe_xf (ETab.xf_ok h h3) (ETab.fl_ok h h2) hz hf pe_we hb) (ha s1 k _ fun v s2 k2 r2 => ?_)
      cases (show v = .ref a from r2)
      exact ⟨rfl, rfl, dd, _, _, rfl, s2.sub _ _ ((k.trans k2).f _ _ h5), by simp, q _ s2 k2 rfl⟩
    · cases hl
theorem ev_xfS {f : Str} {er : Er} {d : Option Addr} {x : Str} {t : ETab} (h : t.ok X.K = true) (hl : erS t er f = some x) (hz : Zc (.ref (He.ga X.K er.c)) d oe) (hf : ∃ vs, oe.data = .fields vs) (hx : ExR X.K s.F er (.ref (He.ga X.K er.c)) d)
    (ha : Ev (X.suite a ((a, oe) :: pn)) e σ s (Rw.mk (.ref a))) (hb : attributeBase e f X.env (eval e X.env) = eval e X.env := by rfl) : Ev (X.suite a ((a, oe) :: pn)) (.Attribute e f pos) σ s x := fun s1 k Q q => by
  cases er with
  | pl c => cases hl
  | pi c g x => cases hl
  | ps c g j =>
    unfold erS at hl
    dsimp only at hl
    split at hl
    · rename_i hh
      obtain ⟨rfl, h2, h3⟩ := hh
      cases hl
      obtain ⟨_, dd, rfl, h5⟩ := hx
      refine we_of (pe_xf (ETab.xf_ok h h3) (ETab.fl_ok h h2) hz hf pe_we hb) (ha s1 k _ fun v s2 k2 r2 => ?_)
      cases (show v = .ref a from r2)
      exact ⟨rfl, rfl, dd, _, _, rfl, s2.sub _ _ ((k.trans k2).f _ _ h5), by simp, q _ s2 k2 rfl⟩
    · cases hl
theorem isEs_ds {t : ETab} {er : Er} {c : Str} {r : List Str} {b : Bool} (h : isEs t er (c :: r) = some b) : er.c ∈ t.ds := by
  unfold isEs isE at h
  by_cases hd : er.c ∈ t.ds
  · exact hd
  · rw [if_neg hd] at h; cases h
theorem names_of {c : Str} (h : X.mg c = some (.ref (He.ga X.K c))) (hg : Gl X c := by rfl) (hd : (c == ("__debug__" : Str)) = false := by decide) (hv : c ≠ ("ValueError" : Str) := by decide) : Names X c (clsV X.K c) := ⟨hg, hd, .inl (by rw [h]; exact congrArg some (if_neg hv).symm)⟩
theorem takes_false : Takes X (fun _ _ _ _ => False) := fun u s' ⟨_, _, _, _, _, _, _, _, _, _, _, _, _, _, _, _, h⟩ => h.elim
theorem ev_isEs {c0 : Str} {cr : List Str} {er : Er} {d : Option Addr} {cs : List Str} {b : Bool} {t : ETab} {n} (h : t.ok X.K = true) (hl : isEs t er cs = some b) (hz : Zc (.ref (He.ga X.K er.c)) d oe) (hf : ∃ vs, oe.data = .fields vs) (hx : ExR X.K s.F er (.ref (He.ga X.K er.c)) d) (hm : X.mg "isinstance" = none)
    (ha : Ev (X.suite a ((a, oe) :: pn)) e σ s (Rw.mk (.ref a))) (hb : EvE (X.suite a ((a, oe) :: pn)) es σ s (cs.map fun c => Rw.mk (clsR X.K c))) (hc : cs.length ≤ 1000) (e0 : cs = c0 :: cr := by rfl) (hg : Gl (X.suite a ((a, oe) :: pn)) "isinstance" := by rfl)
    (he : starEach [e, .Tuple es n p1] X.env = (false, eval e X.env) :: starEach [.Tuple es n p1] X.env := by rfl) (he2 : starEach [.Tuple es n p1] X.env = (false, eval (.Tuple es n p1) X.env) :: starEach [] X.env := by rfl) (hpl : (backTo pos (starEach [.Tuple es n p1] X.env)).any (·.1) = false := by rfl) :
    Ev (X.suite a ((a, oe) :: pn)) (.Call (.Name "isinstance" p0) [e, .Tuple es n p1] [] pos) σ s b := fun s1 k Q q =>
  we_of (pe_callB (call_isET (d := d) (ETab.ds_ok h (isEs_ds (by rw [e0] at hl; exact hl))) hz hf) hg hm (by decide +kernel) (pa_cons pe_we (pa_cons (pe_tup pa_wa) pa_nil he2) he) (he := he) (hpl := hpl)) (ha s1 k _ fun v s2 k2 r2 => hb s2 (k.trans k2) _ fun us s3 k3 r3 => by
    cases (show v = .ref a from r2)
    have e := rw_reps r3
    have e2 : us = cs.map (clsR X.K) := by rw [e, List.map_map]; rfl
    subst e2
    refine ⟨by rw [List.length_map, sizeLine_eq]; omega, fun p hp => ⟨fun dd e1 => ?_, p, _, cs.map (clsV X.K), b, rfl, upd_same, cls_all X.K cs, kit_any h hl, q _ (s3.newF p (.tup (cs.map (clsR X.K))) hp) ((k2.trans k3).trans (Ex.newF hp)) rfl⟩⟩
    obtain ⟨fs, z⟩ := exR_xd hx dd e1
    exact ⟨fs, (s3.newF p _ hp).sub _ _ ((((k.trans k2).trans k3).trans (Ex.newF hp)).f _ _ z)⟩)
end
section
variable {X : Cx} {σ : St} {s : S} {D : Ends} {rest : List Stmt} {e : Expr} {pos : Pos}
theorem do_dropX (h : EvX X e σ s) (hs : swapsWith e none pos.line X.env = pure false := by rfl) : WSs X (.Expr e pos :: rest) D σ s.H :=
  do_cons (ps_expr pe_we hs) (h s (Ex.refl _) _)
theorem do_retX (h : EvX X e σ s) : WSs X (.Return (some e) pos :: rest) D σ s.H := do_cons (ps_ret pe_we) (h s (Ex.refl _) _)
theorem do_setX (i : Nat) {n : Str} {py : Pos} (h : EvX X e σ s) (hN : X.N.Nodup) (hx : Loc X.env.scope n := by first | exact Or.inl rfl | exact Or.inr rfl) (hi : X.N[i]? = some n := by rfl)
    (hs : swapsWith e (some (.Name n py)) pos.line X.env = pure false := by rfl) (hf : X.fn n = true ∨ X.env.scope.names.lookup n = some .local := by first | exact .inl rfl | exact .inr rfl) : WSs X (.Assign [.Name n py] e pos :: rest) D σ s.H :=
  do_cons (ps_set hN hi hx pe_we hs hf) (h s (Ex.refl _) _)
theorem do_unpX (i j : Nat) {tg : Expr} (h : EvX X e σ s) (hg : PG X tg (gTup X.K 2 (gCons (gName i) (gCons (gName j) gNil)))) (hs : swapsWithSole [tg] e pos.line X.env = pure false := by rfl) (hw : swappedStores [tg] e X.env = pure none := by rfl)
    (h1 : (assignEach [tg] X.env).map (·.2) = [assign tg X.env] := by rfl) : WSs X (.Assign [tg] e pos :: rest) D σ s.H :=
  do_cons (ps_asg pe_we hg hs hw h1) (h s (Ex.refl _) _)
theorem was_of {K : PySem.W.Frag} {c : Value} {i : Nat} {ts : Addr → Value → Option Addr → TS} {Wout : WX} {cls : Value} {d : Option Addr} {σ : St} {H : Hp} (h1 : PySem.W.exmOne K cls c = some true)
    (h2 : ∀ a, H a = none → ts a cls d { nx := fun σ' H' => D.nx (σ'.set i none) H', rt := D.rt, bk := fun σ' H' => D.bk (σ'.set i none) H', ct := fun σ' H' => D.ct (σ'.set i none) H' } (σ.set i (some (.ref a))) H) : wAs K c i ts Wout D cls d σ H := ⟨true, h1, fun _ => h2, fun z => nomatch z⟩
theorem do_ifC {c : Expr} {A B : List Stmt} {x : Bool} (hc : EvT X c σ s x) (h1 : x = true → ∀ s1, Ex s s1 → WSs X A { D with nx := fun σ' H' => WSs X rest D σ' H' } σ s1.H) (h2 : x = false → ∀ s1, Ex s s1 → WSs X B { D with nx := fun σ' H' => WSs X rest D σ' H' } σ s1.H) : WSs X (.If c A B pos :: rest) D σ s.H :=
  do_cons (ps_if pt_wt pss_ws pss_ws) (hc s (Ex.refl _) _ fun s1 k => by
    cases x with
    | true => exact iteT (h1 rfl s1 k)
    | false => exact iteF (h2 rfl s1 k))
end

section
variable {α : Type} [Enc α] {X : Cx} {σ : St} {s : S} {a b : Expr} {pos : Pos}
theorem en_repO {p : Addr} {xs : List α} {n : Int} (ha : Ev X a σ s (Rw.mk (.ref p))) (o : Own X.K s p xs) (hb : ∀ t, Ex s t → Ev X b σ t n) (hz : RepOk n xs.length) : EvN X (.BinOp a .Mult b pos) σ s (repl n xs) := fun s1 k Q q =>
  we_of (pe_op op_rep pe_we pe_we) (ha s1 k _ fun v s2 k2 r2 => by
    cases (show v = V.ref p from r2)
    exact hb s2 (k.trans k2) s2 (Ex.refl _) _ fun u s3 k3 r3 => by
      obtain ⟨_, vs, h1, h2⟩ := o.ex ((k.trans k2).trans k3)
      exact ⟨p, n, vs, rfl, r3, h1, hz.1, hz.2.1, by rw [h2.len]; exact hz.2.2, fun l hl => q l (s3.newO l _ hl) ((k2.trans k3).trans (Ex.newO hl)) (fr_back (k2.trans k3) hl) (own_new hl (h2.repF _))⟩)
end
theorem goN {β ρ γ : Type} {b : β} {k : β → γ} {e : ρ → γ} {r : γ} (h : Fl.go (Fl.nx b) k e = r) : k b = r := h
def obsX (n : Nat) (fa : List He.Fa) (fn : List He.DefD) (gs : PySem.W.Frag → Bool) (g : Addr → Option Obj) : Bool × He.AlD := (gs (He.frG g (He.asD g n)), He.obsDG n fa fn g)
def hookX (n : Nat) (fa : List He.Fa) (fn : List He.DefD) (gs : PySem.W.Frag → Bool) : PySem.W.Hook where
  α := Bool × He.AlD
  obs := fun s => obsX n fa fn gs s.heap.get?
  val := fun _ => (true, He.valD fn)
  says := fun _ h => ∃ K : PySem.W.Frag, K.In h ∧ He.SaysD fa fn K ∧ gs K = true
  of := fun _ _ e => ⟨_, He.frG_in, congrArg (fun z : Bool × He.AlD => z.2) e, congrArg (fun z : Bool × He.AlD => z.1) e⟩
  keeps := fun _ _ _ ⟨K, hK, c, d⟩ k => ⟨K, PySem.W.Frag.In.keeps hK k, c, d⟩
theorem obsX_eq {n : Nat} {fa : List He.Fa} {fn : List He.DefD} {gs : PySem.W.Frag → Bool} {g : Addr → Option Obj} {s : Shared} (h : ∀ a, g a = s.heap.get? a) : obsX n fa fn gs g = (hookX n fa fn gs).obs s := by
  have e : g = s.heap.get? := funext h
  rw [e] <;> rfl
end Dy

namespace Dy
open PySem PySem.Spec L2
open PyProof.Rows hiding St
open Enc (rep)
open EncA (repA)

def oexB (K : PySem.W.Frag) (C : Addr) : Bool := match K.lookup C with
  | some ⟨.type "type", _, .cls cd, sl⟩ => (match cd.mro, sl.toList with
    | .ref C' :: bm, [_, _, _, _, some (.builtin n), _] => C' == C && (n == "ValueError.__new__" && (!cd.hasDel && (cd.hasDict && PySem.HandSPX.refsVE bm)))
    | _, _ => false)
  | _ => false
theorem oexB_ok {K : PySem.W.Frag} {C : Addr} (h : oexB K C = true) : ∃ nm q N bs bm sn sub ab col dd k0 k1 k2 k3 k5, K.lookup C = some (excClassObj nm q C N bs bm true sn sub ab col dd k0 k1 k2 k3 k5 "ValueError.__new__") ∧ PySem.HandSPX.refsVE bm = true := by
  unfold oexB at h
  split at h
  · rename_i dd cd sl ho
    split at h
    · rename_i C' bm k0 k1 k2 k3 n k5 hm hs
      simp only [Bool.and_eq_true, beq_iff_eq, Bool.not_eq_true'] at h
      obtain ⟨rfl, rfl, h1, h2, h3⟩ := h
      obtain ⟨nm, bs, mro, ns, qn, hd, sn, sub, ab, col, del⟩ := cd
      dsimp only at hm h1 h2
      subst hm h1 h2
      obtain ⟨l⟩ := sl
      simp only at hs
      subst hs
      exact ⟨nm, qn, ns, bs, bm, sn, sub, ab, col, dd, k0, k1, k2, k3, k5, ho, h3⟩
    · cases h
  · cases h
def payB (K : PySem.W.Frag) (c f : Str) : Bool := oexB K (He.ga K c) && (He.eqO (PySem.W.findIn K (.ref (He.ga K c)) "__setattr__") (some (some (.builtin "object.__setattr__"))) && (decide (PySem.W.subIn K (.ref (He.ga K c)) (.type "BaseException") = some true) && (decide (PySem.W.typeIn K (.ref (He.ga K c)) = some (.type "type")) &&
  (PySem.W.keepIn K (.ref (He.ga K c)) && (He.eqO (PySem.W.findIn K (.ref (He.ga K c)) "__init__") (some (some (.ref (He.fAd K (c, some "__init__"))))) && (decide (PySem.W.typeIn K (.ref (He.fAd K (c, some "__init__"))) = some (.type "function")) && He.eqO (PySem.W.findIn K (.ref (He.ga K c)) f) (some none)))))))
structure PayF (K : PySem.W.Frag) (c f : Str) : Prop where
  o : OexC K (He.ga K c)
  i : PySem.W.findIn K (.ref (He.ga K c)) "__init__" = some (some (.ref (He.fAd K (c, some "__init__"))))
  t : PySem.W.typeIn K (.ref (He.fAd K (c, some "__init__"))) = some (.type "function")
  n : PySem.W.findIn K (.ref (He.ga K c)) f = some none
theorem payB_ok {K : PySem.W.Frag} {c f : Str} (h : payB K c f = true) : PayF K c f := by
  unfold payB at h
  obtain ⟨h1, h⟩ := He.ba h
  obtain ⟨h2, h⟩ := He.ba h
  obtain ⟨h3, h⟩ := He.ba h
  obtain ⟨h4, h⟩ := He.ba h
  obtain ⟨h5, h⟩ := He.ba h
  obtain ⟨h6, h⟩ := He.ba h
  obtain ⟨h7, h8⟩ := He.ba h
  exact ⟨⟨oexB_ok h1, He.eqO_ok h2, of_decide_eq_true h3, of_decide_eq_true h4, h5⟩, He.eqO_ok h6, of_decide_eq_true h7, He.eqO_ok h8⟩
def spInit (K : PySem.W.Frag) (f : Str) : Sp := fun vs H Q _ => ∃ (a C : Addr) (v : V), vs = [.ref a, v] ∧ H a = some (exo a C none) ∧ OexC K C ∧ PySem.W.findIn K (.ref C) f = some none ∧ ∀ dx, H dx = none → dx ≠ a → Q .non (upd (upd H dx (exd dx [(f, v)])) a (exo a C (some dx)))
section
variable {P : Program} {w : World} {K : PySem.W.Frag} {mg : Str → Option Value} {base : Heap}
theorem mk_init {f x : Str} {ar : Arguments} {sc : Scope} {q : Str} {fI : Addr} {fd : FuncData} {k : Nat} {p1 p2 p3 p4 : Pos} (F : FunD K "__init__" q ar [.Assign [.Attribute (.Name "self" p1) f p2] (.Name x p3) p4] sc [] [] fI fd) (Sc : FnScope ["self", x] ["self", x] sc)
    (hv : ∀ (cdv : Value) (A' : Around) (outer : List Env) (s0 : Shared) (H0 : Hp) (E0 : XK), Vis (cxOf CX0 P w K mg base ["self", x] q sc fI cdv A' outer s0 H0 E0).nox.env.scope "self" ∧ Vis (cxOf CX0 P w K mg base ["self", x] q sc fI cdv A' outer s0 H0 E0).nox.env.scope x ∧
      swapsWith (.Name x p3) (some (.Attribute (.Name "self" p1) f p2)) p4.line (cxOf CX0 P w K mg base ["self", x] q sc fI cdv A' outer s0 H0 E0).nox.env = pure false)
    (hx : (x == ("__debug__" : Str)) = false := by decide) (hx2 : (x == ("__classdict__" : Str)) = false := by decide) : FnOk P w K mg base CX0 (k + 1) fI fd ["self", x] (spInit K f) :=
  F.ok Sc (fun vs H Q E ⟨a, C, v, e, _⟩ => by rw [e]; rfl) (fun cdv A' outer s0 H0 vs Q E hr ⟨a, C, v, e, h1, h2, h3, h4⟩ => by
    obtain ⟨v1, v2, v3⟩ := hv cdv A' outer s0 H0 E
    subst e
    exact ⟨_, PSs.nox (pss_cons (ps_ost (pe_var (i := 0) rfl v1 (by decide) (by decide)) (pe_var (i := 1) rfl v2 hx hx2) v3) pss_nil), v, rfl, .ref a, rfl, a, C, rfl, h2, h3, .inl ⟨h1, fun dx n ne => h4 dx n ne⟩⟩)
end
section
variable {X : Cx} {σ : St} {s : S} {D : Ends} {rest : List Stmt} {W : WX} {e : Expr}
theorem do_raiseI {c f : Str} {fd : FuncData} {ps : List Str} {k j : Nat} {i : Int} {p pos pos' : Pos} (T : PayF X.K c f) (gC : X.mg c = some (.ref (He.ga X.K c))) (F1 : FnOk X.prog X.w X.K X.mg X.base CX0 k (He.fAd X.K (c, some "__init__")) fd ps (spInit X.K f)) (hb : Binds X.K fd ps [])
    (tk : Takes X W) (hr : Room j X.A) (hk : k + 1 ≤ j) (ha : Ev X e σ s i) (h : ∀ d s1, Ex s s1 → s1.F d = some (.xd [(f, V.int i)]) → W (.ref (He.ga X.K c)) (some d) σ s1.H)
    (hc : X.calm = true := by rfl) (hg : Gl X c := by rfl) (hdb : (c == ("__debug__" : Str)) = false := by decide) (he : starEach [e] X.env = (false, eval e X.env) :: starEach [] X.env := by rfl) (hpl : (backTo pos (starEach [] X.env)).any (·.1) = false := by rfl) :
    WSs X (.Raise (some (.Call (.Name c p) [e] [] pos)) none pos' :: rest) D σ s.H :=
  do_cons (ps_raise hc tk (pmk_oex T.o T.i T.t F1 (hr.mono hk) hb .nil pass0 hg gC (pa_cons pe_we pa_nil he) hdb he hpl)) (ha s (Ex.refl _) _ fun v s2 k2 r2 => by
    obtain rfl : v = V.int i := r2
    refine ⟨by simp, fun a hna => ⟨a, He.ga X.K c, V.int i, rfl, upd_same, T.o, T.n, fun dx h1 h2 => ?_⟩⟩
    have hdx : s2.H dx = none := by rw [upd_ne h2] at h1; exact h1
    refine ⟨rfl, dx, _, upd_same, by rw [upd_ne h2, upd_same], hdx, ?_⟩
    have eH : upd (del (upd (upd (upd s2.H a (exo a (He.ga X.K c) none)) dx (exd dx [(f, V.int i)])) a (exo a (He.ga X.K c) (some dx))) a) dx (.xd [(f, V.int i)]) = (s2.newF dx (.xd [(f, V.int i)]) hdx).H := by
      funext b
      show _ = upd s2.H dx (.xd [(f, V.int i)]) b
      by_cases hb1 : b = dx
      · subst hb1; rw [upd_same, upd_same]
      · rw [upd_ne hb1, upd_ne hb1]
        by_cases hb2 : b = a
        · subst hb2; rw [del_same, hna]
        · rw [del_ne hb2, upd_ne hb2, upd_ne hb1, upd_ne hb2]
    rw [eH]
    exact h dx _ (k2.trans (Ex.newF hdx)) upd_same)
end
def InitOk (P : Program) (w : World) (K : PySem.W.Frag) (mg : Str → Option Value) (base : Heap) (c f : Str) : Prop := ∃ (fd : FuncData) (ps : List Str), FnOk P w K mg base CX0 1 (He.fAd K (c, some "__init__")) fd ps (spInit K f) ∧ Binds K fd ps []
section
variable {α : Type} [Enc α] {X : Cx} {σ : St} {s : S} {e : Expr}
theorem ev_t2u {x : α × α} (h : Ev X e σ s x) : Ev X e σ s (⟨[x.1, x.2]⟩ : Tu α) := fun s1 k Q q => h s1 k Q fun v s2 k2 r => q v s2 k2 (by
  obtain ⟨p, v1, v2, rfl, h0, h1, h2⟩ := r
  exact ⟨p, [v1, v2], rfl, h0, h1, h2, trivial⟩)
end
class Arity (α : Type) (n : outParam Nat) extends Enc α where
  ar : ∀ {K : PySem.W.Frag} {F : Hp} {v : V} {x : α}, rep K F v x → ∃ p vs, v = .ref p ∧ SqT K F p vs ∧ vs.length = n
instance {α β : Type} [Enc α] [Enc β] : Arity (α × β) 2 := ⟨fun h => by
  obtain ⟨p, v1, v2, e, h, _⟩ := h
  exact ⟨p, _, e, h, rfl⟩⟩
instance {α β γ : Type} [Enc α] [Enc β] [Enc γ] : Arity (T3 α β γ) 3 := ⟨fun h => by
  obtain ⟨p, v1, v2, v3, e, h, _⟩ := h
  exact ⟨p, _, e, h, rfl⟩⟩
section
variable {α : Type} {X : Cx} {σ : St} {s : S} {e : Expr} {p0 pos : Pos}
theorem ev_lenA {n : Nat} [Arity α n] {x : α} (hm : X.mg "len" = none) (ha : Ev X e σ s x) (hg : Gl X "len" := by rfl) (he : starEach [e] X.env = (false, eval e X.env) :: starEach [] X.env := by rfl) (hpl : (backTo pos (starEach [] X.env)).any (·.1) = false := by rfl) : Ev X (.Call (.Name "len" p0) [e] [] pos) σ s (n : Int) :=
  ev_B1 call_len_seq hg hm boot_len ha (fun v s2 r2 Q q => by
    obtain ⟨p, vs, rfl, h1, h2⟩ := Arity.ar r2
    exact ⟨p, vs, rfl, .inr (sqt_mono s2.sub h1), q _ s2 (Ex.refl _) (by rw [h2]; rfl)⟩) (he := he) (hpl := hpl)
end
end Dy

namespace Dy
open PySem PySem.Spec L2
open PyProof.Rows hiding St
open Enc (rep)

def dsz (ns : List Int) : Nat := (PyProof.Rows.firstMet (fun i => ns.getD i 0) ns.length).length
section
variable {X : Cx} {a : Expr} {ta : TE} {p p2 q pos : Pos}
def tDsz (K : PySem.W.Frag) (ta : TE) : TE := fun σ H Q => ta σ H fun x H1 => ∃ (l : Addr) (ns : List Int), x = .ref l ∧ SqL K H1 l (ns.map V.int) ∧ ns.length ≤ 4000 ∧ dsz ns ≤ ns.length ∧ Q (.int (dsz ns : Nat)) H1
theorem pe_dsz (hg : Gl X "len") (hm : X.mg "len" = none) (hg2 : Gl X "set") (hm2 : X.mg "set" = none) (ha : PE X a ta) (hc : X.calm = true := by rfl)
    (na : starEach [a] X.env = (false, eval a X.env) :: starEach [] X.env := by rfl) : PE X (.Call (.Name "len" p) [.Call (.Name "set" p2) [a] [] q] [] pos) (tDsz X.K ta) := by
  refine ⟨fun pins s σ H Q I h => ?_⟩
  refine Call_ (ld_blt I hg hm boot_len (PyProof.Rows.callWith_builtin1 (PyProof.Rows.args_cons (Call_ (ld_blt I hg2 hm2 boot_set (PyProof.Rows.callWith_type1 (PyProof.Rows.args_cons (thn (ha.run pins s σ H _ I h) fun v s1 ⟨x, H1, I1, r1, l, ns, e, hq, hl, hd0, q1⟩ => PyProof.Rows.args_nil ?_) na) na rfl))) rfl) rfl rfl))
  subst e
  cases r1
  obtain ⟨its, r, pl, hz⟩ := I1.list hq
  have hlen : its.toArray.size = ns.length := by rw [List.size_toArray, ← r.length, List.length_map]
  refine call_set_list (I1.ok.hd hc) pl.isList (by simpa using RZ.intsAre_vals r) (by rw [hlen]; unfold scanBound; omega) fun h' tk hS hk => PyProof.Rows.args_nil ?_
  rw [hlen] at hS
  obtain ⟨o, es, ep, t, ho, hex, hd, _, _, _, hf, hn⟩ := hS
  have I2 : Inv X pins σ H1 { s1 with heap := h', toks := tk } := I1.kept fun b o e => hk b o (Heap.lt_size e) e
  unfold dsz at hd0 q1
  exact call_len_set ho hex hd hf (by rw [hn] <;> omega) ⟨.int (dsz ns : Nat), H1, I2.tok _, ⟨_, by rw [hn]; rfl⟩, q1⟩
theorem dsz_le (ns : List Int) : dsz ns ≤ ns.length := PyProof.Rows.firstMet_length_le _ _
variable {σ : St} {s : S}
theorem ev_dsz {xs : List Int} (hm : X.mg "len" = none) (hm2 : X.mg "set" = none) (ha : EvR X a σ s xs) (hz : xs.length ≤ 4000) (hc : X.calm = true := by rfl) (hg : Gl X "len" := by rfl) (hg2 : Gl X "set" := by rfl) (na : starEach [a] X.env = (false, eval a X.env) :: starEach [] X.env := by rfl) :
    Ev X (.Call (.Name "len" p) [.Call (.Name "set" p2) [a] [] q] [] pos) σ s ((dsz xs : Nat) : Int) := fun s1 k Q qq =>
  we_of (pe_dsz hg hm hg2 hm2 pe_we hc na) (ha s1 k _ fun v s2 k2 r2 => by
    obtain ⟨p, vs, rfl, h1, h2⟩ := r2
    obtain rfl := h2.flat
    exact ⟨p, xs, rfl, h1, hz, dsz_le xs, qq _ s2 k2 rfl⟩)
end
theorem fm_inv (ns : List Int) : ∀ i, i ≤ ns.length → (∀ x, x ∈ PyProof.Rows.firstMet (fun i => ns.getD i 0) i ↔ x ∈ ns.take i) ∧ ((PyProof.Rows.firstMet (fun i => ns.getD i 0) i).length = i ↔ (ns.take i).Nodup)
  | 0, _ => by
    rw [PyProof.Rows.firstMet_zero]
    simp
  | i + 1, h => by
    obtain ⟨h1, h2⟩ := fm_inv ns i (by omega)
    have h3 := PyProof.Rows.firstMet_length_le (fun i => ns.getD i 0) i
    have e1 : ns.getD i 0 = ns[i] := by rw [List.getD_eq_getElem?_getD, List.getElem?_eq_getElem (by omega)]; rfl
    have e2 : ns.take (i + 1) = ns.take i ++ [ns[i]] := by rw [List.take_add_one, List.getElem?_eq_getElem (by omega)]; rfl
    rw [PyProof.Rows.firstMet_succ, e2]
    generalize PyProof.Rows.firstMet (fun i => ns.getD i 0) i = m at *
    have e3 : PyProof.Rows.step_dedup m (ns.getD i 0) = if ns[i] ∈ m then m else m ++ [ns[i]] := by
      unfold PyProof.Rows.step_dedup
      rw [e1]
      have e4 : (m.any fun x => x == ns[i]) = true ↔ ns[i] ∈ m := by
        rw [List.any_eq_true]
        exact ⟨fun ⟨y, hy, ey⟩ => eq_of_beq ey ▸ hy, fun hm => ⟨_, hm, beq_self_eq_true _⟩⟩
      by_cases hm : ns[i] ∈ m
      · rw [if_pos hm, if_pos (e4.mpr hm)]
      · rw [if_neg hm, if_neg (fun z => hm (e4.mp z))]
    show (∀ x, x ∈ PyProof.Rows.step_dedup m (ns.getD i 0) ↔ _) ∧ ((PyProof.Rows.step_dedup m (ns.getD i 0)).length = i + 1 ↔ _)
    rw [e3]
    by_cases hm : ns[i] ∈ m
    · rw [if_pos hm]
      have hm2 := (h1 _).mp hm
      refine ⟨fun x => ?_, fun e => by omega, fun hn => ?_⟩
      · rw [List.mem_append, h1, List.mem_singleton]
        exact ⟨.inl, fun z => z.elim id fun z => z ▸ hm2⟩
      · exact absurd rfl ((List.nodup_append.mp hn).2.2 _ hm2 _ (List.mem_singleton.mpr rfl))
    · rw [if_neg hm]
      have hm2 : ns[i] ∉ ns.take i := fun z => hm ((h1 _).mpr z)
      refine ⟨fun x => by rw [List.mem_append, List.mem_append, h1], fun e => ?_, fun hn => ?_⟩
      · rw [List.length_append, List.length_singleton] at e
        refine List.nodup_append.mpr ⟨h2.mp (by omega), by simp, fun a ha b hb e => ?_⟩
        rw [List.mem_singleton.mp hb] at e
        exact hm2 (e ▸ ha)
      · rw [List.length_append, List.length_singleton, h2.mpr (List.nodup_append.mp hn).1]
theorem dsz_eq (ns : List Int) : dsz ns = ns.length ↔ ns.Nodup := by
  have := (fm_inv ns ns.length (Nat.le_refl _)).2
  rw [List.take_length] at this
  exact this
structure HL2 (α β : Type) where
  a : α
  b : β
deriving DecidableEq
instance {α β : Type} [Enc α] [Enc β] : Enc (HL2 α β) := ⟨fun K F v x => ∃ p v1 v2, v = .ref p ∧ SqL K F p [v1, v2] ∧ rep K F v1 x.a ∧ rep K F v2 x.b, fun e h => by
  obtain ⟨p, v1, v2, rfl, h0, h1, h2⟩ := h
  exact ⟨p, v1, v2, rfl, sql_mono e h0, Enc.mono e h1, Enc.mono e h2⟩⟩
instance {α β : Type} [EqD α] [EqD β] : EqD (HL2 α β) := ⟨fun x => .list [EqD.toD x.a, EqD.toD x.b], fun h f => by
  obtain ⟨p, v1, v2, rfl, h0, h1, h2⟩ := h
  exact .lst (sql_mono f h0) (.cons (EqD.dp h1 f) (.cons (EqD.dp h2 f) .nil)), fun x y => by
    obtain ⟨x1, x2⟩ := x
    obtain ⟨y1, y2⟩ := y
    show (PyData.eqv _ _ && (PyData.eqv _ _ && true)) = true ↔ _
    rw [Bool.and_eq_true, Bool.and_eq_true, EqD.eqv, EqD.eqv]; simp⟩
section
variable {α β : Type} [Enc α] [Enc β] {X : Cx} {σ : St} {s : S} {es : List Expr} {pos : Pos}
theorem ev_hl2 {x : α} {y : β} (h : EvA X es σ s (x, y, ())) : Ev X (.List es pos) σ s (⟨x, y⟩ : HL2 α β) := fun s1 k Q q =>
  we_of (pe_lst pa_wa) (h s1 k _ fun vs s2 k2 r2 => by
    obtain ⟨v1, _, rfl, r1, v2, _, rfl, r2, rfl⟩ := r2
    exact ⟨show _ ≤ 2 ^ 24 by simp, fun p hp => q _ (s2.newF p (.lst [v1, v2]) hp) (k2.trans (Ex.newF hp)) ⟨p, v1, v2, rfl, .inl (.inl upd_same), Enc.mono (Ex.newF hp).f r1, Enc.mono (Ex.newF hp).f r2⟩⟩)
end
def relS (scope sc : Scope) : Scope := { scope with names := scope.names.map fun (n, k) => if (k == .free && sc.kind == .function && sc.names.lookup n == some .cell) then (n, .cell) else (n, k) }
theorem blkOk_n {N : List Str} {scope1 sc0 scope : Scope} {env : Env} {own : List (Str × Nat)} (e : env.scope = sc0) (h : blkC N (relS scope1 sc0) scope own = true) : BlkOk N (relabel scope1 env) scope own := by
  have : relabel scope1 env = relS scope1 sc0 := by subst e; rfl
  rw [this]
  exact blkOk_by h
end Dy

namespace Dy
open PySem PySem.Spec L2
open PyProof.Rows hiding St
open Enc (rep)

inductive An where
  | b (x : Bool)
  | i (x : Int)
  | o (x : Option Int)
  | s (x : Str)
  | l (xs : List Int)
  | ls (xs : List Str)
  | ts (xs : Tu Str)
instance : Enc An := ⟨fun K F v x => match x with
  | .b x => rep K F v x
  | .i x => rep K F v x
  | .o x => rep K F v x
  | .s x => rep K F v x
  | .l x => rep K F v x
  | .ls x => rep K F v x
  | .ts x => rep K F v x, fun {K F F' v x} e h => by
  cases x with
  | b x => exact Enc.mono (α := Bool) e h
  | i x => exact Enc.mono (α := Int) e h
  | o x => exact Enc.mono (α := Option Int) e h
  | s x => exact Enc.mono (α := Str) e h
  | l x => exact Enc.mono (α := List Int) e h
  | ls x => exact Enc.mono (α := List Str) e h
  | ts x => exact Enc.mono (α := Tu Str) e h⟩
class ToD (α : Type) extends Enc α where
  td : α → PyData
  tdp : ∀ {K : PySem.W.Frag} {F H : Hp} {v : V} {x : α}, rep K F v x → Fle F H → Dp K H v (td x)
instance : ToD An := ⟨fun x => match x with
  | .b x => EqD.toD x
  | .i x => EqD.toD x
  | .o x => EqD.toD x
  | .s x => EqD.toD x
  | .l x => EqD.toD x
  | .ls x => EqD.toD x
  | .ts x => EqD.toD x, fun {K F H v x} h f => by
  cases x with
  | b x => exact EqD.dp (α := Bool) h f
  | i x => exact EqD.dp (α := Int) h f
  | o x => exact EqD.dp (α := Option Int) h f
  | s x => exact EqD.dp (α := Str) h f
  | l x => exact EqD.dp (α := List Int) h f
  | ls x => exact EqD.dp (α := List Str) h f
  | ts x => exact EqD.dp (α := Tu Str) h f⟩
instance {α : Type} [EqD α] : ToD (α × An) := ⟨fun x => .tuple [EqD.toD x.1, ToD.td x.2], fun h f => by
  obtain ⟨p, v1, v2, rfl, h0, h1, h2⟩ := h
  exact .tup (sqt_mono f h0) (.cons (EqD.dp h1 f) (.cons (ToD.tdp h2 f) .nil))⟩
def eqvD {α : Type} [ToD α] (x y : α) : Bool := PyData.eqv (ToD.td x) (ToD.td y)
def shpD {α : Type} [ToD α] (x : α) : Prop := SeqAt.shaped (ToD.td x) = true
section
variable {α : Type} {X : Cx} {σ : St} {s : S} {a b e : Expr} {pos : Pos}
theorem eb_eqV [ToD α] {x y : α} {j : Nat} (hr : Room j X.A) (ha : Ev X a σ s x) (hb : Ev X b σ s y) (h1 : shpD x) (h2 : shpD y) : EvB X (.Compare a [.Eq] [b] pos) σ s (eqvD x y) :=
  eb_cmp (op_eqD (hu64 hr)) ha hb (fun v u s2 hv hu Q q => ⟨_, _, ToD.tdp hv s2.sub, ToD.tdp hu s2.sub, h1, h2, q⟩) (nomark _)
theorem eb_neV [ToD α] {x y : α} {j : Nat} (hr : Room j X.A) (ha : Ev X a σ s x) (hb : Ev X b σ s y) (h1 : shpD x) (h2 : shpD y) : EvB X (.Compare a [.NotEq] [b] pos) σ s (!eqvD x y) :=
  eb_cmp (op_neD (hu64 hr)) ha hb (fun v u s2 hv hu Q q => ⟨_, _, ToD.tdp hv s2.sub, ToD.tdp hu s2.sub, h1, h2, q⟩) (nomark _)
theorem an_b {x : Bool} (h : Ev X e σ s x) : Ev X e σ s (An.b x) := h
theorem an_i {x : Int} (h : Ev X e σ s x) : Ev X e σ s (An.i x) := h
theorem an_o {x : Option Int} (h : Ev X e σ s x) : Ev X e σ s (An.o x) := h
theorem an_s {x : Str} (h : Ev X e σ s x) : Ev X e σ s (An.s x) := h
theorem an_l {x : List Int} (h : Ev X e σ s x) : Ev X e σ s (An.l x) := h
theorem an_ls {x : List Str} (h : Ev X e σ s x) : Ev X e σ s (An.ls x) := h
theorem an_ts {x : Tu Str} (h : Ev X e σ s x) : Ev X e σ s (An.ts x) := h
def anB : An → Option Bool
  | .b x => some x
  | _ => none
theorem ev_anB {x : An} {y : Bool} (h : Ev X e σ s x) (hy : anB x = some y) : Ev X e σ s y := by
  cases x with
  | b z => cases hy; exact h
  | _ => cases hy
end
end Dy

namespace Dy
open PySem PySem.Spec L2
open PyProof.Rows hiding St
open Enc (rep)
open Flat (toV)
open EncA (repA)

structure OA where
  p : PySem.W.Frag → Hp → Hp → (Addr → Prop) → Prop
  mono : ∀ {K : PySem.W.Frag} {F F' H : Hp} {P : Addr → Prop}, Fle F F' → p K F H P → p K F' H P
  loc : ∀ {K : PySem.W.Frag} {F H H' : Hp} {P : Addr → Prop}, (∀ a, P a → H' a = H a) → p K F H P → p K F H' P
  dom : ∀ {K : PySem.W.Frag} {F H : Hp} {P : Addr → Prop} {a : Addr}, p K F H P → P a → ∃ o, H a = some o
def top : OA := ⟨fun _ _ _ P => ∀ a, ¬ P a, fun _ h => h, fun _ h => h, fun h q => absurd q (h _)⟩
def fz {α : Type} [Enc α] (v : V) (x : α) : OA := ⟨fun K F _ P => rep K F v x ∧ ∀ a, ¬ P a, fun e h => ⟨Enc.mono e h.1, h.2⟩, fun _ h => h, fun h q => absurd q (h.2 _)⟩
def ol {α : Type} [Enc α] (p : Addr) (xs : List α) : OA := ⟨fun K F H P => (∀ a, P a ↔ a = p) ∧ ∃ vs, H p = some (.lst vs) ∧ Reps K F vs xs, fun e ⟨h0, vs, h1, h2⟩ => ⟨h0, vs, h1, h2.mono e⟩,
  fun e ⟨h0, vs, h1, h2⟩ => ⟨h0, vs, by rw [e p ((h0 p).mpr rfl)]; exact h1, h2⟩, fun ⟨h0, vs, h1, h2⟩ q => ⟨_, (congrArg _ ((h0 _).mp q)).trans h1⟩⟩
class DKey (κ : Type) extends Eqs κ where
  dec : DecidableEq κ
  toK : κ → Key
  kv : ∀ k, kV (toK k) = toV k
  kinj : ∀ a b, toK a = toK b ↔ a = b
instance : DKey Int := { dec := inferInstance, toK := Sum.inl, kv := fun _ => rfl, kinj := fun a b => ⟨fun h => Sum.inl.inj h, fun h => by rw [h]⟩ }
instance : DKey Str := { dec := inferInstance, toK := Sum.inr, kv := fun _ => rfl, kinj := fun a b => ⟨fun h => Sum.inr.inj h, fun h => by rw [h]⟩ }
def KReps {κ α : Type} [DKey κ] [Enc α] (K : PySem.W.Frag) (F : Hp) : List (Key × V) → List (κ × α) → Prop
  | [], [] => True
  | (k, v) :: r, (j, x) :: xs => k = DKey.toK j ∧ rep K F v x ∧ KReps K F r xs
  | _, _ => False
theorem KReps.mono {κ α : Type} [DKey κ] [Enc α] {K : PySem.W.Frag} {F F' : Hp} (e : Fle F F') : ∀ {kv : List (Key × V)} {xs : List (κ × α)}, KReps K F kv xs → KReps K F' kv xs
  | [], [], _ => trivial
  | _ :: _, _ :: _, ⟨h1, h2, t⟩ => ⟨h1, Enc.mono e h2, KReps.mono e t⟩
  | [], _ :: _, h => h.elim
  | _ :: _, [], h => h.elim
theorem KReps.len {κ α : Type} [DKey κ] [Enc α] {K : PySem.W.Frag} {F : Hp} : ∀ {kv : List (Key × V)} {xs : List (κ × α)}, KReps K F kv xs → kv.length = xs.length
  | [], [], _ => rfl
  | _ :: _, _ :: _, ⟨_, _, t⟩ => congrArg (· + 1) (KReps.len t)
  | [], _ :: _, h => h.elim
  | _ :: _, [], h => h.elim
def od {κ α : Type} [DKey κ] [Enc α] (p : Addr) (xs : List (κ × α)) : OA := ⟨fun K F H P => (∀ a, P a ↔ a = p) ∧ ∃ kv, H p = some (.dK kv) ∧ KReps K F kv xs, fun e ⟨h0, vs, h1, h2⟩ => ⟨h0, vs, h1, h2.mono e⟩,
  fun e ⟨h0, vs, h1, h2⟩ => ⟨h0, vs, by rw [e p ((h0 p).mpr rfl)]; exact h1, h2⟩, fun ⟨h0, vs, h1, h2⟩ q => ⟨_, (congrArg _ ((h0 _).mp q)).trans h1⟩⟩
def odl {κ α : Type} [DKey κ] [Enc α] (p : Addr) (o : Obj) (kv : List (Key × V)) (xs : List (κ × α)) : OA := ⟨fun K F H P => (∀ a, P a ↔ a = p) ∧ H p = some (.frz o (.dK kv)) ∧ KReps K F kv xs, fun e ⟨h0, h1, h2⟩ => ⟨h0, h1, h2.mono e⟩,
  fun e ⟨h0, h1, h2⟩ => ⟨h0, by rw [e p ((h0 p).mpr rfl)]; exact h1, h2⟩, fun ⟨h0, h1, h2⟩ q => ⟨_, (congrArg _ ((h0 _).mp q)).trans h1⟩⟩
def cell (p : Addr) (c : Str) (fs : List (Str × V)) : OA := ⟨fun K F H P => ∃ dx, (∀ a, P a ↔ (a = p ∨ a = dx)) ∧ H p = some (.ins (He.ga K c) dx fs) ∧ H dx = some (.own p), fun e h => h,
  fun e ⟨dx, h0, h1, h2⟩ => ⟨dx, h0, by rw [e p ((h0 p).mpr (.inl rfl))]; exact h1, by rw [e dx ((h0 dx).mpr (.inr rfl))]; exact h2⟩, fun ⟨dx, h0, h1, h2⟩ q => by
    rcases (h0 _).mp q with rfl | rfl
    · exact ⟨_, h1⟩
    · exact ⟨_, h2⟩⟩

structure Mz (P : Addr → Prop) (s t : S) : Prop where
  f : Fle s.F t.F
  h : ∀ a o, s.H a = some o → ¬ P a → t.H a = some o
  n : ∀ a o, s.H a = some o → ¬ P a → s.F a = none → t.F a = none
  d : ∀ a o, s.H a = some o → ∃ u, t.H a = some u
theorem Mx.z {P : Addr → Prop} {s t : S} (m : Mx P s t) : Mz P s t := ⟨m.f, m.h, fun a o h _ q => m.n a o h q, m.d⟩
theorem Ex.z {P : Addr → Prop} {s t : S} (e : Ex s t) : Mz P s t := e.mx.z
theorem Mz.trans {P : Addr → Prop} {s t u : S} (a : Mz P s t) (b : Mz P t u) : Mz P s u :=
  ⟨fun x o h => b.f x o (a.f x o h), fun x o h n => b.h x o (a.h x o h n) n,
   fun x o h p n => by obtain ⟨v, hv⟩ := a.d x o h; exact b.n x v hv p (a.n x o h p n),
   fun x o h => by obtain ⟨v, hv⟩ := a.d x o h; exact b.d x v hv⟩
theorem Mz.fr_back {P : Addr → Prop} {s t : S} (e : Mz P s t) {p : Addr} (h : t.H p = none) : s.H p = none := by
  cases q : s.H p with
  | none => rfl
  | some o => obtain ⟨u, z⟩ := e.d p o q; rw [z] at h; cases h
structure Iv (K : PySem.W.Frag) (P0 : Addr → Prop) (s0 s : S) (L : List OA) : Prop where
  m : Mz P0 s0 s
  o : ∃ φ : Nat → Addr → Prop, (∀ (i : Nat) (A : OA), L[i]? = some A → A.p K s.F s.H (φ i)) ∧ (∀ (i j : Nat) (a : Addr), φ i a → φ j a → i = j) ∧ (∀ (i : Nat) (a : Addr), φ i a → s.F a = none ∧ (P0 a ∨ s0.H a = none) ∧ i < L.length)
section
variable {α β κ : Type} [Enc α] [Enc β] [DKey κ] {K : PySem.W.Frag} {P0 : Addr → Prop} {s0 s s1 t : S} {L M : List OA}
theorem Iv.fz (h : Iv K P0 s0 s L) (i : Nat) {v : V} {x : α} (e : L[i]? = some (Dy.fz v x) := by rfl) : rep K s.F v x := by
  obtain ⟨φ, h1, _⟩ := h.o
  exact (h1 i _ e).1
theorem Iv.ol (h : Iv K P0 s0 s L) (i : Nat) {p : Addr} {xs : List α} (e : L[i]? = some (Dy.ol p xs) := by rfl) : Own K s p xs := by
  obtain ⟨φ, h1, h2, h3⟩ := h.o
  obtain ⟨q, vs, hp, r⟩ := h1 i _ e
  exact ⟨(h3 i p ((q p).mpr rfl)).1, vs, hp, r⟩
theorem Iv.at (h : Iv K P0 s0 s L) (i : Nat) {A : OA} (e : L[i]? = some A := by rfl) : ∃ P, A.p K s.F s.H P ∧ ∀ a, P a → s.F a = none := by
  obtain ⟨φ, h1, h2, h3⟩ := h.o
  exact ⟨φ i, h1 i A e, fun a q => (h3 i a q).1⟩
theorem Iv.ex (h : Iv K P0 s0 s L) (e : Ex s s1) : Iv K P0 s0 s1 L := by
  obtain ⟨φ, h1, h2, h3⟩ := h.o
  refine ⟨h.m.trans e.z, φ, fun i A hA => ?_, h2, fun i a q => ?_⟩
  · have h4 := h1 i A hA
    exact A.mono e.f (A.loc (fun a q => by
      obtain ⟨o, ho⟩ := A.dom h4 q
      rw [ho]; exact e.h _ _ ho) h4)
  · obtain ⟨h5, h6, h7⟩ := h3 i a q
    obtain ⟨A, hA⟩ : ∃ A, L[i]? = some A := ⟨L[i], List.getElem?_eq_getElem h7⟩
    obtain ⟨o, ho⟩ := A.dom (h1 i A hA) q
    exact ⟨e.n _ _ ho h5, h6, h7⟩
theorem Iv.upd (h : Iv K P0 s0 s L) (i : Nat) {A A' : OA} (hA : L[i]? = some A) (st : ∀ P, A.p K s.F s.H P → (∀ a, P a → s.F a = none) → ∃ P', A'.p K s1.F s1.H P' ∧ (∀ a, P' a → s1.F a = none ∧ (P a ∨ s.H a = none)) ∧ Mz P s s1) : Iv K P0 s0 s1 (L.set i A') := by
  obtain ⟨φ, h1, h2, h3⟩ := h.o
  obtain ⟨P', g1, g2, g3⟩ := st (φ i) (h1 i A hA) fun a q => (h3 i a q).1
  have hi : i < L.length := (List.getElem?_eq_some_iff.mp hA).1
  have old : ∀ j a, φ j a → ∃ o, s.H a = some o := fun j a q => by
    obtain ⟨_, _, h7⟩ := h3 j a q
    exact (L[j]).dom (h1 j _ (List.getElem?_eq_getElem h7)) q
  have m1 : Mz P0 s0 s1 := by
    refine ⟨h.m.f.trans g3.f, fun a o q n => g3.h _ _ (h.m.h a o q n) fun z => ?_, fun a o q np n => ?_, fun a o q => ?_⟩
    · rcases (h3 i a z).2.1 with w | w
      · exact n w
      · rw [w] at q; cases q
    · obtain ⟨u, hu⟩ := h.m.d a o q
      exact g3.n a u hu (fun z => by
        rcases (h3 i a z).2.1 with w | w
        · exact np w
        · rw [w] at q; cases q) (h.m.n a o q np n)
    · obtain ⟨u, hu⟩ := h.m.d a o q
      exact g3.d a u hu
  refine ⟨m1, fun j a => if j = i then P' a else φ j a, fun j B hB => ?_, fun j k a => ?_, fun j a => ?_⟩
  · by_cases e : j = i
    · subst e
      rw [List.getElem?_set_self hi] at hB
      cases hB
      simpa using g1
    · rw [List.getElem?_set_ne (Ne.symm e)] at hB
      simp only [e, if_false]
      have h4 := h1 j B hB
      exact B.mono g3.f (B.loc (fun a q => by
        obtain ⟨o, ho⟩ := B.dom h4 q
        rw [ho]; exact g3.h _ _ ho fun z => e (h2 _ _ _ q z)) h4)
  · intro q r
    by_cases e : j = i <;> by_cases e2 : k = i
    · rw [e, e2]
    · exfalso
      simp only [e, if_true] at q
      simp only [e2, if_false] at r
      rcases (g2 a q).2 with z | z
      · exact e2 (h2 _ _ _ r z)
      · obtain ⟨o, ho⟩ := old k a r
        rw [z] at ho; cases ho
    · exfalso
      simp only [e, if_false] at q
      simp only [e2, if_true] at r
      rcases (g2 a r).2 with z | z
      · exact e (h2 _ _ _ q z)
      · obtain ⟨o, ho⟩ := old j a q
        rw [z] at ho; cases ho
    · simp only [e, if_false] at q
      simp only [e2, if_false] at r
      exact h2 _ _ _ q r
  · intro q
    rw [List.length_set]
    by_cases e : j = i
    · simp only [e, if_true] at q
      obtain ⟨z1, z2⟩ := g2 a q
      refine ⟨z1, ?_, by rw [e]; exact hi⟩
      rcases z2 with z | z
      · exact (h3 i a z).2.1
      · refine .inr ?_
        exact h.m.fr_back z
    · simp only [e, if_false] at q
      obtain ⟨z1, z2, z3⟩ := h3 j a q
      obtain ⟨o, ho⟩ := old j a q
      exact ⟨g3.n _ _ ho (fun z => e (h2 _ _ _ q z)) z1, z2, z3⟩
theorem Iv.put (h : Iv K P0 s0 s L) (i : Nat) {A' : OA} (e : Ex s s1) (st : ∃ P', A'.p K s1.F s1.H P' ∧ ∀ a, P' a → s1.F a = none ∧ s.H a = none) : Iv K P0 s0 s1 (L.set i A') := by
  by_cases hi : i < L.length
  case neg => rw [List.set_eq_of_length_le (by omega)]; exact h.ex e
  refine h.upd i (List.getElem?_eq_getElem hi) fun P _ _ => ?_
  obtain ⟨P', g1, g2⟩ := st
  exact ⟨P', g1, fun a q => ⟨(g2 a q).1, .inr (g2 a q).2⟩, e.z⟩
theorem Iv.sf (h : Iv K P0 s0 s L) (i : Nat) {v : V} {x y : α} (e : Ex s s1) (r : rep K s1.F v x) (q : y = x) : Iv K P0 s0 s1 (L.set i (Dy.fz v y)) := by
  subst q
  exact h.put i e ⟨fun _ => False, ⟨r, fun _ z => z⟩, fun _ z => z.elim⟩
theorem Iv.sl (h : Iv K P0 s0 s L) (i : Nat) {p : Addr} {xs ys : List α} (e : Ex s s1) (n : s.H p = none) (o : Own K s1 p xs) (q : ys = xs) : Iv K P0 s0 s1 (L.set i (Dy.ol p ys)) := by
  subst q
  obtain ⟨o1, vs, o2, o3⟩ := o
  exact h.put i e ⟨fun a => a = p, ⟨fun _ => Iff.rfl, vs, o2, o3⟩, fun a z => by rw [z]; exact ⟨o1, n⟩⟩
theorem Iv.ml (h : Iv K P0 s0 s L) (i : Nat) {p : Addr} {xs : List α} {ys zs : List β} (m : Mx (· = p) s s1) (o : Own K s1 p ys) (q : zs = ys) (hA : L[i]? = some (Dy.ol p xs) := by rfl) : Iv K P0 s0 s1 (L.set i (Dy.ol p zs)) := by
  subst q
  obtain ⟨o1, vs, o2, o3⟩ := o
  refine h.upd i hA fun P hP _ => ⟨P, ?_, ?_, ?_⟩
  · exact ⟨hP.1, vs, o2, o3⟩
  · intro a z
    rw [(hP.1 a).mp z]
    exact ⟨o1, .inl ((hP.1 p).mpr rfl)⟩
  · exact ⟨m.f, fun a o q n => m.h a o q fun z => n ((hP.1 a).mpr z), fun a o q _ z => m.n a o q z, m.d⟩
def pick (L : List OA) (js : List (Option Nat)) : List OA := js.map fun o => match o with | none => top | some i => L.getD i top
theorem Iv.sel (h : Iv K P0 s0 s L) (js : List (Option Nat)) (hn : (js.filterMap id).Nodup) (hM : pick L js = M) : Iv K P0 s0 s M := by
  subst hM
  obtain ⟨φ, h1, h2, h3⟩ := h.o
  refine ⟨h.m, fun k a => ∃ i, js[k]? = some (some i) ∧ φ i a, fun k A hA => ?_, fun k l a ⟨i, e1, q1⟩ ⟨j, e2, q2⟩ => ?_, fun k a ⟨i, e1, q1⟩ => ?_⟩
  · unfold pick at hA
    rw [List.getElem?_map] at hA
    obtain ⟨o, e1, e2⟩ := Option.map_eq_some_iff.mp hA
    cases o with
    | none =>
      subst e2
      intro a ⟨i, e3, _⟩
      rw [e1] at e3; cases e3
    | some i =>
      dsimp only at e2
      have eφ : (fun a => ∃ j, js[k]? = some (some j) ∧ φ j a) = φ i := by
        funext a
        apply propext
        constructor
        · rintro ⟨j, e3, q⟩
          rw [e1] at e3
          cases e3
          exact q
        · exact fun q => ⟨i, e1, q⟩
      show A.p K s.F s.H (fun a => ∃ j, js[k]? = some (some j) ∧ φ j a)
      rw [eφ]
      cases hg : L[i]? with
      | none =>
        rw [List.getD_eq_getElem?_getD, hg] at e2
        subst e2
        intro a q
        have := (h3 i a q).2.2
        rw [List.getElem?_eq_getElem this] at hg
        cases hg
      | some B =>
        rw [List.getD_eq_getElem?_getD, hg] at e2
        subst e2
        exact h1 i B hg
  · have := h2 _ _ _ q1 q2
    subst this
    have key : ∀ (js : List (Option Nat)) (k l : Nat), (js.filterMap id).Nodup → js[k]? = some (some i) → js[l]? = some (some i) → k = l := by
      intro js
      induction js with
      | nil => intro k l _ e; cases e
      | cons x r ih =>
        intro k l hn e1 e2
        cases x with
        | none =>
          cases k with
          | zero => cases e1
          | succ k =>
            cases l with
            | zero => cases e2
            | succ l => exact congrArg (· + 1) (ih k l (by simpa using hn) (by simpa using e1) (by simpa using e2))
        | some y =>
          have hn' : y ∉ r.filterMap id ∧ (r.filterMap id).Nodup := by simpa using hn
          have mem : ∀ k, r[k]? = some (some i) → i ∈ r.filterMap id := fun k e => List.mem_filterMap.mpr ⟨some i, List.mem_of_getElem? e, rfl⟩
          cases k with
          | zero =>
            cases l with
            | zero => rfl
            | succ l =>
              have : y = i := by simpa using e1
              exact absurd (mem l (by simpa using e2)) (this ▸ hn'.1)
          | succ k =>
            cases l with
            | zero =>
              have : y = i := by simpa using e2
              exact absurd (mem k (by simpa using e1)) (this ▸ hn'.1)
            | succ l => exact congrArg (· + 1) (ih k l hn'.2 (by simpa using e1) (by simpa using e2))
    exact key js k l hn e1 e2
  · obtain ⟨z1, z2, z3⟩ := h3 i a q1
    refine ⟨z1, z2, ?_⟩
    unfold pick
    rw [List.length_map]
    exact (List.getElem?_eq_some_iff.mp e1).1
theorem Iv.tops (n : Nat) (s : S) : Iv K P0 s s (List.replicate n top) := by
  refine ⟨(Ex.refl s).z, fun _ _ => False, fun i A hA => ?_, fun _ _ _ z => z.elim, fun _ _ z => z.elim⟩
  have := List.mem_of_getElem? hA
  rw [List.eq_of_mem_replicate this]
  exact fun _ z => z
theorem Iv.exx (h : Iv K (fun _ => False) s0 s L) : Ex s0 s := ⟨h.m.f, fun a o q => h.m.h a o q fun z => z, fun a o q n => h.m.n a o q (fun z => z) n⟩
theorem Iv.frz (h : Iv K P0 s0 s L) (i : Nat) {p : Addr} {xs : List α} (hA : L[i]? = some (Dy.ol p xs) := by rfl) : ∃ s' : S, s'.H = s.H ∧ Fle s.F s'.F ∧ Iv K P0 s0 s' (L.set i (Dy.fz (.ref p) xs)) := by
  obtain ⟨s', h1, h2, h3, h4⟩ := (h.ol i hA).frz
  refine ⟨s', h1, h2, ?_⟩
  obtain ⟨φ, g1, g2, g3⟩ := h.o
  have hi : i < L.length := (List.getElem?_eq_some_iff.mp hA).1
  have hp : φ i p := ((g1 i _ hA).1 p).mpr rfl
  refine ⟨⟨h.m.f.trans h2, fun a o q n => by rw [h1]; exact h.m.h a o q n, fun a o q np n => ?_, fun a o q => by rw [h1]; exact h.m.d a o q⟩, fun j a => if j = i then False else φ j a, fun j B hB => ?_, fun j k a q r => ?_, fun j a q => ?_⟩
  · have ne : a ≠ p := fun z => by
      subst z
      rcases (g3 i a hp).2.1 with w | w
      · exact np w
      · rw [w] at q; cases q
    rw [h3 a ne]
    exact h.m.n a o q np n
  · by_cases e : j = i
    · subst e
      rw [List.getElem?_set_self hi] at hB
      cases hB
      exact ⟨h4, fun a => by simp⟩
    · rw [List.getElem?_set_ne (Ne.symm e)] at hB
      simp only [e, if_false]
      rw [h1]
      exact B.mono h2 (g1 j B hB)
  · by_cases e : j = i
    · simp only [e, if_true] at q
    · by_cases e2 : k = i
      · simp only [e2, if_true] at r
      · simp only [e, if_false] at q
        simp only [e2, if_false] at r
        exact g2 _ _ _ q r
  · by_cases e : j = i
    · simp only [e, if_true] at q
    · simp only [e, if_false] at q
      obtain ⟨z1, z2, z3⟩ := g3 j a q
      have ne : a ≠ p := fun z => e (g2 _ _ _ q (z ▸ hp))
      exact ⟨by rw [h3 a ne]; exact z1, z2, by rw [List.length_set]; exact z3⟩
structure Ro (K : PySem.W.Frag) (P0 : Addr → Prop) (s0 : S) (R : List OA) : Prop where
  o : ∀ (i : Nat) (A : OA), R[i]? = some A → ∃ P, A.p K s0.F s0.H P ∧ ∀ a, P a → ¬ P0 a
theorem OA.stay {A : OA} {P : Addr → Prop} (h : A.p K s.F s.H P) (m : Mz P0 s t) (n : ∀ a, P a → ¬ P0 a) : A.p K t.F t.H P :=
  A.mono m.f (A.loc (fun a q => by
    obtain ⟨o, ho⟩ := A.dom h q
    rw [ho]; exact m.h _ _ ho (n a q)) h)
theorem Iv.ro (h : Iv K P0 s0 s L) {R : List OA} (r : Ro K P0 s0 R) (i : Nat) {A : OA} (e : R[i]? = some A := by rfl) : ∃ P, A.p K s.F s.H P := by
  obtain ⟨P, h1, h2⟩ := r.o i A e
  exact ⟨P, OA.stay h1 h.m h2⟩
def rem (L : List OA) (ks : List Nat) : List OA := L.mapIdx fun i A => if i ∈ ks then top else A
def rsel (L R0 : List OA) (rs : List (Nat ⊕ Nat)) : List OA := rs.map fun z => match z with | .inl i => L.getD i top | .inr j => R0.getD j top
theorem call_in (h : Iv K P0 s0 s L) {R0 : List OA} (ro : Ro K P0 s0 R0) (ks : List Nat) (hn : ks.Nodup) (hk : ∀ k ∈ ks, k < L.length) (Lf : List OA) (hf : ∀ A ∈ Lf, A.p K s.F s.H (fun _ => False)) (rs : List (Nat ⊕ Nat)) (hrs : ∀ i, Sum.inl i ∈ rs → i ∉ ks) :
    ∃ P1, Iv K P1 s s (ks.map (fun k => L.getD k top) ++ Lf) ∧ Ro K P1 s (rsel L R0 rs) ∧ (ks = [] → ∀ a, ¬ P1 a) ∧ ∀ s' L', Iv K P1 s s' L' → Iv K P0 s0 s' (rem L ks ++ L') := by
  obtain ⟨φ, h1, h2, h3⟩ := h.o
  refine ⟨fun a => ∃ k ∈ ks, φ k a, ⟨(Ex.refl s).z, fun i a => ∃ k, ks[i]? = some k ∧ φ k a, fun i A hA => ?_, fun i j a ⟨k, e1, q1⟩ ⟨l, e2, q2⟩ => ?_, fun i a ⟨k, e1, q1⟩ => ?_⟩, ⟨fun i A hA => ?_⟩, fun e a w => (by obtain ⟨k, hk, _⟩ := w; rw [e] at hk; cases hk), fun s' L' iv => ?_⟩
  · by_cases hi : i < ks.length
    · rw [List.getElem?_append_left (by rw [List.length_map]; exact hi), List.getElem?_map, List.getElem?_eq_getElem hi, Option.map_some] at hA
      have hA := Option.some.inj hA
      have hkl := hk ks[i] (List.getElem_mem hi)
      rw [List.getD_eq_getElem?_getD, List.getElem?_eq_getElem hkl, Option.getD_some] at hA
      have eφ : (fun a => ∃ k, ks[i]? = some k ∧ φ k a) = φ ks[i] := by
        funext a
        apply propext
        rw [List.getElem?_eq_getElem hi]
        exact ⟨fun ⟨k, e, q⟩ => by cases e; exact q, fun q => ⟨_, rfl, q⟩⟩
      show A.p K s.F s.H (fun a => ∃ k, ks[i]? = some k ∧ φ k a)
      rw [eφ, ← hA]
      exact h1 _ _ (List.getElem?_eq_getElem hkl)
    · rw [List.getElem?_append_right (by rw [List.length_map]; omega)] at hA
      have eφ : (fun a => ∃ k, ks[i]? = some k ∧ φ k a) = fun _ => False := by
        funext a
        apply propext
        rw [List.getElem?_eq_none (by omega)]
        exact ⟨fun w => (by obtain ⟨k, e, _⟩ := w; cases e), fun z => z.elim⟩
      show A.p K s.F s.H (fun a => ∃ k, ks[i]? = some k ∧ φ k a)
      rw [eφ]
      exact hf A (List.mem_of_getElem? hA)
  · obtain ⟨hi, ei⟩ := List.getElem?_eq_some_iff.mp e1
    obtain ⟨hj, ej⟩ := List.getElem?_eq_some_iff.mp e2
    have e := h2 _ _ _ q1 q2
    rw [← ei, ← ej] at e
    exact (List.getElem_inj hn).mp e
  · exact ⟨(h3 k a q1).1, .inl ⟨k, List.mem_of_getElem? e1, q1⟩, by rw [List.length_append, List.length_map]; have := (List.getElem?_eq_some_iff.mp e1).1; omega⟩
  · unfold rsel at hA
    rw [List.getElem?_map] at hA
    obtain ⟨z, e1, e2⟩ := Option.map_eq_some_iff.mp hA
    have hz := List.mem_of_getElem? e1
    have tp : top.p K s.F s.H (fun _ => False) := fun _ z => z
    cases z with
    | inl i =>
      by_cases hi : i < L.length
      · have e3 : L[i]? = some A := by
          rw [List.getElem?_eq_getElem hi]
          simp only [List.getD_eq_getElem?_getD, List.getElem?_eq_getElem hi, Option.getD_some] at e2
          rw [e2]
        exact ⟨φ i, h1 i A e3, fun a q ⟨k, hk, q2⟩ => hrs i hz (h2 _ _ _ q q2 ▸ hk)⟩
      · simp only [List.getD_eq_getElem?_getD, List.getElem?_eq_none (Nat.le_of_not_lt hi), Option.getD_none] at e2
        rw [← e2]
        exact ⟨_, tp, fun _ z => z.elim⟩
    | inr j =>
      by_cases hj : j < R0.length
      · have e3 : R0[j]? = some A := by
          rw [List.getElem?_eq_getElem hj]
          simp only [List.getD_eq_getElem?_getD, List.getElem?_eq_getElem hj, Option.getD_some] at e2
          rw [e2]
        obtain ⟨P, g1, g2⟩ := ro.o j A e3
        refine ⟨P, OA.stay g1 h.m g2, fun a q ⟨k, hk, q2⟩ => ?_⟩
        rcases (h3 k a q2).2.1 with w | w
        · exact g2 a q w
        · obtain ⟨o, ho⟩ := A.dom g1 q
          rw [w] at ho; cases ho
      · simp only [List.getD_eq_getElem?_getD, List.getElem?_eq_none (Nat.le_of_not_lt hj), Option.getD_none] at e2
        rw [← e2]
        exact ⟨_, tp, fun _ z => z.elim⟩
  · obtain ⟨φ', g1, g2, g3⟩ := iv.o
    have hP : ∀ a o, s0.H a = some o → ¬ P0 a → ¬ ∃ k ∈ ks, φ k a := fun a o q np ⟨k, _, q2⟩ => by
      rcases (h3 k a q2).2.1 with w | w
      · exact np w
      · rw [w] at q; cases q
    have hlen : (rem L ks).length = L.length := by unfold rem; rw [List.length_mapIdx]
    refine ⟨⟨h.m.f.trans iv.m.f, fun a o q n => iv.m.h a o (h.m.h a o q n) (hP a o q n), fun a o q np n => ?_, fun a o q => ?_⟩, fun i a => if i < L.length then (i ∉ ks ∧ φ i a) else φ' (i - L.length) a, fun i A hA => ?_, fun i j a q r => ?_, fun i a q => ?_⟩
    · obtain ⟨u, hu⟩ := h.m.d a o q
      exact iv.m.n a u hu (hP a o q np) (h.m.n a o q np n)
    · obtain ⟨u, hu⟩ := h.m.d a o q
      exact iv.m.d a u hu
    · by_cases hi : i < L.length
      · rw [List.getElem?_append_left (by omega)] at hA
        unfold rem at hA
        rw [List.getElem?_mapIdx, List.getElem?_eq_getElem hi, Option.map_some] at hA
        have hA := Option.some.inj hA
        simp only [hi, if_true]
        by_cases hik : i ∈ ks
        · rw [if_pos hik] at hA
          rw [← hA]
          exact fun a ⟨z, _⟩ => z hik
        · rw [if_neg hik] at hA
          show A.p K s'.F s'.H (fun a => i ∉ ks ∧ φ i a)
          have eφ : (fun a => i ∉ ks ∧ φ i a) = φ i := by
            funext a
            apply propext
            exact ⟨fun z => z.2, fun z => ⟨hik, z⟩⟩
          rw [eφ, ← hA]
          exact OA.stay (h1 i _ (List.getElem?_eq_getElem hi)) iv.m fun a q ⟨k, hk, q2⟩ => hik (h2 _ _ _ q q2 ▸ hk)
      · rw [List.getElem?_append_right (by omega), hlen] at hA
        simp only [hi, if_false]
        exact g1 _ A hA
    · have apart : ∀ i j a, i < L.length → i ∉ ks → φ i a → φ' j a → False := fun i j a hi hik q r => by
        rcases (g3 j a r).2.1 with ⟨k, hk, q2⟩ | w
        · exact hik (h2 _ _ _ q q2 ▸ hk)
        · obtain ⟨o, ho⟩ := (L[i]).dom (h1 i _ (List.getElem?_eq_getElem hi)) q
          rw [w] at ho; cases ho
      by_cases hi : i < L.length <;> by_cases hj : j < L.length
      · simp only [hi, if_true] at q
        simp only [hj, if_true] at r
        exact h2 _ _ _ q.2 r.2
      · simp only [hi, if_true] at q
        simp only [hj, if_false] at r
        exact (apart _ _ _ hi q.1 q.2 r).elim
      · simp only [hi, if_false] at q
        simp only [hj, if_true] at r
        exact (apart _ _ _ hj r.1 r.2 q).elim
      · simp only [hi, if_false] at q
        simp only [hj, if_false] at r
        have := g2 _ _ _ q r
        omega
    · rw [List.length_append, hlen]
      by_cases hi : i < L.length
      · simp only [hi, if_true] at q
        obtain ⟨z1, z2, z3⟩ := h3 i a q.2
        obtain ⟨o, ho⟩ := (L[i]).dom (h1 i _ (List.getElem?_eq_getElem hi)) q.2
        exact ⟨iv.m.n a o ho (fun ⟨k, hk, q2⟩ => q.1 (h2 _ _ _ q.2 q2 ▸ hk)) z1, z2, by omega⟩
      · simp only [hi, if_false] at q
        obtain ⟨z1, z2, z3⟩ := g3 _ a q
        refine ⟨z1, ?_, by omega⟩
        rcases z2 with ⟨k, hk, q2⟩ | w
        · exact (h3 k a q2).2.1
        · exact .inr (h.m.fr_back w)
theorem Iv.fresh (h : Iv K (fun _ => False) s0 s L) (i : Nat) {p : Addr} {xs : List α} (e : L[i]? = some (Dy.ol p xs) := by rfl) : s0.H p = none := by
  obtain ⟨φ, h1, h2, h3⟩ := h.o
  obtain ⟨q, vs, hp, r⟩ := h1 i _ e
  rcases (h3 i p ((q p).mpr rfl)).2.1 with w | w
  · exact w.elim
  · exact w
theorem do_frzI {X : Cx} {σ : L2.St} {D : Ends} {ss : List Stmt} (h : Iv X.K P0 s0 s L) (i : Nat) {p : Addr} {xs : List α} (hA : L[i]? = some (Dy.ol p xs)) (k : ∀ s', Fle s.F s'.F → Iv X.K P0 s0 s' (L.set i (Dy.fz (.ref p) xs)) → WSs X ss D σ s'.H) : WSs X ss D σ s.H := by
  obtain ⟨s', h1, h2, h3⟩ := h.frz i hA
  rw [← h1]
  exact k s' h2 h3
end
end Dy

namespace Dy
open PySem PySem.Spec L2
open PyProof.Rows hiding St
open Enc (rep)
open Flat (toV)
open EncA (repA)

section
variable {κ τ : Type} [DecidableEq κ]
def dval (xs : List (κ × τ)) (k : κ) : Option τ := (xs.find? fun z => decide (z.1 = k)).map (·.2)
def dput (xs : List (κ × τ)) (k : κ) (y : τ) : List (κ × τ) := if (xs.any fun z => decide (z.1 = k)) = true then xs.map fun z => if z.1 = k then (z.1, y) else z else xs ++ [(k, y)]
def ddrop (xs : List (κ × τ)) (k : κ) : List (κ × τ) := xs.filter fun z => decide (z.1 ≠ k)
end
section
variable {κ α : Type} [DKey κ] [DecidableEq κ] [Enc α] {K : PySem.W.Frag} {F F' : Hp}
theorem toK_dec (a b : κ) : decide (DKey.toK a = DKey.toK b) = decide (a = b) := decide_eq_decide.mpr (DKey.kinj a b)
theorem KReps.val {k : κ} : ∀ {kv : List (Key × V)} {xs : List (κ × α)}, KReps K F kv xs → match dval xs k with
    | none => valV kv (DKey.toK k) = none
    | some x => ∃ v, valV kv (DKey.toK k) = some v ∧ rep K F v x
  | [], [], _ => rfl
  | (j, v) :: r, (i, x) :: xs, ⟨e, h, t⟩ => by
    subst e
    unfold dval valV
    rw [List.find?_cons, List.find?_cons]
    dsimp only
    rw [toK_dec i k]
    cases decide (i = k) with
    | true => exact ⟨v, rfl, h⟩
    | false => exact KReps.val (k := k) t
  | [], _ :: _, h => h.elim
  | _ :: _, [], h => h.elim
theorem KReps.any {k : κ} : ∀ {kv : List (Key × V)} {xs : List (κ × α)}, KReps K F kv xs → (kv.any fun z => decide (z.1 = DKey.toK k)) = xs.any fun z => decide (z.1 = k)
  | [], [], _ => rfl
  | (j, v) :: r, (i, x) :: xs, ⟨e, h, t⟩ => by
    subst e
    rw [List.any_cons, List.any_cons, KReps.any (k := k) t, toK_dec i k]
  | [], _ :: _, h => h.elim
  | _ :: _, [], h => h.elim
theorem KReps.app : ∀ {kv kw : List (Key × V)} {xs ys : List (κ × α)}, KReps K F kv xs → KReps K F kw ys → KReps K F (kv ++ kw) (xs ++ ys)
  | [], _, [], _, _, h => h
  | _ :: _, _, _ :: _, _, ⟨e, h, t⟩, w => ⟨e, h, KReps.app t w⟩
  | [], _, _ :: _, _, h, _ => h.elim
  | _ :: _, _, [], _, h, _ => h.elim
theorem KReps.repl {k : κ} {v : V} {y : α} (r : rep K F v y) : ∀ {kv : List (Key × V)} {xs : List (κ × α)}, KReps K F kv xs → KReps K F (kv.map fun z => if z.1 = DKey.toK k then (z.1, v) else z) (xs.map fun z => if z.1 = k then (z.1, y) else z)
  | [], [], _ => trivial
  | (j, u) :: kv, (i, x) :: xs, ⟨e, h, t⟩ => by
    subst e
    rw [List.map_cons, List.map_cons]
    dsimp only
    by_cases hh : i = k
    · rw [if_pos hh, if_pos (by rw [hh])]
      exact ⟨rfl, r, KReps.repl r t⟩
    · rw [if_neg hh, if_neg (fun z => hh ((DKey.kinj i k).mp z))]
      exact ⟨rfl, h, KReps.repl r t⟩
  | [], _ :: _, h => h.elim
  | _ :: _, [], h => h.elim
theorem KReps.put {k : κ} {v : V} {y : α} {kv : List (Key × V)} {xs : List (κ × α)} (h : KReps K F kv xs) (r : rep K F v y) : KReps K F (putK kv (DKey.toK k) v) (dput xs k y) := by
  unfold putK dput
  rw [h.any (k := k)]
  split
  · exact h.repl r
  · exact h.app ⟨rfl, r, trivial⟩
theorem KReps.drop {k : κ} : ∀ {kv : List (Key × V)} {xs : List (κ × α)}, KReps K F kv xs → KReps K F (dropK kv (DKey.toK k)) (ddrop xs k)
  | [], [], _ => trivial
  | (j, v) :: r, (i, x) :: xs, ⟨e, h, t⟩ => by
    subst e
    unfold dropK ddrop
    rw [List.filter_cons, List.filter_cons]
    dsimp only
    by_cases hh : i = k
    · rw [if_neg (by simp [hh]), if_neg (by simp [hh])]
      exact KReps.drop t
    · rw [if_pos (by simpa using fun z => hh ((DKey.kinj i k).mp z)), if_pos (by simpa using hh)]
      exact ⟨rfl, h, KReps.drop t⟩
  | [], _ :: _, h => h.elim
  | _ :: _, [], h => h.elim
theorem KReps.get : ∀ {kv : List (Key × V)} {xs : List (κ × α)} {i : Nat} {z : κ × α}, KReps K F kv xs → xs[i]? = some z → ∃ v, kv[i]? = some (DKey.toK z.1, v) ∧ rep K F v z.2
  | [], [], _, _, _, e => by simp at e
  | (j, v) :: _, (i, x) :: _, 0, z, ⟨e, h, _⟩, e2 => by
    have : (i, x) = z := Option.some.inj e2
    subst this
    exact ⟨v, by rw [e]; rfl, h⟩
  | _ :: kv, _ :: xs, i + 1, z, ⟨_, _, t⟩, e => by
    obtain ⟨v, h1, h2⟩ := KReps.get (i := i) t (by simpa using e)
    exact ⟨v, by simpa using h1, h2⟩
  | [], _ :: _, _, _, h, _ => h.elim
  | _ :: _, [], _, _, h, _ => h.elim
theorem KReps.keys : ∀ {kv : List (Key × V)} {xs : List (κ × α)}, KReps K F kv xs → Reps K F (kv.map fun z => kV z.1) (xs.map (·.1))
  | [], [], _ => trivial
  | (j, v) :: _, (i, x) :: _, ⟨e, _, t⟩ => by
    subst e
    exact ⟨Flat.iff.mpr (DKey.kv i), KReps.keys t⟩
  | [], _ :: _, h => h.elim
  | _ :: _, [], h => h.elim
end
def RepD {κ α : Type} [DKey κ] [Enc α] (K : PySem.W.Frag) (s : S) (p : Addr) (xs : List (κ × α)) : Prop := ∃ kv, Rd s.H p (.dK kv) ∧ KReps K s.F kv xs
def OwnD {κ α : Type} [DKey κ] [Enc α] (K : PySem.W.Frag) (s : S) (p : Addr) (xs : List (κ × α)) : Prop := s.F p = none ∧ ∃ kv, s.H p = some (.dK kv) ∧ KReps K s.F kv xs
def CellAt (s : S) (K : PySem.W.Frag) (p : Addr) (c : Str) (fs : List (Str × V)) : Prop := ∃ dx, s.H p = some (.ins (He.ga K c) dx fs)
section
variable {α β κ : Type} [Enc α] [Enc β] [DKey κ] {K : PySem.W.Frag} {P0 : Addr → Prop} {s0 s s1 t : S} {L M R : List OA}
theorem Rd.ex {p : Addr} {u : HO} (h : Rd s.H p u) (e : Ex s t) : Rd t.H p u := h.elim (fun z => .inl (e.h _ _ z)) fun ⟨o, z⟩ => .inr ⟨o, e.h _ _ z⟩
theorem RepD.ex {p : Addr} {xs : List (κ × α)} (h : RepD K s p xs) (e : Ex s t) : RepD K t p xs := by
  obtain ⟨kv, h1, h2⟩ := h
  exact ⟨kv, Rd.ex h1 e, h2.mono e.f⟩
theorem OwnD.r {p : Addr} {xs : List (κ × α)} (h : OwnD K s p xs) : RepD K s p xs := by
  obtain ⟨_, kv, h1, h2⟩ := h
  exact ⟨kv, .inl h1, h2⟩
theorem CellAt.ex {p : Addr} {c : Str} {fs : List (Str × V)} (h : CellAt s K p c fs) (e : Ex s t) : CellAt t K p c fs := by
  obtain ⟨dx, h1⟩ := h
  exact ⟨dx, e.h _ _ h1⟩
theorem OwnD.ex {p : Addr} {xs : List (κ × α)} (h : OwnD K s p xs) (e : Ex s t) : OwnD K t p xs := by
  obtain ⟨h0, kv, h1, h2⟩ := h
  exact ⟨e.n _ _ h1 h0, kv, e.h _ _ h1, h2.mono e.f⟩
theorem Iv.od (h : Iv K P0 s0 s L) (i : Nat) {p : Addr} {xs : List (κ × α)} (e : L[i]? = some (Dy.od p xs) := by rfl) : OwnD K s p xs := by
  obtain ⟨P, ⟨h0, kv, h1, h2⟩, h3⟩ := h.at i e
  exact ⟨h3 p ((h0 p).mpr rfl), kv, h1, h2⟩
theorem Iv.odl (h : Iv K P0 s0 s L) (i : Nat) {p : Addr} {o : Obj} {kv : List (Key × V)} {xs : List (κ × α)} (e : L[i]? = some (Dy.odl p o kv xs) := by rfl) : s.F p = none ∧ s.H p = some (.frz o (.dK kv)) ∧ KReps K s.F kv xs := by
  obtain ⟨P, ⟨h0, h1, h2⟩, h3⟩ := h.at i e
  exact ⟨h3 p ((h0 p).mpr rfl), h1, h2⟩
theorem Iv.odr (h : Iv K P0 s0 s L) (i : Nat) {p : Addr} {o : Obj} {kv : List (Key × V)} {xs : List (κ × α)} (e : L[i]? = some (Dy.odl p o kv xs) := by rfl) : RepD K s p xs := ⟨kv, .inr ⟨o, (h.odl i e).2.1⟩, (h.odl i e).2.2⟩
theorem Iv.cell (h : Iv K P0 s0 s L) (i : Nat) {p : Addr} {c : Str} {fs : List (Str × V)} (e : L[i]? = some (Dy.cell p c fs) := by rfl) : CellAt s K p c fs := by
  obtain ⟨P, ⟨dx, h0, h1, h2⟩, h3⟩ := h.at i e
  exact ⟨dx, h1⟩
theorem Iv.rol (h : Iv K P0 s0 s L) (r : Ro K P0 s0 R) (i : Nat) {p : Addr} {xs : List α} (e : R[i]? = some (Dy.ol p xs) := by rfl) : RepR K s (.ref p) xs := by
  obtain ⟨P, h0, vs, h1, h2⟩ := h.ro r i e
  exact ⟨p, vs, rfl, .inl (.inl h1), h2⟩
theorem Iv.rod (h : Iv K P0 s0 s L) (r : Ro K P0 s0 R) (i : Nat) {p : Addr} {xs : List (κ × α)} (e : R[i]? = some (Dy.od p xs) := by rfl) : RepD K s p xs := by
  obtain ⟨P, h0, kv, h1, h2⟩ := h.ro r i e
  exact ⟨kv, .inl h1, h2⟩
theorem Iv.rcell (h : Iv K P0 s0 s L) (r : Ro K P0 s0 R) (i : Nat) {p : Addr} {c : Str} {fs : List (Str × V)} (e : R[i]? = some (Dy.cell p c fs) := by rfl) : CellAt s K p c fs := by
  obtain ⟨P, dx, h0, h1, h2⟩ := h.ro r i e
  exact ⟨dx, h1⟩
theorem Iv.rfz (h : Iv K P0 s0 s L) (r : Ro K P0 s0 R) (i : Nat) {v : V} {x : α} (e : R[i]? = some (Dy.fz v x) := by rfl) : rep K s.F v x := by
  obtain ⟨P, h0, h1⟩ := h.ro r i e
  exact h0
theorem Iv.sd (h : Iv K P0 s0 s L) (i : Nat) {p : Addr} {xs ys : List (κ × α)} (e : Ex s s1) (n : s.H p = none) (o : OwnD K s1 p xs) (q : ys = xs) : Iv K P0 s0 s1 (L.set i (Dy.od p ys)) := by
  subst q
  obtain ⟨o1, vs, o2, o3⟩ := o
  exact h.put i e ⟨fun a => a = p, ⟨fun _ => Iff.rfl, vs, o2, o3⟩, fun a z => by rw [z]; exact ⟨o1, n⟩⟩
theorem Iv.md (h : Iv K P0 s0 s L) (i : Nat) {p : Addr} {xs : List (κ × α)} {ys zs : List (κ × β)} (m : Mx (· = p) s s1) (o : OwnD K s1 p ys) (q : zs = ys) (hA : L[i]? = some (Dy.od p xs) := by rfl) : Iv K P0 s0 s1 (L.set i (Dy.od p zs)) := by
  subst q
  obtain ⟨o1, vs, o2, o3⟩ := o
  refine h.upd i hA fun P hP _ => ⟨P, ?_, ?_, ?_⟩
  · exact ⟨hP.1, vs, o2, o3⟩
  · intro a z
    rw [(hP.1 a).mp z]
    exact ⟨o1, .inl ((hP.1 p).mpr rfl)⟩
  · exact ⟨m.f, fun a o q n => m.h a o q fun z => n ((hP.1 a).mpr z), fun a o q _ z => m.n a o q z, m.d⟩
def lockS (s : S) (p : Addr) (u : HO) (h : s.F p = none) : S := s.put p u h
theorem Iv.lock (h : Iv K P0 s0 s L) (i : Nat) {p : Addr} {kv : List (Key × V)} {xs : List (κ × α)} (o : Obj) (hA : L[i]? = some (Dy.od p xs)) (hf : s.F p = none) (h1 : s.H p = some (.dK kv)) (h2 : KReps K s.F kv xs) : Iv K P0 s0 (s.put p (.frz o (.dK kv)) hf) (L.set i (Dy.odl p o kv xs)) :=
  h.upd i hA fun P hP _ => ⟨P, ⟨hP.1, upd_same, h2⟩, fun a z => by rw [(hP.1 a).mp z]; exact ⟨hf, .inl ((hP.1 p).mpr rfl)⟩, by
    have m : Mx (· = p) s (s.put p (.frz o (.dK kv)) hf) := Mx.put hf
    exact ⟨m.f, fun a o q n => m.h a o q fun z => n ((hP.1 a).mpr z), fun a o q _ z => m.n a o q z, m.d⟩⟩
theorem Iv.unlock (h : Iv K P0 s0 s L) (i : Nat) {p : Addr} {o : Obj} {kv : List (Key × V)} {xs : List (κ × α)} (hA : L[i]? = some (Dy.odl p o kv xs)) : ∃ s' : S, s'.H = L2.upd s.H p (.dK kv) ∧ s'.F = s.F ∧ Iv K P0 s0 s' (L.set i (Dy.od p xs)) := by
  obtain ⟨hf, h1, h2⟩ := h.odl i hA
  refine ⟨s.put p (.dK kv) hf, rfl, rfl, h.upd i hA fun P hP _ => ⟨P, ⟨hP.1, kv, upd_same, h2⟩, fun a z => by rw [(hP.1 a).mp z]; exact ⟨hf, .inl ((hP.1 p).mpr rfl)⟩, ?_⟩⟩
  have m : Mx (· = p) s (s.put p (.dK kv) hf) := Mx.put hf
  exact ⟨m.f, fun a o q n => m.h a o q fun z => n ((hP.1 a).mpr z), fun a o q _ z => m.n a o q z, m.d⟩
end
section
variable {α β γ κ : Type} [Enc α] [Enc β] [Enc γ] [DKey κ] [DecidableEq κ] {X : Cx} {σ : L2.St} {P0 : Addr → Prop} {s0 s t : S} {L : List OA} {e a b c o i : Expr} {es : List Expr} {pos p0 p1 p2 p3 : Pos} {D : Ends} {rest : List Stmt} {n : Str} {p : Addr}
theorem ev_raw {v : V} {x : α} (h : Ev X e σ s (Rw.mk v)) (r : rep X.K s.F v x) : Ev X e σ s x := fun s1 k Q q => h s1 k Q fun u s2 k2 e1 => by
  cases (show u = v from e1)
  exact q v s2 k2 (Enc.mono (k.trans k2).f r)
theorem er_raw {p : Addr} {xs : List α} (h : Ev X e σ s (Rw.mk (.ref p))) (r : RepR X.K s (.ref p) xs) : EvR X e σ s xs := fun s1 k Q q => h s1 k Q fun u s2 k2 e1 => by
  cases (show u = V.ref p from e1)
  exact q _ s2 k2 (r.ex (k.trans k2))
theorem raw_var (i : Nat) {v : V} (h : σ[i]? = some (some v)) (hN : X.N[i]? = some n := by rfl) (hv : Vis X.env.scope n := by first | exact Or.inl rfl | exact Or.inr (Or.inl rfl) | exact Or.inr (Or.inr rfl)) (hd : (n == ("__debug__" : Str)) = false := by decide)
    (hcd : (n == ("__classdict__" : Str)) = false := by decide) : Ev X (.Name n pos) σ s (Rw.mk v) := ev_var i h (show rep _ _ v (Rw.mk v) from rfl) hN hv hd hcd
theorem raw_fld {f c : Str} {v : V} {fs : List (Str × V)} (h : Ev X e σ s (Rw.mk (.ref p))) (r : CellAt s X.K p c fs) (hl : fs.lookup f = some v) (hc : Cls X.K (He.ga X.K c)) (hn : NoAttr X.K (He.ga X.K c) f) (hb : attributeBase e f X.env (eval e X.env) = eval e X.env := by rfl) : Ev X (.Attribute e f pos) σ s (Rw.mk v) := fun s1 k Q q =>
  we_of (pe_fld pe_we hb) (h s1 k _ fun u s2 k2 e1 => by
    cases (show u = V.ref p from e1)
    obtain ⟨dx, h1⟩ := r.ex (k.trans k2)
    exact ⟨p, _, dx, fs, v, rfl, h1, hc, hn, hl, q v s2 k2 rfl⟩)
theorem hu1 {j : Nat} (hr : Room j X.A) : X.A.units + 1 < cLine := by have := hu64 hr; omega
theorem dget_of {K : PySem.W.Frag} {k : κ} {xs : List (κ × α)} {w : V} (r : RepD K s p xs) (hw : w = toV k) : ∃ o, DGet s.H p w o ∧ match dval xs k with | none => o = none | some x => ∃ v, o = some v ∧ rep K s.F v x := by
  obtain ⟨kv, h1, h2⟩ := r
  refine ⟨valV kv (DKey.toK k), .inl ⟨kv, DKey.toK k, h1, by rw [hw, DKey.kv], rfl⟩, ?_⟩
  have := h2.val (k := k)
  cases hd : dval xs k with
  | none => rw [hd] at this; exact this
  | some x => rw [hd] at this; exact this
theorem ev_dget {j : Nat} {k : κ} {xs : List (κ × α)} {x : α} (hr : Room j X.A) (ho : Ev X o σ s (Rw.mk (.ref p))) (r : RepD X.K s p xs) (hi : Ev X i σ s k) (h : dval xs k = some x) (hs : NoSl i := by intro _ _; rfl) : Ev X (.Subscript o i pos) σ s x := fun s1 k1 Q q =>
  we_of (pe_dget (hu1 hr) pe_we pe_we hs) (ho s1 k1 _ fun v s2 k2 e2 => hi s2 (k1.trans k2) _ fun u s3 k3 e3 => by
    cases (show v = V.ref p from e2)
    obtain ⟨o', g1, g2⟩ := dget_of (r.ex ((k1.trans k2).trans k3)) (Flat.iff.mp e3)
    rw [h] at g2
    obtain ⟨w, rfl, g3⟩ := g2
    exact ⟨p, w, rfl, g1, q w s3 (k2.trans k3) g3⟩)
theorem dval_some {xs : List (κ × α)} {k : κ} {o : Option V} {K : PySem.W.Frag} {F : Hp} (g : match dval xs k with | none => o = none | some x => ∃ v, o = some v ∧ rep K F v x) : o.isSome = (dval xs k).isSome := by
  cases hd : dval xs k with
  | none => rw [hd] at g; rw [g]; rfl
  | some x => rw [hd] at g; obtain ⟨v, rfl, _⟩ := g; rfl
theorem ev_din {j : Nat} {k : κ} {xs : List (κ × α)} (hr : Room j X.A) (hi : Ev X i σ s k) (ho : Ev X o σ s (Rw.mk (.ref p))) (r : RepD X.K s p xs) (h1 : behindInMarks .In o = false := by rfl) : EvB X (.Compare i [.In] [o] pos) σ s (dval xs k).isSome :=
  ⟨fun s1 k1 Q q => we_of (pe_cmp (pc_din (hu1 hr) pe_we pe_we) h1) (hi s1 k1 _ fun u s2 k2 e2 => ho s2 (k1.trans k2) _ fun v s3 k3 e3 => by
    cases (show v = V.ref p from e3)
    obtain ⟨o', g1, g2⟩ := dget_of (r.ex ((k1.trans k2).trans k3)) ((Flat.iff.mp (e2 : rep _ _ u k)))
    exact ⟨p, o', rfl, g1, by rw [dval_some g2]; exact q _ s3 (k2.trans k3) rfl⟩),
   fun s1 k1 Q q => wt_of (pt_cmp (pc_din (hu1 hr) pe_we pe_we) h1) (hi s1 k1 _ fun u s2 k2 e2 => ho s2 (k1.trans k2) _ fun v s3 k3 e3 => by
    cases (show v = V.ref p from e3)
    obtain ⟨o', g1, g2⟩ := dget_of (r.ex ((k1.trans k2).trans k3)) ((Flat.iff.mp (e2 : rep _ _ u k)))
    exact ⟨p, o', rfl, g1, _, by rw [dval_some g2], q s3 (k2.trans k3)⟩)⟩
theorem ev_dnotIn {j : Nat} {k : κ} {xs : List (κ × α)} (hr : Room j X.A) (hi : Ev X i σ s k) (ho : Ev X o σ s (Rw.mk (.ref p))) (r : RepD X.K s p xs) (h1 : behindInMarks .NotIn o = false := by rfl) : EvB X (.Compare i [.NotIn] [o] pos) σ s (!(dval xs k).isSome) :=
  ⟨fun s1 k1 Q q => we_of (pe_cmp (pc_dnotin (hu1 hr) pe_we pe_we) h1) (hi s1 k1 _ fun u s2 k2 e2 => ho s2 (k1.trans k2) _ fun v s3 k3 e3 => by
    cases (show v = V.ref p from e3)
    obtain ⟨o', g1, g2⟩ := dget_of (r.ex ((k1.trans k2).trans k3)) ((Flat.iff.mp (e2 : rep _ _ u k)))
    exact ⟨p, o', rfl, g1, by rw [dval_some g2]; exact q _ s3 (k2.trans k3) rfl⟩),
   fun s1 k1 Q q => wt_of (pt_cmp (pc_dnotin (hu1 hr) pe_we pe_we) h1) (hi s1 k1 _ fun u s2 k2 e2 => ho s2 (k1.trans k2) _ fun v s3 k3 e3 => by
    cases (show v = V.ref p from e3)
    obtain ⟨o', g1, g2⟩ := dget_of (r.ex ((k1.trans k2).trans k3)) ((Flat.iff.mp (e2 : rep _ _ u k)))
    exact ⟨p, o', rfl, g1, _, by rw [dval_some g2], q s3 (k2.trans k3)⟩)⟩
theorem ev_dget1 {j : Nat} {k : κ} {xs : List (κ × α)} (hr : Room j X.A) (ho : Ev X o σ s (Rw.mk (.ref p))) (r : RepD X.K s p xs) (hi : Ev X i σ s k) (m : M1 X o "get" p1 i pos := by exact ⟨rfl, rfl, rfl, rfl⟩) : Ev X (.Call (.Attribute o "get" p1) [i] [] pos) σ s (dval xs k) := fun s1 k1 Q q =>
  we_of (pe_dget1 (hu1 hr) pe_we pe_we m) (ho s1 k1 _ fun v s2 k2 e2 => by
    cases (show v = V.ref p from e2)
    refine ⟨p, rfl, ?_, hi s2 (k1.trans k2) _ fun u s3 k3 e3 => ?_⟩
    · obtain ⟨kv, h1, _⟩ := r.ex (k1.trans k2)
      exact .inl ⟨kv, h1⟩
    · obtain ⟨o', g1, g2⟩ := dget_of (r.ex ((k1.trans k2).trans k3)) (Flat.iff.mp e3)
      refine ⟨o', g1, q _ s3 (k2.trans k3) ?_⟩
      cases hd : dval xs k with
      | none => rw [hd] at g2; rw [g2]; rfl
      | some x => rw [hd] at g2; obtain ⟨w, rfl, g3⟩ := g2; exact g3)
theorem ev_dlen {xs : List (κ × α)} (hm : X.mg "len" = none) (ho : Ev X o σ s (Rw.mk (.ref p))) (r : OwnD X.K s p xs) (hg : Gl X "len" := by rfl) (he : starEach [o] X.env = (false, eval o X.env) :: starEach [] X.env := by rfl) (hpl : (backTo pos (starEach [] X.env)).any (·.1) = false := by rfl) : Ev X (.Call (.Name "len" p0) [o] [] pos) σ s (xs.length : Int) := fun s1 k1 Q q =>
  we_of (pe_callB call_lenD hg hm boot_len (pa_cons pe_we pa_nil he) (he := he) (hpl := hpl)) (ho s1 k1 _ fun v s2 k2 e2 => by
    cases (show v = V.ref p from e2)
    obtain ⟨_, kv, h1, h2⟩ := r.ex (k1.trans k2)
    exact ⟨p, kv, rfl, h1, q _ s2 k2 (by rw [h2.len]; rfl)⟩)
theorem en_dlist {xs : List (κ × α)} (hm : X.mg "list" = none) (ho : Ev X o σ s (Rw.mk (.ref p))) (r : OwnD X.K s p xs) (hc : X.calm = true := by rfl) (hg : Gl X "list" := by rfl) (he : starEach [o] X.env = (false, eval o X.env) :: starEach [] X.env := by rfl) (hpl : (backTo pos (starEach [] X.env)).any (·.1) = false := by rfl) : EvN X (.Call (.Name "list" p0) [o] [] pos) σ s (xs.map (·.1)) := fun s1 k1 Q q =>
  we_of (pe_callTy (call_list_dK hc) hg hm (by decide +kernel) (pa_cons pe_we pa_nil he) (he := he) (hpl := hpl)) (ho s1 k1 _ fun v s2 k2 e2 => by
    cases (show v = V.ref p from e2)
    obtain ⟨_, kv, h1, h2⟩ := r.ex (k1.trans k2)
    exact ⟨p, kv, rfl, h1, fun l hl => q l (s2.newO l _ hl) (k2.trans (Ex.newO hl)) (fr_back k2 hl) (own_new hl h2.keys)⟩)
def EvND (X : Cx) (e : Expr) (σ : L2.St) (s : S) (xs : List (κ × α)) : Prop := ∀ s1, Ex s s1 → ∀ Q : VK, (∀ p s2, Ex s1 s2 → s1.H p = none → OwnD X.K s2 p xs → Q (.ref p) s2.H) → WE X e σ s1.H Q
theorem en_dnew : EvND X (.Dict [] [] pos) σ s ([] : List (κ × α)) := fun s1 k1 Q q => we_of pe_dnewK fun p hp => q p (s1.newO p (.dK []) hp) (Ex.newO hp) hp ⟨(fF hp : s1.F p = none), [], upd_same, trivial⟩
theorem do_setD (i : Nat) {xs : List (κ × α)} {n : Str} {py : Pos} (h : EvND X e σ s xs) (k : ∀ p s1, Ex s s1 → s.H p = none → OwnD X.K s1 p xs → WSs X rest D (σ.set i (some (.ref p))) s1.H) (hN : X.N.Nodup) (hx : Loc X.env.scope n := by first | exact Or.inl rfl | exact Or.inr rfl) (hi : X.N[i]? = some n := by rfl)
    (hs : swapsWith e (some (.Name n py)) pos.line X.env = pure false := by rfl) (hf : X.fn n = true ∨ X.env.scope.names.lookup n = some .local := by first | exact .inl rfl | exact .inr rfl) : WSs X (.Assign [.Name n py] e pos :: rest) D σ s.H :=
  do_cons (ps_set hN hi hx pe_we hs hf) (h s (Ex.refl _) _ fun v s1 k1 n1 r => k v s1 k1 n1 r)
theorem do_dput {j : Nat} {k : κ} {xs : List (κ × α)} {y : α} (hr : Room j X.A) (ho : Ev X o σ s (Rw.mk (.ref p))) (r : OwnD X.K s p xs) (hv : Ev X e σ s y) (hi : Ev X i σ s k) (hz : xs.length < sizeLine) (kk : ∀ s1, Mx (· = p) s s1 → OwnD X.K s1 p (dput xs k y) → WSs X rest D σ s1.H)
    (hs : swapsWith e (some (.Subscript o i p1)) pos.line X.env = pure false := by rfl) : WSs X (.Assign [.Subscript o i p1] e pos :: rest) D σ s.H :=
  do_cons (ps_dput (hu1 hr) pe_we pe_we pe_we hs) (hv s (Ex.refl _) _ fun v s1 k1 e1 => ho s1 k1 _ fun u s2 k2 e2 => hi s2 (k1.trans k2) _ fun w s3 k3 e3 => by
    cases (show u = V.ref p from e2)
    have kx := (k1.trans k2).trans k3
    obtain ⟨f0, kv, h1, h2⟩ := r.ex kx
    refine ⟨p, _, rfl, .inl ⟨kv, DKey.toK k, h1, by rw [Flat.iff.mp e3, DKey.kv], by rw [h2.len]; exact hz, rfl⟩, ?_⟩
    exact kk (s3.put p (.dK (putK kv (DKey.toK k) v)) f0) (kx.mx.trans (Mx.put f0)) ⟨f0, _, upd_same, h2.put (Enc.mono (k2.trans k3).f e1)⟩)
theorem do_dpop1 {k : κ} {xs : List (κ × α)} {x : α} (ho : Ev X o σ s (Rw.mk (.ref p))) (r : OwnD X.K s p xs) (hi : Ev X i σ s k) (h : dval xs k = some x) (kk : ∀ s1, Mx (· = p) s s1 → OwnD X.K s1 p (ddrop xs k) → WSs X rest D σ s1.H)
    (m : M1 X o "pop" p1 i p2 := by exact ⟨rfl, rfl, rfl, rfl⟩) (hs : swapsWith (.Call (.Attribute o "pop" p1) [i] [] p2) none pos.line X.env = pure false := by rfl) : WSs X (.Expr (.Call (.Attribute o "pop" p1) [i] [] p2) pos :: rest) D σ s.H :=
  do_cons (ps_expr (pe_dpop1 pe_we pe_we m) hs) (ho s (Ex.refl _) _ fun u s1 k1 e1 => by
    cases (show u = V.ref p from e1)
    refine ⟨p, rfl, ?_, hi s1 k1 _ fun w s2 k2 e2 => ?_⟩
    · obtain ⟨_, kv, h1, _⟩ := r.ex k1
      exact .inl ⟨kv, .inl h1⟩
    · have kx := k1.trans k2
      obtain ⟨f0, kv, h1, h2⟩ := r.ex kx
      have := h2.val (k := k)
      rw [h] at this
      obtain ⟨v, hv, _⟩ := this
      exact ⟨kv, DKey.toK k, v, h1, by rw [Flat.iff.mp e2, DKey.kv], hv, kk (s2.put p (.dK (dropK kv (DKey.toK k))) f0) (kx.mx.trans (Mx.put f0)) ⟨f0, _, upd_same, h2.drop⟩⟩)
theorem ddrop_none {xs : List (κ × α)} {k : κ} (h : dval xs k = none) : ddrop xs k = xs := by
  unfold ddrop
  rw [List.filter_eq_self]
  intro z hz
  unfold dval at h
  rw [Option.map_eq_none_iff, List.find?_eq_none] at h
  have := h z hz
  simpa using this
theorem do_dpop2 {k : κ} {xs : List (κ × α)} {z : β} (ho : Ev X o σ s (Rw.mk (.ref p))) (r : OwnD X.K s p xs) (hi : Ev X i σ s k) (he : Ev X e σ s z) (kk : ∀ s1, Mx (· = p) s s1 → OwnD X.K s1 p (ddrop xs k) → WSs X rest D σ s1.H)
    (m : M2 X o "pop" p1 i e p2 := by exact ⟨rfl, rfl, rfl, rfl⟩) (hs : swapsWith (.Call (.Attribute o "pop" p1) [i, e] [] p2) none pos.line X.env = pure false := by rfl) : WSs X (.Expr (.Call (.Attribute o "pop" p1) [i, e] [] p2) pos :: rest) D σ s.H :=
  do_cons (ps_expr (pe_dpop2 pe_we pe_we pe_we m) hs) (ho s (Ex.refl _) _ fun u s1 k1 e1 => by
    cases (show u = V.ref p from e1)
    refine ⟨p, rfl, ?_, hi s1 k1 _ fun w s2 k2 e2 => he s2 (k1.trans k2) _ fun y s3 k3 e3 => ?_⟩
    · obtain ⟨_, kv, h1, _⟩ := r.ex k1
      exact .inl ⟨kv, .inl h1⟩
    · have kx := (k1.trans k2).trans k3
      obtain ⟨f0, kv, h1, h2⟩ := r.ex kx
      have hval := h2.val (k := k)
      refine ⟨kv, DKey.toK k, h1, by rw [Flat.iff.mp (e2 : rep _ _ w k), DKey.kv], fun v hv => ?_, fun hn => ?_⟩
      · exact kk (s3.put p (.dK (dropK kv (DKey.toK k))) f0) (kx.mx.trans (Mx.put f0)) ⟨f0, _, upd_same, h2.drop⟩
      · have hd : dval xs k = none := by
          cases hd : dval xs k with
          | none => rfl
          | some x => rw [hd] at hval; obtain ⟨v, hv, _⟩ := hval; rw [hv] at hn; cases hn
        exact kk s3 kx.mx (by rw [ddrop_none hd]; exact ⟨f0, kv, h1, h2⟩))


end
end Dy

namespace Dy
open PySem PySem.Spec L2
open PyProof.Rows hiding St
open Enc (rep)
open Flat (toV)
open EncA (repA)

section
variable {α β γ κ τ υ ρ : Type} [Enc α] [Enc β] [Enc γ] [Enc τ] [DKey κ] [DecidableEq κ] {X : Cx} {σ : L2.St} {P0 : Addr → Prop} {s0 s t : S} {L : List OA} {e a b c o i tg iter elt : Expr} {ifs : List Expr} {scope : Scope} {own : List (Str × Nat)} {es : List Expr} {pos p0 p1 p2 p3 : Pos} {D : Ends} {rest body : List Stmt} {n : Str} {p : Addr}
structure WalkG (K : PySem.W.Frag) (G : S → Prop) (J : It) (xs : List α) : Prop where
  go : ∀ (i : Nat) (t : S) (x : α), G t → xs[i]? = some x → J.go i t.H ∧ ∀ v H', J.yld i t.H v H' → ∃ t' : S, t'.H = H' ∧ Ex t t' ∧ rep K t'.F v x
  stop : ∀ (i : Nat) (t : S), G t → xs.length ≤ i → J.stop i t.H
def EvIG (X : Cx) (tg e : Expr) (σ : L2.St) (s : S) (G : S → Prop) (xs : List α) : Prop := ∀ s1, Ex s s1 → ∀ R : It → Hp → Prop, (∀ J s2, Ex s1 s2 → WalkG X.K G J xs → R J s2.H) → WI X tg e σ s1.H R
def GL (K : PySem.W.Frag) (p : Addr) (xs : List α) : S → Prop := fun t => RepR K t (.ref p) xs
def GD (K : PySem.W.Frag) (p : Addr) (o : Obj) (kv : List (Key × V)) (xs : List (κ × α)) : S → Prop := fun t => t.H p = some (.frz o (.dK kv)) ∧ KReps K t.F kv xs
theorem GL.ex {K : PySem.W.Frag} {xs : List α} (h : GL K p xs s) (e : Ex s t) : GL K p xs t := RepR.ex h e
theorem GD.ex {K : PySem.W.Frag} {o : Obj} {kv : List (Key × V)} {xs : List (κ × α)} (h : GD K p o kv xs s) (e : Ex s t) : GD K p o kv xs t := ⟨e.h _ _ h.1, h.2.mono e.f⟩
theorem ei_rawL {xs : List α} (h : Ev X e σ s (Rw.mk (.ref p))) (r : RepR X.K s (.ref p) xs) : EvIG X tg e σ s (GL X.K p xs) xs := fun s1 k R q =>
  wi_of (pi_list pe_we) (h s1 k _ fun v s2 k2 e2 => by
    cases (show v = V.ref p from e2)
    have w : WalkG X.K (GL X.K p xs) (Itl X.K p) xs := ⟨fun i t x ⟨a, vs, e, h1, h2⟩ hx => by
      cases e
      obtain ⟨v, h3, h4⟩ := h2.get hx
      refine ⟨⟨vs, v, h1, h3⟩, fun w H' ⟨e1, hy⟩ => ⟨t, e1.symm, Ex.refl _, ?_⟩⟩
      have := hy vs h1
      rw [h3] at this
      cases this
      exact h4, fun i t ⟨a, vs, e, h1, h2⟩ hi => by
      cases e
      exact ⟨vs, h1, by rw [h2.len]; exact hi⟩⟩
    obtain ⟨a, vs, e, h1, h2⟩ := r.ex (k.trans k2)
    cases e
    exact ⟨p, rfl, ⟨vs, h1⟩, q _ s2 k2 w⟩)
theorem ei_keys {ob : Obj} {kv : List (Key × V)} {xs : List (κ × α)} (h : Ev X e σ s (Rw.mk (.ref p))) (r : GD X.K p ob kv xs s) : EvIG X tg e σ s (GD X.K p ob kv xs) (xs.map (·.1)) := fun s1 k R q =>
  wi_of (pi_keys pe_we) (h s1 k _ fun v s2 k2 e2 => by
    cases (show v = V.ref p from e2)
    exact ⟨p, ob, rfl, .inl ⟨kv, (GD.ex r (k.trans k2)).1, q _ s2 k2 ⟨fun i t x g hx => by
      rw [List.getElem?_map] at hx
      obtain ⟨z, h1, h2⟩ := Option.map_eq_some_iff.mp hx
      obtain ⟨w, h3, h4⟩ := g.2.get h1
      refine ⟨⟨g.1, (List.getElem?_eq_some_iff.mp h3).1⟩, fun y H' ⟨e1, k', v', h5, h6⟩ => ⟨t, e1.symm, Ex.refl _, ?_⟩⟩
      rw [h3] at h5
      cases h5
      rw [h6, ← h2]
      exact Flat.iff.mpr (DKey.kv _), fun i t g hi => ⟨g.1, by rw [g.2.len]; rw [List.length_map] at hi; exact hi⟩⟩⟩⟩)
theorem ei_vals {ob : Obj} {kv : List (Key × V)} {xs : List (κ × α)} (h : Ev X e σ s (Rw.mk (.ref p))) (r : GD X.K p ob kv xs s) (hbase : attributeBase e "values" X.env (eval e X.env) = eval e X.env := by rfl) (hline : (p1.endLine == pos.line) = true := by rfl) : EvIG X tg (.Call (.Attribute e "values" p1) [] [] pos) σ s (GD X.K p ob kv xs) (xs.map (·.2)) := fun s1 k R q =>
  wi_of (pi_values pe_we hbase hline) (h s1 k _ fun v s2 k2 e2 => by
    cases (show v = V.ref p from e2)
    exact ⟨p, ob, kv, rfl, (GD.ex r (k.trans k2)).1, q _ s2 k2 ⟨fun i t x g hx => by
      rw [List.getElem?_map] at hx
      obtain ⟨z, h1, h2⟩ := Option.map_eq_some_iff.mp hx
      obtain ⟨w, h3, h4⟩ := g.2.get h1
      refine ⟨⟨g.1, (List.getElem?_eq_some_iff.mp h3).1⟩, fun y H' ⟨e1, k', h5⟩ => ⟨t, e1.symm, Ex.refl _, ?_⟩⟩
      rw [h3] at h5
      cases h5
      rw [← h2]
      exact h4, fun i t g hi => ⟨g.1, by rw [g.2.len]; rw [List.length_map] at hi; exact hi⟩⟩⟩)
theorem ei_items {elts : List Expr} {kk : Nat} {tpos : Pos} {ob : Obj} {kv : List (Key × V)} {xs : List (κ × α)} (h : Ev X e σ s (Rw.mk (.ref p))) (r : GD X.K p ob kv xs s) (hbase : attributeBase e "items" X.env (eval e X.env) = eval e X.env := by rfl) (hline : (p1.endLine == pos.line) = true := by rfl) : EvIG X (.Tuple elts kk tpos) (.Call (.Attribute e "items" p1) [] [] pos) σ s (GD X.K p ob kv xs) xs := fun s1 k R q =>
  wi_of (pi_items pe_we hbase hline) (h s1 k _ fun v s2 k2 e2 => by
    cases (show v = V.ref p from e2)
    exact ⟨p, ob, kv, rfl, (GD.ex r (k.trans k2)).1, q _ s2 k2 ⟨fun i t z g h1 => by
      obtain ⟨w, h3, h4⟩ := g.2.get h1
      refine ⟨⟨g.1, (List.getElem?_eq_some_iff.mp h3).1⟩, fun y H' ⟨T, k', v', h5, h6, h7, h8⟩ => ⟨t.newF T (.tup [kV k', v']) h7, h8.symm, Ex.newF h7, ?_⟩⟩
      rw [h3] at h5
      cases h5
      rw [h6]
      exact ⟨T, _, _, rfl, tup_new h7, Flat.iff.mpr (DKey.kv _), Enc.mono (Ex.newF h7).f h4⟩, fun i t g hi => ⟨g.1, by rw [g.2.len]; exact hi⟩⟩⟩)
theorem for_read {xs : List τ} {g : TG} {B : Hp → τ → St → St → Prop} {G : S → Prop} (hi : EvIG X tg iter σ s G xs) (T : Tgt (α := τ) X.K g B)
    (R : Nat → St → S → Prop) (hG : ∀ i σ' t, R i σ' t → G t) (h0 : ∀ s1, Ex s s1 → R 0 σ s1)
    (hb : ∀ (i : Nat) (x : τ) (σ' σ2 : St) (t t' : S), xs[i]? = some x → R i σ' t → Ex t t' → B t'.F x σ' σ2 → WSs X body (LD D fun σ s => R (i + 1) σ s) σ2 t'.H)
    (hd : ∀ σ' t, R xs.length σ' t → D.nx σ' t.H) : tFor (WI X tg iter) g (WSs X body) D σ s.H :=
  hi s (Ex.refl _) _ fun J s1 k1 W => by
    refine ⟨fun i m σ' H' => ∃ t : S, t.H = H' ∧ m = xs.length - i ∧ i ≤ xs.length ∧ R i σ' t, ⟨xs.length, s1, rfl, rfl, Nat.zero_le _, h0 s1 k1⟩, ?_⟩
    rintro i m σ' H' ⟨t, rfl, rfl, hle, r⟩
    by_cases hlt : i < xs.length
    · right
      obtain ⟨g1, g2⟩ := W.go i t xs[i] (hG i σ' t r) (List.getElem?_eq_getElem hlt)
      refine ⟨g1, fun σ' H' => ∃ u : S, u.H = H' ∧ R (i + 1) σ' u, fun σ' H' ⟨u, e1, r1⟩ => ⟨xs.length - (i + 1), by omega, u, e1, rfl, hlt, r1⟩, fun v H' hy => ?_⟩
      obtain ⟨t', rfl, kt, rv⟩ := g2 v H' hy
      refine T.run t' v xs[i] _ _ rv fun σ2 hB => ?_
      exact (hb i xs[i] σ' σ2 t t' (List.getElem?_eq_getElem hlt) r kt hB).imp (fun σ3 H3 ⟨u, e1, r1⟩ => ⟨u, e1, r1⟩) (fun _ _ q => q) (fun _ _ q => q.elim) (fun _ _ q => q.elim)
    · left
      have e : i = xs.length := by omega
      subst e
      exact ⟨W.stop _ t (hG _ σ' t r) (Nat.le_refl _), hd σ' t r⟩
theorem for_readO {xs : List τ} {f : υ → τ → Option υ} {b0 b1 : υ} {g : TG} {B : Hp → τ → St → St → Prop} {G : S → Prop} (hi : EvIG X tg iter σ s G xs) (T : Tgt (α := τ) X.K g B) (hf : foldO f b0 xs = some b1)
    (R : υ → St → S → Prop) (hG : ∀ b σ' t, R b σ' t → G t) (h0 : ∀ s1, Ex s s1 → R b0 σ s1)
    (hb : ∀ (x : τ) (b b' : υ) (σ' σ2 : St) (t t' : S), x ∈ xs → f b x = some b' → R b σ' t → Ex t t' → B t'.F x σ' σ2 → WSs X body (LD D fun σ s => R b' σ s) σ2 t'.H)
    (hd : ∀ σ' t, R b1 σ' t → D.nx σ' t.H) : tFor (WI X tg iter) g (WSs X body) D σ s.H :=
  for_read hi T (fun i σ' t => ∃ b, foldO f b (xs.drop i) = some b1 ∧ R b σ' t) (fun i σ' t ⟨b, _, r⟩ => hG b σ' t r) (fun s1 k => ⟨b0, hf, h0 s1 k⟩)
    (fun i x σ' σ2 t t' hx ⟨b, h1, h2⟩ kt hB => by
      obtain ⟨hlt, rfl⟩ := List.getElem?_eq_some_iff.mp hx
      obtain ⟨b', h3, h4⟩ := foldO_drop hlt h1
      exact (hb xs[i] b b' σ' σ2 t t' (List.getElem_mem hlt) h3 h2 kt hB).imp (fun σ3 H3 ⟨u, e1, r1⟩ => ⟨u, e1, b', h4, r1⟩) (fun _ _ q => q) (fun _ _ q => q.elim) (fun _ _ q => q.elim))
    (fun σ' t ⟨b, h1, h2⟩ => by
      rw [List.drop_length] at h1
      cases h1
      exact hd σ' t h2)
theorem for_readF {xs : List τ} {f : υ → τ → Option (Fl υ ρ)} {b0 : υ} {o : Fl υ ρ} {g : TG} {B : Hp → τ → St → St → Prop} {G : S → Prop} (hi : EvIG X tg iter σ s G xs) (T : Tgt (α := τ) X.K g B) (hf : foldF f b0 xs = some o)
    (R : υ → St → S → Prop) (hG : ∀ b σ' t, R b σ' t → G t) (h0 : ∀ s1, Ex s s1 → R b0 σ s1)
    (hb : ∀ (x : τ) (b : υ) (q : Fl υ ρ) (σ' σ2 : St) (t t' : S), x ∈ xs → f b x = some q → (∀ r, q = .rt r → o = .rt r) → R b σ' t → Ex t t' → B t'.F x σ' σ2 → WSs X body (LD D fun σ s => ∃ b', q = .nx b' ∧ R b' σ s) σ2 t'.H)
    (hd : ∀ b1 σ' t, o = .nx b1 → R b1 σ' t → D.nx σ' t.H) : tFor (WI X tg iter) g (WSs X body) D σ s.H :=
  for_read hi T (fun i σ' t => ∃ b, foldF f b (xs.drop i) = some o ∧ R b σ' t) (fun i σ' t ⟨b, _, r⟩ => hG b σ' t r) (fun s1 k => ⟨b0, hf, h0 s1 k⟩)
    (fun i x σ' σ2 t t' hx ⟨b, h1, h2⟩ kt hB => by
      obtain ⟨hlt, rfl⟩ := List.getElem?_eq_some_iff.mp hx
      obtain ⟨q, h3, h4, h5⟩ := foldF_drop hlt h1
      exact (hb xs[i] b q σ' σ2 t t' (List.getElem_mem hlt) h3 h5 h2 kt hB).imp (fun σ3 H3 ⟨u, e1, b', e2, r1⟩ => ⟨u, e1, b', h4 b' e2, r1⟩) (fun _ _ q => q) (fun _ _ q => q.elim) (fun _ _ q => q.elim))
    (fun σ' t ⟨b, h1, h2⟩ => by
      rw [List.drop_length] at h1
      cases h1
      exact hd b σ' t rfl h2)
theorem do_forG {g : TG} (hp : PassesOwn (model X.prog X.w) X.A X.env X.xe) (hc : X.calm = true) (hg : PG X tg g) (h : tFor (WI X tg iter) g (WSs X body) { D with nx := fun σ' H' => WSs X rest D σ' H' } σ s.H)
    (hs : ∀ x, foldedSetIterable iter X.env x = pure x := by intro _; rfl) : WSs X (.For tg iter body [] pos :: rest) D σ s.H :=
  do_cons (ps_for hp hc pi_wi hg pss_ws hs) h
abbrev LK (D : Ends) (rest : List Stmt) (X : Cx) (p : Addr) (ob : Obj) (kv : List (Key × V)) : Ends :=
  ⟨fun σ' H' => H' p = some (.frz ob (.dK kv)) ∧ WSs X rest D σ' (upd H' p (.dK kv)), fun v H' => H' p = some (.frz ob (.dK kv)) ∧ D.rt v (upd H' p (.dK kv)), fun σ' H' => H' p = some (.frz ob (.dK kv)) ∧ D.bk σ' (upd H' p (.dK kv)), fun σ' H' => H' p = some (.frz ob (.dK kv)) ∧ D.ct σ' (upd H' p (.dK kv))⟩
theorem do_forD {g : TG} {xs : List (κ × α)} (iv : Iv X.K P0 s0 s L) (i : Nat) (hA : L[i]? = some (Dy.od p xs)) (hp : PassesOwn (model X.prog X.w) X.A X.env X.xe) (hc : X.calm = true) (hg : PG X tg g)
    (h : ∀ (ob : Obj) (kv : List (Key × V)) (s1 : S), Fle s.F s1.F → Iv X.K P0 s0 s1 (L.set i (Dy.odl p ob kv xs)) → tFor (WI X tg iter) g (WSs X body) (LK D rest X p ob kv) σ s1.H)
    (hs : ∀ x, foldedSetIterable iter X.env x = pure x := by intro _; rfl) : WSs X (.For tg iter body [] pos :: rest) D σ s.H :=
  do_cons (ps_lock (ps_for hp hc pi_wi hg pss_ws hs)) (by
    obtain ⟨hf, kv, h1, h2⟩ := iv.od i hA
    exact ⟨p, .dK kv, h1, trivial, fun ob => h ob kv (s.put p (.frz ob (.dK kv)) hf) (Fle.refl _) (iv.lock i ob hA hf h1 h2)⟩)
theorem lk_nx {xs : List (κ × α)} {ob : Obj} {kv : List (Key × V)} (iv : Iv X.K P0 s0 s L) (i : Nat) (hA : L[i]? = some (Dy.odl p ob kv xs)) (k : ∀ s1, s1.F = s.F → Iv X.K P0 s0 s1 (L.set i (Dy.od p xs)) → WSs X rest D σ s1.H) : (LK D rest X p ob kv).nx σ s.H := by
  obtain ⟨s', e1, e2, iv'⟩ := iv.unlock i hA
  have := k s' e2 iv'
  rw [e1] at this
  exact ⟨(iv.odl i hA).2.1, this⟩
theorem lk_rt {xs : List (κ × α)} {ob : Obj} {kv : List (Key × V)} {v : V} (iv : Iv X.K P0 s0 s L) (i : Nat) (hA : L[i]? = some (Dy.odl p ob kv xs)) (k : ∀ s1, s1.F = s.F → Iv X.K P0 s0 s1 (L.set i (Dy.od p xs)) → D.rt v s1.H) : (LK D rest X p ob kv).rt v s.H := by
  obtain ⟨s', e1, e2, iv'⟩ := iv.unlock i hA
  have := k s' e2 iv'
  rw [e1] at this
  exact ⟨(iv.odl i hA).2.1, this⟩
theorem lk_ex {kv : List (Key × V)} {ob : Obj} {s1 : S} (hf : s.F p = none) (h1 : s.H p = some (.dK kv)) (k : Ex s s1) : ∃ (hf1 : s1.F p = none), Ex (s.put p (.frz ob (.dK kv)) hf) (s1.put p (.frz ob (.dK kv)) hf1) := by
  refine ⟨k.n _ _ h1 hf, k.f, fun a o q => ?_, fun a o q n => ?_⟩
  · by_cases e : a = p
    · subst e
      have q : upd s.H a (.frz ob (.dK kv)) a = some o := q
      rw [upd_same] at q
      show upd s1.H a _ a = _
      rw [upd_same]; exact q
    · have q : upd s.H p (.frz ob (.dK kv)) a = some o := q
      rw [upd_ne e] at q
      show upd s1.H p _ a = _
      rw [upd_ne e]; exact k.h _ _ q
  · by_cases e : a = p
    · subst e; exact k.n _ _ h1 hf
    · have q : upd s.H p (.frz ob (.dK kv)) a = some o := q
      rw [upd_ne e] at q
      exact k.n _ _ q n
theorem lk_back {kv : List (Key × V)} {ob : Obj} {s1 s2 : S} (hf : s1.F p = none) (h1 : s1.H p = some (.dK kv)) (k : Ex (s1.put p (.frz ob (.dK kv)) hf) s2) : ∃ (hf2 : s2.F p = none), s2.H p = some (.frz ob (.dK kv)) ∧ Ex s1 (s2.put p (.dK kv) hf2) := by
  have hf2 : s2.F p = none := k.n p _ (show upd s1.H p _ p = _ from upd_same) hf
  refine ⟨hf2, k.h p _ (show upd s1.H p _ p = _ from upd_same), k.f, fun a o q => ?_, fun a o q n => ?_⟩
  · by_cases e : a = p
    · subst e
      rw [h1] at q
      cases q
      exact upd_same
    · show upd s2.H p _ a = _
      rw [upd_ne e]
      exact k.h _ _ (show upd s1.H p _ a = _ by rw [upd_ne e]; exact q)
  · by_cases e : a = p
    · subst e; exact hf2
    · exact k.n a o (show upd s1.H p _ a = _ by rw [upd_ne e]; exact q) n
theorem en_lock {ys : List β} {xs : List (κ × α)} (r : OwnD X.K s p xs) (h : ∀ (ob : Obj) (kv : List (Key × V)) (s1 : S), s1.F = s.F → (∀ a o, s.H a = some o → a ≠ p → s1.H a = some o) → GD X.K p ob kv xs s1 → (∀ hf, s1 = s.put p (.frz ob (.dK kv)) hf → EvN X e σ s1 ys)) : EvN X e σ s ys := fun s1 k Q q => by
  obtain ⟨hf, kv, h1, h2⟩ := r
  refine we_of (pe_lock pe_we) ⟨p, .dK kv, k.h _ _ h1, trivial, fun ob => ?_⟩
  obtain ⟨hf1, kx⟩ := lk_ex (ob := ob) hf h1 k
  have := h ob kv (s.put p (.frz ob (.dK kv)) hf) rfl (fun a o q n => (upd_ne n).trans q) ⟨upd_same, h2⟩ hf rfl
  refine this _ kx _ fun p2 s2 k2 n2 o2 => ?_
  obtain ⟨hf2, g1, k3⟩ := lk_back hf1 (k.h _ _ h1) k2
  refine ⟨g1, ?_⟩
  have ne : p2 ≠ p := fun z => by
    have : upd s1.H p (.frz ob (.dK kv)) p2 = none := n2
    rw [z, upd_same] at this; cases this
  have n2' : s1.H p2 = none := by
    have : upd s1.H p (.frz ob (.dK kv)) p2 = none := n2
    rw [upd_ne ne] at this; exact this
  obtain ⟨o1, vs, o3, o4⟩ := o2
  exact q p2 (s2.put p (.dK kv) hf2) k3 n2' ⟨o1, vs, (upd_ne ne).trans o3, o4⟩
theorem comp_readG {xs : List α} {ys : List β} {t : α → Option Bool} {f : α → Option β} {g : TG} {B : Hp → α → St → St → Prop} {tt : TT} {G : S → Prop} (hGx : ∀ s1 s2, Ex s1 s2 → G s1 → G s2) (hG0 : G s) (hi : EvIG X tg iter σ s G xs)
    (T : Tgt (α := α) X.K g B) (hf : compO t f xs = some ys) (hz : ys.length ≤ sizeLine)
    (hw : ∀ (F : Hp) (x : α) σ2, B F x (wipe σ (own.map (·.2))) σ2 → wipe σ2 (own.map (·.2)) = wipe σ (own.map (·.2)))
    (ht : ∀ (x : α) (b : Bool) (s1 : S) (σ2 : St) (Q : Bool → Hp → Prop), x ∈ xs → Ex s s1 → B s1.F x (wipe σ (own.map (·.2))) σ2 → t x = some b → (∀ s2, Ex s1 s2 → Q b s2.H) → tt σ2 s1.H Q)
    (he : ∀ (x : α) (y : β) (s1 : S) (σ2 : St), x ∈ xs → Ex s s1 → B s1.F x (wipe σ (own.map (·.2))) σ2 → t x = some true → f x = some y → ∀ s0 H0 C cl fp, Ev (Blk X scope s0 H0 C cl fp) elt σ2 s1 y)
    (s1 : S) (k : Ex s s1) (Q : VK) (q : ∀ p s2, Ex s1 s2 → s1.H p = none → Own X.K s2 p ys → Q (.ref p) s2.H) : tLc (WI X tg iter) g tt (fun σ H Q => ∀ s0 H0 C cl fp, WE (Blk X scope s0 H0 C cl fp) elt σ H Q) (own.map (·.2)) σ s1.H Q := by
  refine hi s1 k _ fun J s2 k2 W => ?_
  intro D hD
  have hgG : ∀ u, Ex s2 u → G u := fun u ku => hGx _ _ ((k.trans k2).trans ku) hG0
  refine ⟨fun i m H => ∃ (u : S) (pre : List β) (vs : List V), u.H = H ∧ m = xs.length - i ∧ Ex s2 u ∧ u.F D = none ∧ u.H D = some (.lst vs) ∧ Reps X.K u.F vs pre ∧ (∃ suf, compO t f (xs.drop i) = some suf ∧ pre ++ suf = ys), ⟨xs.length, s2.newO D (.lst []) hD, [], [], rfl, rfl, Ex.newO hD, (fF hD : s2.F D = none), upd_same, trivial, ys, by rw [List.drop_zero]; exact hf, rfl⟩, ?_⟩
  rintro i m H ⟨u, pre, vs, rfl, rfl, ku, n1, n2, n3, suf, h1, h2⟩
  by_cases hi' : i < xs.length
  · right
    have hx : xs[i]? = some xs[i] := List.getElem?_eq_getElem hi'
    obtain ⟨g1, g2⟩ := W.go i u xs[i] (hgG u ku) hx
    refine ⟨g1, fun H' => ∃ m', m' < xs.length - i ∧ ∃ (u : S) (pre : List β) (vs : List V), u.H = H' ∧ m' = xs.length - (i + 1) ∧ Ex s2 u ∧ u.F D = none ∧ u.H D = some (.lst vs) ∧ Reps X.K u.F vs pre ∧ (∃ suf, compO t f (xs.drop (i + 1)) = some suf ∧ pre ++ suf = ys), fun H' z => z, fun v H' hy => ?_⟩
    obtain ⟨u', rfl, ku', rv⟩ := g2 v H' hy
    refine T.run u' v xs[i] _ _ rv fun σ2 hB => ⟨hw _ _ _ hB, ?_⟩
    rw [List.drop_eq_getElem_cons hi'] at h1
    unfold compO at h1
    cases hb : t xs[i] with
    | none => rw [hb] at h1; cases h1
    | some b =>
      rw [hb, Option.bind_some] at h1
      have mem : xs[i] ∈ xs := List.getElem_mem hi'
      have base : Ex s u' := (k.trans k2).trans (ku.trans ku')
      refine ht xs[i] b u' σ2 _ mem base hB hb fun u3 k3 => ?_
      have hlt : xs.length - (i + 1) < xs.length - i := by omega
      have kk : Ex u u3 := ku'.trans k3
      cases b with
      | false =>
        rw [if_neg Bool.false_ne_true] at h1 ⊢
        exact ⟨_, hlt, u3, pre, vs, rfl, rfl, ku.trans kk, kk.n _ _ n2 n1, kk.h _ _ n2, n3.mono kk.f, suf, h1, h2⟩
      | true =>
        rw [if_pos rfl] at h1 ⊢
        cases hfx : f xs[i] with
        | none => rw [hfx] at h1; cases h1
        | some y =>
          rw [hfx, Option.bind_some] at h1
          cases hr : compO t f (xs.drop (i + 1)) with
          | none => rw [hr] at h1; cases h1
          | some suf' =>
            rw [hr] at h1
            cases h1
            intro s0 H0 C cl fp
            refine he xs[i] y u' σ2 mem base hB hb hfx s0 H0 C cl fp u3 k3 _ fun w u4 k4 r4 => ?_
            have k5 : Ex u u4 := kk.trans k4
            have hD4 : u4.H D = some (.lst vs) := k5.h _ _ n2
            have hF4 : u4.F D = none := k5.n _ _ n2 n1
            have hlen : vs.length < sizeLine := by
              have e1 := n3.len
              have e2 : ys.length = pre.length + (suf'.length + 1) := by rw [← h2, List.length_append, List.length_cons]
              omega
            refine ⟨vs, hD4, hlen, _, hlt, u4.put D (.lst (vs ++ [w])) hF4, pre ++ [y], vs ++ [w], rfl, rfl, (ku.trans k5).mu1 (Mx.put hF4) hD, hF4, upd_same, (n3.mono k5.f).snoc r4, suf', rfl, by rw [List.append_assoc]; exact h2⟩
  · left
    have hd : xs.drop i = [] := List.drop_eq_nil_of_le (by omega)
    rw [hd] at h1
    cases h1
    refine ⟨W.stop i u (hgG u ku) (by omega), q D u (k2.trans ku) (fr_back k2 hD) ⟨n1, vs, n2, ?_⟩⟩
    rw [← h2, List.append_nil]
    exact n3
theorem en_comp0G {xs : List α} {ys : List β} {f : α → Option β} {j : Nat} {n : Str} {py : Pos} {G : S → Prop} (hGx : ∀ s1 s2, Ex s1 s2 → G s1 → G s2) (hG0 : G s) (hc : X.calm = true) (hN : X.N.Nodup) (hi : EvIG X (.Name n py) iter σ s G xs) (ok : BlkOk X.N X.env.scope scope own) (hj : X.N[j]? = some n)
    (hjo : j ∈ own.map (·.2)) (hg : ∀ s0 H0 C cl fp, PG (Blk X scope s0 H0 C cl fp) (.Name n py) (gName j)) (hf : mapO f xs = some ys) (hz : ys.length ≤ sizeLine)
    (he : ∀ (x : α) (y : β) (v : V) (s1 : S), x ∈ xs → Ex s s1 → rep X.K s1.F v x → f x = some y → ∀ s0 H0 C cl fp, Ev (Blk X scope s0 H0 C cl fp) elt ((wipe σ (own.map (·.2))).set j (some v)) s1 y)
    (hs : ∀ x, foldedSetIterable iter X.env x = pure x := by intro _; rfl) : EvL X elt (.Name n py) iter [] scope σ s ys :=
  ⟨hc, hN, hs, own, _, _, ok, hg, fun _ _ _ _ _ => pts_nil, fun s1 k Q q => comp_readG (t := fun _ => some true) hGx hG0 hi tg_n hf hz (fun F x σ2 ⟨v, _, e⟩ => by rw [e, wipe_set hjo]; exact wipe_wipe fun _ z => z)
    (fun x b s1 σ2 Q _ _ _ hb q => by cases hb; exact q s1 (Ex.refl _)) (fun x y s1 σ2 hx k ⟨v, r, e⟩ _ hfx => by subst e; exact he x y v s1 hx k r hfx) s1 k Q q⟩
theorem en_comp1G {xs : List α} {ys : List β} {t : α → Option Bool} {f : α → Option β} {j : Nat} {n : Str} {py : Pos} {G : S → Prop} (hGx : ∀ s1 s2, Ex s1 s2 → G s1 → G s2) (hG0 : G s) (hc : X.calm = true) (hN : X.N.Nodup) (hi : EvIG X (.Name n py) iter σ s G xs) (ok : BlkOk X.N X.env.scope scope own) (hj : X.N[j]? = some n)
    (hjo : j ∈ own.map (·.2)) (hg : ∀ s0 H0 C cl fp, PG (Blk X scope s0 H0 C cl fp) (.Name n py) (gName j)) (hf : compO t f xs = some ys) (hz : ys.length ≤ sizeLine)
    (ht : ∀ (x : α) (b : Bool) (v : V) (s1 : S), x ∈ xs → Ex s s1 → rep X.K s1.F v x → t x = some b → ∀ s0 H0 C cl fp, EvT (Blk X scope s0 H0 C cl fp) c ((wipe σ (own.map (·.2))).set j (some v)) s1 b)
    (he : ∀ (x : α) (y : β) (v : V) (s1 : S), x ∈ xs → Ex s s1 → rep X.K s1.F v x → t x = some true → f x = some y → ∀ s0 H0 C cl fp, Ev (Blk X scope s0 H0 C cl fp) elt ((wipe σ (own.map (·.2))).set j (some v)) s1 y)
    (hs : ∀ x, foldedSetIterable iter X.env x = pure x := by intro _; rfl) : EvL X elt (.Name n py) iter [c] scope σ s ys :=
  ⟨hc, hN, hs, own, _, _, ok, hg, fun s0 H0 C cl fp => pts_one ⟨fun pins s _ _ _ I h => h s0 H0 C cl fp pins s I⟩, fun s1 k Q q => comp_readG (tt := fun σ H Q => ∀ s0 H0 C cl fp, WT (Blk X scope s0 H0 C cl fp) c σ H Q) hGx hG0 hi tg_n hf hz (fun F x σ2 ⟨v, _, e⟩ => by rw [e, wipe_set hjo]; exact wipe_wipe fun _ z => z)
    (fun x b s1 σ2 Q hx k ⟨v, r, e⟩ hb q => by subst e; intro s0 H0 C cl fp; exact ht x b v s1 hx k r hb s0 H0 C cl fp s1 (Ex.refl _) Q q) (fun x y s1 σ2 hx k ⟨v, r, e⟩ htx hfx => by subst e; exact he x y v s1 hx k r htx hfx) s1 k Q q⟩
end
end Dy

namespace Dy
open PySem PySem.Spec L2
open PyProof.Rows hiding St
open Enc (rep)
open Flat (toV)
open EncA (repA)

def tc (p : Addr) (vs : List V) : OA := ⟨fun K F H P => (∀ a, P a ↔ a = p) ∧ H p = some (.tup vs), fun e h => h, fun e ⟨h0, h1⟩ => ⟨h0, by rw [e p ((h0 p).mpr rfl)]; exact h1⟩, fun ⟨h0, h1⟩ q => ⟨_, (congrArg _ ((h0 _).mp q)).trans h1⟩⟩
abbrev No : Addr → Prop := fun _ => False
def spI {A O : Type} (K : PySem.W.Frag) (pre : List V → A → List OA → List OA → Prop) (m : A → Option O) (ok : List V → A → O → V → List OA → Prop) (er : List V → A → O → Er → List OA → Prop) : Sp := fun vs H Q E =>
  ∃ (s : S) (P0 : Addr → Prop) (L R : List OA) (x : A) (o : O), s.H = H ∧ pre vs x L R ∧ Iv K P0 s s L ∧ Ro K P0 s R ∧ m x = some o ∧
    (∀ v s' L', ok vs x o v L' → Iv K P0 s s' L' → Q v s'.H) ∧ (∀ e cls d s' L', er vs x o e L' → Iv K P0 s s' L' → ExR K s'.F e cls d → E cls d s'.H)
def noEr {A O : Type} : List V → A → O → Er → List OA → Prop := fun _ _ _ _ _ => False
abbrev FunM (K : PySem.W.Frag) (x q : Str) (st : Stmt) (f : Addr) (fd : FuncData) : Prop := FunD K x q (defArgs st) (defBody st) (defScope st) [] [] f fd
section
variable {P : Program} {w : World} {K : PySem.W.Frag} {mg : Str → Option Value} {base : Heap} {A O : Type} {pre : List V → A → List OA → List OA → Prop} {m : A → Option O} {ok : List V → A → O → V → List OA → Prop} {er : List V → A → O → Er → List OA → Prop}
theorem mk_I {x q : Str} {st : Stmt} {f : Addr} {fd : FuncData} {N ps : List Str} {k : Nat} (F : FunM K x q st f fd) (Sc : FnScope N ps (defScope st)) (hl : ∀ vs a L R, pre vs a L R → vs.length = ps.length)
    (body : ∀ (cdv : Value) (A' : Around) (outer : List Env) (s0 : Shared) (H0 : Hp) (E0 : XK), Room k (A'.deeper (envOfC q (defScope st) s0.heap.objs.size f cdv)) → ∀ (s : S) (P0 : Addr → Prop) (L R : List OA) (vs : List V) (a : A) (o : O) (Q : VK), pre vs a L R → Iv K P0 s s L → Ro K P0 s R → m a = some o →
      (∀ v s' L', ok vs a o v L' → Iv K P0 s s' L' → Q v s'.H) → WSs (cxOf CX0 P w K mg base N q (defScope st) f cdv A' outer s0 H0 E0).nox (defBody st) (RD Q) (start N vs) s.H) : FnOk P w K mg base CX0 (k + 1) f fd ps (spI K pre m ok noEr) :=
  F.ok Sc (fun vs H Q E ⟨s, P0, L, R, a, o, _, h, _⟩ => hl vs a L R h) (fun cdv A' outer s0 H0 vs Q E hr ⟨s, P0, L, R, a, o, e, h1, h2, h3, h4, h5, _⟩ => ⟨_, pss_ws.nox, by
    have := body cdv A' outer s0 H0 E hr s P0 L R vs a o Q h1 h2 h3 h4 h5
    rw [e] at this
    exact this⟩)
theorem mk_IX {x q : Str} {st : Stmt} {f : Addr} {fd : FuncData} {N ps : List Str} {k : Nat} (F : FunM K x q st f fd) (Sc : FnScope N ps (defScope st)) (hl : ∀ vs a L R, pre vs a L R → vs.length = ps.length)
    (body : ∀ (cdv : Value) (A' : Around) (outer : List Env) (s0 : Shared) (H0 : Hp) (E0 : XK), Room k (A'.deeper (envOfC q (defScope st) s0.heap.objs.size f cdv)) → ∀ (s : S) (P0 : Addr → Prop) (L R : List OA) (vs : List V) (a : A) (o : O) (Q : VK), pre vs a L R → Iv K P0 s s L → Ro K P0 s R → m a = some o →
      (∀ v s' L', ok vs a o v L' → Iv K P0 s s' L' → Q v s'.H) → (∀ e cls d s' L', er vs a o e L' → Iv K P0 s s' L' → ExR K s'.F e cls d → E0 cls d s'.H) → WSs (cxOf (L2.CX P w) P w K mg base N q (defScope st) f cdv A' outer s0 H0 E0) (defBody st) (RD Q) (start N vs) s.H) : FnOk P w K mg base (L2.CX P w) (k + 1) f fd ps (spI K pre m ok er) :=
  F.ok Sc (fun vs H Q E ⟨s, P0, L, R, a, o, _, h, _⟩ => hl vs a L R h) (fun cdv A' outer s0 H0 vs Q E hr ⟨s, P0, L, R, a, o, e, h1, h2, h3, h4, h5, h6⟩ => ⟨_, pss_ws, by
    have := body cdv A' outer s0 H0 E hr s P0 L R vs a o Q h1 h2 h3 h4 h5 h6
    rw [e] at this
    exact this⟩)
theorem cal_of {CX : CXT} {q : Sp} {x : Str} {f : Addr} {fd : FuncData} {ps : List Str} {k : Nat} (h : FnOk P w K mg base CX k f fd ps q) (hm : mg x = some (.ref f)) (kp : PySem.W.keepIn K (.ref f) = true) (b : Binds K fd ps []) : Cal P w K mg base CX k x q := ⟨f, fd, ps, h, hm, kp, b⟩
structure CalM (P : Program) (w : World) (K : PySem.W.Frag) (mg : Str → Option Value) (base : Heap) (CX : CXT) (k : Nat) (c m : Str) (q : Sp) : Prop where
  ex : ∃ (f : Addr) (fd : FuncData) (ps : List Str), FnOk P w K mg base CX k f fd ps q ∧ Meth K (He.ga K c) m f ∧ Binds K fd ps []
structure CalC (P : Program) (w : World) (K : PySem.W.Frag) (mg : Str → Option Value) (base : Heap) (CX : CXT) (k : Nat) (c : Str) (q : Sp) : Prop where
  ex : ∃ (f : Addr) (fd : FuncData) (ps : List Str), FnOk P w K mg base CX k f fd ps q ∧ Mk K (He.ga K c) f ∧ mg c = some (.ref (He.ga K c)) ∧ Binds K fd ps []
end
section
variable {X : Cx} {CX : CXT} {k j : Nat} {f C : Addr} {fd : FuncData} {ps : List Str} {sp : Sp} {o e : Expr} {es : List Expr} {ta : TE} {t : TA} {m n : Str} {pos apos p0 : Pos} {σ : L2.St} {s : S}
def tMethS (C : Addr) (m : Str) (sp : Sp) (E : L2.St → XK) (ta : TE) (t : TA) : TE := fun σ H Q => ta σ H fun x H1 => ∃ a dx fs, x = .ref a ∧ H1 a = some (.ins C dx fs) ∧ fs.lookup m = none ∧ t σ H1 fun vs H2 => sp (x :: vs) H2 Q (E σ)
theorem pe_methX {E : L2.St → XK} {pl : Sem Bool} (he : PE X o ta) (c : Cls X.K C) (hm : Meth X.K C m f) (F : FnOk X.prog X.w X.K X.mg X.base CX k f fd ps sp) (hr : Room k X.A) (hb : Binds X.K fd ps []) (hx : ∀ σ, PassesAt CX X σ (E σ)) (ha : PA X (e :: es) t)
    (hst : starEach (e :: es) X.env = (false, eval e X.env) :: starEach es X.env := by rfl) (hpl : (backTo pos (starEach es X.env)).any (·.1) = false := by rfl)
    (ht : eval (.Call (.Attribute o m apos) (e :: es) [] pos) X.env = (do
      let ov ← eval o X.env
      standAt apos.atName
      let (f, first) ← holding [ov] (getMethod ov m pl)
      callWith pos f first (backTo pos (starEach (e :: es) X.env)) (backToKw pos (keywordEach [] X.env))) := by rfl) :
    PE X (.Call (.Attribute o m apos) (e :: es) [] pos) (tMethS C m sp E ta t) := by
  refine ⟨fun pins s σ H Q I h => ?_⟩
  refine PySem.W.methodCall_KW (pl := pl) (thn (he.run pins s σ H _ I h) fun u s1 ⟨x, H1, I1, rx, a, dx, fs, ex, ea, l, q⟩ => ?_) ht
  subst ex
  obtain rfl : u = Value.ref a := rx
  refine getmeth_ok I1 ea c hm l ?_
  refine PySem.W.callWith_K (first := [.ref a]) (h₀ := X.base) I1.ok.mod.kin hm.kp (thn (ha.run pos pins s1 σ H1 _ I1 q) fun us s2 ⟨vs, H2, I2, r, q2⟩ => ⟨I2.kIn, ?_⟩) hst hpl
  exact run_fnS (us := .ref a :: us) (vs := .ref a :: vs) F hr hb (hx σ) I2 (.cons rfl r) q2
theorem pe_methX0 {E : L2.St → XK} {pl : Sem Bool} (he : PE X o ta) (c : Cls X.K C) (hm : Meth X.K C m f) (F : FnOk X.prog X.w X.K X.mg X.base CX k f fd ps sp) (hr : Room k X.A) (hb : Binds X.K fd ps []) (hx : ∀ σ, PassesAt CX X σ (E σ))
    (ht : eval (.Call (.Attribute o m apos) [] [] pos) X.env = (do
      let ov ← eval o X.env
      standAt apos.atName
      let (f, first) ← holding [ov] (getMethod ov m pl)
      callWith pos f first (backTo pos (starEach [] X.env)) (backToKw pos (keywordEach [] X.env))) := by rfl) :
    PE X (.Call (.Attribute o m apos) [] [] pos) (tMethS C m sp E ta tNil) := by
  refine ⟨fun pins s σ H Q I h => ?_⟩
  refine PySem.W.methodCall_KW (pl := pl) (thn (he.run pins s σ H _ I h) fun u s1 ⟨x, H1, I1, rx, a, dx, fs, ex, ea, l, q⟩ => ?_) ht
  subst ex
  obtain rfl : u = Value.ref a := rx
  refine getmeth_ok I1 ea c hm l ?_
  exact PySem.W.callWith_K0 (first := [.ref a]) I1.kIn hm.kp (run_fnS (us := [.ref a]) (vs := [.ref a]) F hr hb (hx σ) I1 (.cons rfl .nil) q)
theorem run_makeS {E : XK} {pins : List (Addr × Obj)} {σ : L2.St} {H : Hp} {s : Shared} {Q : VK} {us : List Value} {vs : List V} (M : Mk X.K C f) (F : FnOk X.prog X.w X.K X.mg X.base CX k f fd ps sp) (hr : Room (k + 1) X.A) (hb : Binds X.K fd ps [])
    (hx : PassesAt CX X σ E) (I : Inv X pins σ H s) (r : Vals vs us)
    (h : ∀ x dx, H x = none → H dx = none → dx ≠ x → sp (.ref x :: vs) (upd (upd H dx (.own x)) x (.ins C dx [])) (fun v H2 => v = .non ∧ Q (.ref x) H2) E) :
    wpAny (model X.prog X.w) X.A (call (.ref C) us) (EP X pins σ Q) X.xe s := by
  have hq := h (s.heap.objs.size + 1) s.heap.objs.size (I.hok.fresh (Nat.le_succ _)) (I.hok.fresh (Nat.le_refl _)) (Nat.ne_of_lt (Nat.lt_succ_self _))
  have I2 := Inv.made (C := C) I
  have r2 : Vals (V.ref (s.heap.objs.size + 1) :: vs) (Value.ref (s.heap.objs.size + 1) :: us) := .cons rfl r
  have hl : (Value.ref (s.heap.objs.size + 1) :: us).length = ps.length := by
    have e := r2.length
    rw [F.len _ _ _ _ hq] at e
    exact e.symm
  refine wpAny_call (make_map (f := f) I.kIn M.makes M.init (beq_iff_eq.mp M.fn) (codeAny_mono (F.run _ X.stack _ _ ⟨Value.ref (s.heap.objs.size + 1) :: us, []⟩ (Value.ref (s.heap.objs.size + 1) :: us) _ _ E (hr.make C us [])
    (I2.env0.make C us []) (by
      have := hb _ (Value.ref (s.heap.objs.size + 1) :: us) I2.kIn (by rw [List.append_nil]; exact hl)
      rw [List.append_nil] at this
      exact this) r2 hq) fun r s' hq' => ?_))
  cases r with
  | error e => exact hx pins _ _ e s' I2 hq'
  | ok fl =>
    cases fl with
    | ret u =>
      obtain ⟨v, H', I3, rv, ev, q3⟩ := I2.after hq'
      subst ev
      exact ⟨rv, ⟨V.ref (s.heap.objs.size + 1), H', I3, rfl, q3⟩⟩
    | next => exact False.elim hq'
    | brk => exact False.elim hq'
    | cont => exact False.elim hq'
def tMakeS (C : Addr) (sp : Sp) (E : L2.St → XK) (t : TA) : TE := fun σ H Q => t σ H fun vs H1 => ∀ x dx, H1 x = none → H1 dx = none → dx ≠ x → sp (.ref x :: vs) (upd (upd H1 dx (.own x)) x (.ins C dx [])) (fun v H2 => v = .non ∧ Q (.ref x) H2) (E σ)
theorem pe_makeX {E : L2.St → XK} (M : Mk X.K C f) (F : FnOk X.prog X.w X.K X.mg X.base CX k f fd ps sp) (hr : Room (k + 1) X.A) (hg : Gl X n) (hm : X.mg n = some (.ref C)) (hb : Binds X.K fd ps []) (hx : ∀ σ, PassesAt CX X σ (E σ))
    (ha : PA X (e :: es) t) (hdb : (n == ("__debug__" : Str)) = false := by decide) (he : starEach (e :: es) X.env = (false, eval e X.env) :: starEach es X.env := by rfl) (hpl : (backTo pos (starEach es X.env)).any (·.1) = false := by rfl) :
    PE X (.Call (.Name n p0) (e :: es) [] pos) (tMakeS C sp E t) := by
  refine ⟨fun pins s σ H Q I h => ?_⟩
  refine wpAny_Call_Name_kw (ld_glob I hg hm ?_ hdb)
  refine PySem.W.callWith_K (h₀ := X.base) I.ok.mod.kin M.kp (thn (ha.run pos pins s σ H _ I h) fun us s1 ⟨vs, H1, I1, r, q⟩ => ⟨I1.kIn, ?_⟩) he hpl
  exact run_makeS M F hr hb (hx σ) I1 r q
theorem pe_makeX0 {E : L2.St → XK} (M : Mk X.K C f) (F : FnOk X.prog X.w X.K X.mg X.base CX k f fd ps sp) (hr : Room (k + 1) X.A) (hg : Gl X n) (hm : X.mg n = some (.ref C)) (hb : Binds X.K fd ps []) (hx : ∀ σ, PassesAt CX X σ (E σ))
    (hdb : (n == ("__debug__" : Str)) = false := by decide) : PE X (.Call (.Name n p0) [] [] pos) (tMakeS C sp E tNil) := by
  refine ⟨fun pins s σ H Q I h => ?_⟩
  refine wpAny_Call_Name_kw (ld_glob I hg hm ?_ hdb)
  exact PySem.W.callWith_K0 I.kIn M.kp (run_makeS (us := []) M F hr hb (hx σ) I .nil h)

def Calls (X : Cx) (e : Expr) (σ : L2.St) (s : S) (sp : Sp) (E : XK) (Φ : List V → S → Prop) : Prop := ∀ s1, Ex s s1 → ∀ Q : VK, (∀ vs s2, Ex s1 s2 → Φ vs s2 → sp vs s2.H Q E) → WE X e σ s1.H Q
theorem ca_fn {A : Type} [EncA A] {a : A} {E : L2.St → XK} (C : Cal X.prog X.w X.K X.mg X.base CX k n sp) (hx : ∀ σ, PassesAt CX X σ (E σ)) (hr : Room j X.A) (hk : k ≤ j) (ha : EvA X (e :: es) σ s a) (hg : Gl X n := by rfl)
    (hdb : (n == ("__debug__" : Str)) = false := by decide) (he : starEach (e :: es) X.env = (false, eval e X.env) :: starEach es X.env := by rfl) (hpl : (backTo pos (starEach es X.env)).any (·.1) = false := by rfl) : Calls X (.Call (.Name n p0) (e :: es) [] pos) σ s sp (E σ) (fun vs s2 => repA X.K s2.F vs a) := fun s1 k1 Q q => by
  obtain ⟨f, fd, ps, F, hm, kp, b⟩ := C.ex
  exact we_of (pe_callS (E := E) F (hr.mono hk) hg hm kp b hx pa_wa hdb he hpl) (ha s1 k1 _ fun vs s2 k2 r2 => q vs s2 k2 r2)
theorem ca_meth {A : Type} [EncA A] {a : A} {E : L2.St → XK} {c : Str} {p : Addr} {fs : List (Str × V)} (C : CalM X.prog X.w X.K X.mg X.base CX k c m sp) (hc : Cls X.K (He.ga X.K c)) (hx : ∀ σ, PassesAt CX X σ (E σ)) (hr : Room j X.A) (hk : k ≤ j) (ho : Ev X o σ s (Rw.mk (.ref p))) (r : CellAt s X.K p c fs) (hl : fs.lookup m = none) (ha : EvA X (e :: es) σ s a)
    {pl : Sem Bool} (hst : starEach (e :: es) X.env = (false, eval e X.env) :: starEach es X.env := by rfl) (hpl : (backTo pos (starEach es X.env)).any (·.1) = false := by rfl)
    (ht : eval (.Call (.Attribute o m apos) (e :: es) [] pos) X.env = (do
      let ov ← eval o X.env
      standAt apos.atName
      let (f, first) ← holding [ov] (getMethod ov m pl)
      callWith pos f first (backTo pos (starEach (e :: es) X.env)) (backToKw pos (keywordEach [] X.env))) := by rfl) : Calls X (.Call (.Attribute o m apos) (e :: es) [] pos) σ s sp (E σ) (fun vs s2 => ∃ ws, vs = .ref p :: ws ∧ repA X.K s2.F ws a) := fun s1 k1 Q q => by
  obtain ⟨f, fd, ps, F, hm, b⟩ := C.ex
  refine we_of (pe_methX (E := E) (pl := pl) pe_we hc hm F (hr.mono hk) b hx pa_wa hst hpl ht) (ho s1 k1 _ fun v s2 k2 e2 => ?_)
  cases (show v = V.ref p from e2)
  obtain ⟨dx, h1⟩ := r.ex (k1.trans k2)
  exact ⟨p, dx, fs, rfl, h1, hl, ha s2 (k1.trans k2) _ fun ws s3 k3 r3 => q _ s3 (k2.trans k3) ⟨ws, rfl, r3⟩⟩
theorem ca_meth0 {E : L2.St → XK} {c : Str} {p : Addr} {fs : List (Str × V)} (C : CalM X.prog X.w X.K X.mg X.base CX k c m sp) (hc : Cls X.K (He.ga X.K c)) (hx : ∀ σ, PassesAt CX X σ (E σ)) (hr : Room j X.A) (hk : k ≤ j) (ho : Ev X o σ s (Rw.mk (.ref p))) (r : CellAt s X.K p c fs) (hl : fs.lookup m = none)
    {pl : Sem Bool} (ht : eval (.Call (.Attribute o m apos) [] [] pos) X.env = (do
      let ov ← eval o X.env
      standAt apos.atName
      let (f, first) ← holding [ov] (getMethod ov m pl)
      callWith pos f first (backTo pos (starEach [] X.env)) (backToKw pos (keywordEach [] X.env))) := by rfl) : Calls X (.Call (.Attribute o m apos) [] [] pos) σ s sp (E σ) (fun vs s2 => ∃ ws, vs = .ref p :: ws ∧ repA X.K s2.F ws ()) := fun s1 k1 Q q => by
  obtain ⟨f, fd, ps, F, hm, b⟩ := C.ex
  refine we_of (pe_methX0 (E := E) (pl := pl) pe_we hc hm F (hr.mono hk) b hx ht) (ho s1 k1 _ fun v s2 k2 e2 => ?_)
  cases (show v = V.ref p from e2)
  obtain ⟨dx, h1⟩ := r.ex (k1.trans k2)
  exact ⟨p, dx, fs, rfl, h1, hl, q _ s2 k2 ⟨[], rfl, rfl⟩⟩
def CallsN (X : Cx) (e : Expr) (σ : L2.St) (s : S) (c : Str) (sp : Sp) (E : XK) (Φ : List V → S → Prop) : Prop := ∀ s1, Ex s s1 → ∀ Q : VK, (∀ vs s2, Ex s1 s2 → Φ vs s2 → ∀ x dx, s2.H x = none → s2.H dx = none → dx ≠ x → sp (.ref x :: vs) (upd (upd s2.H dx (.own x)) x (.ins (He.ga X.K c) dx [])) (fun v H2 => v = .non ∧ Q (.ref x) H2) E) → WE X e σ s1.H Q
theorem ca_make {A : Type} [EncA A] {a : A} {E : L2.St → XK} (C : CalC X.prog X.w X.K X.mg X.base CX k n sp) (hx : ∀ σ, PassesAt CX X σ (E σ)) (hr : Room j X.A) (hk : k + 1 ≤ j) (ha : EvA X (e :: es) σ s a) (hg : Gl X n := by rfl)
    (hdb : (n == ("__debug__" : Str)) = false := by decide) (he : starEach (e :: es) X.env = (false, eval e X.env) :: starEach es X.env := by rfl) (hpl : (backTo pos (starEach es X.env)).any (·.1) = false := by rfl) : CallsN X (.Call (.Name n p0) (e :: es) [] pos) σ s n sp (E σ) (fun vs s2 => repA X.K s2.F vs a) := fun s1 k1 Q q => by
  obtain ⟨f, fd, ps, F, M, hm, b⟩ := C.ex
  exact we_of (pe_makeX (E := E) M F (hr.mono hk) hg hm b hx pa_wa hdb he hpl) (ha s1 k1 _ fun vs s2 k2 r2 => fun x dx h1 h2 h3 => q vs s2 k2 r2 x dx h1 h2 h3)
theorem ca_make0 {E : L2.St → XK} (C : CalC X.prog X.w X.K X.mg X.base CX k n sp) (hx : ∀ σ, PassesAt CX X σ (E σ)) (hr : Room j X.A) (hk : k + 1 ≤ j) (hg : Gl X n := by rfl)
    (hdb : (n == ("__debug__" : Str)) = false := by decide) : CallsN X (.Call (.Name n p0) [] [] pos) σ s n sp (E σ) (fun vs s2 => repA X.K s2.F vs ()) := fun s1 k1 Q q => by
  obtain ⟨f, fd, ps, F, M, hm, b⟩ := C.ex
  exact we_of (pe_makeX0 (E := E) M F (hr.mono hk) hg hm b hx hdb) fun x dx h1 h2 h3 => q [] s1 (Ex.refl _) rfl x dx h1 h2 h3
theorem pass00 {E : L2.St → XK} : ∀ σ, PassesAt CX0 X σ (E σ) := fun σ pins H s e s' I c => c.elim
theorem passF : ∀ σ, PassesAt (L2.CX X.prog X.w) X σ ((fun _ _ _ _ => False : L2.St → XK) σ) := fun σ pins H s e s' I c => by
  obtain ⟨_, _, _, _, _, _, _, _, _, _, _, _, hf⟩ := c
  exact hf.elim
def EvK (X : Cx) (e : Expr) (σ : L2.St) (s : S) (Φ : V → S → Prop) : Prop := ∀ Q : VK, (∀ v s2, Φ v s2 → Q v s2.H) → WE X e σ s.H Q
def EvG (X : Cx) (e : Expr) (σ : L2.St) (s : S) (ok : V → List OA → Prop) : Prop := ∀ s1, Ex s s1 → ∀ Q : VK, (∀ v s2 L', ok v L' → Iv X.K No s1 s2 L' → Q v s2.H) → WE X e σ s1.H Q
end
section
variable {X : Cx} {P0 : Addr → Prop} {s0 s s1 t : S} {L R0 M : List OA} {K : PySem.W.Frag}
theorem Iv.add (h : Iv K P0 s0 s L) (g : Iv K No s s1 M) : Iv K P0 s0 s1 (L ++ M) := by
  obtain ⟨P1, _, _, h3, h4⟩ := call_in h (R0 := []) ⟨fun i A e => by cases e⟩ [] List.nodup_nil (fun k hk => by cases hk) [] (fun A hA => by cases hA) [] (fun i hi => by cases hi)
  have e0 : P1 = No := by
    funext a
    exact propext ⟨fun z => (h3 rfl a z).elim, fun z => z.elim⟩
  have := h4 s1 M (by rw [e0]; exact g)
  have er : rem L [] = L := by
    unfold rem
    apply List.ext_getElem?
    intro i
    rw [List.getElem?_mapIdx]
    cases L[i]? <;> simp
  rw [er] at this
  exact this
theorem Iv.noex (h : Iv K No s0 s L) : Ex s0 s := h.exx
theorem Iv.nil : Iv K P0 s s [] := Iv.tops 0 s
theorem Iv.cons1 {A : OA} (h : Iv K No s s1 [A]) : A :: [] = [A] := rfl
theorem ev_ivf {α : Type} [Enc α] {v : V} {x : α} (e : Ex s s1) (r : rep K s1.F v x) : Iv K No s s1 [Dy.fz v x] := (Iv.sf (Iv.tops (K := K) (P0 := No) 1 s) 0 e r rfl)
theorem ev_ivl {α : Type} [Enc α] {p : Addr} {x : List α} (e : Ex s s1) (n : s.H p = none) (o : Own K s1 p x) : Iv K No s s1 [Dy.ol p x] := (Iv.sl (Iv.tops (K := K) (P0 := No) 1 s) 0 e n o rfl)
theorem ev_ivd {α κ : Type} [DKey κ] [Enc α] {p : Addr} {x : List (κ × α)} (e : Ex s s1) (n : s.H p = none) (o : OwnD K s1 p x) : Iv K No s s1 [Dy.od p x] := (Iv.sd (Iv.tops (K := K) (P0 := No) 1 s) 0 e n o rfl)
end
section
variable {X : Cx} {CX : CXT} {k j : Nat} {e : Expr} {es : List Expr} {pos p0 p1 : Pos} {σ : L2.St} {P0 : Addr → Prop} {s0 s : S} {L R0 : List OA} {A O : Type} {pre : List V → A → List OA → List OA → Prop} {m : A → Option O} {ok : List V → A → O → V → List OA → Prop} {er : List V → A → O → Er → List OA → Prop} {x : A} {o : O} {E : XK} {Φ : List V → S → Prop} {ok' : V → List OA → Prop}
theorem eg_call (c : Calls X e σ s (spI X.K pre m ok er) E Φ) (iv : Iv X.K P0 s0 s L) (ro : Ro X.K P0 s0 R0) (rs : List (Nat ⊕ Nat))
    (hp : ∀ vs s2, Ex s s2 → Φ vs s2 → ∃ Lf, pre vs x Lf (rsel L R0 rs) ∧ (∀ A ∈ Lf, A.p X.K s2.F s2.H No) ∧ (∀ v L', ok vs x o v L' → ok' v L') ∧ (∀ e L', er vs x o e L' → False)) (hm : m x = some o) : EvG X e σ s ok' := fun s1 k1 Q q =>
  c s1 k1 Q fun vs s2 k2 φ => by
    obtain ⟨Lf, h1, h2, h3, h4⟩ := hp vs s2 (k1.trans k2) φ
    obtain ⟨P1, g1, g2, g3, g4⟩ := call_in (iv.ex (k1.trans k2)) ro [] List.nodup_nil (fun k hk => by cases hk) Lf h2 rs (fun i _ z => by cases z)
    have e0 : P1 = No := by
      funext a
      exact propext ⟨fun z => (g3 rfl a z).elim, fun z => z.elim⟩
    subst e0
    exact ⟨s2, No, Lf, _, x, o, rfl, h1, g1, g2, hm, fun v s' L' hok iv' => q v s' L' (h3 v L' hok) ⟨k2.z.trans iv'.m, by
      obtain ⟨φ, f1, f2, f3⟩ := iv'.o
      exact ⟨φ, f1, f2, fun i a z => ⟨(f3 i a z).1, (f3 i a z).2.1.elim (fun z => z.elim) (fun z => .inr (fr_back k2 z)), (f3 i a z).2.2⟩⟩⟩, fun e cls d s' L' z _ _ => (h4 e L' z).elim⟩
theorem ek_call (c : Calls X e σ s (spI X.K pre m ok er) E Φ) (iv : Iv X.K P0 s0 s L) (ro : Ro X.K P0 s0 R0) (ks : List Nat) (hn : ks.Nodup) (hk : ∀ k ∈ ks, k < L.length) (rs : List (Nat ⊕ Nat)) (hrs : ∀ i, Sum.inl i ∈ rs → i ∉ ks)
    (hp : ∀ vs s2, Ex s s2 → Φ vs s2 → ∃ Lf, pre vs x (ks.map (fun k => L.getD k top) ++ Lf) (rsel L R0 rs) ∧ (∀ A ∈ Lf, A.p X.K s2.F s2.H No) ∧ (∀ v L', ok vs x o v L' → ok' v L') ∧ (∀ e L', er vs x o e L' → False)) (hm : m x = some o) :
    EvK X e σ s (fun v s' => ∃ L', ok' v L' ∧ Fle s.F s'.F ∧ Iv X.K P0 s0 s' (rem L ks ++ L')) := fun Q q =>
  c s (Ex.refl _) Q fun vs s2 k2 φ => by
    obtain ⟨Lf, h1, h2, h3, h4⟩ := hp vs s2 k2 φ
    obtain ⟨P1, g1, g2, g3, g4⟩ := call_in (iv.ex k2) ro ks hn hk Lf h2 rs hrs
    exact ⟨s2, P1, _, _, x, o, rfl, h1, g1, g2, hm, fun v s' L' hok iv' => q v s' ⟨L', h3 v L' hok, k2.f.trans iv'.m.f, g4 s' L' iv'⟩, fun e cls d s' L' z _ _ => (h4 e L' z).elim⟩
theorem ex_call {er' : Er → List OA → Prop} {W : WX} (c : Calls X e σ s (spI X.K pre m ok er) (L2.WE W σ) Φ) (iv : Iv X.K P0 s0 s L) (ro : Ro X.K P0 s0 R0) (ks : List Nat) (hn : ks.Nodup) (hk : ∀ k ∈ ks, k < L.length) (rs : List (Nat ⊕ Nat)) (hrs : ∀ i, Sum.inl i ∈ rs → i ∉ ks)
    (hp : ∀ vs s2, Ex s s2 → Φ vs s2 → ∃ Lf, pre vs x (ks.map (fun k => L.getD k top) ++ Lf) (rsel L R0 rs) ∧ (∀ A ∈ Lf, A.p X.K s2.F s2.H No) ∧ (∀ v L', ok vs x o v L' → False) ∧ (∀ e L', er vs x o e L' → er' e L')) (hm : m x = some o)
    (hw : ∀ e cls d s' L', er' e L' → Iv X.K P0 s0 s' (rem L ks ++ L') → ExR X.K s'.F e cls d → W cls d σ s'.H) : EvX X e σ s := fun s1 k1 Q =>
  c s1 k1 Q fun vs s2 k2 φ => by
    obtain ⟨Lf, h1, h2, h3, h4⟩ := hp vs s2 (k1.trans k2) φ
    obtain ⟨P1, g1, g2, g3, g4⟩ := call_in (iv.ex (k1.trans k2)) ro ks hn hk Lf h2 rs hrs
    exact ⟨s2, P1, _, _, x, o, rfl, h1, g1, g2, hm, fun v s' L' hok iv' => (h3 v L' hok).elim, fun e cls d s' L' z iv' r => hw e cls d s' L' (h4 e L' z) (g4 s' L' iv') r⟩
theorem mk_cell {c : Str} {p dx : Addr} (iv : Iv X.K P0 s0 s L) (hx : s.H p = none) (hd : s.H dx = none) (ne : dx ≠ p) : ∃ s1 : S, s1.H = upd (upd s.H dx (.own p)) p (.ins (He.ga X.K c) dx []) ∧ Ex s s1 ∧ Iv X.K P0 s0 s1 (L ++ [Dy.cell p c []]) ∧ Iv X.K No s s1 [Dy.cell p c []] := by
  have e1 : Ex s (s.newO dx (.own p) hd) := Ex.newO hd
  have hx1 : (s.newO dx (.own p) hd).H p = none := by show upd s.H dx _ p = none; rw [upd_ne (Ne.symm ne)]; exact hx
  have e2 := Ex.newO (o := HO.ins (He.ga X.K c) dx []) hx1
  have e3 := e1.trans e2
  have g : Iv X.K No s ((s.newO dx (.own p) hd).newO p (.ins (He.ga X.K c) dx []) hx1) [Dy.cell p c []] := by
    refine Iv.put (L := [top]) (Iv.tops (P0 := No) 1 s) 0 e3 ⟨fun a => a = p ∨ a = dx, ⟨dx, fun _ => Iff.rfl, upd_same, ?_⟩, fun a z => ?_⟩
    · show upd (upd s.H dx (.own p)) p _ dx = _
      rw [upd_ne ne, upd_same]
    · rcases z with rfl | rfl
      · exact ⟨(fF hx : s.F a = none), hx⟩
      · exact ⟨(fF hd : s.F a = none), hd⟩
  exact ⟨_, rfl, e3, iv.add g, g⟩
theorem eg_make {c : Str} (ca : CallsN X e σ s c (spI X.K pre m ok er) E Φ) (iv : Iv X.K P0 s0 s L) (ro : Ro X.K P0 s0 R0) (rs : List (Nat ⊕ Nat))
    (hp : ∀ vs s2 p, Ex s s2 → Φ vs s2 → ∃ Lf, pre (.ref p :: vs) x (Dy.cell p c [] :: Lf) (rsel L R0 rs) ∧ (∀ (A : OA) (s3 : S), Ex s2 s3 → A ∈ Lf → A.p X.K s3.F s3.H No) ∧ (∀ v L', ok (.ref p :: vs) x o v L' → v = .non ∧ ok' (.ref p) L') ∧ (∀ e L', er (.ref p :: vs) x o e L' → False)) (hm : m x = some o) : EvG X e σ s ok' := fun s1 k1 Q q =>
  ca s1 k1 Q fun vs s2 k2 φ p dx n1 n2 ne => by
    obtain ⟨Lf, h1, h2, h3, h4⟩ := hp vs s2 p (k1.trans k2) φ
    obtain ⟨s3, e3, k3, iv3, iv4⟩ := mk_cell (c := c) (iv.ex (k1.trans k2)) n1 n2 ne
    have kk := k2.trans k3
    obtain ⟨P1, g1, g2, g3, g4⟩ := call_in (R0 := rsel L R0 rs) (K := X.K) (s0 := s3) (s := s3) (P0 := fun a => a = p ∨ a = dx) (L := [Dy.cell p c []]) ⟨(Ex.refl s3).z, by
        obtain ⟨φ, f1, f2, f3⟩ := iv4.o
        refine ⟨φ, f1, f2, fun i a z => ⟨(f3 i a z).1, .inl ?_, (f3 i a z).2.2⟩⟩
        have hi : i = 0 := by have := (f3 i a z).2.2; simpa using this
        subst hi
        obtain ⟨dx', w0, w1, w2⟩ := f1 0 _ rfl
        have : dx' = dx := by
          rw [e3, upd_same] at w1
          cases w1; rfl
        subst this
        exact (w0 a).mp z⟩ ⟨fun i A hA => by
        obtain ⟨PP, w1, w2, _, _⟩ := call_in (iv.ex (k1.trans k2)) ro [] List.nodup_nil (fun k hk => by cases hk) [] (fun A hA => by cases hA) rs (fun i _ z => by cases z)
        obtain ⟨Pa, u1, u2⟩ := w2.o i A hA
        refine ⟨Pa, OA.stay (P0 := No) u1 k3.z fun _ _ z => z, fun a ha z => ?_⟩
        obtain ⟨o', ho'⟩ := A.dom u1 ha
        rcases z with rfl | rfl
        · rw [n1] at ho'; cases ho'
        · rw [n2] at ho'; cases ho'⟩ [0] (by decide) (by simp) Lf (fun A hA => h2 A s3 k3 hA) ((List.range rs.length).map Sum.inr) (fun i z => by simp at z)
    refine ⟨s3, P1, _, _, x, o, e3, ?_, g1, g2, hm, fun v s' L' hok iv' => ?_, fun e cls d s' L' z _ _ => (h4 e L' z).elim⟩
    · have er : rsel [Dy.cell p c []] (rsel L R0 rs) ((List.range rs.length).map Sum.inr) = rsel L R0 rs := by
        apply List.ext_getElem?
        intro i
        unfold rsel
        rw [List.map_map, List.getElem?_map]
        by_cases hi : i < rs.length
        · rw [List.getElem?_range hi]
          simp only [Option.map_some, Function.comp]
          rw [List.getD_eq_getElem?_getD, List.getElem?_map, List.getElem?_eq_getElem hi]
          rfl
        · rw [List.getElem?_eq_none (by rw [List.length_range]; omega), List.getElem?_map, List.getElem?_eq_none (by omega)]; rfl
      rw [er]
      exact h1
    · obtain ⟨v0, hok'⟩ := h3 v L' hok
      have := g4 s' L' iv'
      refine ⟨v0, q _ s' L' hok' ?_⟩
      have iv5 : Iv X.K (fun a => a = p ∨ a = dx) s3 s' L' := by
        have := this.sel ((List.range L'.length).map fun i => some (i + 1)) (by
          have : (List.map (fun i => some (i + 1)) (List.range L'.length)).filterMap id = (List.range L'.length).map (· + 1) := by
            rw [List.filterMap_map]
            exact (List.filterMap_eq_map (f := fun i : Nat => i + 1)) ▸ rfl
          rw [this]
          exact List.Pairwise.map _ (fun a b h e => h (Nat.succ.inj e)) List.nodup_range) (M := L') (by
          unfold pick rem
          apply List.ext_getElem?
          intro i
          rw [List.map_map, List.getElem?_map]
          by_cases hi : i < L'.length
          · rw [List.getElem?_range hi]
            simp [List.getD_eq_getElem?_getD, List.getElem?_eq_getElem hi]
          · rw [List.getElem?_eq_none (by rw [List.length_range]; omega), List.getElem?_eq_none (by omega)]; rfl)
        exact this
      refine ⟨⟨kk.f.trans iv5.m.f, fun a o h _ => ?_, fun a o h _ n => ?_, fun a o h => ?_⟩, ?_⟩
      · have : ¬ (a = p ∨ a = dx) := fun z => by
          rcases z with rfl | rfl
          · rw [k2.h _ _ h] at n1; cases n1
          · rw [k2.h _ _ h] at n2; cases n2
        exact iv5.m.h _ _ (kk.h _ _ h) this
      · have : ¬ (a = p ∨ a = dx) := fun z => by
          rcases z with rfl | rfl
          · rw [k2.h _ _ h] at n1; cases n1
          · rw [k2.h _ _ h] at n2; cases n2
        exact iv5.m.n _ _ (kk.h _ _ h) this (kk.n _ _ h n)
      · exact iv5.m.d _ _ (kk.h _ _ h)
      · obtain ⟨φ, f1, f2, f3⟩ := iv5.o
        refine ⟨φ, f1, f2, fun i a z => ⟨(f3 i a z).1, .inr ?_, (f3 i a z).2.2⟩⟩
        rcases (f3 i a z).2.1 with (rfl | rfl) | w
        · exact fr_back k2 n1
        · exact fr_back k2 n2
        · exact fr_back kk w
theorem ex_make {c : Str} {er' : Er → Prop} {W : WX} (ca : CallsN X e σ s c (spI X.K pre m ok er) (L2.WE W σ) Φ) (iv : Iv X.K P0 s0 s L) (ro : Ro X.K P0 s0 R0) (rs : List (Nat ⊕ Nat))
    (hp : ∀ vs s2 p, Ex s s2 → Φ vs s2 → ∃ Lf, pre (.ref p :: vs) x (Dy.cell p c [] :: Lf) (rsel L R0 rs) ∧ (∀ (A : OA) (s3 : S), Ex s2 s3 → A ∈ Lf → A.p X.K s3.F s3.H No) ∧ (∀ v L', ok (.ref p :: vs) x o v L' → False) ∧ (∀ e L', er (.ref p :: vs) x o e L' → er' e)) (hm : m x = some o)
    (hw : ∀ e cls d s', er' e → Ex s s' → ExR X.K s'.F e cls d → W cls d σ s'.H) : EvX X e σ s := fun s1 k1 Q =>
  ca s1 k1 Q fun vs s2 k2 φ p dx n1 n2 ne => by
    obtain ⟨Lf, h1, h2, h3, h4⟩ := hp vs s2 p (k1.trans k2) φ
    obtain ⟨s3, e3, k3, iv3, iv4⟩ := mk_cell (c := c) (iv.ex (k1.trans k2)) n1 n2 ne
    have kk := (k1.trans k2).trans k3
    obtain ⟨P1, g1, g2, g3, g4⟩ := call_in (R0 := rsel L R0 rs) (K := X.K) (s0 := s3) (s := s3) (P0 := fun a => a = p ∨ a = dx) (L := [Dy.cell p c []]) ⟨(Ex.refl s3).z, by
        obtain ⟨φ, f1, f2, f3⟩ := iv4.o
        refine ⟨φ, f1, f2, fun i a z => ⟨(f3 i a z).1, .inl ?_, (f3 i a z).2.2⟩⟩
        have hi : i = 0 := by have := (f3 i a z).2.2; simpa using this
        subst hi
        obtain ⟨dx', w0, w1, w2⟩ := f1 0 _ rfl
        have : dx' = dx := by
          rw [e3, upd_same] at w1
          cases w1; rfl
        subst this
        exact (w0 a).mp z⟩ ⟨fun i A hA => by
        obtain ⟨PP, w1, w2, _, _⟩ := call_in (iv.ex (k1.trans k2)) ro [] List.nodup_nil (fun k hk => by cases hk) [] (fun A hA => by cases hA) rs (fun i _ z => by cases z)
        obtain ⟨Pa, u1, u2⟩ := w2.o i A hA
        refine ⟨Pa, OA.stay (P0 := No) u1 k3.z fun _ _ z => z, fun a ha z => ?_⟩
        obtain ⟨o', ho'⟩ := A.dom u1 ha
        rcases z with rfl | rfl
        · rw [n1] at ho'; cases ho'
        · rw [n2] at ho'; cases ho'⟩ [0] (by decide) (by simp) Lf (fun A hA => h2 A s3 k3 hA) ((List.range rs.length).map Sum.inr) (fun i z => by simp at z)
    refine ⟨s3, P1, _, _, x, o, e3, ?_, g1, g2, hm, fun v s' L' hok iv' => (h3 v L' hok).elim, fun e cls d s' L' z iv' r => hw e cls d s' (h4 e L' z) ?_ r⟩
    · have er : rsel [Dy.cell p c []] (rsel L R0 rs) ((List.range rs.length).map Sum.inr) = rsel L R0 rs := by
        apply List.ext_getElem?
        intro i
        unfold rsel
        rw [List.map_map, List.getElem?_map]
        by_cases hi : i < rs.length
        · rw [List.getElem?_range hi]
          simp only [Option.map_some, Function.comp]
          rw [List.getD_eq_getElem?_getD, List.getElem?_map, List.getElem?_eq_getElem hi]
          rfl
        · rw [List.getElem?_eq_none (by rw [List.length_range]; omega), List.getElem?_map, List.getElem?_eq_none (by omega)]; rfl
      rw [er]
      exact h1
    · have iv5 := g4 s' L' iv'
      have k0 := k1.trans k2
      refine ⟨kk.f.trans iv5.m.f, fun a o h => ?_, fun a o h n => ?_⟩
      · have : ¬ (a = p ∨ a = dx) := fun z => by
          rcases z with rfl | rfl
          · rw [k0.h _ _ h] at n1; cases n1
          · rw [k0.h _ _ h] at n2; cases n2
        exact iv5.m.h _ _ (kk.h _ _ h) this
      · have : ¬ (a = p ∨ a = dx) := fun z => by
          rcases z with rfl | rfl
          · rw [k0.h _ _ h] at n1; cases n1
          · rw [k0.h _ _ h] at n2; cases n2
        exact iv5.m.n _ _ (kk.h _ _ h) this (kk.n _ _ h n)
end
end Dy

namespace Dy
open PySem PySem.Spec L2
open PyProof.Rows hiding St
open Enc (rep)
open Flat (toV)
open EncA (repA)

structure Dc (κ α : Type) where
  l : List (κ × α)
instance {κ α : Type} [DKey κ] [Enc α] : Enc (Dc κ α) := ⟨fun K F v x => ∃ p o kv, v = .ref p ∧ F p = some (.frz o (.dK kv)) ∧ KReps K F kv x.l, fun e ⟨p, o, kv, h1, h2, h3⟩ => ⟨p, o, kv, h1, e _ _ h2, h3.mono e⟩⟩
section
variable {α β γ κ τ υ ρ : Type} [Enc α] [Enc β] [Enc γ] [Enc τ] [DKey κ] [DecidableEq κ] {X : Cx} {σ : L2.St} {P0 : Addr → Prop} {s0 s s1 t : S} {L M : List OA} {e a b c o i tg iter elt : Expr} {es : List Expr} {pos p0 p1 p2 p3 : Pos} {D : Ends} {rest body : List Stmt} {n : Str} {p : Addr} {K : PySem.W.Frag}
theorem Iv.tc (h : Iv K P0 s0 s L) (i : Nat) {p : Addr} {vs : List V} (e : L[i]? = some (Dy.tc p vs) := by rfl) : s.H p = some (.tup vs) := by
  obtain ⟨P, ⟨h0, h1⟩, h3⟩ := h.at i e
  exact h1
theorem eg_ev {x : α} (h : Ev X e σ s x) : EvG X e σ s (fun v L' => L' = [fz v x]) := fun s1 k Q q => h s1 k Q fun v s2 k2 r => q v s2 _ rfl (ev_ivf k2 r)
theorem eg_new {xs : List α} (h : EvN X e σ s xs) : EvG X e σ s (fun v L' => ∃ p, v = .ref p ∧ L' = [ol p xs]) := fun s1 k Q q => h s1 k Q fun p s2 k2 n2 r => q _ s2 _ ⟨p, rfl, rfl⟩ (ev_ivl k2 n2 r)
theorem eg_newD {xs : List (κ × α)} (h : EvND X e σ s xs) : EvG X e σ s (fun v L' => ∃ p, v = .ref p ∧ L' = [od p xs]) := fun s1 k Q q => h s1 k Q fun p s2 k2 n2 r => q _ s2 _ ⟨p, rfl, rfl⟩ (ev_ivd k2 n2 r)
theorem eg_raw {v0 : V} (h : Ev X e σ s (Rw.mk v0)) : EvG X e σ s (fun v L' => v = v0 ∧ L' = []) := fun s1 k Q q => h s1 k Q fun v s2 k2 r => q v s2 [] ⟨r, rfl⟩ ((Iv.tops (P0 := No) 0 s1).ex k2)
theorem EvG.imp {ok ok' : V → List OA → Prop} (h : EvG X e σ s ok) (k : ∀ v L', ok v L' → ok' v L') : EvG X e σ s ok' := fun s1 k1 Q q => h s1 k1 Q fun v s2 L' z => q v s2 L' (k v L' z)
theorem ev_of_eg {x : α} {ok : V → List OA → Prop} (h : EvG X e σ s ok) (k : ∀ v L', ok v L' → ∃ M, L' = fz v x :: M) : Ev X e σ s x := fun s1 k1 Q q => h s1 k1 Q fun v s2 L' z iv => by
  obtain ⟨M, rfl⟩ := k v L' z
  exact q v s2 iv.exx (iv.fz 0)
theorem en_of_eg {xs : List α} {ok : V → List OA → Prop} (h : EvG X e σ s ok) (k : ∀ v L', ok v L' → ∃ p M, v = .ref p ∧ L' = ol p xs :: M) : EvN X e σ s xs := fun s1 k1 Q q => h s1 k1 Q fun v s2 L' z iv => by
  obtain ⟨p, M, rfl, rfl⟩ := k v L' z
  exact q p s2 iv.exx (iv.fresh 0) (iv.ol 0)
def EvGs (X : Cx) (es : List Expr) (σ : L2.St) (s : S) (ok : List V → List OA → Prop) : Prop := ∀ s1, Ex s s1 → ∀ Q : List V → Hp → Prop, (∀ vs s2 L', ok vs L' → Iv X.K No s1 s2 L' → Q vs s2.H) → WA X es σ s1.H Q
theorem egs_nil : EvGs X [] σ s (fun vs L' => vs = [] ∧ L' = []) := fun s1 k Q q => wa_of pa_nil (q [] s1 [] ⟨rfl, rfl⟩ (Iv.tops (P0 := No) 0 s1))
theorem egs_cons {ok : V → List OA → Prop} {ok2 : List V → List OA → Prop} (h : EvG X e σ s ok) (hr : EvGs X es σ s ok2) (hs : starEach (e :: es) X.env = (false, eval e X.env) :: starEach es X.env := by rfl) :
    EvGs X (e :: es) σ s (fun vs L' => ∃ v L1 ws L2, vs = v :: ws ∧ L' = L1 ++ L2 ∧ ok v L1 ∧ ok2 ws L2) := fun s1 k Q q =>
  wa_of (pa_cons pe_we pa_wa hs) (h s1 k _ fun v s2 L1 z1 iv1 => hr s2 (k.trans iv1.exx) _ fun ws s3 L2 z2 iv2 => q _ s3 _ ⟨v, L1, ws, L2, rfl, rfl, z1, z2⟩ (iv1.add iv2))
theorem eg_tup {ok : List V → List OA → Prop} {k} (h : EvGs X es σ s ok) (hz : ∀ vs L', ok vs L' → vs.length ≤ 1000) : EvG X (.Tuple es k pos) σ s (fun v L' => ∃ p vs L1, v = .ref p ∧ ok vs L1 ∧ L' = tc p vs :: L1) := fun s1 k1 Q q =>
  we_of (pe_tup pa_wa) (h s1 k1 _ fun vs s2 L1 z1 iv1 => ⟨by rw [sizeLine_eq]; have := hz vs L1 z1; omega, fun p hp => by
    have iv2 : Iv X.K No s2 (s2.newO p (.tup vs) hp) [tc p vs] := Iv.put (L := [top]) (Iv.tops (P0 := No) 1 s2) 0 (Ex.newO hp) ⟨fun a => a = p, ⟨fun _ => Iff.rfl, upd_same⟩, fun a z => by rw [z]; exact ⟨(fF hp : s2.F p = none), hp⟩⟩
    have := iv1.add iv2
    have iv3 := this.sel (M := tc p vs :: L1) (some L1.length :: (List.range L1.length).map some) (by
      have e1 : (some L1.length :: (List.range L1.length).map some).filterMap id = L1.length :: List.range L1.length := by simp
      rw [e1]
      exact List.nodup_cons.mpr ⟨by simp, List.nodup_range⟩) (by
      unfold pick
      rw [List.map_cons]
      congr 1
      · simp [List.getD_eq_getElem?_getD]
      · apply List.ext_getElem?
        intro i
        rw [List.map_map, List.getElem?_map]
        by_cases hi : i < L1.length
        · rw [List.getElem?_range hi]
          simp [List.getD_eq_getElem?_getD, List.getElem?_append_left hi, List.getElem?_eq_getElem hi]
        · rw [List.getElem?_eq_none (by rw [List.length_range]; omega), List.getElem?_eq_none (by omega)]; rfl)
    exact q _ _ _ ⟨p, vs, L1, rfl, z1, rfl⟩ iv3⟩)
theorem do_setG (i : Nat) {n : Str} {py : Pos} {ok : V → List OA → Prop} (h : EvG X e σ s ok) (k : ∀ v s1 L', ok v L' → Iv X.K No s s1 L' → WSs X rest D (σ.set i (some v)) s1.H) (hN : X.N.Nodup) (hx : Loc X.env.scope n := by first | exact Or.inl rfl | exact Or.inr rfl) (hi : X.N[i]? = some n := by rfl)
    (hs : swapsWith e (some (.Name n py)) pos.line X.env = pure false := by rfl) (hf : X.fn n = true ∨ X.env.scope.names.lookup n = some .local := by first | exact .inl rfl | exact .inr rfl) : WSs X (.Assign [.Name n py] e pos :: rest) D σ s.H :=
  do_cons (ps_set hN hi hx pe_we hs hf) (h s (Ex.refl _) _ fun v s1 L' z iv => k v s1 L' z iv)
theorem do_setK (i : Nat) {n : Str} {py : Pos} {Φ : V → S → Prop} (h : EvK X e σ s Φ) (k : ∀ v s1, Φ v s1 → WSs X rest D (σ.set i (some v)) s1.H) (hN : X.N.Nodup) (hx : Loc X.env.scope n := by first | exact Or.inl rfl | exact Or.inr rfl) (hi : X.N[i]? = some n := by rfl)
    (hs : swapsWith e (some (.Name n py)) pos.line X.env = pure false := by rfl) (hf : X.fn n = true ∨ X.env.scope.names.lookup n = some .local := by first | exact .inl rfl | exact .inr rfl) : WSs X (.Assign [.Name n py] e pos :: rest) D σ s.H :=
  do_cons (ps_set hN hi hx pe_we hs hf) (h _ fun v s1 z => k v s1 z)
theorem do_exprK {Φ : V → S → Prop} (h : EvK X e σ s Φ) (k : ∀ v s1, Φ v s1 → WSs X rest D σ s1.H) (hs : swapsWith e none pos.line X.env = pure false := by rfl) : WSs X (.Expr e pos :: rest) D σ s.H :=
  do_cons (ps_expr pe_we hs) (h _ fun v s1 z => k v s1 z)
theorem do_retK {Φ : V → S → Prop} (h : EvK X e σ s Φ) (k : ∀ v s1, Φ v s1 → D.rt v s1.H) : WSs X (.Return (some e) pos :: rest) D σ s.H :=
  do_cons (ps_ret pe_we) (h _ fun v s1 z => k v s1 z)
theorem do_retE (k : D.rt .non s.H) : WSs X (.Return none pos :: rest) D σ s.H := do_cons ps_retN k
theorem ek_of {ok : V → List OA → Prop} (h : EvG X e σ s ok) (iv : Iv X.K P0 s0 s L) : EvK X e σ s (fun v s' => ∃ L', ok v L' ∧ Fle s.F s'.F ∧ Iv X.K P0 s0 s' (L ++ L')) := fun Q q => h s (Ex.refl _) Q fun v s1 L' z iv' => q v s1 ⟨L', z, iv'.m.f, iv.add iv'⟩
theorem do_exprG {ok : V → List OA → Prop} (h : EvG X e σ s ok) (k : ∀ v s1 L', ok v L' → Iv X.K No s s1 L' → WSs X rest D σ s1.H) (hs : swapsWith e none pos.line X.env = pure false := by rfl) : WSs X (.Expr e pos :: rest) D σ s.H :=
  do_cons (ps_expr pe_we hs) (h s (Ex.refl _) _ fun v s1 L' z iv => k v s1 L' z iv)
theorem do_unpK2 (i j : Nat) {Φ : V → S → Prop} (h : EvK X e σ s Φ) (k : ∀ v s1, Φ v s1 → ∃ p v1 v2, v = .ref p ∧ s1.H p = some (.tup [v1, v2]) ∧ WSs X rest D ((σ.set i (some v1)).set j (some v2)) s1.H)
    (hg : PG X tg (gTup X.K 2 (gCons (gName i) (gCons (gName j) gNil)))) (hs : swapsWithSole [tg] e pos.line X.env = pure false := by rfl) (hw : swappedStores [tg] e X.env = pure none := by rfl)
    (h1 : (assignEach [tg] X.env).map (·.2) = [assign tg X.env] := by rfl) : WSs X (.Assign [tg] e pos :: rest) D σ s.H :=
  do_cons (ps_asg pe_we hg hs hw h1) (h _ fun v s1 z => by
    obtain ⟨p, v1, v2, rfl, h0, kk⟩ := k v s1 z
    exact ⟨p, _, rfl, .inl (.inl h0), rfl, v1, _, rfl, v2, _, rfl, rfl, kk⟩)
theorem do_unpK3 (i j l : Nat) {Φ : V → S → Prop} (h : EvK X e σ s Φ) (k : ∀ v s1, Φ v s1 → ∃ p v1 v2 v3, v = .ref p ∧ s1.H p = some (.tup [v1, v2, v3]) ∧ WSs X rest D (((σ.set i (some v1)).set j (some v2)).set l (some v3)) s1.H)
    (hg : PG X tg (gTup X.K 3 (gCons (gName i) (gCons (gName j) (gCons (gName l) gNil))))) (hs : swapsWithSole [tg] e pos.line X.env = pure false := by rfl) (hw : swappedStores [tg] e X.env = pure none := by rfl)
    (h1 : (assignEach [tg] X.env).map (·.2) = [assign tg X.env] := by rfl) : WSs X (.Assign [tg] e pos :: rest) D σ s.H :=
  do_cons (ps_asg pe_we hg hs hw h1) (h _ fun v s1 z => by
    obtain ⟨p, v1, v2, v3, rfl, h0, kk⟩ := k v s1 z
    exact ⟨p, _, rfl, .inl (.inl h0), rfl, v1, _, rfl, v2, _, rfl, v3, _, rfl, rfl, kk⟩)
theorem do_fldG {f cn : Str} {fs : List (Str × V)} {ok : V → List OA → Prop} (iv : Iv X.K P0 s0 s L) (i : Nat) (hA : L[i]? = some (Dy.cell p cn fs)) (ho : Ev X o σ s (Rw.mk (.ref p))) (h : EvG X e σ s ok) (hc : Cls X.K (He.ga X.K cn)) (hn : NoAttr X.K (He.ga X.K cn) f) (hl : fs.length < 1000)
    (k : ∀ v s1 L', ok v L' → Fle s.F s1.F → Iv X.K P0 s0 s1 (L.set i (Dy.cell p cn (putF f v fs)) ++ L') → WSs X rest D σ s1.H)
    (hs : swapsWith e (some (.Attribute o f p1)) pos.line X.env = pure false := by rfl) : WSs X (.Assign [.Attribute o f p1] e pos :: rest) D σ s.H :=
  do_cons (ps_fld pe_we pe_we hs) (h s (Ex.refl _) _ fun v s1 L' z iv1 => ho s1 iv1.exx _ fun u s2 k2 e2 => by
    cases (show u = V.ref p from e2)
    have ivA := (iv.add iv1).ex k2
    have hA2 : (L ++ L')[i]? = some (Dy.cell p cn fs) := by rw [List.getElem?_append_left (List.getElem?_eq_some_iff.mp hA).1]; exact hA
    obtain ⟨P, ⟨dx, h0, h1, h2⟩, h3⟩ := ivA.at i hA2
    have ne : dx ≠ p := ne_of h2 h1 (by intro z; cases z)
    have hf : s2.F p = none := h3 p ((h0 p).mpr (.inl rfl))
    refine ⟨p, _, dx, fs, rfl, h1, hc, hn, hl, ?_⟩
    have iv3 : Iv X.K P0 s0 (s2.put p (.ins (He.ga X.K cn) dx (putF f v fs)) hf) ((L ++ L').set i (Dy.cell p cn (putF f v fs))) := by
      refine ivA.upd i hA2 fun P hP hPf => ⟨P, ?_, ?_, ?_⟩
      · obtain ⟨dx', g0, g1, g2⟩ := hP
        have : dx' = dx := by rw [h1] at g1; cases g1; rfl
        subst this
        exact ⟨dx', g0, upd_same, (upd_ne ne).trans g2⟩
      · exact fun a z => ⟨hPf a z, .inl z⟩
      · have m : Mx (· = p) s2 (s2.put p (.ins (He.ga X.K cn) dx (putF f v fs)) hf) := Mx.put hf
        obtain ⟨dx', g0, g1, g2⟩ := hP
        exact ⟨m.f, fun a o q n => m.h a o q fun z => n ((g0 a).mpr (.inl z)), fun a o q _ z => m.n a o q z, m.d⟩
    rw [List.set_append_left _ _ (List.getElem?_eq_some_iff.mp hA).1] at iv3
    exact k v (s2.put p (.ins (He.ga X.K cn) dx (putF f v fs)) hf) L' z (iv1.m.f.trans k2.f) iv3)
theorem do_setItemP {xs : List α} {x : α} {z : Int} {j : Nat} (ho : Ev X o σ s (Rw.mk (.ref p))) (r : Own X.K s p xs) (he : Ev X e σ s x) (hi : Ev X a σ s z) (hj : ixN xs.length z = some j)
    (k : ∀ s1, Mx (· = p) s s1 → Own X.K s1 p (xs.set j x) → WSs X rest D σ s1.H)
    (ha : ∀ v, assign (.Subscript o a p1) X.env v = (do
      let ov ← holding [v] (eval o X.env)
      let iv ← holding [v, ov] (eval a X.env)
      standAt p1
      holding [v, ov, iv] (setItem ov iv v)
      release [v, ov, iv] []) := by intro _; rfl)
    (hs : swapsWithSole [.Subscript o a p1] e pos.line X.env = pure false := by rfl) (hw : swappedStores [.Subscript o a p1] e X.env = pure none := by rfl)
    (h1 : (assignEach [.Subscript o a p1] X.env).map (·.2) = [assign (.Subscript o a p1) X.env] := by rfl) :
    WSs X (.Assign [.Subscript o a p1] e pos :: rest) D σ s.H :=
  do_cons (ps_asg pe_we (pg_sub pe_we pe_we set_list ha) hs hw h1) (he s (Ex.refl _) _ fun v s1 k1 r1 => ho s1 k1 _ fun w s2 k2 e2 => by
    cases (show w = V.ref p from e2)
    have k12 := k1.trans k2
    exact hi s2 k12 _ fun u s3 k3 r3 => by
      obtain ⟨f0, vs, h2, h3⟩ := r.ex (k12.trans k3)
      refine ⟨p, vs, z, j, rfl, r3, h2, by rw [h3.len]; exact hj, ?_⟩
      exact k (s3.put p (.lst (vs.set j v)) f0) ((k12.trans k3).mx.trans (Mx.put f0)) ⟨f0, _, upd_same, h3.set j (Enc.mono (k2.trans k3).f r1)⟩)
theorem do_appendP {xs : List α} {x : α} (ho : Ev X o σ s (Rw.mk (.ref p))) (r : Own X.K s p xs) (he : Ev X e σ s x) (hz : xs.length < sizeLine)
    (k : ∀ s1, Mx (· = p) s s1 → Own X.K s1 p (xs ++ [x]) → WSs X rest D σ s1.H)
    (hbase : attributeBase o "append" X.env (eval o X.env) = eval o X.env := by rfl)
    (hfew : ((backTo p2 (starEach [e] X.env)).all (fun x => !x.1) && (backToKw p2 (keywordEach [] X.env)).all (fun x => x.1.isSome) && decide (([e] : List Expr).length + ([] : List Keyword).length + (if ([] : List Keyword).isEmpty then 0 else 1) < 30)) = true := by rfl)
    (hline : (p1.endLine == p2.line) = true := by rfl) (hs : starEach [e] X.env = (false, eval e X.env) :: starEach [] X.env := by rfl) (hplain : (backTo p2 (starEach [] X.env)).any (·.1) = false := by rfl)
    (hsw : swapsWith (.Call (.Attribute o "append" p1) [e] [] p2) none p3.line X.env = pure false := by rfl) :
    WSs X (.Expr (.Call (.Attribute o "append" p1) [e] [] p2) p3 :: rest) D σ s.H :=
  do_cons (ps_expr (pe_bm PySem.F.plainAttrs_list PySem.F.slot_list_append PySem.F.type_list_append mt_append pe_we (pa_cons pe_we pa_nil hs) hbase hfew hline hs hplain) hsw) (ho s (Ex.refl _) _ fun w s1 k1 e1 => by
    cases (show w = V.ref p from e1)
    obtain ⟨f1, vs, h2, h3⟩ := r.ex k1
    refine ⟨.inl ⟨rfl, vs, .inl (.inl h2)⟩, he s1 k1 _ fun v s2 k2 r2 => ?_⟩
    obtain ⟨f2, ws, g2, g3⟩ := r.ex (k1.trans k2)
    exact ⟨p, ws, v, rfl, rfl, g2, by rw [g3.len]; exact hz, k (s2.put p (.lst (ws ++ [v])) f2) ((k1.trans k2).mx.trans (Mx.put f2)) ⟨f2, _, upd_same, g3.snoc r2⟩⟩)
theorem raw_tup {vs : List V} {v : V} {z : Int} (h : Ev X e σ s (Rw.mk (.ref p))) (r : s.H p = some (.tup vs)) (hb : Ev X b σ s z) (hv : atI vs z = some v) (hp : PlainIx b := by intro _ _; rfl) : Ev X (.Subscript e b pos) σ s (Rw.mk v) := fun s1 k Q q =>
  we_of (pe_ix ix_tup pe_we pe_we hp) (h s1 k _ fun u s2 k2 e2 => hb s2 (k.trans k2) _ fun w s3 k3 e3 => by
    cases (show u = V.ref p from e2)
    exact ⟨p, vs, z, v, rfl, e3, .inl (.inl (((k.trans k2).trans k3).h _ _ r)), hv, q v s3 (k2.trans k3) rfl⟩)
theorem ev_lenTc {vs : List V} {z : Int} (hm : X.mg "len" = none) (ha : Ev X e σ s (Rw.mk (.ref p))) (r : s.H p = some (.tup vs)) (hz : (vs.length : Int) = z) (hg : Gl X "len" := by rfl) (he : starEach [e] X.env = (false, eval e X.env) :: starEach [] X.env := by rfl) (hpl : (backTo pos (starEach [] X.env)).any (·.1) = false := by rfl) : Ev X (.Call (.Name "len" p0) [e] [] pos) σ s z := fun s1 k Q q =>
  we_of (pe_callB call_len_seq hg hm boot_len (pa_cons pe_we pa_nil he) (he := he) (hpl := hpl)) (ha s1 k _ fun u s2 k2 e2 => by
    cases (show u = V.ref p from e2)
    subst hz
    exact ⟨p, vs, rfl, .inr (.inl (.inl ((k.trans k2).h _ _ r))), q _ s2 k2 rfl⟩)
theorem own_some {xs : List α} (h : Own K s p xs) : Own K s p (xs.map some) := by
  obtain ⟨h0, vs, h1, h2⟩ := h
  refine ⟨h0, vs, h1, ?_⟩
  have : ∀ {vs : List V} {xs : List α}, Reps K s.F vs xs → Reps K s.F vs (xs.map some) := by
    intro vs
    induction vs with
    | nil => intro xs h; cases xs with | nil => trivial | cons _ _ => exact h.elim
    | cons v vs ih => intro xs h; cases xs with
      | nil => exact h.elim
      | cons x xs => exact ⟨h.1, ih h.2⟩
  exact this h2
theorem en_some {xs : List α} (h : EvN X e σ s xs) : EvN X e σ s (xs.map some) := fun s1 k Q q => h s1 k Q fun p s2 k2 n2 o2 => q p s2 k2 n2 (own_some o2)
def memF {ε : Type} [DecidableEq ε] (x : ε) (xs : List ε) : Bool := decide (x ∈ xs)
theorem memF_iff {ε : Type} [DecidableEq ε] {x : ε} {xs : List ε} : memF x xs = true ↔ x ∈ xs := decide_eq_true_iff
theorem eb_inF {ε : Type} [Flat ε] [DecidableEq ε] {x : ε} {xs : List ε} (ha : Ev X a σ s x) (hb : EvR X b σ s xs) (hm : behindInMarks .In b = false := by rfl) : EvB X (.Compare a [.In] [b] pos) σ s (memF x xs) :=
  eb_cmpR op_in_seq ha hb (fun v u s2 hv hu Q q => by
    obtain ⟨p, vs, rfl, h1, h2⟩ := hu
    rw [Flat.iff.mp hv]
    obtain rfl := h2.flat
    refine ⟨p, _, rfl, .inl h1, Flat.flat x, flat_all xs, ?_⟩
    rw [inV_flat]; exact q) hm
theorem eb_notInF {ε : Type} [Flat ε] [DecidableEq ε] {x : ε} {xs : List ε} (ha : Ev X a σ s x) (hb : EvR X b σ s xs) (hm : behindInMarks .NotIn b = false := by rfl) : EvB X (.Compare a [.NotIn] [b] pos) σ s (!memF x xs) :=
  eb_cmpR op_notIn_seq ha hb (fun v u s2 hv hu Q q => by
    obtain ⟨p, vs, rfl, h1, h2⟩ := hu
    rw [Flat.iff.mp hv]
    obtain rfl := h2.flat
    refine ⟨p, _, rfl, .inl h1, Flat.flat x, flat_all xs, ?_⟩
    rw [inV_flat]; exact q) hm
def S.all (s : S) : S := ⟨s.H, s.H, fun _ _ h => h⟩
def EvV {A : Type} [EncA A] (X : Cx) (es : List Expr) (σ : L2.St) (s : S) (a : A) : Prop := ∀ s1, Ex s s1 → ∀ Q : List V → Hp → Prop, (∀ vs s2, Ex s1 s2 → repA X.K s2.H vs a → Q vs s2.H) → WA X es σ s1.H Q
theorem evv_nil : EvV X [] σ s () := fun s1 k Q q => wa_of pa_nil (q [] s1 (Ex.refl _) rfl)
theorem repA_H {A : Type} [EncA A] {vs : List V} {a : A} (e : Ex s t) (h : repA K s.H vs a) : repA K t.H vs a := EncA.monoA e.h h
theorem evv_cons {A : Type} [EncA A] {x : α} {r : A} (h : Ev X e σ s x) (hr : EvV X es σ s r) (hs : starEach (e :: es) X.env = (false, eval e X.env) :: starEach es X.env := by rfl) : EvV X (e :: es) σ s (x, r) := fun s1 k Q q =>
  wa_of (pa_cons pe_we pa_wa hs) (h s1 k _ fun v s2 k2 r2 => hr s2 (k.trans k2) _ fun vs s3 k3 r3 => q _ s3 (k2.trans k3) ⟨v, vs, rfl, Enc.mono (Fle.trans k3.f s3.sub) r2, r3⟩)
theorem evv_consR {A : Type} [EncA A] {xs : List α} {r : A} (h : EvR X e σ s xs) (hr : EvV X es σ s r) (hs : starEach (e :: es) X.env = (false, eval e X.env) :: starEach es X.env := by rfl) : EvV X (e :: es) σ s (xs, r) := fun s1 k Q q =>
  wa_of (pa_cons pe_we pa_wa hs) (h s1 k _ fun v s2 k2 r2 => hr s2 (k.trans k2) _ fun vs s3 k3 r3 => q _ s3 (k2.trans k3) ⟨v, vs, rfl, by
    obtain ⟨p, vs, e1, h1, h2⟩ := r2.ex k3
    exact ⟨p, vs, e1, h1, h2.mono s3.sub⟩, r3⟩)
def S.backH (s t : S) (h : ∀ a o, s.H a = some o → t.H a = some o) : S := ⟨s.F, t.H, fun a o q => h a o (s.sub a o q)⟩
theorem backH_ex (e : Ex s.all t) : Ex s (s.backH t e.h) := ⟨fun _ _ h => h, e.h, fun _ _ _ h => h⟩
theorem ev_callT {A ε : Type} [EncA A] [Flat ε] {m : A → Option ε} {n : Str} {k j : Nat} {x : A} {r : ε} (C : Cal X.prog X.w X.K X.mg X.base CX0 k n (sp X.K m)) (hr : Room j X.A) (hk : k ≤ j) (ha : EvV X (e :: es) σ s x) (h : m x = some r) (hg : Gl X n := by rfl)
    (hdb : (n == ("__debug__" : Str)) = false := by decide) (he : starEach (e :: es) X.env = (false, eval e X.env) :: starEach es X.env := by rfl) (hpl : (backTo pos (starEach es X.env)).any (·.1) = false := by rfl) : Ev X (.Call (.Name n p0) (e :: es) [] pos) σ s r := fun s1 k1 Q q =>
  we_of (pe_c0 C hr hk hg pa_wa hdb he hpl) (ha s1 k1 _ fun vs s2 k2 r2 => ⟨s2.all, x, r, rfl, by rw [List.append_nil]; exact r2, h, fun v s3 k3 r3 => q v (s2.backH s3 k3.h) (k2.trans (backH_ex k3)) (Flat.iff.mpr (Flat.iff.mp r3))⟩)
theorem en_callT {A ε : Type} [EncA A] [Flat ε] {m : A → Option (List ε)} {n : Str} {k j : Nat} {x : A} {r : List ε} (C : Cal X.prog X.w X.K X.mg X.base CX0 k n (spN X.K m)) (hr : Room j X.A) (hk : k ≤ j) (ha : EvV X (e :: es) σ s x) (h : m x = some r) (hg : Gl X n := by rfl)
    (hdb : (n == ("__debug__" : Str)) = false := by decide) (he : starEach (e :: es) X.env = (false, eval e X.env) :: starEach es X.env := by rfl) (hpl : (backTo pos (starEach es X.env)).any (·.1) = false := by rfl) : EvN X (.Call (.Name n p0) (e :: es) [] pos) σ s r := fun s1 k1 Q q =>
  we_of (pe_c0 C hr hk hg pa_wa hdb he hpl) (ha s1 k1 _ fun vs s2 k2 r2 => ⟨s2.all, x, r, rfl, by rw [List.append_nil]; exact r2, h, fun p s3 k3 n3 ⟨_, vs, o1, o2⟩ => q p (s2.backH s3 k3.h) (k2.trans (backH_ex k3)) (fr_back k2 n3) ⟨(fF (s := s2) n3 : s2.F p = none), vs, o1, by rw [o2.flat]; exact Reps.of_flat _⟩⟩)
theorem do_frzD {ss : List Stmt} {xs : List (κ × α)} (iv : Iv X.K P0 s0 s L) (i : Nat) (hA : L[i]? = some (Dy.od p xs)) (k : ∀ s', Fle s.F s'.F → Iv X.K P0 s0 s' (L.set i (fz (.ref p) (Dc.mk xs))) → WSs X ss D σ s'.H) : WSs X ss D σ s.H := fun pins sh I => by
  obtain ⟨hf, kv, h1, h2⟩ := iv.od i hA
  obtain ⟨ob, I2⟩ := I.lock h1 trivial
  have iv1 := iv.lock i ob hA hf h1 h2
  have f : Fle s.F (upd s.F p (.frz ob (.dK kv))) := fun a o q => by rw [upd_ne (ne_of_none q hf)]; exact q
  let s' : S := ⟨upd s.F p (.frz ob (.dK kv)), upd s.H p (.frz ob (.dK kv)), fun a o q => by
    unfold upd at q ⊢
    split
    · rename_i e; rw [if_pos e] at q; exact q
    · rename_i e; rw [if_neg e] at q; exact s.sub a o q⟩
  refine k s' f ?_ pins sh I2
  obtain ⟨φ, g1, g2, g3⟩ := iv.o
  have hi : i < L.length := (List.getElem?_eq_some_iff.mp hA).1
  have hp : φ i p := ((g1 i _ hA).1 p).mpr rfl
  have hx : P0 p ∨ s0.H p = none := (g3 i p hp).2.1
  refine ⟨⟨iv.m.f.trans f, fun a o q n => ?_, fun a o q np n => ?_, fun a o q => ?_⟩, fun j a => if j = i then False else φ j a, fun j B hB => ?_, fun j k a q r => ?_, fun j a q => ?_⟩
  · have ne : a ≠ p := fun z => by
      subst z
      rcases hx with w | w
      · exact n w
      · rw [w] at q; cases q
    exact (upd_ne ne).trans (iv.m.h a o q n)
  · have ne : a ≠ p := fun z => by
      subst z
      rcases hx with w | w
      · exact np w
      · rw [w] at q; cases q
    exact (upd_ne ne).trans (iv.m.n a o q np n)
  · by_cases e : a = p
    · exact ⟨_, by rw [e]; exact upd_same⟩
    · obtain ⟨u, hu⟩ := iv.m.d a o q
      exact ⟨u, (upd_ne e).trans hu⟩
  · by_cases e : j = i
    · subst e
      rw [List.getElem?_set_self hi] at hB
      cases hB
      exact ⟨⟨p, ob, kv, rfl, upd_same, h2.mono f⟩, fun a => by simp⟩
    · rw [List.getElem?_set_ne (Ne.symm e)] at hB
      simp only [e, if_false]
      exact B.mono f (B.loc (fun a q => upd_ne fun z => e (g2 _ _ _ q (z ▸ hp))) (g1 j B hB))
  · by_cases e : j = i
    · simp only [e, if_true] at q
    · by_cases e2 : k = i
      · simp only [e2, if_true] at r
      · simp only [e, if_false] at q
        simp only [e2, if_false] at r
        exact g2 _ _ _ q r
  · by_cases e : j = i
    · simp only [e, if_true] at q
    · simp only [e, if_false] at q
      obtain ⟨z1, z2, z3⟩ := g3 j a q
      have ne : a ≠ p := fun z => e (g2 _ _ _ q (z ▸ hp))
      exact ⟨(upd_ne ne).trans z1, z2, by rw [List.length_set]; exact z3⟩
theorem ei_itemsF {elts : List Expr} {kk : Nat} {tpos : Pos} {x : Dc κ α} (h : Ev X e σ s x) (hbase : attributeBase e "items" X.env (eval e X.env) = eval e X.env := by rfl) (hline : (p1.endLine == pos.line) = true := by rfl) : EvI X (.Tuple elts kk tpos) (.Call (.Attribute e "items" p1) [] [] pos) σ s x.l := fun s1 k R q =>
  wi_of (pi_items pe_we hbase hline) (h s1 k _ fun v s2 k2 r2 => by
    obtain ⟨p, ob, kv, rfl, h1, h2⟩ := r2
    exact ⟨p, ob, kv, rfl, s2.sub _ _ h1, q _ s2 k2 ⟨fun i t z f hz => by
      obtain ⟨w, h3, h4⟩ := h2.get hz
      refine ⟨⟨t.sub _ _ (f _ _ h1), (List.getElem?_eq_some_iff.mp h3).1⟩, fun y H' ⟨T, k', v', h5, h6, h7, h8⟩ => ⟨t.newF T (.tup [kV k', v']) h7, h8.symm, Ex.newF h7, ?_⟩⟩
      rw [h3] at h5
      cases h5
      rw [h6]
      exact ⟨T, _, _, rfl, tup_new h7, Flat.iff.mpr (DKey.kv _), Enc.mono (Ex.newF h7).f (Enc.mono f h4)⟩, fun i t f hi => ⟨t.sub _ _ (f _ _ h1), by rw [h2.len]; exact hi⟩⟩⟩)
end
section
variable {α β κ ε : Type} [Enc α] [Enc β] [DKey κ] [DecidableEq κ] {X : Cx} {σ : L2.St} {P0 : Addr → Prop} {s0 s : S} {L R : List OA} {e a b : Expr} {pos p0 p1 : Pos} {p : Addr} {K : PySem.W.Frag}
theorem en_lockI {ys : List β} {xs : List (κ × α)} (iv : Iv X.K P0 s0 s L) (i : Nat) (hA : L[i]? = some (Dy.od p xs)) (h : ∀ (ob : Obj) (kv : List (Key × V)) (s1 : S), Iv X.K P0 s0 s1 (L.set i (Dy.odl p ob kv xs)) → EvN X e σ s1 ys) : EvN X e σ s ys := fun s1 k Q q => by
  obtain ⟨hf, kv, h1, h2⟩ := iv.od i hA
  refine we_of (pe_lock pe_we) ⟨p, .dK kv, k.h _ _ h1, trivial, fun ob => ?_⟩
  obtain ⟨hf1, kx⟩ := lk_ex (ob := ob) hf h1 k
  refine h ob kv (s.put p (.frz ob (.dK kv)) hf) (iv.lock i ob hA hf h1 h2) _ kx _ fun p2 s2 k2 n2 o2 => ?_
  obtain ⟨hf2, g1, k3⟩ := lk_back hf1 (k.h _ _ h1) k2
  refine ⟨g1, ?_⟩
  have ne : p2 ≠ p := fun z => by
    have : upd s1.H p (.frz ob (.dK kv)) p2 = none := n2
    rw [z, upd_same] at this; cases this
  have n2' : s1.H p2 = none := by
    have : upd s1.H p (.frz ob (.dK kv)) p2 = none := n2
    rw [upd_ne ne] at this; exact this
  obtain ⟨o1, vs, o3, o4⟩ := o2
  exact q p2 (s2.put p (.dK kv) hf2) k3 n2' ⟨o1, vs, (upd_ne ne).trans o3, o4⟩
theorem Iv.gd (h : Iv K P0 s0 s L) (i : Nat) {o : Obj} {kv : List (Key × V)} {xs : List (κ × α)} (e : L[i]? = some (Dy.odl p o kv xs) := by rfl) : GD K p o kv xs s := (h.odl i e).2
theorem ro0 : Ro K P0 s [] := ⟨fun i A e => by cases e⟩
def AllF (K : PySem.W.Frag) (s : S) (L : List OA) : Prop := ∀ A ∈ L, A.p K s.F s.H No
theorem all_nil : AllF K s [] := fun A h => by cases h
theorem all_cons {v : V} {x : α} (r : rep K s.F v x) (h : AllF K s L) : AllF K s (fz v x :: L) := fun A hA => by
  rcases List.mem_cons.mp hA with rfl | hA
  · exact ⟨r, fun _ z => z⟩
  · exact h A hA
theorem AllF.ex {t : S} (h : AllF K s L) (e : Ex s t) : AllF K t L := fun A hA => OA.stay (P0 := No) (h A hA) e.z fun _ _ z => z
class EqO (ε : Type) extends Flat ε where
  sc : ∀ x y : ε, scal (toV x) (toV y) = true
  ij : ∀ x y : ε, toV x = toV y ↔ x = y
instance : EqO (Option Int) := { sc := fun x y => by cases x <;> cases y <;> rfl, ij := fun x y => by cases x <;> cases y <;> simp [Flat.toV] }
instance : EqO (Option Str) := { sc := fun x y => by cases x <;> cases y <;> rfl, ij := fun x y => by cases x <;> cases y <;> simp [Flat.toV] }
theorem eb_eqF {ε : Type} [EqO ε] [DecidableEq ε] {x y : ε} (ha : Ev X a σ s x) (hb : Ev X b σ s y) : EvB X (.Compare a [.Eq] [b] pos) σ s (decide (x = y)) :=
  eb_cmp op_eq ha hb (fun v u s2 hv hu Q q => by
    rw [Flat.iff.mp hv, Flat.iff.mp hu]
    refine ⟨EqO.sc x y, ?_⟩
    rw [show decide (toV x = toV y) = decide (x = y) from decide_eq_decide.mpr (EqO.ij x y)]
    exact q) (nomark _)
theorem eb_neF {ε : Type} [EqO ε] [DecidableEq ε] {x y : ε} (ha : Ev X a σ s x) (hb : Ev X b σ s y) : EvB X (.Compare a [.NotEq] [b] pos) σ s (!decide (x = y)) :=
  eb_cmp op_ne ha hb (fun v u s2 hv hu Q q => by
    rw [Flat.iff.mp hv, Flat.iff.mp hu]
    refine ⟨EqO.sc x y, ?_⟩
    rw [show decide (toV x = toV y) = decide (x = y) from decide_eq_decide.mpr (EqO.ij x y)]
    exact q) (nomark _)
theorem eb_ch_lt_lt {x y z : Int} {c : Expr} (ha : Ev X a σ s x) (hb : Ev X b σ s y) (hc : Ev X c σ s z) (hm : lastMarks [.Lt, .Lt] [b, c] = false := by with_unfolding_all rfl) : EvB X (.Compare a [.Lt, .Lt] [b, c] pos) σ s (decide (x < y) && decide (y < z)) := eb_chain op_lt rfl op_lt rfl ha hb hc hm
theorem eb_ch_lt_le {x y z : Int} {c : Expr} (ha : Ev X a σ s x) (hb : Ev X b σ s y) (hc : Ev X c σ s z) (hm : lastMarks [.Lt, .LtE] [b, c] = false := by with_unfolding_all rfl) : EvB X (.Compare a [.Lt, .LtE] [b, c] pos) σ s (decide (x < y) && decide (y ≤ z)) := eb_chain op_lt rfl op_le rfl ha hb hc hm
theorem eb_ch_le_lt {x y z : Int} {c : Expr} (ha : Ev X a σ s x) (hb : Ev X b σ s y) (hc : Ev X c σ s z) (hm : lastMarks [.LtE, .Lt] [b, c] = false := by with_unfolding_all rfl) : EvB X (.Compare a [.LtE, .Lt] [b, c] pos) σ s (decide (x ≤ y) && decide (y < z)) := eb_chain op_le rfl op_lt rfl ha hb hc hm
theorem eb_ch_le_le {x y z : Int} {c : Expr} (ha : Ev X a σ s x) (hb : Ev X b σ s y) (hc : Ev X c σ s z) (hm : lastMarks [.LtE, .LtE] [b, c] = false := by with_unfolding_all rfl) : EvB X (.Compare a [.LtE, .LtE] [b, c] pos) σ s (decide (x ≤ y) && decide (y ≤ z)) := eb_chain op_le rfl op_le rfl ha hb hc hm
theorem ev_isiTc {n : Str} {T : String} {r : Bool} {vs : List V} (hm : X.mg "isinstance" = none) (hn : X.mg n = none) (hv : bootBuiltins n = some (.type T)) (ha : Ev X a σ s (Rw.mk (.ref p))) (hc : s.H p = some (.tup vs)) (h : kitB "tuple" T = some r)
    (hg : Gl X "isinstance" := by rfl) (hgn : Gl X n := by rfl) (he : starEach [a, .Name n p1] X.env = (false, eval a X.env) :: starEach [.Name n p1] X.env := by rfl) (he2 : starEach [.Name n p1] X.env = (false, eval (.Name n p1) X.env) :: starEach [] X.env := by rfl) (hpl : (backTo pos (starEach [.Name n p1] X.env)).any (·.1) = false := by rfl)
    (hnn : n ≠ "__name__" := by decide) (hnd : (n == ("__debug__" : Str)) = false := by decide) :
    Ev X (.Call (.Name "isinstance" p0) [a, .Name n p1] [] pos) σ s r := fun s1 k Q q =>
  we_of (pe_callB call_isi hg hm (by decide +kernel) (pa_cons pe_we (pa_cons (pe_bltn (v := .ty T) hgn hn hv rfl hnn hnd) pa_nil he2) he) (he := he) (hpl := hpl)) (ha s1 k _ fun v s2 k2 r2 => by
    cases (show v = V.ref p from r2)
    exact ⟨.ref p, .ty T, .type "tuple", .type T, r, rfl, .ty T, sqt_ty (K := X.K) (.inl (.inl ((k.trans k2).h _ _ hc))), kit_ty h, q _ s2 k2 rfl⟩)
end
def clsB (K : PySem.W.Frag) (c : Str) (fs ms : List Str) : Bool := PySem.W.plainGet K (He.ga K c) Str.empty && (PySem.W.hasDictIn K (He.ga K c) && (PySem.W.plainOver K (He.ga K c) && (He.eqO (PySem.W.findIn K (.ref (He.ga K c)) "__setattr__") (some (some (.builtin "object.__setattr__"))) &&
  (PySem.W.makesIn K (He.ga K c) && (PySem.W.keepIn K (.ref (He.ga K c)) && ((fs.all fun f => He.eqO (PySem.W.findIn K (.ref (He.ga K c)) f) (some none)) && (ms.all fun m => He.eqO (PySem.W.findIn K (.ref (He.ga K c)) m) (some (some (.ref (He.fAd K (c, some m))))) && (PySem.W.isFn K (.ref (He.fAd K (c, some m))) && PySem.W.keepIn K (.ref (He.fAd K (c, some m)))))))))))
structure ClsF (K : PySem.W.Frag) (c : Str) (fs ms : List Str) : Prop where
  cl : Cls K (He.ga K c)
  ma : PySem.W.makesIn K (He.ga K c) = true
  kp : PySem.W.keepIn K (.ref (He.ga K c)) = true
  na : ∀ f ∈ fs, NoAttr K (He.ga K c) f
  me : ∀ m ∈ ms, Meth K (He.ga K c) m (He.fAd K (c, some m))
theorem clsB_ok {K : PySem.W.Frag} {c : Str} {fs ms : List Str} (h : clsB K c fs ms = true) : ClsF K c fs ms := by
  unfold clsB at h
  obtain ⟨h1, h⟩ := He.ba h
  obtain ⟨h2, h⟩ := He.ba h
  obtain ⟨h3, h⟩ := He.ba h
  obtain ⟨h4, h⟩ := He.ba h
  obtain ⟨h5, h⟩ := He.ba h
  obtain ⟨h6, h⟩ := He.ba h
  obtain ⟨h7, h8⟩ := He.ba h
  refine ⟨⟨h1, h2, h3, He.eqO_ok h4⟩, h5, h6, fun f hf => He.eqO_ok (List.all_eq_true.mp h7 f hf), fun m hm => ?_⟩
  obtain ⟨g1, g⟩ := He.ba (List.all_eq_true.mp h8 m hm)
  obtain ⟨g2, g3⟩ := He.ba g
  exact ⟨He.eqO_ok g1, g2, g3⟩
theorem ClsF.mkOf {K : PySem.W.Frag} {c : Str} {fs ms : List Str} (h : ClsF K c fs ms) (hi : ("__init__" : Str) ∈ ms) : Mk K (He.ga K c) (He.fAd K (c, some "__init__")) := ⟨h.ma, (h.me _ hi).at_, (h.me _ hi).fn, h.kp⟩
end Dy

namespace Dy
open PySem PySem.Spec L2
open PyProof.Rows hiding St
open Enc (rep)
open Flat (toV)
open EncA (repA)
section
variable {X : Cx} {α β γ δ ε κ : Type} [Enc α] [Enc β] [Enc γ] [Enc δ] [Enc ε] [DKey κ] {K : PySem.W.Frag} {σ : L2.St} {s t : S} {a b e o : Expr} {es rest : List Expr} {p : Addr} {v : V} {pos p0 p1 p2 p3 : Pos}
theorem repH_v {x : α} (h : rep K s.F v x) (e : Ex s t) : rep K t.H v x := Enc.mono (Fle.trans e.f t.sub) h
theorem repH_r {xs : List α} (h : RepR K s v xs) (e : Ex s t) : rep K t.H v xs := by
  obtain ⟨p, vs, e1, h1, h2⟩ := h.ex e
  exact ⟨p, vs, e1, h1, h2.mono t.sub⟩
theorem repH_l {xs : List α} (h : Own K s p xs) (e : Ex s t) : rep K t.H (.ref p) xs := repH_r h.r e
theorem repH_t2 {v1 v2 : V} {x : α} {y : β} (h : s.H p = some (.tup [v1, v2])) (e : Ex s t) (h1 : rep K t.H v1 x) (h2 : rep K t.H v2 y) : rep K t.H (.ref p) (x, y) := ⟨p, v1, v2, rfl, .inl (.inl (e.h _ _ h)), h1, h2⟩
theorem repH_t3 {v1 v2 v3 : V} {x : α} {y : β} {z : γ} (h : s.H p = some (.tup [v1, v2, v3])) (e : Ex s t) (h1 : rep K t.H v1 x) (h2 : rep K t.H v2 y) (h3 : rep K t.H v3 z) : rep K t.H (.ref p) (⟨x, y, z⟩ : T3 α β γ) := ⟨p, v1, v2, v3, rfl, .inl (.inl (e.h _ _ h)), h1, h2, h3⟩
theorem repH_t4 {v1 v2 v3 v4 : V} {x : α} {y : β} {z : γ} {w : δ} (h : s.H p = some (.tup [v1, v2, v3, v4])) (e : Ex s t) (h1 : rep K t.H v1 x) (h2 : rep K t.H v2 y) (h3 : rep K t.H v3 z) (h4 : rep K t.H v4 w) : rep K t.H (.ref p) (⟨x, y, z, w⟩ : T4 α β γ δ) := ⟨p, v1, v2, v3, v4, rfl, .inl (.inl (e.h _ _ h)), h1, h2, h3, h4⟩
theorem repH_t5 {v1 v2 v3 v4 v5 : V} {x : α} {y : β} {z : γ} {w : δ} {u : ε} (h : s.H p = some (.tup [v1, v2, v3, v4, v5])) (e : Ex s t) (h1 : rep K t.H v1 x) (h2 : rep K t.H v2 y) (h3 : rep K t.H v3 z) (h4 : rep K t.H v4 w) (h5 : rep K t.H v5 u) : rep K t.H (.ref p) (⟨x, y, z, w, u⟩ : T5 α β γ δ ε) := ⟨p, v1, v2, v3, v4, v5, rfl, .inl (.inl (e.h _ _ h)), h1, h2, h3, h4, h5⟩
theorem evv_consP {A : Type} [EncA A] {x : α} {r : A} (h : Ev X e σ s (Rw.mk v)) (hx : ∀ t, Ex s t → rep X.K t.H v x) (hr : EvV X es σ s r) (hs : starEach (e :: es) X.env = (false, eval e X.env) :: starEach es X.env := by rfl) : EvV X (e :: es) σ s (x, r) := fun s1 k Q q =>
  wa_of (pa_cons pe_we pa_wa hs) (h s1 k _ fun w s2 k2 e2 => by
    cases (show w = v from e2)
    exact hr s2 (k.trans k2) _ fun vs s3 k3 r3 => q _ s3 (k2.trans k3) ⟨v, vs, rfl, hx s3 ((k.trans k2).trans k3), r3⟩)
theorem evv_consG {A : Type} [EncA A] {x : α} {r : A} {ok : V → List OA → Prop} (h : EvG X e σ s ok) (hx : ∀ v s1 s2 L', ok v L' → Iv X.K No s1 s2 L' → rep X.K s2.H v x) (hr : EvV X es σ s r) (hs : starEach (e :: es) X.env = (false, eval e X.env) :: starEach es X.env := by rfl) : EvV X (e :: es) σ s (x, r) := fun s1 k Q q =>
  wa_of (pa_cons pe_we pa_wa hs) (h s1 k _ fun w s2 L' z iv => hr s2 (k.trans iv.exx) _ fun vs s3 k3 r3 => q _ s3 (iv.exx.trans k3) ⟨w, vs, rfl, Enc.mono k3.h (hx w s1 s2 L' z iv), r3⟩)
end
section
variable {X : Cx} {D : Ends} {α : Type} [Enc α] {σ : L2.St} {s : S} {o : Expr} {rest : List Stmt} {p : Addr} {p1 p2 p3 : Pos}
theorem do_clearP {xs : List α} (ho : Ev X o σ s (Rw.mk (.ref p))) (r : Own X.K s p xs)
    (k : ∀ s1, Mx (· = p) s s1 → Own X.K s1 p ([] : List α) → WSs X rest D σ s1.H)
    (hbase : attributeBase o "clear" X.env (eval o X.env) = eval o X.env := by rfl) (hline : (p1.endLine == p2.line) = true := by rfl)
    (hsw : swapsWith (.Call (.Attribute o "clear" p1) [] [] p2) none p3.line X.env = pure false := by rfl) :
    WSs X (.Expr (.Call (.Attribute o "clear" p1) [] [] p2) p3 :: rest) D σ s.H :=
  do_cons (ps_expr (pe_bm0 PySem.F.plainAttrs_list PySem.F.slot_list_clear PySem.F.type_list_clear mt_clear pe_we hbase hline) hsw) (ho s (Ex.refl _) _ fun w s1 k1 e1 => by
    cases (show w = V.ref p from e1)
    obtain ⟨f1, vs, h2, h3⟩ := r.ex k1
    exact ⟨.inl ⟨rfl, vs, .inl (.inl h2)⟩, p, vs, rfl, rfl, h2, k (s1.put p (.lst []) f1) (k1.mx.trans (Mx.put f1)) ⟨f1, _, upd_same, trivial⟩⟩)
end
end Dy

set_option maxHeartbeats 1000000
namespace RT
open PySem PySem.Spec PyProof.Rows PySem.W
section
variable {prog : Program} {w : World} {A : Around} {E : Value → Shared → Prop} {s : Shared}
theorem call_list_rev {it l : Addr} {items : Array Value} {Q : Value → Shared → Prop} (hh : A.handled = none) (hit : s.heap.IsRevIter it l ((items.size : Int) - 1)) (hl : s.heap.IsList l items) (hne : l ≠ it) (hn : items.size ≤ sizeLine)
    (hQ : ∀ (h' : Heap) (tk : Nat) (acc : Array Value) (c' : Nat), (∀ b o, b ≠ it → s.heap.get? b = some o → h'.get? b = some o) → h'.get? s.heap.objs.size = some { cls := .type "list", dict := none, data := .seq acc c', slots := #[] } → ItemsOf (fun i v => items[items.size - 1 - i]? = some v) acc items.size →
      Q (.ref s.heap.objs.size) { s with heap := h', toks := tk }) :
    wpAny (model prog w) A (call (.type "list") [.ref it]) Q E s := by
  refine callType_codes (Q₁ := fun obj s₁ => obj = .ref s.heap.objs.size ∧ s₁ = { s with heap := s.heap.push { cls := .type "list", data := .seq #[] } }) PySem.F.called_list (PySem.F.typeCall_list_1 _) PySem.F.entry_list_init
    (code_list_new _ ⟨rfl, rfl⟩) fun obj s₁ h₁ => ?_
  obtain ⟨rfl, rfl⟩ := h₁
  have hS : (s.heap.push { cls := .type "list", data := .seq #[] }).get? s.heap.objs.size = some { cls := .type "list", data := .seq #[] } := Heap.get?_push_size _ rfl
  obtain ⟨oi, hoi, _⟩ := id hit
  obtain ⟨ol, hol, _⟩ := id hl
  have hSi : s.heap.objs.size ≠ it := Nat.ne_of_gt (Heap.lt_size hoi)
  have hSl : s.heap.objs.size ≠ l := Nat.ne_of_gt (Heap.lt_size hol)
  have hSf : s.heap.objs.size ∉ [it, l] := by simp only [List.mem_cons, List.not_mem_nil, or_false, not_or]; exact ⟨hSi, hSl⟩
  have W := (Walks.listRev (prog := prog) (w := w) (A := A.in1.in1) hh it l hne items).toS
  refine ⟨⟨_, hS, rfl⟩, PySem.F.args_list_init_2 _ _, ?_⟩
  generalize hS0 : s.heap.objs.size = S at *
  have oth0 : ∀ b o, s.heap.get? b = some o → (s.heap.push { cls := .type "list", data := .seq #[] }).get? b = some o := fun b o e => Heap.get?_push_of_some _ e
  show wpAny _ _ (do let old ← Builtin.List.listItems (.ref S); Builtin.List.listUpdate (.ref S) (fun _ => #[]); letGo old.toList.reverse; Builtin.List.listExtendWith (.ref S) (.ref it) .none) _ _ _
  refine wpAny_bind ?_
  unfold Builtin.List.listItems
  refine wpAny_bind (wpAny_seqItems hS rfl (wpAny_pure ?_))
  show wpAny _ _ (updateSeq S (fun _ => #[]) >>= fun _ => letGo (#[] : Array Value).toList.reverse >>= fun _ => Builtin.List.listExtendWith (.ref S) (.ref it) .none) _ _ _
  refine wpAny_bind (wpAny_updateSeq hS rfl ?_)
  have hS₂ := Heap.get?_update_self (Obj.mapSeq (fun _ => (#[] : Array Value))) hS rfl
  have oth : ∀ b o, b ≠ S → s.heap.get? b = some o → ((s.heap.push { cls := .type "list", data := .seq #[] }).update S (Obj.mapSeq (fun _ => (#[] : Array Value)))).get? b = some o :=
    fun b o hb e => (Heap.get?_update_other _ _ (Ne.symm hb)).trans (oth0 b o e)
  generalize hH : (s.heap.push { cls := .type "list", data := .seq #[] }).update S (Obj.mapSeq (fun _ => (#[] : Array Value))) = H2 at *
  refine wpAny_bind (wpAny_letGo ?_)
  have hit1 : H2.IsRevIter it l ((items.size : Int) - 1) := hit.at fun o e => oth it o (Ne.symm hSi) e
  have hl1 : H2.IsList l items := hl.at fun o e => oth l o (Ne.symm hSl) e
  have hT : ({ s with heap := H2 } : Shared).TypeIs (.ref it) "list_reverseiterator" := Heap.IsRevIter.typeIs (s := { s with heap := H2 }) hit1
  have h1 : Builtin.List.listSameRef (.ref S) (.ref it) = false := by simp [Builtin.List.listSameRef, hSi]
  unfold Builtin.List.listExtendWith
  refine wpAny_bind (wpAny_typeOf hT ?_)
  rw [if_neg (by rw [h1]; decide)]
  refine wpAny_bind (wpAny_pyIter_revIter (s := { s with heap := H2 }) hit1 ?_)
  refine wpAny_bind (wpAny_holding ?_)
  unfold Builtin.List.listLengthHint
  refine wpAny_bind (wpAny_specialOf hT nolen_lri ?_)
  show wpAny _ _ (specialOf (Value.ref it) (Str.ofString "__length_hint__") >>= _) _ _ _
  refine wpAny_bind (wpAny_specialOf hT hint_lri ?_)
  generalize hid : ("list_reverseiterator.__length_hint__" : String) = id0
  wp_delta
  rw [show splitId id0 = some ("list_reverseiterator", "__length_hint__") from by subst hid; decide +kernel]
  subst hid
  refine wpAny_bind (wpAny_isInstance (b := true) hT (by rw [isSubtype_type]; kernel_rfl) ?_)
  refine wpAny_pure ?_
  rw [if_neg (by decide)]
  have e0 : ((items.size : Nat) : Int) - 1 - ((0 : Nat) : Int) = (items.size : Int) - 1 := by omega
  refine wpAny_pure ⟨plainId_quiet F.plain_extend_loop _, codeAny_extend_loopS W hn _ hSf _ items.size 0 _ _ _ rfl (Nat.zero_le _) ⟨Nat.zero_le _, by rw [e0]; exact hit1, hl1⟩ hS₂ (ItemsOf.nil _) fun s' acc' c' hm hS' hacc => ?_⟩
  rw [Moved.eq_with hm]
  refine ⟨rfl, hQ s'.heap s'.toks acc' c' (fun b o hb e => hm.heap b o (fun hmem => ?_) (oth b o (fun z => ?_) e)) hS' hacc⟩
  · rcases List.mem_cons.mp hmem with e' | hmem
    · exact absurd (Heap.lt_size e) (by rw [e', hS0]; exact Nat.lt_irrefl _)
    · exact hb (List.mem_singleton.mp hmem)
  · exact absurd (Heap.lt_size e) (by rw [z, hS0]; exact Nat.lt_irrefl _)
end
end RT
namespace L2
open PySem PySem.Spec PyProof.Rows RT
section
variable {X : Cx}
def tLstRev (K : PySem.W.Frag) (te : TE) : TE := fun σ H Q => te σ H fun v H1 => ∃ (a : Addr) (xs : List V), v = .ref a ∧ SqL K H1 a xs ∧ ∀ q, H1 q = none → Q (.ref q) (upd H1 q (.lst xs.reverse))
theorem pe_listRev {e : Expr} {te : TE} {p p2 pos pos2 : Pos} (hc : X.calm = true) (hg : Gl X "list") (hm : X.mg "list" = none) (hg2 : Gl X "reversed") (hm2 : X.mg "reversed" = none) (he : PE X e te)
    (hs : starEach [e] X.env = (false, eval e X.env) :: starEach [] X.env := by rfl)
    (hs2 : starEach [.Call (.Name "reversed" p2) [e] [] pos2] X.env = (false, eval (.Call (.Name "reversed" p2) [e] [] pos2) X.env) :: starEach [] X.env := by rfl) :
    PE X (.Call (.Name "list" p) [.Call (.Name "reversed" p2) [e] [] pos2] [] pos) (tLstRev X.K te) := by
  refine ⟨fun pins s σ H Q I h => ?_⟩
  refine Call_ (ld_blt I hg hm boot_list (PyProof.Rows.callWith_type1 (args_cons (Call_ (ld_blt I hg2 hm2 PyProof.Rows.boot_reversed (PyProof.Rows.callWith_type1 (args_cons (thn (he.run pins s σ H _ I h) fun u s1 ⟨v, H1, I1, r1, q1⟩ => args_nil ?_) hs) hs rfl))) hs2) hs2 rfl))
  obtain ⟨a, xs, ev, hq, q⟩ := q1
  subst ev
  obtain rfl : u = Value.ref a := r1
  obtain ⟨its, rv, p', hz⟩ := I1.list hq
  refine call_reversed_list p'.isList (args_nil ?_)
  have k0 : ∀ b o, s1.heap.get? b = some o → (s1.heap.push (revObj a ((its.toArray.size : Int) - 1))).get? b = some o := fun b o e => Heap.get?_push_of_some _ e
  have I2 : Inv X pins σ H1 { s1 with heap := s1.heap.push (revObj a ((its.toArray.size : Int) - 1)) } := I1.kept (t' := s1.toks) k0
  obtain ⟨f0, f1, f2, f3, f4, f5⟩ := I1.fpOk (H' := H1) (b := s1.heap.objs.size) (Nat.le_refl _) (I1.hok.fresh (Nat.le_refl _))
  have hl := p'.isList
  obtain ⟨ol, hol, _⟩ := id hl
  have hne : a ≠ s1.heap.objs.size := Nat.ne_of_lt (Heap.lt_size hol)
  have hn : its.toArray.size ≤ sizeLine := by rw [List.size_toArray, ← rv.length]; exact hz
  refine call_list_rev (s := { s1 with heap := s1.heap.push (revObj a ((its.toArray.size : Int) - 1)) }) (I1.ok.hd hc) ⟨_, Heap.get?_push_size _ rfl, rfl, rfl⟩ (hl.push _) hne hn fun h' tk acc c' hk hS' hi => ?_
  have hfr : H1 (s1.heap.push (revObj a ((its.toArray.size : Int) - 1))).objs.size = none := I2.hok.fresh (Nat.le_refl _)
  have k1 : ∀ b o, (s1.heap.push (revObj a ((its.toArray.size : Int) - 1))).get? b = some o → ((s1.heap.push (revObj a ((its.toArray.size : Int) - 1))).push { cls := .type "list", dict := none, data := .seq acc c', slots := #[] }).get? b = some o := fun b o e => Heap.get?_push_of_some _ e
  have I3 := I2.laid (t' := s1.toks) k1 (Nat.le_refl _) (show ObjOk X.prog X.w _ _ _ (.lst xs.reverse) from ⟨by rw [List.length_reverse]; exact hz, acc.toList, c', vals_rev rv hi, by rw [Array.toArray_toList]; exact Heap.get?_push_size _ rfl⟩)
  have hin : s1.heap.objs.size ≠ (s1.heap.push (revObj a ((its.toArray.size : Int) - 1))).objs.size := by
    rw [show (s1.heap.push (revObj a ((its.toArray.size : Int) - 1))).objs.size = s1.heap.objs.size + 1 from by simp [Heap.push]]
    omega
  have I4 : Inv X pins σ (upd H1 (s1.heap.push (revObj a ((its.toArray.size : Int) - 1))).objs.size (.lst xs.reverse)) { s1 with heap := h', toks := tk } := Inv.turned (s := { s1 with heap := (s1.heap.push (revObj a ((its.toArray.size : Int) - 1))).push { cls := .type "list", dict := none, data := .seq acc c', slots := #[] } }) I3 (t' := tk) (it := s1.heap.objs.size) (fun b o hb e => by
    rcases PySem.Heap.get?_push_cases e with ⟨e1, e2⟩ | e1
    · rw [e1, e2]; exact hS'
    · exact hk b o hb e1) (by rw [upd_ne hin]; exact f0) f1 f3 f4 f5
  exact ⟨.ref _, _, I4, rfl, q _ hfr⟩
end
end L2
namespace Dy
open PySem PySem.Spec L2
open PyProof.Rows hiding St
section
variable {X : Cx} {α : Type} [Enc α] {σ : L2.St} {s : S} {e : Expr} {p0 p2 pos pos2 : Pos}
theorem en_listRev {xs : List α} (hm : X.mg "list" = none) (hm2 : X.mg "reversed" = none) (ha : EvR X e σ s xs) (hc : X.calm = true := by rfl) (hg : Gl X "list" := by rfl) (hg2 : Gl X "reversed" := by rfl)
    (hs : starEach [e] X.env = (false, eval e X.env) :: starEach [] X.env := by rfl)
    (hs2 : starEach [.Call (.Name "reversed" p2) [e] [] pos2] X.env = (false, eval (.Call (.Name "reversed" p2) [e] [] pos2) X.env) :: starEach [] X.env := by rfl) : EvN X (.Call (.Name "list" p0) [.Call (.Name "reversed" p2) [e] [] pos2] [] pos) σ s xs.reverse := fun s1 k Q q =>
  we_of (pe_listRev hc hg hm hg2 hm2 pe_we hs hs2) (ha s1 k _ fun v s2 k2 r2 => by
    obtain ⟨p, vs, ev, h1, h2⟩ := r2
    exact ⟨p, vs, ev, h1, fun l hl => q l (s2.newO l _ hl) (k2.trans (Ex.newO hl)) (fr_back k2 hl) (own_new hl h2.rev)⟩)
end
end Dy

namespace Dy
open PySem PySem.Spec L2
open PyProof.Rows hiding St
open Enc (rep)
open EncA (repA)
section
variable {X : Cx} {σ : L2.St} {s : S} {a b c : Expr} {pos : Pos} {okA okB : V → List OA → Prop} {x : Bool}
theorem eg_if (h : EvT X c σ s x) (h1 : x = true → EvG X a σ s okA) (h2 : x = false → EvG X b σ s okB) : EvG X (.IfExp c a b pos) σ s (fun v L' => (x = true ∧ okA v L') ∨ (x = false ∧ okB v L')) := fun s1 k Q q =>
  we_of (pe_ifExp pt_wt pe_we pe_we) (h s1 k _ fun s2 k2 => by
    cases x with
    | true => exact iteT (h1 rfl s2 (k.trans k2) Q fun v s3 L' z i => q v s3 L' (.inl ⟨rfl, z⟩) (((Iv.tops (P0 := No) 0 s1).ex k2).add i))
    | false => exact iteF (h2 rfl s2 (k.trans k2) Q fun v s3 L' z i => q v s3 L' (.inr ⟨rfl, z⟩) (((Iv.tops (P0 := No) 0 s1).ex k2).add i)))
end
end Dy

set_option maxHeartbeats 1000000
namespace L2
open PySem PySem.Spec PyProof.Rows
def wAsM (K : PySem.W.Frag) (i : Nat) : List (Value × (Addr → Value → Option Addr → TS)) → WX → Ends → WX
  | [], Wout, _ => Wout
  | (c, ts) :: r, Wout, D => wAs K c i ts (wAsM K i r Wout D) D
inductive HdsAs (X : Cx) (i : Nat) (n : Str) : List ExceptHandler → List (Value × (Addr → Value → Option Addr → TS)) → Prop
  | nil : HdsAs X i n [] []
  | cons {x : Str} {c : Value} {ts : Addr → Value → Option Addr → TS} {b₀ : Stmt} {suite : List Stmt} {np pos' : Pos} {hds : List ExceptHandler} {l : List (Value × (Addr → Value → Option Addr → TS))} (hc : Names X x c)
      (hsu : ∀ (a : Addr) (oe : Obj) (cls : Value) (d : Option Addr) (pn : List (Addr × Obj)), Zc cls d oe → (∃ vs, oe.data = .fields vs) → PSs (X.suite a ((a, oe) :: pn)) (b₀ :: suite) (ts a cls d)) (r : HdsAs X i n hds l) :
      HdsAs X i n (.ExceptHandler (some (.Name x np)) (some n) (b₀ :: suite) pos' :: hds) ((c, ts) :: l)
section
variable {X : Cx} {n : Str} {i : Nat} {body : List Stmt} {h₀ : ExceptHandler} {hds : List ExceptHandler} {l : List (Value × (Addr → Value → Option Addr → TS))} {pos : Pos} {tb : WX → TS} {Wout : WX}
theorem ps_try_asN (hs : X.stack = X.env :: X.outer) (hf : X.env.frame = some X.env.locals) (hN : X.N.Nodup) (hi : X.N[i]? = some n) (hln : X.env.kindOf n = some .local) (tk : Takes X Wout)
    (hb : ∀ (W : WX) (pn : List (Addr × Obj)) (xe : Value → Shared → Prop), Takes (X.tr pn xe) W → PassesOwn (model X.prog X.w) X.A X.env xe → PSs (X.tr pn xe) body (tb W))
    (hh : HdsAs X i n (h₀ :: hds) l) :
    PS X (.Try body (h₀ :: hds) [] [] pos) (fun D σ H => tb (wAsM X.K i l Wout D) D σ H) := by
  refine ⟨fun pins s σ H D I h => ?_⟩
  have ok := I.ok
  have hfr : X.A.frames = some (X.env :: X.outer) := by rw [ok.frames, hs]
  have hloc : Loc X.env.scope n := .inl hln
  refine wpAny_Try_except ?_
  refine wpAny_mono ((hb (wAsM X.K i l Wout D) (X.pn ++ pins) (fun e s₁ => wpAny (model X.prog X.w) X.A (noteFrame e X.env) (fun _ s₂ => wpAny (model X.prog X.w) X.A (setFlight e none) (fun _ s₃ =>
    wpAny (model X.prog X.w) X.A (handleBy e X.env (h₀ :: hds)) (SP X pins D) X.xe s₃) X.xe s₂) X.xe s₁) (fun u s' xx => ?_) PassesOwn.looking).run [] s σ H D (I.toTry _) h) (fun f s1 hsp => ?_) (fun e s1 he => he)
  · -- the catch
    obtain ⟨a, B, sI, pins', σ', H', cls, d, rfl, J', nb, up, sky, na, os, ag, w⟩ := xx
    have J : Inv X pins σ' H' sI := J'.ofTry ok
    have sky' : Sky B (X.env :: X.outer) a (Zc cls d) X.env.locals s'.heap := by rw [← hs]; exact sky
    show wpAny (model X.prog X.w) X.A (noteFrame (.ref a) X.env) _ _ _
    refine Sky.land Zc.steady hfr hf sky' fun h3 fl3 up3 => ?_
    have J3 : Inv X pins σ' H' { s' with heap := h3 } := J.landed nb fl3.1 (up.trans up3) os ag
    obtain ⟨oe3, vs3, he3, hz3, hd3⟩ := fl3.there
    have notFr : ∀ {h : Heap} {o : Obj} {vs : Array Value}, h.FunFrames B (X.env :: X.outer) → h.get? a = some o → o.data = .fields vs → a ∉ frs (X.env :: X.outer) := fun {h o vs} ff e dd hm => by
      obtain ⟨_, o', e', hnf⟩ := ff.mem hm
      rw [e] at e'; cases e'
      exact hnf _ dd
    have nfr := notFr fl3.2.2.1 he3 hd3
    have nL : a ≠ X.env.locals := fun z => nfr (List.mem_filterMap.mpr ⟨X.env, List.mem_cons_self, by rw [hf, z]⟩)
    have nF : a ∉ X.fs := fun hm => by
      obtain ⟨e, he, q⟩ := List.mem_filterMap.mp hm
      exact nfr (List.mem_filterMap.mpr ⟨e, List.mem_cons_of_mem _ he, q⟩)
    have S3 := J3.suite he3 hd3 na nL nF
    have go : ∀ {hds' : List ExceptHandler} {l' : List (Value × (Addr → Value → Option Addr → TS))}, HdsAs X i n hds' l' → wAsM X.K i l' Wout D cls d σ' H' →
        wpAny (model X.prog X.w) X.A (handleBy (.ref a) X.env hds') (SP X pins D) X.xe { s' with heap := h3 } := by
      intro hds' l' hk
      induction hk with
      | nil =>
        intro w
        refine wpAny_handleBy_nil ?_
        obtain ⟨k1, k2, k3, oe, vs, T, oT, ts', he, hz, hd, h1, hr⟩ := id fl3
        unfold PySem.passOn
        refine wpAny_bind (wpAny_field he hd h1 ?_)
        rw [if_neg (show ¬ ((Value.ref T == Value.none) = true) from by simp)]
        have fin : wpAny (model X.prog X.w) X.A (setFlight (.ref a) X.env.frame) (fun _ s4 => wpAny (model X.prog X.w) X.A (throw (.ref a) : Sem Flow) (SP X pins D) X.xe s4) X.xe { s' with heap := h3 } := by
          rw [hf]
          refine HandSPX.setFlight_upZ fl3 fun h4 hh4 up4 => wpAny_throw (tk _ _ ?_)
          exact ⟨a, B, sI, pins, σ', H', cls, d, rfl, J, nb, (up.trans up3).trans up4, .inr (.inr (by rw [hs]; exact hh4)), na, os, ag, w⟩
        first
          | exact wpAny_bind (wpAny_pure (wpAny_bind fin))
          | exact wpAny_bind fin
      | @cons x c ts b₀ suite np pos' hds2 l2 hc hsu r ih =>
        intro w
        obtain ⟨b, hb1, hyes, hno⟩ := w
        refine wpAny_handleBy_cons (codeAny_handlers_test ?_) (by intro q; cases q)
        have LT : PySem.W.Looks (model X.prog X.w) h3 (typeOf (.ref a)) cls := fun A Q E s k q => wpAny_typeOf_ref (k _ _ he3) (by rw [hz3.1]; exact q)
        have LM := PySem.W.exm_one (M := model X.prog X.w) (J3.kIn) LT hb1
        have test : ∀ {Q : Value → Shared → Prop} {E : Value → Shared → Prop}, Q c { s' with heap := h3 } → wpAny (model X.prog X.w) (X.A.mark (some (.ref a))) (eval (.Name x np) X.env) Q E { s' with heap := h3 } := fun {Q E} q => by
          obtain ⟨hg, hdbg, hm | ⟨hm, hv, hnn⟩⟩ := hc
          · exact ld_glob (X := X.suite a ((a, oe3) :: (X.pn ++ pins))) S3 hg hm q hdbg
          · exact ld_blt (X := X.suite a ((a, oe3) :: (X.pn ++ pins))) S3 hg hm hv q hnn hdbg
        refine test (LM.here ?_)
        cases b with
        | true =>
          refine codeAny_handlers_suite_as ?_
          refine HandSPX.lands_againZ fl3 fun h4 fl4 up4 => ?_
          have J4 : Inv X pins σ' H' { s' with heap := h4 } := J.landed nb fl4.1 ((up.trans up3).trans up4) os ag
          obtain ⟨oe4, vs4, he4, hz4, hd4⟩ := fl4.there
          have S4 := J4.suite he4 hd4 na nL nF
          refine store_ok (X := X.suite a ((a, oe4) :: (X.pn ++ pins))) (v := .ref a) S4 hN hi hloc rfl (fun s5 S5 => ?_) (.inr hln)
          refine wpAny_mono ((hsu a oe4 cls d (X.pn ++ pins) hz4 ⟨_, hd4⟩).run [] s5 _ H' _ S5 (hyes rfl a na)) (fun f s6 hsp => ?_) (fun _ _ z => False.elim z)
          have end_ : ∀ {σ6 : St} {H6 : Hp} {Q : Shared → Prop}, Inv (X.suite a ((a, oe4) :: (X.pn ++ pins))) [] σ6 H6 s6 → (∀ s7, Inv X pins (σ6.set i none) H6 s7 → Q s7) →
              wpAny (model X.prog X.w) X.A (do bindName X.env n .none; unbindBehindTheSuite X.env n pos') (fun _ s7 => Q s7) X.xe s6 := fun {σ6 H6 Q} S6 hq => gone_ok (S6.unsuite ok) hN hi hln hq
          cases f with
          | next =>
            obtain ⟨σ6, H6, S6, q6⟩ := hsp
            exact end_ S6 fun s7 J7 => ⟨_, _, J7, q6⟩
          | brk =>
            obtain ⟨σ6, H6, S6, q6⟩ := hsp
            exact end_ S6 fun s7 J7 => ⟨_, _, J7, q6⟩
          | cont =>
            obtain ⟨σ6, H6, S6, q6⟩ := hsp
            exact end_ S6 fun s7 J7 => ⟨_, _, J7, q6⟩
          | ret u =>
            obtain ⟨v6, σ6, H6, S6, r6, q6⟩ := hsp
            exact end_ S6 fun s7 J7 => ⟨_, _, _, J7, r6, q6⟩
        | false => exact ih (hno rfl)
    exact go hh w
  · cases f with
    | next =>
      obtain ⟨σ', H', J', q⟩ := hsp
      exact wpAny_execs_nil ⟨σ', H', J'.ofTry ok, q⟩
    | brk =>
      obtain ⟨σ', H', J', q⟩ := hsp
      exact ⟨σ', H', J'.ofTry ok, q⟩
    | cont =>
      obtain ⟨σ', H', J', q⟩ := hsp
      exact ⟨σ', H', J'.ofTry ok, q⟩
    | ret u =>
      obtain ⟨v, σ', H', J', r, q⟩ := hsp
      exact ⟨v, σ', H', J'.ofTry ok, r, q⟩
end
end L2
namespace Dy
open PySem PySem.Spec L2
open PyProof.Rows hiding St
section
variable {X : Cx} {σ : L2.St} {s : S} {D : Ends} {rest : List Stmt}
theorem was_no {K : PySem.W.Frag} {c : Value} {i : Nat} {ts : Addr → Value → Option Addr → TS} {Wout : WX} {cls : Value} {d : Option Addr} {H : Hp} (h1 : PySem.W.exmOne K cls c = some false) (h2 : Wout cls d σ H) : wAs K c i ts Wout D cls d σ H := ⟨false, h1, fun z => (by cases z), fun _ => h2⟩
theorem do_tryAs2 (i : Nat) {x y n : Str} {c c' : Value} {body suite suite' : List Stmt} {b₀ b₁ : Stmt} {np np' pos pos' pos'' : Pos} {Wout : WX} (hN : X.N.Nodup) (hcN : Names X x c) (hcN' : Names X y c') (tk : Takes X Wout)
    (h : ∀ pn xe, Takes (X.tr pn xe) (wAs X.K c i (fun a cls d D σ H => ∀ (oe : Obj) (pn : List (Addr × Obj)), Zc cls d oe → (∃ vs, oe.data = .fields vs) → WSs (X.suite a ((a, oe) :: pn)) (b₀ :: suite) D σ H)
        (wAs X.K c' i (fun a cls d D σ H => ∀ (oe : Obj) (pn : List (Addr × Obj)), Zc cls d oe → (∃ vs, oe.data = .fields vs) → WSs (X.suite a ((a, oe) :: pn)) (b₁ :: suite') D σ H) Wout { D with nx := fun σ' H' => WSs X rest D σ' H' }) { D with nx := fun σ' H' => WSs X rest D σ' H' }) → PassesOwn (model X.prog X.w) X.A X.env xe →
      WSs (X.tr pn xe) body { D with nx := fun σ' H' => WSs X rest D σ' H' } σ s.H)
    (hs : X.stack = X.env :: X.outer := by rfl) (hf : X.env.frame = some X.env.locals := by rfl) (hi : X.N[i]? = some n := by rfl) (hln : X.env.kindOf n = some .local := by rfl) :
    WSs X (.Try body [.ExceptHandler (some (.Name x np)) (some n) (b₀ :: suite) pos', .ExceptHandler (some (.Name y np')) (some n) (b₁ :: suite') pos''] [] [] pos :: rest) D σ s.H :=
  do_cons (ps_try_asN (l := [(c, fun a cls d D σ H => ∀ (oe : Obj) (pn : List (Addr × Obj)), Zc cls d oe → (∃ vs, oe.data = .fields vs) → WSs (X.suite a ((a, oe) :: pn)) (b₀ :: suite) D σ H), (c', fun a cls d D σ H => ∀ (oe : Obj) (pn : List (Addr × Obj)), Zc cls d oe → (∃ vs, oe.data = .fields vs) → WSs (X.suite a ((a, oe) :: pn)) (b₁ :: suite') D σ H)])
    (tb := fun W D σ H => ∀ pn xe, Takes (X.tr pn xe) W → PassesOwn (model X.prog X.w) X.A X.env xe → WSs (X.tr pn xe) body D σ H)
    hs hf hN hi hln tk (fun W pn xe t po => ⟨fun pins sh σ H D I hh => hh pn xe t po pins sh I⟩)
    (.cons hcN (fun a oe cls d pn hz hv => ⟨fun pins sh σ H D I hh => hh oe pn hz hv pins sh I⟩) (.cons hcN' (fun a oe cls d pn hz hv => ⟨fun pins sh σ H D I hh => hh oe pn hz hv pins sh I⟩) .nil))) h
end
end Dy

namespace Dy
open PySem PySem.Spec L2
open PyProof.Rows hiding St
open Enc (rep)
open EncA (repA)
structure HL4 (α β γ δ : Type) where
  a : α
  b : β
  c : γ
  d : δ
deriving DecidableEq
instance {α β γ δ : Type} [Enc α] [Enc β] [Enc γ] [Enc δ] : Enc (HL4 α β γ δ) := ⟨fun K F v x => ∃ p v1 v2 v3 v4, v = .ref p ∧ SqL K F p [v1, v2, v3, v4] ∧ rep K F v1 x.a ∧ rep K F v2 x.b ∧ rep K F v3 x.c ∧ rep K F v4 x.d, fun e h => by
  obtain ⟨p, v1, v2, v3, v4, rfl, h0, h1, h2, h3, h4⟩ := h
  exact ⟨p, v1, v2, v3, v4, rfl, sql_mono e h0, Enc.mono e h1, Enc.mono e h2, Enc.mono e h3, Enc.mono e h4⟩⟩
instance {α β γ δ : Type} [EqD α] [EqD β] [EqD γ] [EqD δ] : EqD (HL4 α β γ δ) := ⟨fun x => .list [EqD.toD x.a, EqD.toD x.b, EqD.toD x.c, EqD.toD x.d], fun h f => by
  obtain ⟨p, v1, v2, v3, v4, rfl, h0, h1, h2, h3, h4⟩ := h
  exact .lst (sql_mono f h0) (.cons (EqD.dp h1 f) (.cons (EqD.dp h2 f) (.cons (EqD.dp h3 f) (.cons (EqD.dp h4 f) .nil)))), fun x y => by
    obtain ⟨x1, x2, x3, x4⟩ := x
    obtain ⟨y1, y2, y3, y4⟩ := y
    show (PyData.eqv _ _ && (PyData.eqv _ _ && (PyData.eqv _ _ && (PyData.eqv _ _ && true)))) = true ↔ _
    rw [Bool.and_eq_true, Bool.and_eq_true, Bool.and_eq_true, Bool.and_eq_true, EqD.eqv, EqD.eqv, EqD.eqv, EqD.eqv]; simp⟩
section
variable {α β γ δ : Type} [Enc α] [Enc β] [Enc γ] [Enc δ] {X : Cx} {σ : L2.St} {s : S} {es : List Expr} {pos : Pos}
theorem ev_hl4 {x : α} {y : β} {z : γ} {w : δ} (h : EvA X es σ s (x, y, z, w, ())) : Ev X (.List es pos) σ s (⟨x, y, z, w⟩ : HL4 α β γ δ) := fun s1 k Q q =>
  we_of (pe_lst pa_wa) (h s1 k _ fun vs s2 k2 r2 => by
    obtain ⟨v1, _, rfl, r1, v2, _, rfl, r2, v3, _, rfl, r3, v4, _, rfl, r4, rfl⟩ := r2
    exact ⟨show _ ≤ 2 ^ 24 by simp, fun p hp => q _ (s2.newF p (.lst [v1, v2, v3, v4]) hp) (k2.trans (Ex.newF hp)) ⟨p, v1, v2, v3, v4, rfl, .inl (.inl upd_same), Enc.mono (Ex.newF hp).f r1, Enc.mono (Ex.newF hp).f r2, Enc.mono (Ex.newF hp).f r3, Enc.mono (Ex.newF hp).f r4⟩⟩)
end
end Dy
namespace Dy
open PySem PySem.Spec L2
open PyProof.Rows hiding St
open Enc (rep)
open EncA (repA)
section
variable {X : Cx} {σ : L2.St} {s s0 : S} {P0 : Addr → Prop} {L R0 : List OA} {e : Expr} {A O : Type} {pre : List V → A → List OA → List OA → Prop} {m : A → Option O} {ok : List V → A → O → V → List OA → Prop} {er : List V → A → O → Er → List OA → Prop} {Φ : List V → S → Prop} {x : A} {o : O}
theorem ex_callG {er' : Er → Prop} {W : WX} (c : Calls X e σ s (spI X.K pre m ok er) (L2.WE W σ) Φ) (iv : Iv X.K P0 s0 s L) (ro : Ro X.K P0 s0 R0) (rs : List (Nat ⊕ Nat))
    (hp : ∀ vs s2, Ex s s2 → Φ vs s2 → ∃ Lf, pre vs x Lf (rsel L R0 rs) ∧ (∀ A ∈ Lf, A.p X.K s2.F s2.H No) ∧ (∀ v L', ok vs x o v L' → False) ∧ (∀ e L', er vs x o e L' → er' e)) (hm : m x = some o)
    (hw : ∀ e cls d s', er' e → Ex s s' → ExR X.K s'.F e cls d → W cls d σ s'.H) : EvX X e σ s := fun s1 k1 Q =>
  c s1 k1 Q fun vs s2 k2 φ => by
    obtain ⟨Lf, h1, h2, h3, h4⟩ := hp vs s2 (k1.trans k2) φ
    obtain ⟨P1, g1, g2, g3, g4⟩ := call_in (iv.ex (k1.trans k2)) ro [] List.nodup_nil (fun k hk => by simp at hk) Lf h2 rs (fun i _ hk => by simp at hk)
    have hP : ∀ s' L', Iv X.K P1 s2 s' L' → Ex s2 s' := fun s' L' i => by
      have e1 : P1 = fun _ => False := funext fun a => propext ⟨fun z => g3 rfl a z, fun z => z.elim⟩
      subst e1
      exact i.exx
    exact ⟨s2, P1, _, _, x, o, rfl, h1, g1, g2, hm, fun v s' L' hok iv' => (h3 v L' hok).elim, fun e cls d s' L' z iv' r => hw e cls d s' (h4 e L' z) ((k1.trans k2).trans (hP s' L' iv')) r⟩
end
section
def DpRD {α : Type} [ToD α] {K : PySem.W.Frag} {F H : Hp} (f : Fle F H) : ∀ {vs : List V} {xs : List α}, Reps K F vs xs → DpAll K H vs (xs.map ToD.td)
  | [], [], _ => .nil
  | _ :: _, _ :: _, ⟨h, t⟩ => .cons (ToD.tdp h f) (DpRD f t)
  | [], _ :: _, h => h.elim
  | _ :: _, [], h => h.elim
instance {α : Type} [ToD α] : ToD (Tu α) := ⟨fun x => .tuple (x.l.map ToD.td), fun h f => by
  obtain ⟨p, vs, rfl, h1, h2⟩ := h
  exact .tup (sqt_mono f h1) (DpRD f h2)⟩
end
end Dy

namespace Dy
open PySem PySem.Spec L2
open PyProof.Rows hiding St
open Enc (rep)
open EncA (repA)
instance {α β : Type} [Enc α] [Enc β] : Enc (α ⊕ β) := ⟨fun K F v x => match x with
  | .inl y => rep K F v y
  | .inr y => rep K F v y, fun {K F F' v x} e h => by
  cases x with
  | inl y => exact Enc.mono (α := α) e h
  | inr y => exact Enc.mono (α := β) e h⟩
def sm {α β γ : Type} (x : α ⊕ β) (f : α → γ) (g : β → γ) : γ := match x with
  | .inl y => f y
  | .inr y => g y
theorem smL {α β γ : Type} {y : α} {f : α → γ} {g : β → γ} {r : γ} (h : sm (.inl y) f g = r) : f y = r := h
theorem smR {α β γ : Type} {y : β} {f : α → γ} {g : β → γ} {r : γ} (h : sm (.inr y) f g = r) : g y = r := h
end Dy

namespace Dy
open PySem PySem.Spec L2
open PyProof.Rows hiding St

section
variable {M : Model} {A : Around} {E : Value → Shared → Prop} {s : Shared} {env : Env}
def cEnd (M : Model) (A : Around) (E : Value → Shared → Prop) (use : Option (Value → Sem Unit)) (Q : Value → Shared → Prop) (acc : Value) (ce : Env) (r : Result) (t : Shared) : Prop := match r, use with
  | .ok _, none => ∃ m, t.heap.Ns ce.locals m ∧ ∀ g, Heap.SameBut ce.locals t.heap g → Q acc { t with heap := g }
  | .ok _, some u => wpAny M A (u acc) (fun _ t' => ∃ m, t'.heap.Ns ce.locals m ∧ ∀ g, Heap.SameBut ce.locals t'.heap g → Q .none { t' with heap := g }) E t
  | .error x, _ => ∃ m, t.heap.Ns ce.locals m ∧ ∀ g, Heap.SameBut ce.locals t.heap g → wpAny M A (passOn "comprehension.variables-let-go" x ce : Sem Value) (fun _ _ => False) E { t with heap := g }
theorem cEnd_err {use : Option (Value → Sem Unit)} {Q : Value → Shared → Prop} {acc : Value} {ce : Env} {x : Value} {t : Shared} (h : ∃ m, t.heap.Ns ce.locals m ∧ ∀ g, Heap.SameBut ce.locals t.heap g → wpAny M A (passOn "comprehension.variables-let-go" x ce : Sem Value) (fun _ _ => False) E { t with heap := g }) : cEnd M A E use Q acc ce (.error x) t := by
  cases use <;> exact h
theorem cEnd_errE {use : Option (Value → Sem Unit)} {Q : Value → Shared → Prop} {acc : Value} {ce : Env} {x : Value} {t : Shared} (h : cEnd M A E use Q acc ce (.error x) t) : ∃ m, t.heap.Ns ce.locals m ∧ ∀ g, Heap.SameBut ce.locals t.heap g → wpAny M A (passOn "comprehension.variables-let-go" x ce : Sem Value) (fun _ _ => False) E { t with heap := g } := by
  cases use <;> exact h
theorem comp_runs {e : Expr} {scope : Scope} {pos : Pos} {newAcc first : Sem Value} {c0 : Comprehension} {cs : List Comprehension} {cl : List (Str × Addr)} {use : Option (Value → Sem Unit)} {Q : Value → Shared → Prop}
    (h1 : clausesOf e = c0 :: cs) (h2 : ∀ x, foldedSetIterable c0.iter env x = pure x) (h3 : closureFor scope env = pure cl) (h4 : scope.kind = .function) (h5 : ∀ x ∈ scope.names, x.2 = .local → scope.names.lookup x.1 = some .local)
    (h : wpAny M A first (fun x t₁ => wpAny M A (pyIter x) (fun it t₂ => wpAny M A newAcc (fun acc t₃ => wpAny M A (newFunctionEnv scope env.globals cl [] env.qual none .none (some env)) (fun ce t₄ =>
      codeAny M A (.compStart e 0 it acc { ce with scope := relabel scope env }) (cEnd M A E use Q acc { ce with scope := relabel scope env }) t₄) E t₃) E t₂) E t₁) E s) :
    wpAny M A (comprehension e scope env pos newAcc false first use) Q E s := by
  unfold comprehension; rw [h3, h1]
  apply wpAny_bind
  apply wpAny_mono h _ (fun _ _ z => z)
  intro x t₁ k₁
  apply wpAny_bind; apply wpAny_standAt; apply wpAny_bind
  apply wpAny_of_eq (h2 x)
  apply wpAny_bind; apply wpAny_holding
  apply wpAny_mono k₁ _ (fun _ _ z => z)
  intro it t₂ k₂
  apply wpAny_standIf; apply wpAny_bind
  apply wpAny_mono k₂ _ (fun _ _ z => z)
  intro acc t₃ k₃
  apply wpAny_bind; apply wpAny_pure; apply wpAny_bind
  apply wpAny_mono k₃ _ (fun _ _ z => z)
  intro ce t₄ k₄
  dsimp only
  generalize hce : ({ ce with scope := relabel scope env } : Env) = ce' at k₄
  have hl : ce'.locals = ce.locals := by subst hce; rfl
  have hk : ce'.scope.kind = .function := by subst hce; exact h4
  have hv : ∀ x ∈ (scope.names.filter fun x => (x.2 == .local || x.2 == .cell) && x.1 != (".0" : Str)).reverse, x.2 = .local → Env.kindOf ce' x.1 = some .local := by
    intro x hx e
    subst hce
    exact lookup_relabel_local (h5 x (List.mem_filter.mp (List.mem_reverse.mp hx)).1 e)
  have hw : ∀ x ∈ (scope.names.filter fun x => (x.2 == .local || x.2 == .cell) && x.1 != (".0" : Str)).reverse.drop 1 ++ (scope.names.filter fun x => (x.2 == .local || x.2 == .cell) && x.1 != (".0" : Str)).reverse.take 1, x.2 = .local → Env.kindOf ce' x.1 = some .local := by
    intro x hx e
    exact (List.mem_append.mp hx).elim (fun z => hv x (List.mem_of_mem_drop z) e) fun z => hv x (List.mem_of_mem_take z) e
  apply wpAny_holding; apply wpAny_bind; apply wpAny_attempt; apply wpAny_holding
  subst hce
  refine wpAny_run (codeAny_mono k₄ ?_)
  intro r t₅ k₅
  rcases r with x | f
  · obtain ⟨m, n, k⟩ := cEnd_errE k₅
    refine wpAny_bind (wpAny_holding (wpAny_comp_letGo hk _ t₅ m hv n ?_))
    intro g m' _ sb
    exact wpAny_mono (k g sb) (fun _ _ z => z.elim) (fun _ _ z => z)
  · cases use with
    | none =>
      obtain ⟨m, n, k⟩ := k₅
      refine wpAny_bind (wpAny_holding (wpAny_comp_letGo hk _ t₅ m hv n ?_))
      intro g m' _ sb
      exact wpAny_pure (k g sb)
    | some u =>
      apply wpAny_bind; apply wpAny_rule; apply wpAny_bind; apply wpAny_holding
      refine wpAny_mono k₅ ?_ (fun _ _ z => z)
      intro _ t₆ k₆
      obtain ⟨m, n, k⟩ := k₆
      refine wpAny_bind (wpAny_comp_letGo hk _ t₆ m hw n ?_)
      intro g m' _ sb
      exact wpAny_pure (k g sb)
end
theorem note_same {x : Value} {e1 e2 : Env} (h : e1.frame = e2.frame) : noteFrame x e1 = noteFrame x e2 := by
  unfold noteFrame PySem.frameOf
  rw [h]
theorem blk_out {X : Cx} {W : WX} {s3 : Shared} {H3 : Hp} {σ : L2.St} {pins : List (Addr × Obj)} {scope : Scope} {ce : Env} {fp : List Addr} {use : Option (Value → Sem Unit)} {Qf : Value → Shared → Prop} {acc : Value} (tk : Takes X W)
    (hs : X.stack = X.env :: X.outer) (hf : X.env.frame = some X.env.locals) (I3 : Inv X pins σ H3 s3) (f3 : ∀ b ∈ fp, FpOk X pins H3 b ∧ b < s3.heap.objs.size) (cL : ce.locals = s3.heap.objs.size) (cf : ce.frame = X.env.frame) (pn : List (Addr × Obj)) (σ' : L2.St) :
    PassesAt (L2.CX X.prog X.w) ((X.blk s3 H3 scope ce fp).tr pn (notedBy (model X.prog X.w) X.A ce fun e t => cEnd (model X.prog X.w) X.A X.xe use Qf acc ce (.error e) t)) σ' (fun cls d H' => W cls d σ H') := by
  intro ps H s5 e s6 I5 c
  obtain ⟨a, B, H', cls, d, rfl, fl, hokB, ub, na, os, ag, w⟩ := c
  have hfr : X.A.frames = some (X.env :: X.outer) := I3.ok.frames.trans (by rw [hs])
  obtain ⟨m, hm, _⟩ := id I5.loc
  have hm : s5.heap.Ns s3.heap.objs.size m := by rw [← cL]; exact hm
  obtain ⟨oC, es, ep, hC, hCd, hCr⟩ := id hm
  have nC : H s3.heap.objs.size = none := by rw [← cL]; exact I5.free
  have fs : ∀ b ∈ frs X.stack, b < s3.heap.objs.size := fun b hb => by
    obtain ⟨_, o, z, _⟩ := I3.stack.mem hb
    exact Heap.lt_size z
  have nfC : s3.heap.objs.size ∉ frs X.stack := fun z => Nat.lt_irrefl _ (fs _ z)
  have BC : B.get? s3.heap.objs.size = some oC := ub.keep _ _ hC nC nfC
  have un : Un (frs X.stack) fp H3 H s3.heap s5.heap := I5.base
  show wpAny _ X.A (noteFrame (.ref a) ce) _ _ s6
  rw [note_same cf]
  have fl' : HandSPX.FlyingZ B (X.env :: X.outer) a (Zc cls d) s6.heap := by rw [← hs]; exact fl
  refine HandSPX.looks_onZ Zc.steady hfr hf fl' ?_
  intro h1 held up1
  refine cEnd_err ?_
  refine ⟨m, ?_, ?_⟩
  · rw [cL]
    exact ⟨oC, es, ep, held.1 _ _ BC, hCd, hCr⟩
  intro h2 sb
  rw [cL] at sb
  obtain ⟨k1, k2, k3, oe, vs, T, oT, ts, t1, t2, t3, t4, t5, t6, t7, t8, t9⟩ := held
  have aC : a ≠ s3.heap.objs.size := fun z => by rw [z, BC] at k2; cases k2
  have TC : T ≠ s3.heap.objs.size := fun z => by rw [z, BC] at t5; cases t5
  obtain ⟨B', b1, b2⟩ := restrict B fun b => decide (b ≠ s3.heap.objs.size)
  have b1' : ∀ b, b ≠ s3.heap.objs.size → B'.get? b = B.get? b := fun b hb => b1 b (by simpa using hb)
  have b2' : B'.get? s3.heap.objs.size = none := b2 _ (by simp)
  have low : ∀ b o, B'.get? b = some o → B.get? b = some o ∧ b ≠ s3.heap.objs.size := fun b o z => by
    by_cases q : b = s3.heap.objs.size
    · rw [q, b2'] at z; cases z
    · exact ⟨(b1' b q).symm.trans z, q⟩
  have gone : ∀ b, B.get? b = none → B'.get? b = none := fun b z => by
    cases q : B'.get? b with
    | none => rfl
    | some o => rw [(low b o q).1] at z; cases z
  have held2 : HandSPX.HeldZ B' (X.env :: X.outer) a (Zc cls d) X.env.locals h2 := by
    refine ⟨fun b o z => ?_, gone a k2, ?_, oe, vs, T, oT, ts, (sb.2 a aC).trans t1, t2, t3, t4, gone T t5, t6, (sb.2 T TC).trans t7, t8, t9⟩
    · obtain ⟨q1, q2⟩ := low b o z
      exact (sb.2 b q2).trans (k1 b o q1)
    · have all : ∀ l : List Env, (∀ b ∈ frs l, b ≠ s3.heap.objs.size) → h1.FunFrames B l → h2.FunFrames B' l := by
        intro l
        induction l with
        | nil => intro _ _; trivial
        | cons x r ih =>
          intro hne hh
          obtain ⟨f1, ⟨L, o, f2, f3, f4, f5⟩, f6⟩ := hh
          have hL : L ∈ frs (x :: r) := List.mem_filterMap.mpr ⟨x, List.mem_cons_self, f2⟩
          refine ⟨f1, ⟨L, o, f2, gone L f3, (sb.2 L (hne L hL)).trans f4, f5⟩, ih (fun b hb => hne b ?_) f6⟩
          obtain ⟨y, hy, q⟩ := List.mem_filterMap.mp hb
          exact List.mem_filterMap.mpr ⟨y, List.mem_cons_of_mem _ hy, q⟩
      exact all _ (fun b hb => Nat.ne_of_lt (fs b (by rw [hs]; exact hb))) k3
  show wpAny _ X.A (passOn "comprehension.variables-let-go" (.ref a) ce : Sem Value) _ X.xe { s6 with heap := h2 }
  unfold PySem.passOn
  refine wpAny_bind (wpAny_field ((sb.2 a aC).trans t1) t3 t4 ?_)
  have nn : (Value.ref T == Value.none) = false := by simp
  rw [nn, if_neg Bool.false_ne_true]
  refine wpAny_bind ?_
  rw [cf, hf]
  refine HandSPX.setFlight_onZ (s := { s6 with heap := h2 }) held2 ?_
  intro h3 held3 up3
  refine wpAny_throw (tk _ _ ?_)
  obtain ⟨G, g1, g2⟩ := restrict h3 fun b => (B'.get? b).isSome || decide (b ∈ frs X.stack)
  have st3 : B'.StaysIn h3 := held3.1
  have gB : ∀ b o, B'.get? b = some o → G.get? b = some o := fun b o z => (g1 b (by simp [z])).trans (st3 b o z)
  have gF : ∀ b, b ∈ frs X.stack → G.get? b = h3.get? b := fun b hb => g1 b (by simp [hb])
  have og : ∀ b o, G.get? b = some o → h3.get? b = some o ∧ ((B'.get? b).isSome = true ∨ b ∈ frs X.stack) := fun b o z => by
    cases q : ((B'.get? b).isSome || decide (b ∈ frs X.stack)) with
    | false => rw [g2 b q] at z; cases z
    | true => exact ⟨(g1 b q).symm.trans z, by simpa [Bool.or_eq_true] using q⟩
  have n3 : ∀ {b o}, s3.heap.get? b = some o → b ≠ s3.heap.objs.size := fun z => Nat.ne_of_lt (Heap.lt_size z)
  have nHC : H' s3.heap.objs.size = none := ub.free _ _ hC nC
  have slots : ∀ b ∈ frs X.stack, ∀ o, s3.heap.get? b = some o → H3 b = none → b ∉ fp → ∃ sl, G.get? b = some { o with slots := sl } := fun b hb o z hn hx => by
    obtain ⟨_, o', z', nf⟩ := I3.stack.mem hb
    rw [z] at z'; cases z'
    obtain ⟨l1, z1⟩ := un.slot b o z hn hb hx
    obtain ⟨l2, z2⟩ := ub.slot b _ z1 hb
    obtain ⟨l3, z3⟩ := up1 b _ z2 nf
    have z4 := (sb.2 b (n3 z)).trans z3
    obtain ⟨l5, z5⟩ := up3 b _ z4 nf
    exact ⟨l5, (gF b hb).trans z5⟩
  have u : Un (frs X.stack) fp H3 H' s3.heap G := by
    refine ⟨fun b o z hn hb hx => ?_, fun b o z hn hb hx => slots b hb o z hn hx, fun b o z hn hx => ?_, fun b o z hx => ?_, fun b xs z => ub.tups _ _ (un.tups _ _ z), fun b o xs z => ub.frzs _ _ _ (un.frzs _ _ _ z), fun b p z => ?_⟩
    · exact gB b o ((b1' b (n3 z)).trans (ub.keep b o (un.keep b o z hn hb hx) (un.free b o z hn hx) hb))
    · obtain ⟨o', z'⟩ := un.there b o z hx
      exact ub.free b o' z' (un.free b o z hn hx)
    · by_cases hb : b ∈ frs X.stack
      · obtain ⟨_, o', z', _⟩ := I3.stack.mem hb
        rw [z] at z'; cases z'
        obtain ⟨l, q⟩ := slots b hb o z (I3.stkFree b hb) hx
        exact ⟨_, q⟩
      · obtain ⟨o', z'⟩ := un.there b o z hx
        obtain ⟨o2, z2⟩ := ub.there b o' z' hb
        exact ⟨o2, gB b o2 ((b1' b (n3 z)).trans z2)⟩
    · obtain ⟨p1, q1⟩ := un.tbls b p z
      obtain ⟨p2, q2⟩ := ub.tbls b _ q1
      exact ⟨p1 ++ p2, by rw [q2, Array.append_assoc]⟩
  have hokG : HOk X.prog X.w H' G := fun b o q => (hokB b o q).stay (fun c v hc z => gB c v ((b1' c fun e => by
      rcases hc with r | r
      · rw [← r, e, nHC] at q; cases q
      · rw [e, nHC] at r; cases r).trans z)) (fun _ z => z) fun _ _ z => z
  have IG : Inv X pins σ H' { s6 with heap := G } := I3.call' (ch := fp) (by show s6.os = s3.os; rw [os]; exact I5.os) u hokG ag fun b hb => ⟨(f3 b hb).1.2.2.2.1, (f3 b hb).1.2.1, (f3 b hb).1.2.2.2.2.1, (f3 b hb).1.2.2.2.2.2⟩
  refine ⟨a, B', { s6 with heap := G }, pins, σ, H', cls, d, rfl, IG, fun b o z hb => ?_, Heap.UpToSlots.of_keeps fun b o z => (og b o z).1, .inr (.inr ?_), na, rfl, ag, w⟩
  · obtain ⟨z1, z2⟩ := og b o z
    rcases z2 with z2 | z2
    · obtain ⟨o', q⟩ := Option.isSome_iff_exists.mp z2
      rw [st3 b o' q] at z1; cases z1
      exact q
    · exact absurd z2 hb
  · rw [hs]; exact held3
abbrev BlkX (X : Cx) (scope : Scope) (s0 : Shared) (H0 : Hp) (C : Addr) (cl : List (Str × Addr)) (fp : List Addr) (pn : List (Addr × Obj)) (xe : Value → Shared → Prop) : Cx := (X.blk s0 H0 scope (compEnvC scope cl C X.env) fp).tr pn xe
theorem lcx_core {X : Cx} {W : WX} {pins : List (Addr × Obj)} {s : Shared} {σ : L2.St} {H : Hp} {Q : VK} {elt tg iter : Expr} {ifs : List Expr} {scope : Scope} {own : List (Str × Nat)} {pos pos' : Pos} {wi : TI} {g : TG} {tt : TT} {te : TE} {use : Option (Value → Sem Unit)} {Qf : Value → Shared → Prop}
    (hc : X.calm = true) (hN : X.N.Nodup) (tk : Takes X W) (hs0 : X.stack = X.env :: X.outer) (hf0 : X.env.frame = some X.env.locals) (I : Inv X pins σ H s) (hi : PI X tg iter wi) (ok : BlkOk X.N X.env.scope scope own)
    (hg : ∀ (s : Shared) (H : Hp) (C : Addr) (cl : List (Str × Addr)) (fp : List Addr), PG (X.blk s H scope (compEnvC scope cl C X.env) fp) tg g) (ht : ∀ (s : Shared) (H : Hp) (C : Addr) (cl : List (Str × Addr)) (fp : List Addr), PTs (X.blk s H scope (compEnvC scope cl C X.env) fp) ifs tt)
    (he : ∀ s0 H0 C cl fp pn xe, (∀ σ', PassesAt (L2.CX X.prog X.w) (BlkX X scope s0 H0 C cl fp pn xe) σ' (fun cls d H' => W cls d σ H')) → PE (BlkX X scope s0 H0 C cl fp pn xe) elt te) (hs : ∀ x, foldedSetIterable iter X.env x = pure x)
    (h : tLc wi g tt te (own.map (·.2)) σ H Q)
    (hRR : ∀ D ce s' m H', Inv X pins σ H' s' → Q (.ref D) H' → s'.heap.Ns ce.locals m → FpOk X pins H' ce.locals → cEnd (model X.prog X.w) X.A X.xe use Qf (.ref D) ce (.ok .next) s') :
    wpAny (model X.prog X.w) X.A (comprehension (.ListComp elt [⟨tg, iter, ifs, 0⟩] scope pos) scope X.env pos' (newList []) false (eval iter X.env) use) Qf X.xe s := by
  have hfree : ∀ y ∈ scope.names, y.2 = .free → ∃ c, X.env.cells.lookup y.1 = some c := by
    intro y hy e
    exact (ok.free y hy e).elim (fun k => I.ok.has _ (.inl k)) fun k => I.ok.has _ (.inr k)
  refine comp_runs (use := use) rfl hs (closure_ok hfree) ok.kind (fun y hy e => by rw [ok.uniq y hy, e]) ?_
  apply thn (hi.run pins s σ H _ I h)
  intro xv t1 hx
  apply thn hx
  rintro itv t2 ⟨it, fp, tn, J, H2, rfl, I2, T, st2, f2, q⟩
  refine wpAny_newObj_type (newEnv_comp ?_) (by show 0 ≤ sizeLine; decide)
  obtain ⟨D, hD⟩ : ∃ D, D = t2.heap.objs.size := ⟨_, rfl⟩
  rw [← hD]
  obtain ⟨W0, ⟨m0, w0⟩, turn⟩ := q D (I2.hok.fresh (Nat.le_of_eq hD.symm))
  generalize hs3 : ({ t2 with heap := t2.heap.push { cls := .type "list", data := .seq ([] : List Value).toArray } } : Shared) = s3
  have e3 : s3.heap = t2.heap.push { cls := .type "list", data := .seq ([] : List Value).toArray } := by rw [← hs3]
  have I3 : Inv X pins σ (upd H2 D (.lst [])) s3 := by
    subst hs3 hD
    exact I2.laid (t' := t2.toks) (fun b o z => Heap.get?_push_of_some _ z) (Nat.le_refl _) ⟨Nat.zero_le _, [], 0, .nil, Heap.get?_push_size _ rfl⟩
  have f3 : ∀ b ∈ fp, FpOk X pins (upd H2 D (.lst [])) b ∧ b < s3.heap.objs.size := by
    intro b hb
    obtain ⟨o, z, _⟩ := T.obj _ _ st2 b hb
    have lt := Heap.lt_size z
    refine ⟨⟨?_, (f2 b hb).2⟩, by rw [e3, Heap.size_push]; exact Nat.lt_succ_of_lt lt⟩
    rw [upd_ne (by rw [hD]; exact Nat.ne_of_lt lt)]
    exact (f2 b hb).1
  have st3 : tn 0 s3.heap := T.keep _ _ _ st2 fun b _ o z => by rw [e3]; exact Heap.get?_push_of_some _ z
  have I4 := block_start I3 ok hN f3
  show codeAny _ _ (.compStart (.ListComp elt [⟨tg, iter, ifs, 0⟩] scope pos) 0 (.ref it) (.ref D) (compEnvC scope (cellsFrom (s3.heap.objs.size + 1) scope.names (cloFrom X.env.cells scope.names [])) s3.heap.objs.size X.env)) (cEnd (model X.prog X.w) X.A X.xe use Qf (.ref D) (compEnvC scope (cellsFrom (s3.heap.objs.size + 1) scope.names (cloFrom X.env.cells scope.names [])) s3.heap.objs.size X.env)) { s3 with heap := pushCells (s3.heap.push { cls := .type "dict", data := .dict #[] }) scope.names }
  generalize cellsFrom (s3.heap.objs.size + 1) scope.names (cloFrom X.env.cells scope.names []) = cl at I4 ⊢
  have pg := hg s3 (upd H2 D (.lst [])) s3.heap.objs.size cl fp
  have pt := ht s3 (upd H2 D (.lst [])) s3.heap.objs.size cl fp
  have px := he s3 (upd H2 D (.lst [])) s3.heap.objs.size cl fp
  unfold BlkX at px
  have pas := fun pn σ' => blk_out (scope := scope) (ce := compEnvC scope cl s3.heap.objs.size X.env) (use := use) (Qf := Qf) (acc := .ref D) tk hs0 hf0 I3 f3 rfl rfl pn σ'
  have n3 : ∀ b ∈ fp, (upd H2 D (.lst [])) b = none := fun b hb => (f3 b hb).1.1
  have cL : (compEnvC scope cl s3.heap.objs.size X.env).locals = s3.heap.objs.size := rfl
  generalize hce : compEnvC scope cl s3.heap.objs.size X.env = ce at I4 pg pt px pas cL ⊢
  generalize upd H2 D (.lst []) = H3 at I3 I4 pg pt px pas w0 n3 f3
  generalize hs4 : ({ s3 with heap := pushCells (s3.heap.push { cls := .type "dict", data := .dict #[] }) scope.names } : Shared) = s4 at I4 ⊢
  have st4 : tn 0 s4.heap := T.keep _ _ _ st3 fun b _ o z => by rw [← hs4]; exact pushCells_keeps _ _ _ _ (Heap.get?_push_of_some _ z)
  have stat : ∀ {σ' : L2.St} {H' : Hp} {s' : Shared}, Inv (X.blk s3 H3 scope ce fp) [] σ' H' s' → (∀ b ∈ fp, H' b = none) → ∀ b ∈ fp, FpOk (X.blk s3 H3 scope ce fp) [] H' b := by
    intro σ' H' s' I' hn b hb
    exact ⟨hn b hb, (I'.ok.exf b hb).1, I'.ok.exfs b hb, .inl hb, fun x c z => (I'.ok.exf b hb).2 x c z, fun p hp => absurd (show p ∈ ([] : List (Addr × Obj)) ++ [] from hp) (by simp)⟩
  have loop : codeAny (model X.prog X.w) X.A (.compLoop (.ListComp elt [⟨tg, iter, ifs, 0⟩] scope pos) 0 (.ref it) (.ref D) ce) (cEnd (model X.prog X.w) X.A X.xe use Qf (.ref D) ce) s4 := by
    apply compLoop_any (fun n s' => ∃ i H', Inv (X.blk s3 H3 scope ce fp) [] (wipe σ (own.map (·.2))) H' s' ∧ tn i s'.heap ∧ (∀ b ∈ fp, H' b = none) ∧ W0 i n H') _ m0 ⟨0, H3, I4, st4, n3, w0⟩
    rintro n s5 ⟨i, H5, I5, st5, n5, w5⟩
    rcases turn i n H5 w5 with ⟨stop, qq⟩ | ⟨go, Nx, hNx, step⟩
    · apply thnF (T.done (X.blk s3 H3 scope ce fp) rfl rfl rfl hc i [] s5 _ H5 (fun _ _ => False) I5 (stat I5 n5) st5 stop)
      rintro r s6 ⟨rfl, I6⟩
      have I7 : Inv X pins σ H5 s6 := I3.call' (ch := fp) I6.os I6.base I6.hok I6.bare fun b hb => ⟨(f3 b hb).1.2.2.2.1, (f3 b hb).1.2.1, (f3 b hb).1.2.2.2.2.1, (f3 b hb).1.2.2.2.2.2⟩
      have nC : H5 ce.locals = none := I6.free
      obtain ⟨m, hn, _⟩ := I6.loc
      exact hRR D ce s6 m H5 I7 qq hn (I3.fpOk (by rw [cL]; exact Nat.le_refl _) nC)
    · apply thnF (T.item (X.blk s3 H3 scope ce fp) rfl rfl rfl hc i [] s5 _ H5 (fun _ _ => False) I5 (stat I5 n5) st5 go)
      rintro r s6 ⟨u, rfl, h6⟩
      apply thnF h6
      rintro _ s7 ⟨x, H7, I7, r7, y7, st7, n7⟩
      apply thnF (pg.run _ s7 _ H7 x u _ (I7.pinned (stat I7 n7) (T.obj _ _ st7)) r7 (step x H7 y7))
      rintro _ s8 ⟨σ8, H8, I8, hw8, q8⟩
      apply thnF (pt.run _ s8 σ8 H8 _ I8 q8)
      rintro b s9 ⟨H9, I9, q9⟩
      have fin : ∀ {s' : Shared} {H' : Hp}, Inv (X.blk s3 H3 scope ce fp) ([] ++ pinsAt fp s7.heap) σ8 H' s' → Nx H' → ∃ m, m < n ∧ ∃ i H', Inv (X.blk s3 H3 scope ce fp) [] (wipe σ (own.map (·.2))) H' s' ∧ tn i s'.heap ∧ (∀ b ∈ fp, H' b = none) ∧ W0 i m H' := by
        intro s' H' I' nx
        obtain ⟨m', hm, w'⟩ := hNx H' nx
        have pin' : ∀ b ∈ fp, ∀ o, s7.heap.get? b = some o → s'.heap.get? b = some o ∧ H' b = none := by
          intro b hb o z
          obtain ⟨z1, z2, _⟩ := I'.pin (b, o) (List.mem_append_right _ (List.mem_append_right _ (mem_pinsAt hb z)))
          exact ⟨z1, z2⟩
        refine ⟨m', hm, i + 1, H', (I'.unpinned (pins := [])).weak (by rw [← hw8, wipe_length]) ?_, T.keep _ _ _ st7 fun b hb o z => (pin' b hb o z).1, ?_, w'⟩
        · intro j v z
          rw [← hw8] at z
          exact (wipe_some z).1
        · intro b hb
          obtain ⟨o, z, _⟩ := T.obj _ _ st7 b hb
          exact (pin' b hb o z).2
      cases b with
      | false =>
        rw [if_neg Bool.false_ne_true] at q9 ⊢
        exact fin I9 q9
      | true =>
        rw [if_pos rfl] at q9 ⊢
        have pe := px _ _ (pas ((X.blk s3 H3 scope ce fp).pn ++ ([] ++ pinsAt fp s7.heap)))
        refine wpAny_mono (pe.run [] s9 σ8 H9 _ (I9.toTry _) q9) ?_ (fun _ _ z => z)
        rintro z s10 ⟨yv, H10, I10, r10, acc, hD10, hz10, nx⟩
        exact app_ok (X := X.blk s3 H3 scope ce fp) (I10.ofTry I9.ok) hD10 hz10 r10 fun s11 I11 => fin I11 nx
  exact codeAny_compStart_list loop (T.self X.A 0 _ _ _ st4 loop)
end Dy

namespace Dy
open PySem PySem.Spec L2
open PyProof.Rows hiding St
open Enc (rep)
open EncA (repA)

def mapR {α β : Type} (f : α → Option (Rz β)) : List α → Option (Rz (List β))
  | [] => some (.ok [])
  | x :: xs => match f x with
    | none => none
    | some (.er e) => some (.er e)
    | some (.ok y) => match mapR f xs with
      | none => none
      | some (.er e) => some (.er e)
      | some (.ok ys) => some (.ok (y :: ys))
def okO {β : Type} (m : Option (Rz β)) : Option β := match m with
  | some (.ok y) => some y
  | _ => none
theorem okO_some {β : Type} {m : Option (Rz β)} {y : β} (h : okO m = some y) : m = some (.ok y) := by
  match m with
  | none => cases h
  | some (.er e) => cases h
  | some (.ok z) => cases h; rfl
theorem mapR_ok {α β : Type} {f : α → Option (Rz β)} : ∀ {xs : List α} {ys : List β}, mapR f xs = some (.ok ys) → mapO (fun x => okO (f x)) xs = some ys
  | [], ys, h => by cases h; rfl
  | x :: xs, ys, h => by
    unfold mapR at h
    cases hx : f x with
    | none => rw [hx] at h; cases h
    | some r => cases r with
      | er e => rw [hx] at h; cases h
      | ok y =>
        rw [hx] at h
        dsimp only at h
        cases hr : mapR f xs with
        | none => rw [hr] at h; cases h
        | some q => cases q with
          | er e => rw [hr] at h; cases h
          | ok zs =>
            rw [hr] at h
            cases h
            have := mapR_ok hr
            unfold mapO at this ⊢
            unfold compO
            rw [Option.bind_some, if_pos rfl, hx]
            show Option.bind (some y) _ = _
            rw [Option.bind_some, this]
            rfl
def ErX (K : PySem.W.Frag) (s : S) (er : Er) : XK := fun cls d H' => ∃ s2 : S, s2.H = H' ∧ Ex s s2 ∧ ExR K s2.F er cls d
section
variable {X : Cx} {σ : L2.St} {s : S} {e : Expr} {es : List Expr} {p0 pos : Pos}
theorem evX_callP {A : Type} [EncA A] {ρ : Type} [Enc ρ] {m : A → Option (Rz ρ)} {n : Str} {k j : Nat} {x : A} {er : Er} {s0 : S} (C : Cal X.prog X.w X.K X.mg X.base (L2.CX X.prog X.w) k n (spR X.K m)) (px : ∀ σ', PassesAt (L2.CX X.prog X.w) X σ' (ErX X.K s0 er)) (k0 : Ex s0 s) (hr : Room j X.A) (hk : k ≤ j)
    (ha : EvA X (e :: es) σ s x) (h : m x = some (.er er)) (hg : Gl X n := by rfl)
    (hdb : (n == ("__debug__" : Str)) = false := by decide) (he : starEach (e :: es) X.env = (false, eval e X.env) :: starEach es X.env := by rfl) (hpl : (backTo pos (starEach es X.env)).any (·.1) = false := by rfl) : EvX X (.Call (.Name n p0) (e :: es) [] pos) σ s := fun s1 k1 Q => by
  obtain ⟨f, fd, ps, F, hm, kp, b⟩ := C.ex
  exact we_of (pe_callS (E := fun _ => ErX X.K s0 er) F (hr.mono hk) hg hm kp b px pa_wa hdb he hpl) (ha s1 k1 _ fun vs s2 k2 r2 => ⟨s2, x, .er er, rfl, r2, h, fun cls d s3 k3 r3 => ⟨s3, rfl, k0.trans ((k1.trans k2).trans k3), r3⟩⟩)
end
section
variable {α β : Type} [Enc α] [Enc β] {X : Cx} {σ : L2.St} {s : S} {elt tg iter c : Expr} {scope : Scope} {own : List (Str × Nat)} {pos : Pos} {W : WX}
abbrev teX (X : Cx) (scope : Scope) (elt : Expr) (s : S) (er : Er) : TE := fun σ H Q => ∀ s0 H0 C cl fp pn xe, (∀ σ', PassesAt (L2.CX X.prog X.w) (BlkX X scope s0 H0 C cl fp pn xe) σ' (ErX X.K s er)) → WE (BlkX X scope s0 H0 C cl fp pn xe) elt σ H Q
theorem comp_readX {xs : List α} {f : α → Option (Rz β)} {er : Er} {g : TG} {B : Hp → α → L2.St → L2.St → Prop} (hi : EvI X tg iter σ s xs) (T : Tgt (α := α) X.K g B) (hf : mapR f xs = some (.er er)) (hz : xs.length ≤ sizeLine)
    (hw : ∀ (F : Hp) (x : α) σ2, B F x (wipe σ (own.map (·.2))) σ2 → wipe σ2 (own.map (·.2)) = wipe σ (own.map (·.2)))
    (he : ∀ (x : α) (y : β) (s1 : S) (σ2 : L2.St), x ∈ xs → Ex s s1 → B s1.F x (wipe σ (own.map (·.2))) σ2 → f x = some (.ok y) → ∀ s0 H0 C cl fp pn xe, Ev (BlkX X scope s0 H0 C cl fp pn xe) elt σ2 s1 y)
    (hx : ∀ (x : α) (s1 : S) (σ2 : L2.St), x ∈ xs → Ex s s1 → B s1.F x (wipe σ (own.map (·.2))) σ2 → f x = some (.er er) → ∀ s0 H0 C cl fp pn xe, (∀ σ', PassesAt (L2.CX X.prog X.w) (BlkX X scope s0 H0 C cl fp pn xe) σ' (ErX X.K s er)) → EvX (BlkX X scope s0 H0 C cl fp pn xe) elt σ2 s1)
    (s1 : S) (k : Ex s s1) (Q : VK) : tLc (WI X tg iter) g tYes (teX X scope elt s er) (own.map (·.2)) σ s1.H Q := by
  refine hi s1 k _ fun J s2 k2 W => ?_
  intro D hD
  refine ⟨fun i m H => ∃ (u : S) (pre : List β) (vs : List V), u.H = H ∧ m = xs.length - i ∧ Ex s2 u ∧ u.F D = none ∧ u.H D = some (.lst vs) ∧ Reps X.K u.F vs pre ∧ vs.length = i ∧ mapR f (xs.drop i) = some (.er er), ⟨xs.length, s2.newO D (.lst []) hD, [], [], rfl, rfl, Ex.newO hD, (fF hD : s2.F D = none), upd_same, trivial, rfl, hf⟩, ?_⟩
  rintro i m H ⟨u, pre, vs, rfl, rfl, ku, n1, n2, n3, n4, h1⟩
  by_cases hi' : i < xs.length
  · right
    have hx' : xs[i]? = some xs[i] := List.getElem?_eq_getElem hi'
    obtain ⟨g1, g2⟩ := W.go i u xs[i] ku.f hx'
    refine ⟨g1, fun H' => ∃ m', m' < xs.length - i ∧ ∃ (u : S) (pre : List β) (vs : List V), u.H = H' ∧ m' = xs.length - (i + 1) ∧ Ex s2 u ∧ u.F D = none ∧ u.H D = some (.lst vs) ∧ Reps X.K u.F vs pre ∧ vs.length = i + 1 ∧ mapR f (xs.drop (i + 1)) = some (.er er), fun H' z => z, fun v H' hy => ?_⟩
    obtain ⟨u', rfl, ku', rv⟩ := g2 v H' hy
    refine T.run u' v xs[i] _ _ rv fun σ2 hB => ⟨hw _ _ _ hB, ?_⟩
    have mem : xs[i] ∈ xs := List.getElem_mem hi'
    have base : Ex s u' := (k.trans k2).trans (ku.trans ku')
    unfold tYes
    dsimp only
    rw [if_pos rfl]
    rw [List.drop_eq_getElem_cons hi'] at h1
    unfold mapR at h1
    intro s0 H0 C cl fp pn xe hp
    cases hfx : f xs[i] with
    | none => rw [hfx] at h1; cases h1
    | some r => cases r with
      | er e2 =>
        rw [hfx] at h1
        cases h1
        exact hx xs[i] u' σ2 mem base hB hfx s0 H0 C cl fp pn xe hp u' (Ex.refl u') _
      | ok y =>
        rw [hfx] at h1
        dsimp only at h1
        have h2 : mapR f (xs.drop (i + 1)) = some (.er er) := by
          cases hr : mapR f (xs.drop (i + 1)) with
          | none => rw [hr] at h1; cases h1
          | some q => cases q with
            | er e2 => rw [hr] at h1; cases h1; rfl
            | ok ys => rw [hr] at h1; cases h1
        refine he xs[i] y u' σ2 mem base hB hfx s0 H0 C cl fp pn xe u' (Ex.refl _) _ fun w u4 k4 r4 => ?_
        have k5 : Ex u u4 := ku'.trans k4
        have hD4 : u4.H D = some (.lst vs) := k5.h _ _ n2
        have hF4 : u4.F D = none := k5.n _ _ n2 n1
        exact ⟨vs, hD4, by omega, _, by omega, u4.put D (.lst (vs ++ [w])) hF4, pre ++ [y], vs ++ [w], rfl, rfl, (ku.trans k5).mu1 (Mx.put hF4) hD, hF4, upd_same, (n3.mono k5.f).snoc r4, by rw [List.length_append, n4]; rfl, h2⟩
  · rw [List.drop_eq_nil_of_le (by omega)] at h1
    cases h1
structure EvLX (X : Cx) (elt tg iter : Expr) (scope : Scope) (σ : L2.St) (s : S) : Prop where
  calm : X.calm = true
  nd : X.N.Nodup
  fs : ∀ x, foldedSetIterable iter X.env x = pure x
  st : X.stack = X.env :: X.outer
  fr : X.env.frame = some X.env.locals
  ex : ∃ (own : List (Str × Nat)) (g : TG) (W : WX) (er : Er), BlkOk X.N X.env.scope scope own ∧ (∀ s0 H0 C cl fp, PG (Blk X scope s0 H0 C cl fp) tg g) ∧ Takes X W ∧ (∀ s2, Ex s s2 → ∀ cls d, ExR X.K s2.F er cls d → W cls d σ s2.H) ∧
    ∀ s1, Ex s s1 → ∀ Q : VK, tLc (WI X tg iter) g tYes (teX X scope elt s er) (own.map (·.2)) σ s1.H Q
theorem EvLX.run {ps : Pos} {use : Option (Value → Sem Unit)} {Qf : Value → Shared → Prop} {pins : List (Addr × Obj)} {sh : Shared} {s1 : S} (h : EvLX X elt tg iter scope σ s) (k : Ex s s1) (I : Inv X pins σ s1.H sh) :
    wpAny (model X.prog X.w) X.A (comprehension (.ListComp elt [⟨tg, iter, [], 0⟩] scope pos) scope X.env ps (newList []) false (eval iter X.env) use) Qf X.xe sh := by
  obtain ⟨own, g, W, er, h1, h2, tk, hw, h4⟩ := h.ex
  have tk' : Takes X (fun cls d σ' H' => σ' = σ ∧ ErX X.K s er cls d H') := tk.imp fun cls d σ' H' z => by
    obtain ⟨rfl, s2, rfl, k2, r⟩ := z
    exact hw s2 k2 cls d r
  refine lcx_core (W := fun cls d σ' H' => σ' = σ ∧ ErX X.K s er cls d H') h.calm h.nd tk' h.st h.fr I pi_wi h1 h2 (fun _ _ _ _ _ => pts_nil) (te := teX X scope elt s er) (fun s0 H0 C cl fp pn xe hp => ⟨fun ps' t _ _ _ I' q => q s0 H0 C cl fp pn xe (fun σ' pins H s' e s'' i c => hp σ' pins H s' e s'' i ?_) ps' t I'⟩) h.fs (h4 s1 k (fun _ _ => False)) (fun D ce s' m H' _ q => q.elim)
  obtain ⟨a, B, H', cls, d, c1, c2, c3, c4, c5, c6, c7, c8⟩ := c
  exact ⟨a, B, H', cls, d, c1, c2, c3, c4, c5, c6, c7, rfl, c8⟩
theorem EvLX.x (h : EvLX X elt tg iter scope σ s) : EvX X (.ListComp elt [⟨tg, iter, [], 0⟩] scope pos) σ s := fun s1 k Q pins sh I => by
  rw [eval_ListComp]
  exact h.run k I
theorem do_setLX {n : Str} {py spos : Pos} {rest : List Stmt} {D : Ends} (h : EvLX X elt tg iter scope σ s) (hk : X.env.scope.kind = .function) (hy : X.env.scope.names.lookup n = some .local)
    (hl : (py.line == pos.line) = true := by rfl) (ha : (scope.names.any fun (m, k) => m == n && (k == .local || k == .cell)) = false := by decide +kernel) :
    WSs X (.Assign [.Name n py] (.ListComp elt [⟨tg, iter, [], 0⟩] scope pos) spos :: rest) D σ s.H := by
  refine do_cons (ts := fun D σ' H' => σ' = σ ∧ H' = s.H) ⟨fun pins sh σ' H' D' I z => ?_⟩ ⟨rfl, rfl⟩
  obtain ⟨rfl, rfl⟩ := z
  rw [exec_Assign_Name_used _ _ _ _ (sw_true hk hy hl ha)]
  refine wpAny_bind (wpAny_standAt (wpAny_bind ?_))
  exact wpAny_bind (h.run (Ex.refl s) I)
theorem en_compX {xs : List α} {f : α → Option (Rz β)} {er : Er} {j : Nat} {n : Str} {py : Pos} (hc : X.calm = true) (hN : X.N.Nodup) (st : X.stack = X.env :: X.outer) (fr : X.env.frame = some X.env.locals) (tk : Takes X W) (hi : EvI X (.Name n py) iter σ s xs) (ok : BlkOk X.N X.env.scope scope own) (hj : X.N[j]? = some n)
    (hjo : j ∈ own.map (·.2)) (hg : ∀ s0 H0 C cl fp, PG (Blk X scope s0 H0 C cl fp) (.Name n py) (gName j)) (hf : mapR f xs = some (.er er)) (hz : xs.length ≤ sizeLine) (hw : ∀ cls d s2, Ex s s2 → ExR X.K s2.F er cls d → W cls d σ s2.H)
    (he : ∀ (x : α) (y : β) (v : V) (s1 : S), x ∈ xs → Ex s s1 → rep X.K s1.F v x → f x = some (.ok y) → ∀ s0 H0 C cl fp pn xe, Ev (BlkX X scope s0 H0 C cl fp pn xe) elt ((wipe σ (own.map (·.2))).set j (some v)) s1 y)
    (hx : ∀ (x : α) (v : V) (s1 : S), x ∈ xs → Ex s s1 → rep X.K s1.F v x → f x = some (.er er) → ∀ s0 H0 C cl fp pn xe, (∀ σ', PassesAt (L2.CX X.prog X.w) (BlkX X scope s0 H0 C cl fp pn xe) σ' (ErX X.K s er)) → EvX (BlkX X scope s0 H0 C cl fp pn xe) elt ((wipe σ (own.map (·.2))).set j (some v)) s1)
    (hs : ∀ x, foldedSetIterable iter X.env x = pure x := by intro _; rfl) : EvLX X elt (.Name n py) iter scope σ s :=
  ⟨hc, hN, hs, st, fr, own, _, W, er, ok, hg, tk, fun s2 k cls d r => hw cls d s2 k r, fun s1 k Q => comp_readX hi tg_n hf hz (fun F x σ2 ⟨v, _, e⟩ => by rw [e, wipe_set hjo]; exact wipe_wipe fun _ z => z)
    (fun x y s1 σ2 hx' k ⟨v, r, e⟩ hfx => by subst e; exact he x y v s1 hx' k r hfx) (fun x s1 σ2 hx' k ⟨v, r, e⟩ hfx => by subst e; exact hx x v s1 hx' k r hfx) s1 k Q⟩
theorem evX_sum {p0 : Pos} (hm : X.mg "sum" = none) (ha : EvX X elt σ s) (hc : X.calm = true := by rfl) (hg : Gl X "sum" := by rfl) (he : starEach [elt] X.env = (false, eval elt X.env) :: starEach [] X.env := by rfl) (hpl : (backTo pos (starEach [] X.env)).any (·.1) = false := by rfl) : EvX X (.Call (.Name "sum" p0) [elt] [] pos) σ s := fun s1 k Q =>
  we_of (pe_callB (cr_sum hc) hg hm (by decide +kernel) (pa_cons pe_we pa_nil he) (by decide) (by decide) he hpl) (ha s1 k _)
end
section
variable {X : Cx} {σ : L2.St} {s : S} {a b : Expr} {es : List Expr} {pos : Pos}
theorem ew_and1 {x : Bool} (h : EvT X a σ s x) : EvW X (.BoolOp .And [a] pos) σ s x := fun s1 k Q q => ww_of (pw_and1 pt_wt) (h s1 k Q q)
theorem ew_or1 {x : Bool} (h : EvT X a σ s x) : EvW X (.BoolOp .Or [a] pos) σ s x := fun s1 k Q q => ww_of (pw_or1 pt_wt) (h s1 k Q q)
theorem ew_and {x y : Bool} (h : EvT X a σ s x) (h2 : x = true → EvW X (.BoolOp .And (b :: es) pos) σ s y) : EvW X (.BoolOp .And (a :: b :: es) pos) σ s (x && y) := fun s1 k Q q =>
  ww_of (pw_and pt_wt pw_ww) (h s1 k _ fun s2 k2 => by
    cases x with
    | true => exact iteT ((h2 rfl) s2 (k.trans k2) Q fun s3 k3 => q s3 (k2.trans k3))
    | false => exact iteF (q s2 k2))
theorem ew_or {x y : Bool} (h : EvT X a σ s x) (h2 : x = false → EvW X (.BoolOp .Or (b :: es) pos) σ s y) : EvW X (.BoolOp .Or (a :: b :: es) pos) σ s (x || y) := fun s1 k Q q =>
  ww_of (pw_or pt_wt pw_ww) (h s1 k _ fun s2 k2 => by
    cases x with
    | true => exact iteT (q s2 k2)
    | false => exact iteF ((h2 rfl) s2 (k.trans k2) Q fun s3 k3 => q s3 (k2.trans k3)))
end
end Dy

set_option maxHeartbeats 1000000
namespace L2
open PySem PySem.Spec PyProof.Rows
abbrev SuT := Addr → Value → Option Addr → TS
def wG (K : PySem.W.Frag) : List (Option Nat × Value × SuT) → WX → Ends → WX
  | [], Wout, _ => Wout
  | (some i, c, ts) :: r, Wout, D => wAs K c i ts (wG K r Wout D) D
  | (none, c, ts) :: r, Wout, D => wOnly K c ts (wG K r Wout D) D
inductive HdsG (X : Cx) : List ExceptHandler → List (Option Nat × Value × SuT) → Prop
  | nil : HdsG X [] []
  | as {x n : Str} {i : Nat} {c : Value} {ts : SuT} {b₀ : Stmt} {suite : List Stmt} {np pos' : Pos} {hds : List ExceptHandler} {l : List (Option Nat × Value × SuT)} (hi : X.N[i]? = some n) (hln : X.env.kindOf n = some .local) (hc : Names X x c)
      (hsu : ∀ (a : Addr) (oe : Obj) (cls : Value) (d : Option Addr) (pn : List (Addr × Obj)), Zc cls d oe → (∃ vs, oe.data = .fields vs) → PSs (X.suite a ((a, oe) :: pn)) (b₀ :: suite) (ts a cls d)) (r : HdsG X hds l) :
      HdsG X (.ExceptHandler (some (.Name x np)) (some n) (b₀ :: suite) pos' :: hds) ((some i, c, ts) :: l)
  | no {x : Str} {c : Value} {ts : SuT} {b₀ : Stmt} {suite : List Stmt} {np pos' : Pos} {hds : List ExceptHandler} {l : List (Option Nat × Value × SuT)} (hc : Names X x c)
      (hsu : ∀ (a : Addr) (oe : Obj) (cls : Value) (d : Option Addr) (pn : List (Addr × Obj)), Zc cls d oe → (∃ vs, oe.data = .fields vs) → PSs (X.suite a ((a, oe) :: pn)) (b₀ :: suite) (ts a cls d)) (r : HdsG X hds l) :
      HdsG X (.ExceptHandler (some (.Name x np)) none (b₀ :: suite) pos' :: hds) ((none, c, ts) :: l)
section
variable {X : Cx} {body : List Stmt} {h₀ : ExceptHandler} {hds : List ExceptHandler} {l : List (Option Nat × Value × SuT)} {pos : Pos} {tb : WX → TS} {Wout : WX}
theorem ps_tryG (hs : X.stack = X.env :: X.outer) (hf : X.env.frame = some X.env.locals) (hN : X.N.Nodup) (tk : Takes X Wout)
    (hb : ∀ (W : WX) (pn : List (Addr × Obj)) (xe : Value → Shared → Prop), Takes (X.tr pn xe) W → PassesOwn (model X.prog X.w) X.A X.env xe → PSs (X.tr pn xe) body (tb W))
    (hh : HdsG X (h₀ :: hds) l) :
    PS X (.Try body (h₀ :: hds) [] [] pos) (fun D σ H => tb (wG X.K l Wout D) D σ H) := by
  refine ⟨fun pins s σ H D I h => ?_⟩
  have ok := I.ok
  have hfr : X.A.frames = some (X.env :: X.outer) := by rw [ok.frames, hs]
  refine wpAny_Try_except ?_
  refine wpAny_mono ((hb (wG X.K l Wout D) (X.pn ++ pins) (fun e s₁ => wpAny (model X.prog X.w) X.A (noteFrame e X.env) (fun _ s₂ => wpAny (model X.prog X.w) X.A (setFlight e none) (fun _ s₃ =>
    wpAny (model X.prog X.w) X.A (handleBy e X.env (h₀ :: hds)) (SP X pins D) X.xe s₃) X.xe s₂) X.xe s₁) (fun u s' xx => ?_) PassesOwn.looking).run [] s σ H D (I.toTry _) h) (fun f s1 hsp => ?_) (fun e s1 he => he)
  · -- the catch
    obtain ⟨a, B, sI, pins', σ', H', cls, d, rfl, J', nb, up, sky, na, os, ag, w⟩ := xx
    have J : Inv X pins σ' H' sI := J'.ofTry ok
    have sky' : Sky B (X.env :: X.outer) a (Zc cls d) X.env.locals s'.heap := by rw [← hs]; exact sky
    show wpAny (model X.prog X.w) X.A (noteFrame (.ref a) X.env) _ _ _
    refine Sky.land Zc.steady hfr hf sky' fun h3 fl3 up3 => ?_
    have J3 : Inv X pins σ' H' { s' with heap := h3 } := J.landed nb fl3.1 (up.trans up3) os ag
    obtain ⟨oe3, vs3, he3, hz3, hd3⟩ := fl3.there
    have notFr : ∀ {h : Heap} {o : Obj} {vs : Array Value}, h.FunFrames B (X.env :: X.outer) → h.get? a = some o → o.data = .fields vs → a ∉ frs (X.env :: X.outer) := fun {h o vs} ff e dd hm => by
      obtain ⟨_, o', e', hnf⟩ := ff.mem hm
      rw [e] at e'; cases e'
      exact hnf _ dd
    have nfr := notFr fl3.2.2.1 he3 hd3
    have nL : a ≠ X.env.locals := fun z => nfr (List.mem_filterMap.mpr ⟨X.env, List.mem_cons_self, by rw [hf, z]⟩)
    have nF : a ∉ X.fs := fun hm => by
      obtain ⟨e, he, q⟩ := List.mem_filterMap.mp hm
      exact nfr (List.mem_filterMap.mpr ⟨e, List.mem_cons_of_mem _ he, q⟩)
    have S3 := J3.suite he3 hd3 na nL nF
    have go : ∀ {hds' : List ExceptHandler} {l' : List (Option Nat × Value × SuT)}, HdsG X hds' l' → wG X.K l' Wout D cls d σ' H' →
        wpAny (model X.prog X.w) X.A (handleBy (.ref a) X.env hds') (SP X pins D) X.xe { s' with heap := h3 } := by
      intro hds' l' hk
      induction hk with
      | nil =>
        intro w
        refine wpAny_handleBy_nil ?_
        obtain ⟨k1, k2, k3, oe, vs, T, oT, ts', he, hz, hd, h1, hr⟩ := id fl3
        unfold PySem.passOn
        refine wpAny_bind (wpAny_field he hd h1 ?_)
        rw [if_neg (show ¬ ((Value.ref T == Value.none) = true) from by simp)]
        have fin : wpAny (model X.prog X.w) X.A (setFlight (.ref a) X.env.frame) (fun _ s4 => wpAny (model X.prog X.w) X.A (throw (.ref a) : Sem Flow) (SP X pins D) X.xe s4) X.xe { s' with heap := h3 } := by
          rw [hf]
          refine HandSPX.setFlight_upZ fl3 fun h4 hh4 up4 => wpAny_throw (tk _ _ ?_)
          exact ⟨a, B, sI, pins, σ', H', cls, d, rfl, J, nb, (up.trans up3).trans up4, .inr (.inr (by rw [hs]; exact hh4)), na, os, ag, w⟩
        first
          | exact wpAny_bind (wpAny_pure (wpAny_bind fin))
          | exact wpAny_bind fin
      | @as x n i c ts b₀ suite np pos' hds2 l2 hi hln hc hsu r ih =>
        intro w
        have hloc : Loc X.env.scope n := .inl hln
        obtain ⟨b, hb1, hyes, hno⟩ := w
        refine wpAny_handleBy_cons (codeAny_handlers_test ?_) (by intro q; cases q)
        have LT : PySem.W.Looks (model X.prog X.w) h3 (typeOf (.ref a)) cls := fun A Q E s k q => wpAny_typeOf_ref (k _ _ he3) (by rw [hz3.1]; exact q)
        have LM := PySem.W.exm_one (M := model X.prog X.w) (J3.kIn) LT hb1
        have test : ∀ {Q : Value → Shared → Prop} {E : Value → Shared → Prop}, Q c { s' with heap := h3 } → wpAny (model X.prog X.w) (X.A.mark (some (.ref a))) (eval (.Name x np) X.env) Q E { s' with heap := h3 } := fun {Q E} q => by
          obtain ⟨hg, hdbg, hm | ⟨hm, hv, hnn⟩⟩ := hc
          · exact ld_glob (X := X.suite a ((a, oe3) :: (X.pn ++ pins))) S3 hg hm q hdbg
          · exact ld_blt (X := X.suite a ((a, oe3) :: (X.pn ++ pins))) S3 hg hm hv q hnn hdbg
        refine test (LM.here ?_)
        cases b with
        | true =>
          refine codeAny_handlers_suite_as ?_
          refine HandSPX.lands_againZ fl3 fun h4 fl4 up4 => ?_
          have J4 : Inv X pins σ' H' { s' with heap := h4 } := J.landed nb fl4.1 ((up.trans up3).trans up4) os ag
          obtain ⟨oe4, vs4, he4, hz4, hd4⟩ := fl4.there
          have S4 := J4.suite he4 hd4 na nL nF
          refine store_ok (X := X.suite a ((a, oe4) :: (X.pn ++ pins))) (v := .ref a) S4 hN hi hloc rfl (fun s5 S5 => ?_) (.inr hln)
          refine wpAny_mono ((hsu a oe4 cls d (X.pn ++ pins) hz4 ⟨_, hd4⟩).run [] s5 _ H' _ S5 (hyes rfl a na)) (fun f s6 hsp => ?_) (fun _ _ z => False.elim z)
          have end_ : ∀ {σ6 : St} {H6 : Hp} {Q : Shared → Prop}, Inv (X.suite a ((a, oe4) :: (X.pn ++ pins))) [] σ6 H6 s6 → (∀ s7, Inv X pins (σ6.set i none) H6 s7 → Q s7) →
              wpAny (model X.prog X.w) X.A (do bindName X.env n .none; unbindBehindTheSuite X.env n pos') (fun _ s7 => Q s7) X.xe s6 := fun {σ6 H6 Q} S6 hq => gone_ok (S6.unsuite ok) hN hi hln hq
          cases f with
          | next =>
            obtain ⟨σ6, H6, S6, q6⟩ := hsp
            exact end_ S6 fun s7 J7 => ⟨_, _, J7, q6⟩
          | brk =>
            obtain ⟨σ6, H6, S6, q6⟩ := hsp
            exact end_ S6 fun s7 J7 => ⟨_, _, J7, q6⟩
          | cont =>
            obtain ⟨σ6, H6, S6, q6⟩ := hsp
            exact end_ S6 fun s7 J7 => ⟨_, _, J7, q6⟩
          | ret u =>
            obtain ⟨v6, σ6, H6, S6, r6, q6⟩ := hsp
            exact end_ S6 fun s7 J7 => ⟨_, _, _, J7, r6, q6⟩
        | false => exact ih (hno rfl)
      | @no x c ts b₀ suite np pos' hds2 l2 hc hsu r ih =>
        intro w
        obtain ⟨b, hb1, hyes, hno⟩ := w
        refine wpAny_handleBy_cons (codeAny_handlers_test ?_) (by intro q; cases q)
        have LT : PySem.W.Looks (model X.prog X.w) h3 (typeOf (.ref a)) cls := fun A Q E s k q => wpAny_typeOf_ref (k _ _ he3) (by rw [hz3.1]; exact q)
        have LM := PySem.W.exm_one (M := model X.prog X.w) (J3.kIn) LT hb1
        have test : ∀ {Q : Value → Shared → Prop} {E : Value → Shared → Prop}, Q c { s' with heap := h3 } → wpAny (model X.prog X.w) (X.A.mark (some (.ref a))) (eval (.Name x np) X.env) Q E { s' with heap := h3 } := fun {Q E} q => by
          obtain ⟨hg, hdbg, hm | ⟨hm, hv, hnn⟩⟩ := hc
          · exact ld_glob (X := X.suite a ((a, oe3) :: (X.pn ++ pins))) S3 hg hm q hdbg
          · exact ld_blt (X := X.suite a ((a, oe3) :: (X.pn ++ pins))) S3 hg hm hv q hnn hdbg
        refine test (LM.here ?_)
        cases b with
        | true =>
          refine codeAny_handlers_suite (HandSPX.lands_againZ fl3 fun h4 fl4 up4 => ?_)
          have J4 : Inv X pins σ' H' { s' with heap := h4 } := J.landed nb fl4.1 ((up.trans up3).trans up4) os ag
          obtain ⟨oe4, vs4, he4, hz4, hd4⟩ := fl4.there
          have S4 := J4.suite he4 hd4 na nL nF
          apply wpAny_mono ((hsu a oe4 cls d (X.pn ++ pins) hz4 ⟨_, hd4⟩).run [] _ _ H' _ S4 (hyes rfl a na)) _ (fun _ _ z => False.elim z)
          intro f s6 hsp
          cases f with
          | ret u =>
            obtain ⟨v6, σ6, H6, S6, r6, q6⟩ := hsp
            exact ⟨_, _, _, S6.unsuite ok, r6, q6⟩
          | _ =>
            obtain ⟨σ6, H6, S6, q6⟩ := hsp
            exact ⟨_, _, S6.unsuite ok, q6⟩
        | false => exact ih (hno rfl)
    exact go hh w
  · cases f with
    | next =>
      obtain ⟨σ', H', J', q⟩ := hsp
      exact wpAny_execs_nil ⟨σ', H', J'.ofTry ok, q⟩
    | brk =>
      obtain ⟨σ', H', J', q⟩ := hsp
      exact ⟨σ', H', J'.ofTry ok, q⟩
    | cont =>
      obtain ⟨σ', H', J', q⟩ := hsp
      exact ⟨σ', H', J'.ofTry ok, q⟩
    | ret u =>
      obtain ⟨v, σ', H', J', r, q⟩ := hsp
      exact ⟨v, σ', H', J'.ofTry ok, r, q⟩
end
end L2
namespace Dy
open PySem PySem.Spec L2
open PyProof.Rows hiding St
section
variable {X : Cx} {σ : L2.St} {s : S} {D : Ends} {rest : List Stmt} {K : PySem.W.Frag} {c cls : Value} {i : Nat} {ts : SuT} {r : List (Option Nat × Value × SuT)} {Wout : WX} {d : Option Addr} {H : Hp}
theorem wg_as (h : wAs K c i ts (wG K r Wout D) D cls d σ H) : wG K ((some i, c, ts) :: r) Wout D cls d σ H := h
theorem wg_no (h : wOnly K c ts (wG K r Wout D) D cls d σ H) : wG K ((none, c, ts) :: r) Wout D cls d σ H := h
theorem won_of (h1 : PySem.W.exmOne K cls c = some true) (h2 : ∀ a, H a = none → ts a cls d D σ H) : wOnly K c ts Wout D cls d σ H := ⟨true, h1, fun _ => h2, fun z => (by cases z)⟩
theorem won_no (h1 : PySem.W.exmOne K cls c = some false) (h2 : Wout cls d σ H) : wOnly K c ts Wout D cls d σ H := ⟨false, h1, fun z => (by cases z), fun _ => h2⟩
abbrev suT (X : Cx) (ss : List Stmt) : SuT := fun a cls d D σ H => ∀ (oe : Obj) (pn : List (Addr × Obj)), Zc cls d oe → (∃ vs, oe.data = .fields vs) → WSs (X.suite a ((a, oe) :: pn)) ss D σ H
theorem hd_as {x n : Str} {i : Nat} {c : Value} {b₀ : Stmt} {suite : List Stmt} {np pos' : Pos} {hds : List ExceptHandler} {l : List (Option Nat × Value × SuT)} (i' : i = i) (hc : Names X x c) (r : HdsG X hds l) (hi : X.N[i]? = some n := by rfl) (hln : X.env.kindOf n = some .local := by rfl) :
    HdsG X (.ExceptHandler (some (.Name x np)) (some n) (b₀ :: suite) pos' :: hds) ((some i, c, suT X (b₀ :: suite)) :: l) := .as hi hln hc (fun a oe cls d pn hz hv => ⟨fun pins sh σ H D I hh => hh oe pn hz hv pins sh I⟩) r
theorem hd_no {x : Str} {c : Value} {b₀ : Stmt} {suite : List Stmt} {np pos' : Pos} {hds : List ExceptHandler} {l : List (Option Nat × Value × SuT)} (hc : Names X x c) (r : HdsG X hds l) :
    HdsG X (.ExceptHandler (some (.Name x np)) none (b₀ :: suite) pos' :: hds) ((none, c, suT X (b₀ :: suite)) :: l) := .no hc (fun a oe cls d pn hz hv => ⟨fun pins sh σ H D I hh => hh oe pn hz hv pins sh I⟩) r
theorem do_tryG {body : List Stmt} {h₀ : ExceptHandler} {hds : List ExceptHandler} {l : List (Option Nat × Value × SuT)} {pos : Pos} (hN : X.N.Nodup) (hh : HdsG X (h₀ :: hds) l) (tk : Takes X Wout)
    (h : ∀ pn xe, Takes (X.tr pn xe) (wG X.K l Wout { D with nx := fun σ' H' => WSs X rest D σ' H' }) → PassesOwn (model X.prog X.w) X.A X.env xe → WSs (X.tr pn xe) body { D with nx := fun σ' H' => WSs X rest D σ' H' } σ s.H)
    (hs : X.stack = X.env :: X.outer := by rfl) (hf : X.env.frame = some X.env.locals := by rfl) : WSs X (.Try body (h₀ :: hds) [] [] pos :: rest) D σ s.H :=
  do_cons (ps_tryG (tb := fun W D σ H => ∀ pn xe, Takes (X.tr pn xe) W → PassesOwn (model X.prog X.w) X.A X.env xe → WSs (X.tr pn xe) body D σ H) hs hf hN tk (fun W pn xe t po => ⟨fun pins sh σ H D I hh => hh pn xe t po pins sh I⟩) hh) h
end
end Dy

namespace Dy
open PySem PySem.Spec L2
open PyProof.Rows hiding St
open Enc (rep)
open Flat (toV)
open EncA (repA)

section
variable {X : Cx} {σ : L2.St} {s t : S} {e a : Expr} {p1 pos : Pos} {α β : Type} [Enc α] [Enc β] {K : PySem.W.Frag}
theorem all_ex (k : Ex s t) : Ex s.all t.all := ⟨fun x o h => k.h x o h, k.h, fun x o h n => by
  have h1 : s.H x = some o := h
  have h2 : s.H x = none := n
  rw [h1] at h2; cases h2⟩
theorem asV {ε : Type} [Flat ε] {x : ε} (h : Ev X e σ s.all x) : Ev X e σ s x := fun s1 k Q q =>
  h s1.all (all_ex k) Q fun v t k2 r => q v (s1.backH t k2.h) (backH_ex k2) (Flat.iff.mpr (Flat.iff.mp r))
theorem asT {x : Bool} (h : EvT X e σ s.all x) : EvT X e σ s x := fun s1 k Q q =>
  h s1.all (all_ex k) Q fun t k2 => q (s1.backH t k2.h) (backH_ex k2)
theorem asB {x : Bool} (h : EvB X e σ s.all x) : EvB X e σ s x := ⟨asV h.v, asT h.t⟩
theorem asW {x : Bool} (h : EvW X e σ s.all x) : EvW X e σ s x := fun s1 k Q q =>
  h s1.all (all_ex k) Q fun t k2 => q (s1.backH t k2.h) (backH_ex k2)
theorem asC {x : Bool} (h : EvC X e σ s.all x) : EvC X e σ s x := ⟨asV h.v, asW h.w⟩
theorem all_v {v : V} {x : α} (h : rep K s.F v x) : rep K s.all.F v x := Enc.mono s.sub h
theorem eb_isRaw {p : Addr} {j} (ha : Ev X a σ s (Rw.mk (.ref p))) : EvB X (.Compare a [.Is] [.Constant .none j p1] pos) σ s false :=
  eb_cmp op_isN ha ev_non (fun v u s2 hv hu Q q => by
    refine ⟨hu, ?_⟩
    have e : v = V.ref p := hv
    rw [e]
    exact q) (nomark _)
theorem eb_notRaw {p : Addr} {j} (ha : Ev X a σ s (Rw.mk (.ref p))) : EvB X (.Compare a [.IsNot] [.Constant .none j p1] pos) σ s true :=
  eb_cmp op_notN ha ev_non (fun v u s2 hv hu Q q => by
    refine ⟨hu, ?_⟩
    have e : v = V.ref p := hv
    rw [e]
    exact q) (nomark _)
def unO {α : Type} : List (Option α) → Option (List α)
  | [] => some []
  | none :: _ => none
  | some x :: r => (unO r).map (x :: ·)
theorem unO_some {α : Type} : ∀ {xs : List (Option α)} {ys : List α}, unO xs = some ys → xs = ys.map some
  | [], ys, h => by cases h; rfl
  | none :: _, ys, h => by cases h
  | some x :: r, ys, h => by
    unfold unO at h
    cases hr : unO r with
    | none => rw [hr] at h; cases h
    | some zs =>
      rw [hr] at h
      cases h
      rw [List.map_cons, unO_some hr]
theorem unO_map {α : Type} : ∀ ys : List α, unO (ys.map some) = some ys
  | [] => rfl
  | y :: r => by
    show (unO (r.map some)).map (y :: ·) = _
    rw [unO_map r]; rfl
theorem reps_un {F : Hp} : ∀ {vs : List V} {ys : List α}, Reps K F vs (ys.map some) → Reps K F vs ys
  | [], [], _ => trivial
  | _ :: _, _ :: _, ⟨h, t⟩ => ⟨h, reps_un t⟩
  | [], _ :: _, h => h.elim
  | _ :: _, [], h => h.elim
theorem er_un {xs : List (Option α)} {ys : List α} (h : EvR X e σ s xs) (hu : unO xs = some ys) : EvR X e σ s ys := by
  obtain rfl := unO_some hu
  exact fun s1 k Q q => h s1 k Q fun v s2 k2 ⟨p, vs, e1, h1, h2⟩ => q v s2 k2 ⟨p, vs, e1, h1, reps_un h2⟩
theorem ev_un {xs : List (Option α)} {ys : List α} (h : Ev X e σ s xs) (hu : unO xs = some ys) : Ev X e σ s ys := by
  obtain rfl := unO_some hu
  exact fun s1 k Q q => h s1 k Q fun v s2 k2 ⟨p, vs, e1, h1, h2⟩ => q v s2 k2 ⟨p, vs, e1, h1, reps_un h2⟩
theorem en_un {xs : List (Option α)} {ys : List α} (h : EvN X e σ s xs) (hu : unO xs = some ys) : EvN X e σ s ys := by
  obtain rfl := unO_some hu
  exact fun s1 k Q q => h s1 k Q fun p s2 k2 n ⟨o1, vs, o2, o3⟩ => q p s2 k2 n ⟨o1, vs, o2, reps_un o3⟩
def isL {α β : Type} : α ⊕ β → Bool
  | .inl _ => true
  | .inr _ => false
theorem eb_isNG {j} {b : Bool} {ok : V → List OA → Prop} (h : EvG X a σ s ok) (hb : ∀ (v : V) (s2 : S) (L' : List OA), ok v L' → (∀ (i : Nat) (w : V) (x : Unit), L'[i]? = some (fz w x) → rep X.K s2.F w x) → (b = true ∧ v = .non) ∨ (b = false ∧ ∃ p, v = .ref p)) : EvB X (.Compare a [.Is] [.Constant .none j p1] pos) σ s b := by
  have key : ∀ (v : V) {s1 s2 : S} {L' : List OA}, ok v L' → Iv X.K No s1 s2 L' → decide (v = V.non) = b := fun v s1 s2 L' z i => by
    rcases hb v s2 L' z (fun k w x e => Iv.fz i k e) with ⟨rfl, rfl⟩ | ⟨rfl, p, rfl⟩ <;> rfl
  exact ⟨fun s1 k Q q => we_of (pe_cmpR op_isN pe_we pe_we (nomark _)) (h s1 k _ fun v s2 L' z i => ev_non s2 (Ex.refl _) _ fun u s3 k3 r3 => ⟨r3, by rw [key v z i]; exact q _ s3 ((Iv.exx i).trans k3) rfl⟩),
    fun s1 k Q q => wt_of (pt_cmpR op_isN pe_we pe_we (nomark _)) (h s1 k _ fun v s2 L' z i => ev_non s2 (Ex.refl _) _ fun u s3 k3 r3 => ⟨r3, by rw [key v z i]; exact ⟨b, rfl, q s3 ((Iv.exx i).trans k3)⟩⟩)⟩
theorem reps_so {F : Hp} : ∀ {vs : List V} {ys : List α}, Reps K F vs ys → Reps K F vs (ys.map some)
  | [], [], _ => trivial
  | _ :: _, _ :: _, ⟨h, t⟩ => ⟨h, reps_so t⟩
  | [], _ :: _, h => h.elim
  | _ :: _, [], h => h.elim
theorem er_so {ys : List α} (h : EvR X e σ s ys) : EvR X e σ s (ys.map some) := fun s1 k Q q => h s1 k Q fun v s2 k2 ⟨p, vs, e1, h1, h2⟩ => q v s2 k2 ⟨p, vs, e1, h1, reps_so h2⟩
theorem ev_so {ys : List α} (h : Ev X e σ s ys) : Ev X e σ s (ys.map some) := fun s1 k Q q => h s1 k Q fun v s2 k2 ⟨p, vs, e1, h1, h2⟩ => q v s2 k2 ⟨p, vs, e1, h1, reps_so h2⟩
theorem en_so {ys : List α} (h : EvN X e σ s ys) : EvN X e σ s (ys.map some) := fun s1 k Q q => h s1 k Q fun p s2 k2 n ⟨o1, vs, o2, o3⟩ => q p s2 k2 n ⟨o1, vs, o2, reps_so o3⟩
end
instance {α β γ δ : Type} [Enc α] [Enc β] [Enc γ] [Enc δ] : Arity (T4 α β γ δ) 4 := ⟨fun h => by
  obtain ⟨p, v0, v1, v2, v3, e, h, _⟩ := h
  exact ⟨p, _, e, h, rfl⟩⟩
theorem p4_0 {α β γ δ : Type} [Enc α] [Enc β] [Enc γ] [Enc δ] {K : PySem.W.Frag} {x : T4 α β γ δ} {F : Hp} {v : V} (h : rep K F v x) : ∃ p vs w, v = .ref p ∧ SqT K F p vs ∧ atI vs 0 = some w ∧ rep K F w x.a := by
  obtain ⟨p, v0, v1, v2, v3, rfl, h0, h1, h2, h3, h4⟩ := h
  exact ⟨p, _, v0, rfl, h0, rfl, h1⟩
theorem p4_1 {α β γ δ : Type} [Enc α] [Enc β] [Enc γ] [Enc δ] {K : PySem.W.Frag} {x : T4 α β γ δ} {F : Hp} {v : V} (h : rep K F v x) : ∃ p vs w, v = .ref p ∧ SqT K F p vs ∧ atI vs 1 = some w ∧ rep K F w x.b := by
  obtain ⟨p, v0, v1, v2, v3, rfl, h0, h1, h2, h3, h4⟩ := h
  exact ⟨p, _, v1, rfl, h0, rfl, h2⟩
theorem p4_2 {α β γ δ : Type} [Enc α] [Enc β] [Enc γ] [Enc δ] {K : PySem.W.Frag} {x : T4 α β γ δ} {F : Hp} {v : V} (h : rep K F v x) : ∃ p vs w, v = .ref p ∧ SqT K F p vs ∧ atI vs 2 = some w ∧ rep K F w x.c := by
  obtain ⟨p, v0, v1, v2, v3, rfl, h0, h1, h2, h3, h4⟩ := h
  exact ⟨p, _, v2, rfl, h0, rfl, h3⟩
theorem p4_3 {α β γ δ : Type} [Enc α] [Enc β] [Enc γ] [Enc δ] {K : PySem.W.Frag} {x : T4 α β γ δ} {F : Hp} {v : V} (h : rep K F v x) : ∃ p vs w, v = .ref p ∧ SqT K F p vs ∧ atI vs 3 = some w ∧ rep K F w x.d := by
  obtain ⟨p, v0, v1, v2, v3, rfl, h0, h1, h2, h3, h4⟩ := h
  exact ⟨p, _, v3, rfl, h0, rfl, h4⟩
instance {α β γ δ ε : Type} [Enc α] [Enc β] [Enc γ] [Enc δ] [Enc ε] : Arity (T5 α β γ δ ε) 5 := ⟨fun h => by
  obtain ⟨p, v0, v1, v2, v3, v4, e, h, _⟩ := h
  exact ⟨p, _, e, h, rfl⟩⟩
theorem p5_0 {α β γ δ ε : Type} [Enc α] [Enc β] [Enc γ] [Enc δ] [Enc ε] {K : PySem.W.Frag} {x : T5 α β γ δ ε} {F : Hp} {v : V} (h : rep K F v x) : ∃ p vs w, v = .ref p ∧ SqT K F p vs ∧ atI vs 0 = some w ∧ rep K F w x.a := by
  obtain ⟨p, v0, v1, v2, v3, v4, rfl, h0, h1, h2, h3, h4, h5⟩ := h
  exact ⟨p, _, v0, rfl, h0, rfl, h1⟩
theorem p5_1 {α β γ δ ε : Type} [Enc α] [Enc β] [Enc γ] [Enc δ] [Enc ε] {K : PySem.W.Frag} {x : T5 α β γ δ ε} {F : Hp} {v : V} (h : rep K F v x) : ∃ p vs w, v = .ref p ∧ SqT K F p vs ∧ atI vs 1 = some w ∧ rep K F w x.b := by
  obtain ⟨p, v0, v1, v2, v3, v4, rfl, h0, h1, h2, h3, h4, h5⟩ := h
  exact ⟨p, _, v1, rfl, h0, rfl, h2⟩
theorem p5_2 {α β γ δ ε : Type} [Enc α] [Enc β] [Enc γ] [Enc δ] [Enc ε] {K : PySem.W.Frag} {x : T5 α β γ δ ε} {F : Hp} {v : V} (h : rep K F v x) : ∃ p vs w, v = .ref p ∧ SqT K F p vs ∧ atI vs 2 = some w ∧ rep K F w x.c := by
  obtain ⟨p, v0, v1, v2, v3, v4, rfl, h0, h1, h2, h3, h4, h5⟩ := h
  exact ⟨p, _, v2, rfl, h0, rfl, h3⟩
theorem p5_3 {α β γ δ ε : Type} [Enc α] [Enc β] [Enc γ] [Enc δ] [Enc ε] {K : PySem.W.Frag} {x : T5 α β γ δ ε} {F : Hp} {v : V} (h : rep K F v x) : ∃ p vs w, v = .ref p ∧ SqT K F p vs ∧ atI vs 3 = some w ∧ rep K F w x.d := by
  obtain ⟨p, v0, v1, v2, v3, v4, rfl, h0, h1, h2, h3, h4, h5⟩ := h
  exact ⟨p, _, v3, rfl, h0, rfl, h4⟩
theorem p5_4 {α β γ δ ε : Type} [Enc α] [Enc β] [Enc γ] [Enc δ] [Enc ε] {K : PySem.W.Frag} {x : T5 α β γ δ ε} {F : Hp} {v : V} (h : rep K F v x) : ∃ p vs w, v = .ref p ∧ SqT K F p vs ∧ atI vs 4 = some w ∧ rep K F w x.e := by
  obtain ⟨p, v0, v1, v2, v3, v4, rfl, h0, h1, h2, h3, h4, h5⟩ := h
  exact ⟨p, _, v4, rfl, h0, rfl, h5⟩
section
variable {α β γ δ ε : Type} [Enc α] [Enc β] [Enc γ] [Enc δ] [Enc ε] {X : Cx} {σ : L2.St} {s : S} {e tg : Expr} {pos : Pos} {rest : List Stmt} {D : Ends}
theorem do_unp4 (i j l m : Nat) {x : T4 α β γ δ} (h : Ev X e σ s x) (k : ∀ v w u z s1, Ex s s1 → rep X.K s1.F v x.a → rep X.K s1.F w x.b → rep X.K s1.F u x.c → rep X.K s1.F z x.d → WSs X rest D ((((σ.set i (some v)).set j (some w)).set l (some u)).set m (some z)) s1.H)
    (hg : PG X tg (gTup X.K 4 (gCons (gName i) (gCons (gName j) (gCons (gName l) (gCons (gName m) gNil)))))) (hs : swapsWithSole [tg] e pos.line X.env = pure false := by rfl) (hw : swappedStores [tg] e X.env = pure none := by rfl)
    (h1 : (assignEach [tg] X.env).map (·.2) = [assign tg X.env] := by rfl) : WSs X (.Assign [tg] e pos :: rest) D σ s.H :=
  do_cons (ps_asg pe_we hg hs hw h1) (h s (Ex.refl _) _ fun v s1 k1 r => by
    obtain ⟨p, v1, v2, v3, v4, rfl, h0, h1, h2, h3, h4⟩ := r
    exact ⟨p, _, rfl, sqt_mono s1.sub h0, rfl, v1, _, rfl, v2, _, rfl, v3, _, rfl, v4, _, rfl, rfl, k v1 v2 v3 v4 s1 k1 h1 h2 h3 h4⟩)
theorem do_unp5 (i j l m n : Nat) {x : T5 α β γ δ ε} (h : Ev X e σ s x) (k : ∀ v w u z y s1, Ex s s1 → rep X.K s1.F v x.a → rep X.K s1.F w x.b → rep X.K s1.F u x.c → rep X.K s1.F z x.d → rep X.K s1.F y x.e → WSs X rest D (((((σ.set i (some v)).set j (some w)).set l (some u)).set m (some z)).set n (some y)) s1.H)
    (hg : PG X tg (gTup X.K 5 (gCons (gName i) (gCons (gName j) (gCons (gName l) (gCons (gName m) (gCons (gName n) gNil))))))) (hs : swapsWithSole [tg] e pos.line X.env = pure false := by rfl) (hw : swappedStores [tg] e X.env = pure none := by rfl)
    (h1 : (assignEach [tg] X.env).map (·.2) = [assign tg X.env] := by rfl) : WSs X (.Assign [tg] e pos :: rest) D σ s.H :=
  do_cons (ps_asg pe_we hg hs hw h1) (h s (Ex.refl _) _ fun v s1 k1 r => by
    obtain ⟨p, v1, v2, v3, v4, v5, rfl, h0, h1, h2, h3, h4, h5⟩ := r
    exact ⟨p, _, rfl, sqt_mono s1.sub h0, rfl, v1, _, rfl, v2, _, rfl, v3, _, rfl, v4, _, rfl, v5, _, rfl, rfl, k v1 v2 v3 v4 v5 s1 k1 h1 h2 h3 h4 h5⟩)
end
end Dy

namespace Dy
open PySem PySem.Spec L2
open PyProof.Rows hiding St
open Enc (rep)
open Flat (toV)
open EncA (repA)

structure PK where
  a : Int
  b : Int
instance : Enc PK := ⟨fun K F v x => ∃ p, v = .ref p ∧ F p = some (.tup [.int x.a, .int x.b]), fun e ⟨p, h1, h2⟩ => ⟨p, h1, e _ _ h2⟩⟩
def PK.pr (x : PK) : Int × Int := (x.a, x.b)
def PK.key (x : PK) : List Key := [.inl x.a, .inl x.b]
theorem PK.kinj (x y : Int × Int) : ([.inl x.1, .inl x.2] : List Key) = [.inl y.1, .inl y.2] ↔ x = y := by
  obtain ⟨a, b⟩ := x; obtain ⟨c, d⟩ := y
  simp
def kp (x : Int × Int) : List Key := [.inl x.1, .inl x.2]
theorem kp_dec (a b : Int × Int) : decide (kp a = kp b) = decide (a = b) := decide_eq_decide.mpr (PK.kinj a b)
theorem rep_pk {K : PySem.W.Frag} {F : Hp} {v : V} {x : PK} (h : rep K F v x) : rep K F v x.pr := by
  obtain ⟨p, h1, h2⟩ := h
  exact ⟨p, _, _, h1, .inl (.inl h2), rfl, rfl⟩
section
variable {α β : Type} [Enc α] [Enc β] {K : PySem.W.Frag} {F F' : Hp}
def TReps (K : PySem.W.Frag) (F : Hp) : List (List Key × V) → List ((Int × Int) × α) → Prop
  | [], [] => True
  | (k, v) :: r, (j, x) :: xs => k = kp j ∧ rep K F v x ∧ TReps K F r xs
  | _, _ => False
theorem TReps.mono (e : Fle F F') : ∀ {kv : List (List Key × V)} {xs : List ((Int × Int) × α)}, TReps K F kv xs → TReps K F' kv xs
  | [], [], _ => trivial
  | (_, _) :: _, (_, _) :: _, ⟨h1, h2, h3⟩ => ⟨h1, Enc.mono e h2, TReps.mono e h3⟩
  | [], _ :: _, h => h.elim
  | _ :: _, [], h => h.elim
theorem TReps.len : ∀ {kv : List (List Key × V)} {xs : List ((Int × Int) × α)}, TReps K F kv xs → kv.length = xs.length
  | [], [], _ => rfl
  | (_, _) :: _, (_, _) :: _, ⟨_, _, h3⟩ => by rw [List.length_cons, List.length_cons, TReps.len h3]
  | [], _ :: _, h => h.elim
  | _ :: _, [], h => h.elim
theorem TReps.val {k : Int × Int} : ∀ {kv : List (List Key × V)} {xs : List ((Int × Int) × α)}, TReps K F kv xs → (valV kv (kp k)).isSome = (dval xs k).isSome
  | [], [], _ => rfl
  | (j, v) :: r, (i, x) :: xs, ⟨e, h, t⟩ => by
    subst e
    unfold dval valV
    rw [List.find?_cons, List.find?_cons]
    dsimp only
    rw [kp_dec i k]
    cases decide (i = k) with
    | true => rfl
    | false => exact TReps.val (k := k) t
  | [], _ :: _, h => h.elim
  | _ :: _, [], h => h.elim
theorem TReps.any {k : Int × Int} : ∀ {kv : List (List Key × V)} {xs : List ((Int × Int) × α)}, TReps K F kv xs → (kv.any fun z => decide (z.1 = kp k)) = xs.any fun z => decide (z.1 = k)
  | [], [], _ => rfl
  | (j, v) :: r, (i, x) :: xs, ⟨e, h, t⟩ => by
    subst e
    rw [List.any_cons, List.any_cons, TReps.any (k := k) t, kp_dec i k]
  | [], _ :: _, h => h.elim
  | _ :: _, [], h => h.elim
theorem TReps.app : ∀ {kv kw : List (List Key × V)} {xs ys : List ((Int × Int) × α)}, TReps K F kv xs → TReps K F kw ys → TReps K F (kv ++ kw) (xs ++ ys)
  | [], _, [], _, _, h => h
  | _ :: _, _, _ :: _, _, ⟨e, h, t⟩, w => ⟨e, h, TReps.app t w⟩
  | [], _, _ :: _, _, h, _ => h.elim
  | _ :: _, _, [], _, h, _ => h.elim
theorem TReps.repl {k : Int × Int} {v : V} {y : α} (r : rep K F v y) : ∀ {kv : List (List Key × V)} {xs : List ((Int × Int) × α)}, TReps K F kv xs → TReps K F (kv.map fun z => if z.1 = kp k then (z.1, v) else z) (xs.map fun z => if z.1 = k then (z.1, y) else z)
  | [], [], _ => trivial
  | (j, u) :: kv, (i, x) :: xs, ⟨e, h, t⟩ => by
    subst e
    rw [List.map_cons, List.map_cons]
    dsimp only
    by_cases hh : i = k
    · rw [if_pos (show kp i = kp k by rw [hh]), if_pos hh]
      exact ⟨rfl, r, TReps.repl r t⟩
    · rw [if_neg (show ¬ kp i = kp k from fun z => hh ((PK.kinj i k).mp z)), if_neg hh]
      exact ⟨rfl, h, TReps.repl r t⟩
  | [], _ :: _, h => h.elim
  | _ :: _, [], h => h.elim
theorem TReps.put {k : Int × Int} {v : V} {y : α} {kv : List (List Key × V)} {xs : List ((Int × Int) × α)} (h : TReps K F kv xs) (r : rep K F v y) : TReps K F (putK kv (kp k) v) (dput xs k y) := by
  unfold putK dput
  rw [h.any (k := k)]
  split
  · exact h.repl r
  · exact h.app ⟨rfl, r, trivial⟩
end
def odT {α : Type} [Enc α] (p : Addr) (xs : List ((Int × Int) × α)) : OA := ⟨fun K F H P => (∀ a, P a ↔ a = p) ∧ ∃ kv, H p = some (.dT kv) ∧ TReps K F kv xs, fun e ⟨h0, vs, h1, h2⟩ => ⟨h0, vs, h1, h2.mono e⟩,
  fun e ⟨h0, vs, h1, h2⟩ => ⟨h0, vs, by rw [e p ((h0 p).mpr rfl)]; exact h1, h2⟩, fun ⟨h0, vs, h1, h2⟩ q => ⟨_, (congrArg _ ((h0 _).mp q)).trans h1⟩⟩
def OwnDT {α : Type} [Enc α] (K : PySem.W.Frag) (s : S) (p : Addr) (xs : List ((Int × Int) × α)) : Prop := s.F p = none ∧ ∃ kv, s.H p = some (.dT kv) ∧ TReps K s.F kv xs
section
variable {α β : Type} [Enc α] [Enc β] {K : PySem.W.Frag} {P0 : Addr → Prop} {s0 s s1 t : S} {L M R : List OA}
theorem OwnDT.ex {p : Addr} {xs : List ((Int × Int) × α)} (h : OwnDT K s p xs) (e : Ex s t) : OwnDT K t p xs := by
  obtain ⟨h0, kv, h1, h2⟩ := h
  exact ⟨e.n _ _ h1 h0, kv, e.h _ _ h1, h2.mono e.f⟩
theorem Iv.odT (h : Iv K P0 s0 s L) (i : Nat) {p : Addr} {xs : List ((Int × Int) × α)} (e : L[i]? = some (Dy.odT p xs) := by rfl) : OwnDT K s p xs := by
  obtain ⟨P, ⟨h0, kv, h1, h2⟩, h3⟩ := h.at i e
  exact ⟨h3 p ((h0 p).mpr rfl), kv, h1, h2⟩
theorem Iv.sdT (h : Iv K P0 s0 s L) (i : Nat) {p : Addr} {xs ys : List ((Int × Int) × α)} (e : Ex s s1) (n : s.H p = none) (o : OwnDT K s1 p xs) (q : ys = xs) : Iv K P0 s0 s1 (L.set i (Dy.odT p ys)) := by
  subst q
  obtain ⟨o1, vs, o2, o3⟩ := o
  exact h.put i e ⟨fun a => a = p, ⟨fun _ => Iff.rfl, vs, o2, o3⟩, fun a z => by rw [z]; exact ⟨o1, n⟩⟩
theorem Iv.mdT (h : Iv K P0 s0 s L) (i : Nat) {p : Addr} {xs : List ((Int × Int) × α)} {ys zs : List ((Int × Int) × β)} (m : Mx (· = p) s s1) (o : OwnDT K s1 p ys) (q : zs = ys) (hA : L[i]? = some (Dy.odT p xs) := by rfl) : Iv K P0 s0 s1 (L.set i (Dy.odT p zs)) := by
  subst q
  obtain ⟨o1, vs, o2, o3⟩ := o
  refine h.upd i hA fun P hP _ => ⟨P, ?_, ?_, ?_⟩
  · exact ⟨hP.1, vs, o2, o3⟩
  · intro a z
    rw [(hP.1 a).mp z]
    exact ⟨o1, .inl ((hP.1 p).mpr rfl)⟩
  · exact ⟨m.f, fun a o q n => m.h a o q fun z => n ((hP.1 a).mpr z), fun a o q _ z => m.n a o q z, m.d⟩
theorem ev_ivdT {p : Addr} {x : List ((Int × Int) × α)} (e : Ex s s1) (n : s.H p = none) (o : OwnDT K s1 p x) : Iv K No s s1 [Dy.odT p x] := (Iv.sdT (Iv.tops (K := K) (P0 := No) 1 s) 0 e n o rfl)
end
section
variable {α β : Type} [Enc α] [Enc β] {X : Cx} {σ : L2.St} {P0 : Addr → Prop} {s0 s t : S} {L : List OA} {e a b c o i : Expr} {es : List Expr} {pos p0 p1 p2 p3 : Pos} {D : Ends} {rest : List Stmt} {n : Str} {p : Addr}
theorem ev_pk {x y : Int} {n} (h : EvA X es σ s (x, y, ())) : Ev X (.Tuple es n pos) σ s (⟨x, y⟩ : PK) := fun s1 k Q q =>
  we_of (pe_tup pa_wa) (h s1 k _ fun vs s2 k2 r2 => by
    obtain ⟨v1, w1, rfl, r1, v2, w2, rfl, r3, rfl⟩ := r2
    cases (show v1 = V.int x from r1)
    cases (show v2 = V.int y from r3)
    exact ⟨show _ ≤ 2 ^ 24 by simp, fun p hp => q (.ref p) (s2.newF p (.tup [.int x, .int y]) hp) (k2.trans (Ex.newF hp)) ⟨p, rfl, upd_same⟩⟩)
theorem ev_pkr {x : PK} (h : Ev X e σ s x) : Ev X e σ s x.pr := fun s1 k Q q => h s1 k Q fun v s2 k2 r => q v s2 k2 (rep_pk r)
theorem dgetT_of {K : PySem.W.Frag} {k : PK} {xs : List ((Int × Int) × α)} {w : V} (r : OwnDT K s p xs) (hw : rep K s.F w k) : ∃ o, DGet s.H p w o ∧ o.isSome = (dval xs k.pr).isSome := by
  obtain ⟨_, kv, h1, h2⟩ := r
  obtain ⟨b, rfl, hb⟩ := hw
  refine ⟨valV kv (kp k.pr), .inr ⟨kv, kp k.pr, b, .inl h1, rfl, s.sub _ _ hb, rfl⟩, h2.val⟩
theorem ev_dtin {j : Nat} {k : PK} {xs : List ((Int × Int) × α)} (hr : Room j X.A) (hi : Ev X i σ s k) (ho : Ev X o σ s (Rw.mk (.ref p))) (r : OwnDT X.K s p xs) (h1 : behindInMarks .In o = false := by rfl) : EvB X (.Compare i [.In] [o] pos) σ s (dval xs k.pr).isSome :=
  ⟨fun s1 k1 Q q => we_of (pe_cmp (pc_din (hu1 hr) pe_we pe_we) h1) (hi s1 k1 _ fun u s2 k2 e2 => ho s2 (k1.trans k2) _ fun v s3 k3 e3 => by
    cases (show v = V.ref p from e3)
    obtain ⟨o', g1, g2⟩ := dgetT_of (r.ex ((k1.trans k2).trans k3)) (Enc.mono k3.f (e2 : rep _ _ u k))
    exact ⟨p, o', rfl, g1, by rw [g2]; exact q _ s3 (k2.trans k3) rfl⟩),
   fun s1 k1 Q q => wt_of (pt_cmp (pc_din (hu1 hr) pe_we pe_we) h1) (hi s1 k1 _ fun u s2 k2 e2 => ho s2 (k1.trans k2) _ fun v s3 k3 e3 => by
    cases (show v = V.ref p from e3)
    obtain ⟨o', g1, g2⟩ := dgetT_of (r.ex ((k1.trans k2).trans k3)) (Enc.mono k3.f (e2 : rep _ _ u k))
    exact ⟨p, o', rfl, g1, _, by rw [g2], q s3 (k2.trans k3)⟩)⟩
theorem ev_dtnotIn {j : Nat} {k : PK} {xs : List ((Int × Int) × α)} (hr : Room j X.A) (hi : Ev X i σ s k) (ho : Ev X o σ s (Rw.mk (.ref p))) (r : OwnDT X.K s p xs) (h1 : behindInMarks .NotIn o = false := by rfl) : EvB X (.Compare i [.NotIn] [o] pos) σ s (!(dval xs k.pr).isSome) :=
  ⟨fun s1 k1 Q q => we_of (pe_cmp (pc_dnotin (hu1 hr) pe_we pe_we) h1) (hi s1 k1 _ fun u s2 k2 e2 => ho s2 (k1.trans k2) _ fun v s3 k3 e3 => by
    cases (show v = V.ref p from e3)
    obtain ⟨o', g1, g2⟩ := dgetT_of (r.ex ((k1.trans k2).trans k3)) (Enc.mono k3.f (e2 : rep _ _ u k))
    exact ⟨p, o', rfl, g1, by rw [g2]; exact q _ s3 (k2.trans k3) rfl⟩),
   fun s1 k1 Q q => wt_of (pt_cmp (pc_dnotin (hu1 hr) pe_we pe_we) h1) (hi s1 k1 _ fun u s2 k2 e2 => ho s2 (k1.trans k2) _ fun v s3 k3 e3 => by
    cases (show v = V.ref p from e3)
    obtain ⟨o', g1, g2⟩ := dgetT_of (r.ex ((k1.trans k2).trans k3)) (Enc.mono k3.f (e2 : rep _ _ u k))
    exact ⟨p, o', rfl, g1, _, by rw [g2], q s3 (k2.trans k3)⟩)⟩
theorem ev_dtlen {xs : List ((Int × Int) × α)} (hm : X.mg "len" = none) (ho : Ev X o σ s (Rw.mk (.ref p))) (r : OwnDT X.K s p xs) (hg : Gl X "len" := by rfl) (he : starEach [o] X.env = (false, eval o X.env) :: starEach [] X.env := by rfl) (hpl : (backTo pos (starEach [] X.env)).any (·.1) = false := by rfl) : Ev X (.Call (.Name "len" p0) [o] [] pos) σ s (xs.length : Int) := fun s1 k1 Q q =>
  we_of (pe_callB call_len_dT hg hm boot_len (pa_cons pe_we pa_nil he) (he := he) (hpl := hpl)) (ho s1 k1 _ fun v s2 k2 e2 => by
    cases (show v = V.ref p from e2)
    obtain ⟨_, kv, h1, h2⟩ := r.ex (k1.trans k2)
    exact ⟨p, kv, rfl, h1, q _ s2 k2 (by rw [h2.len]; rfl)⟩)
def EvNT (X : Cx) (e : Expr) (σ : L2.St) (s : S) (xs : List ((Int × Int) × α)) : Prop := ∀ s1, Ex s s1 → ∀ Q : VK, (∀ p s2, Ex s1 s2 → s1.H p = none → OwnDT X.K s2 p xs → Q (.ref p) s2.H) → WE X e σ s1.H Q
theorem en_dtnew : EvNT X (.Dict [] [] pos) σ s ([] : List ((Int × Int) × α)) := fun s1 k1 Q q => we_of pe_dnewT fun p hp => q p (s1.newO p (.dT []) hp) (Ex.newO hp) hp ⟨(fF hp : s1.F p = none), [], upd_same, trivial⟩
theorem eg_newT {xs : List ((Int × Int) × α)} (h : EvNT X e σ s xs) : EvG X e σ s (fun v L' => ∃ p, v = .ref p ∧ L' = [odT p xs]) := fun s1 k Q q => h s1 k Q fun p s2 k2 n2 r => q _ s2 _ ⟨p, rfl, rfl⟩ (ev_ivdT k2 n2 r)
theorem do_dtput {j : Nat} {k : PK} {xs : List ((Int × Int) × α)} {y : α} (hr : Room j X.A) (ho : Ev X o σ s (Rw.mk (.ref p))) (r : OwnDT X.K s p xs) (hv : Ev X e σ s y) (hi : Ev X i σ s k) (hz : xs.length < sizeLine) (kk : ∀ s1, Mx (· = p) s s1 → OwnDT X.K s1 p (dput xs k.pr y) → WSs X rest D σ s1.H)
    (hs : swapsWith e (some (.Subscript o i p1)) pos.line X.env = pure false := by rfl) : WSs X (.Assign [.Subscript o i p1] e pos :: rest) D σ s.H :=
  do_cons (ps_dput (hu1 hr) pe_we pe_we pe_we hs) (hv s (Ex.refl _) _ fun v s1 k1 e1 => ho s1 k1 _ fun u s2 k2 e2 => hi s2 (k1.trans k2) _ fun w s3 k3 e3 => by
    cases (show u = V.ref p from e2)
    have kx := (k1.trans k2).trans k3
    obtain ⟨f0, kv, h1, h2⟩ := r.ex kx
    obtain ⟨b, rfl, hb⟩ := (e3 : rep _ _ w k)
    refine ⟨p, _, rfl, .inr ⟨kv, kp k.pr, b, h1, rfl, s3.sub _ _ hb, by rw [h2.len]; exact hz, rfl⟩, ?_⟩
    exact kk (s3.put p (.dT (putK kv (kp k.pr) v)) f0) (kx.mx.trans (Mx.put f0)) ⟨f0, _, upd_same, h2.put (Enc.mono (k2.trans k3).f e1)⟩)
end
end Dy

set_option maxHeartbeats 4000000
namespace K44
open PySem PySem.Spec L2 Dy
open PyProof.Rows hiding St
open Enc (rep)
open Flat (toV)
open EncA (repA)
def topS (i : Nat) : Stmt := PySem.Challenge.pw_deskpairs_k44_whole_meetings.main.body.getD i (.Pass ⟨0, 0, 0, 0⟩)
def clsS (i j : Nat) : Stmt := match PySem.Challenge.pw_deskpairs_k44_whole_meetings.main.body.getD i (.Pass ⟨0, 0, 0, 0⟩) with | .ClassDef _ _ _ body _ _ _ _ _ _ _ => body.getD j (.Pass ⟨0, 0, 0, 0⟩) | _ => .Pass ⟨0, 0, 0, 0⟩
def tab : ETab := ⟨["NoPlace"], [("NoPlace", "place")], [(("NoPlace", "NoBars"), false), (("NoPlace", "NoBreak"), false), (("NoPlace", "NoCall"), false), (("NoPlace", "NoInstrument"), false), (("NoPlace", "NoLine"), false), (("NoPlace", "NoName"), false), (("NoPlace", "NoOrder"), false), (("NoPlace", "NoPlayer"), false), (("NoPlace", "NoSeating"), false), (("NoPlace", "NoText"), false), (("NoPlace", "NoTimes"), false), (("NoPlace", "PairsError"), true), (("NoPlace", "Twice"), false), (("NoPlace", "ValueError"), true)], [(("NoPlace", "NoPlace"), true)]⟩
abbrev s_l_cell_at : Stmt := topS 20
abbrev N_l_cell_at : List Str := ["_law_script", "_law_k"]
theorem sc_l_cell_at : FnScope N_l_cell_at ["_law_script", "_law_k"] (defScope s_l_cell_at) := ⟨rfl, rfl, rfl, by decide +kernel, rfl, by decide +kernel, by decide +kernel⟩
noncomputable def m_l_cell_at (script1 : (List Int)) (k4 : Int) : Option Int :=
 (if (decide (k4 < ((script1).length : Int))) = true then
 (bnd (atI script1 k4) fun at13 => (some at13))
 else
 (some (0 : Int)))
noncomputable abbrev a_l_cell_at : (List Int) × Int × Unit → Option Int := fun a => m_l_cell_at a.1 a.2.1
theorem ok_l_cell_at {P : Program} {w : World} {K : PySem.W.Frag} {mg : Str → Option Value} {base : Heap} {f : Addr} {fd : FuncData} (F : FunP K "_law_cell_at" s_l_cell_at f fd) (hmg : mg "_law_cell_at" = some (.ref f)) (z_len : mg "len" = none) : Cal P w K mg base CX0 1 "_law_cell_at" (sp K a_l_cell_at) := by
  refine mk_cal (k := 0) F hmg (F.bindsN fun _ _ _ _ _ _ us hl => match us, hl with | [_, _], _ => rfl) sc_l_cell_at len2 ?_
  rintro cdv A' outer sh0 H0 X0 hr s0 vs ⟨script1, k4, _⟩ r0 Q ⟨v2, _, rfl, r3, v5, _, rfl, r6, rfl⟩ hm hQ
  unfold a_l_cell_at m_l_cell_at at hm
  dsimp only at hm
  have iv7 : Iv K (fun _ => False) s0 s0 [fz v2 (script1 : (List Int)), fz v5 (k4 : Int)] := (Iv.sf (Iv.sf (Iv.tops (K := K) (P0 := (fun _ => False)) 2 s0) 0 (Ex.refl s0) r3 rfl) 1 (Ex.refl s0) r6 rfl)
  refine do_ifR (EvB.t (eb_lt (ev_var 1 rfl (Iv.fz (x := (k4 : Int)) iv7 1)) (ev_len z_len (Ev.r (ev_var 0 rfl (Iv.fz (x := (script1 : (List Int))) iv7 0)))))) (fun hb8 s9 e10 => ?_) (fun hb18 s19 e20 => ?_)
  · have hm11 := iteE1 hm hb8
    have iv12 := Iv.ex iv7 e10
    obtain ⟨at13, h_at13, hm11⟩ := bndE hm11
    obtain rfl := Option.some.inj hm11
    exact do_ret (ev_ix (Ev.r (ev_var 0 rfl (Iv.fz (x := (script1 : (List Int))) iv12 0))) (ev_var 1 rfl (Iv.fz (x := (k4 : Int)) iv12 1)) h_at13) fun v14 s15 e16 r17 => hQ _ _ (Ex.trans (Iv.exx iv12) e16) r17
  · have hm21 := iteE2 hm hb18
    have iv22 := Iv.ex iv7 e20
    obtain rfl := Option.some.inj hm21
    exact do_ret ev_int fun v23 s24 e25 r26 => hQ _ _ (Ex.trans (Iv.exx iv22) e25) r26
abbrev s_l_draws : Stmt := topS 21
abbrev N_l_draws : List Str := ["_law_cell", "_law_sizes", "_law_found", "_law_digits", "_law_k", "_law_mixed"]
theorem sc_l_draws : FnScope N_l_draws ["_law_cell", "_law_sizes"] (defScope s_l_draws) := ⟨rfl, rfl, rfl, by decide +kernel, rfl, by decide +kernel, by decide +kernel⟩
noncomputable def m_l_draws (cell27 : Int) (sizes30 : (List Int)) : Option (List Int) :=
 (lt (([] : List Int) : (List Int)) fun found34 =>
 (lt ((cell27 / (2 : Int)) : Int) fun digits42 =>
 (chk (RgB ((sizes30).length : Int)) (bnd (foldO (fun (b52 : ((List Int) × Int)) (x54 : Int) =>
 (chk (MulOk x54 x54) (lt (((((cell27 % (1000003 : Int)) + (1 : Int)) * ((x54 * x54) + (48271 : Int))) % (65537 : Int)) : Int) fun mixed78 =>
 (lt ((((((mixed78 * mixed78) + ((7919 : Int) * x54)) + (11 : Int)) * (30269 : Int)) % (999983 : Int)) : Int) fun mixed86 =>
 (bnd (if (decide ((cell27 % (2 : Int)) = (0 : Int))) = true then
 (lt (b52.2 : Int) fun mixed123 =>
 (some mixed123))
 else
 (some mixed86) : Option (Int)) fun b114 =>
 (bnd (atI sizes30 x54) fun at157 => (chk (0 < at157) (chk ((b52.1).length < sizeLine) (lt ((b52.1 ++ [(b114 % at157)]) : (List Int)) fun found155 =>
 (bnd (atI sizes30 x54) fun at162 => (chk (DivOk at162) (lt ((b52.2 / at162) : Int) fun digits164 =>
 (some (found155, digits164)))))))))))))) (found34, digits42) (rng 0 ((sizes30).length : Int))) fun o50 =>
 (some o50.1)))))
noncomputable abbrev a_l_draws : Int × (List Int) × Unit → Option (List Int) := fun a => m_l_draws a.1 a.2.1
theorem ok_l_draws {P : Program} {w : World} {K : PySem.W.Frag} {mg : Str → Option Value} {base : Heap} {f : Addr} {fd : FuncData} (F : FunP K "_law_draws" s_l_draws f fd) (hmg : mg "_law_draws" = some (.ref f)) (z_range : mg "range" = none) (z_len : mg "len" = none) : Cal P w K mg base CX0 1 "_law_draws" (spN K a_l_draws) := by
  refine mk_calN (k := 0) F hmg (F.bindsN fun _ _ _ _ _ _ us hl => match us, hl with | [_, _], _ => rfl) sc_l_draws len2 ?_
  rintro cdv A' outer sh0 H0 X0 hr s0 vs ⟨cell27, sizes30, _⟩ r0 Q ⟨v28, _, rfl, r29, v31, _, rfl, r32, rfl⟩ hm hQ
  unfold a_l_draws m_l_draws at hm
  dsimp only at hm
  have iv33 : Iv K (fun _ => False) s0 s0 [fz v28 (cell27 : Int), fz v31 (sizes30 : (List Int)), top, top, top, top] := (Iv.sf (Iv.sf (Iv.tops (K := K) (P0 := (fun _ => False)) 6 s0) 0 (Ex.refl s0) r29 rfl) 1 (Ex.refl s0) r32 rfl)
  refine do_setN 2 (en_list (xs := ([] : List Int)) ee_nil (by simp [sizeLine])) (fun p38 s36 e37 n39 o40 => ?_) sc_l_draws.nd
  obtain ⟨found34, q35, hm⟩ := ltE hm
  have iv41 := Iv.sl iv33 2 e37 n39 o40 q35
  refine do_set 3 (ev_div (ev_var 0 rfl (Iv.fz (x := (cell27 : Int)) iv41 0)) ev_int ⟨by decide, by decide +kernel⟩) (fun v46 s44 e45 r47 => ?_) sc_l_draws.nd
  obtain ⟨digits42, q43, hm⟩ := ltE hm
  have iv48 := Iv.sf iv41 3 e45 r47 q43
  obtain ⟨hc49, hm⟩ := chkE hm
  obtain ⟨o50, ho51, hm⟩ := bndE hm
  refine do_forO (υ := ((List Int) × Int)) PassesOwn.never rfl (ei_range1 z_range (ev_len z_len (Ev.r (ev_var 1 rfl (Iv.fz (x := (sizes30 : (List Int))) iv48 1)))) hc49) (pg_name (i := 4) sc_l_draws.nd rfl (by first | exact Or.inl rfl | exact Or.inr rfl)) tg_n ho51 (fun (b52 : ((List Int) × Int)) (σ' : L2.St) (t' : S) => ∃ (v_digits : V) (y_mixed : Option V) (y_k : Option V), σ' = [some v28, some v31, some (.ref p38), some v_digits, y_k, y_mixed] ∧ Iv K (fun _ => False) s0 t' [fz v28 (cell27 : Int), fz v31 (sizes30 : (List Int)), ol p38 (b52.1 : (List Int)), fz v_digits (b52.2 : Int), top, top]) (fun s178 k179 => by have iv180 := Iv.ex iv48 k179; exact ⟨v46, _, _, rfl, Iv.sel iv180 [some 0, some 1, some 2, some 3, none, none] (by decide +kernel) (by kernel_rfl)⟩) (fun s55 k56 x54 b52 b53 σ65 σ66 t63 t64 hx57 hm58 fl59 hR60 k61 hB62 => ?_) (fun s172 k173 σ174 t175 fl176 hR177 => ?_)
  · have hf67 := Fle.trans k56.f fl59
    obtain ⟨v68, y69, y70, rfl, iv71⟩ := hR60
    obtain ⟨v72, r73, rfl⟩ := hB62
    have iv74 := Iv.ex iv71 k61
    have iv75 := Iv.sf iv74 4 (Ex.refl t64) r73 rfl
    have fl76 := Fle.trans (Fle.refl t64.F) (Ex.refl t64).f
    obtain ⟨hc77, hm58⟩ := chkE hm58
    refine do_set 5 (ev_mod (ev_mul (ev_add (ev_mod (ev_var 0 rfl (Iv.fz (x := (cell27 : Int)) iv75 0)) ev_int (by decide)) ev_int) (ev_add (ev_mul (ev_var 4 rfl (Iv.fz (x := (x54 : Int)) iv75 4)) (ev_var 4 rfl (Iv.fz (x := (x54 : Int)) iv75 4)) hc77) ev_int) (Or.inl (Or.inl ⟨by omega, by omega⟩))) ev_int (by decide)) (fun v82 s80 e81 r83 => ?_) sc_l_draws.nd
    obtain ⟨mixed78, q79, hm58⟩ := ltE hm58
    have iv84 := Iv.sf iv75 5 e81 r83 q79
    have fl85 := Fle.trans (Fle.refl t64.F) e81.f
    refine do_set 5 (ev_mod (ev_mul (ev_add (ev_add (ev_mul (ev_var 5 rfl (Iv.fz (x := (mixed78 : Int)) iv84 5)) (ev_var 5 rfl (Iv.fz (x := (mixed78 : Int)) iv84 5)) (Or.inl (Or.inl ⟨by omega, by omega⟩))) (ev_mul ev_int (ev_var 4 rfl (Iv.fz (x := (x54 : Int)) iv84 4)) (Or.inl (Or.inl ⟨by omega, by omega⟩)))) ev_int) ev_int (Or.inl (Or.inr ⟨by decide, by decide⟩))) ev_int (by decide)) (fun v90 s88 e89 r91 => ?_) sc_l_draws.nd
    obtain ⟨mixed86, q87, hm58⟩ := ltE hm58
    have iv92 := Iv.sf iv84 5 e89 r91 q87
    have fl93 := Fle.trans fl85 e89.f
    obtain ⟨b114, hj115, hm58⟩ := bndE hm58
    refine do_if (EvB.t (eb_eq (ev_mod (ev_var 0 rfl (Iv.fz (x := (cell27 : Int)) iv92 0)) ev_int (by decide)) ev_int)) (fun (σ' : L2.St) (t' : S) => Fle s88.F t'.F ∧ ∃ (v_mixed : V), σ' = [some v28, some v31, some (.ref p38), some v68, some v72, some v_mixed] ∧ Iv K (fun _ => False) s0 t' [fz v28 (cell27 : Int), fz v31 (sizes30 : (List Int)), ol p38 (b52.1 : (List Int)), fz v68 (b52.2 : Int), fz v72 (x54 : Int), fz v_mixed (b114 : Int)]) (fun hb116 s117 e118 => ?_) (fun hb132 s133 e134 => ?_) (fun σ139 s140 hM141 => ?_)
    · have hm119 := iteE1 hj115 hb116
      have iv120 := Iv.ex iv92 e118
      have fl121 := Fle.trans fl93 e118.f
      have fl122 := Fle.trans (Fle.refl s88.F) e118.f
      refine do_set 5 (ev_var 3 rfl (Iv.fz (x := (b52.2 : Int)) iv120 3)) (fun v127 s125 e126 r128 => ?_) sc_l_draws.nd
      obtain ⟨mixed123, q124, hm119⟩ := ltE hm119
      have iv129 := Iv.sf iv120 5 e126 r128 q124
      have fl130 := Fle.trans fl121 e126.f
      have fl131 := Fle.trans fl122 e126.f
      obtain rfl := Option.some.inj hm119
      exact do_nil ⟨s125, rfl, fl131, ⟨v127, rfl, Iv.sel iv129 [some 0, some 1, some 2, some 3, some 4, some 5] (by decide +kernel) (by kernel_rfl)⟩⟩
    · have hm135 := iteE2 hj115 hb132
      have iv136 := Iv.ex iv92 e134
      have fl137 := Fle.trans fl93 e134.f
      have fl138 := Fle.trans (Fle.refl s88.F) e134.f
      obtain rfl := Option.some.inj hm135
      exact do_nil ⟨s133, rfl, fl138, ⟨v90, rfl, Iv.sel iv136 [some 0, some 1, some 2, some 3, some 4, some 5] (by decide +kernel) (by kernel_rfl)⟩⟩
    · obtain ⟨hf142, hR143⟩ := hM141
      obtain ⟨v144, rfl, iv145⟩ := hR143
      have fl146 := Fle.trans fl93 hf142
      obtain ⟨at157, h_at157, hm58⟩ := bndE hm58
      obtain ⟨hc158, hm58⟩ := chkE hm58
      obtain ⟨hc159, hm58⟩ := chkE hm58
      refine do_append 2 rfl (Iv.ol (xs := (b52.1 : (List Int))) iv145 2) (ev_mod (ev_var 5 rfl (Iv.fz (x := (b114 : Int)) iv145 5)) (ev_ix (Ev.r (ev_var 1 rfl (Iv.fz (x := (sizes30 : (List Int))) iv145 1))) (ev_var 4 rfl (Iv.fz (x := (x54 : Int)) iv145 4)) h_at157) hc158) hc159 (fun s152 m153 o154 => ?_)
      obtain ⟨found155, q156, hm58⟩ := ltE hm58
      have iv160 := Iv.ml iv145 2 m153 o154 q156
      have fl161 := Fle.trans fl146 m153.f
      obtain ⟨at162, h_at162, hm58⟩ := bndE hm58
      obtain ⟨hc163, hm58⟩ := chkE hm58
      refine do_set 3 (ev_div (ev_var 3 rfl (Iv.fz (x := (b52.2 : Int)) iv160 3)) (ev_ix (Ev.r (ev_var 1 rfl (Iv.fz (x := (sizes30 : (List Int))) iv160 1))) (ev_var 4 rfl (Iv.fz (x := (x54 : Int)) iv160 4)) h_at162) hc163) (fun v168 s166 e167 r169 => ?_) sc_l_draws.nd
      obtain ⟨digits164, q165, hm58⟩ := ltE hm58
      have iv170 := Iv.sf iv160 3 e167 r169 q165
      have fl171 := Fle.trans fl161 e167.f
      obtain rfl := Option.some.inj hm58
      exact do_nil ⟨s166, rfl, fl171, ⟨v168, _, _, rfl, Iv.sel iv170 [some 0, some 1, some 2, some 3, none, none] (by decide +kernel) (by kernel_rfl)⟩⟩
  · have hf181 := Fle.trans k173.f fl176
    obtain ⟨v182, y183, y184, rfl, iv185⟩ := hR177
    obtain rfl := Option.some.inj hm
    exact do_retO 2 rfl (hQ _ _ (Iv.exx iv185) (Iv.fresh iv185 2) (Iv.ol (xs := (o50.1 : (List Int))) iv185 2))
abbrev s_l_order : Stmt := topS 22
abbrev N_l_order : List Str := ["_law_cell", "_law_most", "_law_ds", "_law_many", "_law_left", "_law_k"]
theorem sc_l_order : FnScope N_l_order ["_law_cell", "_law_most"] (defScope s_l_order) := ⟨rfl, rfl, rfl, by decide +kernel, rfl, by decide +kernel, by decide +kernel⟩
noncomputable def m_l_order (cell186 : Int) (most189 : Int) : Option (List Int) :=
 (chk (RepOk most189 (([most189] : List Int)).length) (chk ((([most189] : List Int)).length + ((repl most189 ([most189] : List Int))).length ≤ sizeLine) (bnd (m_l_draws cell186 (([most189] : List Int) ++ (repl most189 ([most189] : List Int)))) fun draws197 => (lt (draws197 : (List Int)) fun ds198 =>
 (bnd (atI ds198 (0 : Int)) fun at205 => (lt (((1 : Int) + at205) : Int) fun many206 =>
 (chk (RgOk 0 many206) (lt ((rng 0 many206) : (List Int)) fun left214 =>
 (chk (RgB many206) (bnd (popAll (fun (l223 : (List Int)) (x224 : Int) => (bnd (atI ds198 ((1 : Int) + x224)) fun at237 => (chk (0 < ((l223).length : Int)) (some (at237 % ((l223).length : Int)))))) left214 (rng 0 many206)) fun ys239 => (chk ((ys239).length ≤ sizeLine) (some ys239))))))))))))
noncomputable abbrev a_l_order : Int × Int × Unit → Option (List Int) := fun a => m_l_order a.1 a.2.1
theorem ok_l_order {P : Program} {w : World} {K : PySem.W.Frag} {mg : Str → Option Value} {base : Heap} {f : Addr} {fd : FuncData} (F : FunP K "_law_order" s_l_order f fd) (hmg : mg "_law_order" = some (.ref f)) (C_l_draws : Cal P w K mg base CX0 1 "_law_draws" (spN K a_l_draws)) (z_list : mg "list" = none) (z_range : mg "range" = none) (z_len : mg "len" = none) : Cal P w K mg base CX0 2 "_law_order" (spN K a_l_order) := by
  refine mk_calN (k := 1) F hmg (F.bindsN fun _ _ _ _ _ _ us hl => match us, hl with | [_, _], _ => rfl) sc_l_order len2 ?_
  rintro cdv A' outer sh0 H0 X0 hr s0 vs ⟨cell186, most189, _⟩ r0 Q ⟨v187, _, rfl, r188, v190, _, rfl, r191, rfl⟩ hm hQ
  unfold a_l_order m_l_order at hm
  dsimp only at hm
  have iv192 : Iv K (fun _ => False) s0 s0 [fz v187 (cell186 : Int), fz v190 (most189 : Int), top, top, top, top] := (Iv.sf (Iv.sf (Iv.tops (K := K) (P0 := (fun _ => False)) 6 s0) 0 (Ex.refl s0) r188 rfl) 1 (Ex.refl s0) r191 rfl)
  obtain ⟨hc195, hm⟩ := chkE hm
  obtain ⟨hc196, hm⟩ := chkE hm
  obtain ⟨draws197, h_draws197, hm⟩ := bndE hm
  refine do_set 2 (EvN.ev (en_call C_l_draws hr (by decide) (ea_cons (ev_var 0 rfl (Iv.fz (x := (cell186 : Int)) iv192 0)) (ea_cons (EvN.ev (en_cat (EvN.r (en_list (xs := ([most189] : List Int)) (ee_cons (ev_var 1 rfl (Iv.fz (x := (most189 : Int)) iv192 1)) ee_nil) (by simp [sizeLine]))) (EvN.r (en_rep (en_list (xs := ([most189] : List Int)) (ee_cons (ev_var 1 rfl (Iv.fz (x := (most189 : Int)) iv192 1)) ee_nil) (by simp [sizeLine])) (fun _ hk => Ev.mono (ev_var 1 rfl (Iv.fz (x := (most189 : Int)) iv192 1)) hk) hc195)) hc196)) ea_nil)) h_draws197)) (fun v202 s200 e201 r203 => ?_) sc_l_order.nd
  obtain ⟨ds198, q199, hm⟩ := ltE hm
  have iv204 := Iv.sf iv192 2 e201 r203 q199
  obtain ⟨at205, h_at205, hm⟩ := bndE hm
  refine do_set 3 (ev_add ev_int (ev_ix (Ev.r (ev_var 2 rfl (Iv.fz (x := (ds198 : (List Int))) iv204 2))) ev_int h_at205)) (fun v210 s208 e209 r211 => ?_) sc_l_order.nd
  obtain ⟨many206, q207, hm⟩ := ltE hm
  have iv212 := Iv.sf iv204 3 e209 r211 q207
  obtain ⟨hc213, hm⟩ := chkE hm
  refine do_setN 4 (en_listRg1 z_list z_range (ev_var 3 rfl (Iv.fz (x := (many206 : Int)) iv212 3)) hc213) (fun p218 s216 e217 n219 o220 => ?_) sc_l_order.nd
  obtain ⟨left214, q215, hm⟩ := ltE hm
  have iv221 := Iv.sl iv212 4 e217 n219 o220 q215
  obtain ⟨hc222, hm⟩ := chkE hm
  obtain ⟨ys239, h_ys239, hm⟩ := bndE hm
  obtain ⟨hc240, hm⟩ := chkE hm
  obtain rfl := Option.some.inj hm
  exact do_retPop (f := fun (l223 : (List Int)) (x224 : Int) => (bnd (atI ds198 ((1 : Int) + x224)) fun at237 => (chk (0 < ((l223).length : Int)) (some (at237 % ((l223).length : Int)))))) (own := [("_law_k", 5)]) 4 5 rfl sc_l_order.nd (ei_range1 z_range (ev_var 3 rfl (Iv.fz (x := (many206 : Int)) iv221 3)) hc222) (Iv.ol (xs := (left214 : (List Int))) iv221 4) (blkOk_by (own := [("_law_k", 5)]) (N := N_l_order) (sc := defScope s_l_order) (by decide +kernel)) rfl (by decide) (fun _ _ _ _ _ => pg_name (i := 5) sc_l_order.nd rfl (by first | exact Or.inl rfl | exact Or.inr rfl)) (fun _ => rfl) h_ys239 hc240 (fun l223 x224 z225 v226 s227 hx228 m229 o230 r231 hf232 _ _ _ _ _ => by have r235 := Enc.mono m229.f (Iv.fz (v := v202) (x := (ds198 : (List Int))) iv221 2); obtain ⟨at237, h_at237, hf232⟩ := bndE hf232; obtain ⟨hc238, hf232⟩ := chkE hf232; obtain rfl := Option.some.inj hf232; exact (ev_mod (ev_ix (Ev.r (ev_var 2 rfl r235)) (ev_add ev_int (ev_var 5 rfl r231)) h_at237) (ev_len z_len (ev_varR 4 rfl o230)) hc238)) (fun q241 s242 m243 n244 o245 => hQ _ _ (Ex.mu1 (Iv.exx iv221) m243 (Iv.fresh iv221 4)) (fr_back (Iv.exx iv221) n244) o245)
abbrev s_l_places : Stmt := topS 26
abbrev N_l_places : List Str := ["_law_cell", "_law_many", "_law_ds", "_law_one", "_law_other", "_law_strange"]
theorem sc_l_places : FnScope N_l_places ["_law_cell", "_law_many"] (defScope s_l_places) := ⟨rfl, rfl, rfl, by decide +kernel, rfl, by decide +kernel, by decide +kernel⟩
noncomputable def m_l_places (cell246 : Int) (many249 : Int) : Option (Int × Int) :=
 (bnd (m_l_draws cell246 ([(40 : Int), (40 : Int), (8 : Int), (3 : Int), (3 : Int)] : List Int)) fun draws253 => (lt (draws253 : (List Int)) fun ds254 =>
 (bnd (atI ds254 (0 : Int)) fun at261 => (chk (0 < many249) (lt ((at261 % many249) : Int) fun one263 =>
 (bnd (atI ds254 (1 : Int)) fun at270 => (chk (0 < many249) (lt ((at270 % many249) : Int) fun other272 =>
 (lt (([(-(1 : Int)), many249, ((10 : Int) ^ ((59 : Int)).toNat)] : List Int) : (List Int)) fun strange279 =>
 (bnd (atI ds254 (2 : Int)) fun at287 => (bnd (if (decide (at287 = (0 : Int))) = true then
 (bnd (atI ds254 (3 : Int)) fun at315 => (bnd (atI strange279 at315) fun at316 => (lt (at316 : Int) fun one317 =>
 (some one317))))
 else
 (some one263) : Option (Int)) fun b307 =>
 (bnd (atI ds254 (2 : Int)) fun at338 => (if (decide (at338 < (2 : Int))) = true then
 (bnd (atI ds254 (4 : Int)) fun at344 => (bnd (atI strange279 at344) fun at345 => (some (b307, at345))))
 else
 (bnd (atI ds254 (2 : Int)) fun at356 => (if (decide (at356 = (2 : Int))) = true then
 (bnd (atI ds254 (3 : Int)) fun at362 => (bnd (atI strange279 at362) fun at363 => (some (at363, other272))))
 else
 (bnd (atI ds254 (2 : Int)) fun at376 => (if ((decide (at376 = (3 : Int))) || (decide (many249 = (1 : Int)))) = true then
 (some (b307, b307))
 else
 (bnd (if (decide (b307 = other272)) = true then
 (chk (0 < many249) (lt (((b307 + (1 : Int)) % many249) : Int) fun other418 =>
 (some other418)))
 else
 (some other272) : Option (Int)) fun b409 =>
 (some (b307, b409))))))))))))))))))))
noncomputable abbrev a_l_places : Int × Int × Unit → Option (Int × Int) := fun a => m_l_places a.1 a.2.1
theorem ok_l_places {P : Program} {w : World} {K : PySem.W.Frag} {mg : Str → Option Value} {base : Heap} {f : Addr} {fd : FuncData} (F : FunP K "_law_places" s_l_places f fd) (hmg : mg "_law_places" = some (.ref f)) (C_l_draws : Cal P w K mg base CX0 1 "_law_draws" (spN K a_l_draws)) : Cal P w K mg base CX0 2 "_law_places" (sp K a_l_places) := by
  refine mk_cal (k := 1) F hmg (F.bindsN fun _ _ _ _ _ _ us hl => match us, hl with | [_, _], _ => rfl) sc_l_places len2 ?_
  rintro cdv A' outer sh0 H0 X0 hr s0 vs ⟨cell246, many249, _⟩ r0 Q ⟨v247, _, rfl, r248, v250, _, rfl, r251, rfl⟩ hm hQ
  unfold a_l_places m_l_places at hm
  dsimp only at hm
  have iv252 : Iv K (fun _ => False) s0 s0 [fz v247 (cell246 : Int), fz v250 (many249 : Int), top, top, top, top] := (Iv.sf (Iv.sf (Iv.tops (K := K) (P0 := (fun _ => False)) 6 s0) 0 (Ex.refl s0) r248 rfl) 1 (Ex.refl s0) r251 rfl)
  obtain ⟨draws253, h_draws253, hm⟩ := bndE hm
  refine do_set 2 (EvN.ev (en_call C_l_draws hr (by decide) (ea_cons (ev_var 0 rfl (Iv.fz (x := (cell246 : Int)) iv252 0)) (ea_cons (EvN.ev (en_list (xs := ([(40 : Int), (40 : Int), (8 : Int), (3 : Int), (3 : Int)] : List Int)) (ee_cons ev_int (ee_cons ev_int (ee_cons ev_int (ee_cons ev_int (ee_cons ev_int ee_nil))))) (by simp [sizeLine]))) ea_nil)) h_draws253)) (fun v258 s256 e257 r259 => ?_) sc_l_places.nd
  obtain ⟨ds254, q255, hm⟩ := ltE hm
  have iv260 := Iv.sf iv252 2 e257 r259 q255
  obtain ⟨at261, h_at261, hm⟩ := bndE hm
  obtain ⟨hc262, hm⟩ := chkE hm
  refine do_set 3 (ev_mod (ev_ix (Ev.r (ev_var 2 rfl (Iv.fz (x := (ds254 : (List Int))) iv260 2))) ev_int h_at261) (ev_var 1 rfl (Iv.fz (x := (many249 : Int)) iv260 1)) hc262) (fun v267 s265 e266 r268 => ?_) sc_l_places.nd
  obtain ⟨one263, q264, hm⟩ := ltE hm
  have iv269 := Iv.sf iv260 3 e266 r268 q264
  obtain ⟨at270, h_at270, hm⟩ := bndE hm
  obtain ⟨hc271, hm⟩ := chkE hm
  refine do_set 4 (ev_mod (ev_ix (Ev.r (ev_var 2 rfl (Iv.fz (x := (ds254 : (List Int))) iv269 2))) ev_int h_at270) (ev_var 1 rfl (Iv.fz (x := (many249 : Int)) iv269 1)) hc271) (fun v276 s274 e275 r277 => ?_) sc_l_places.nd
  obtain ⟨other272, q273, hm⟩ := ltE hm
  have iv278 := Iv.sf iv269 4 e275 r277 q273
  refine do_set 5 (EvN.ev (en_list (xs := ([(-(1 : Int)), many249, ((10 : Int) ^ ((59 : Int)).toNat)] : List Int)) (ee_cons (ev_neg ev_int) (ee_cons (ev_var 1 rfl (Iv.fz (x := (many249 : Int)) iv278 1)) (ee_cons (ev_pow ev_int ev_int ⟨by decide, by decide, by decide⟩) ee_nil))) (by simp [sizeLine]))) (fun v283 s281 e282 r284 => ?_) sc_l_places.nd
  obtain ⟨strange279, q280, hm⟩ := ltE hm
  have iv285 := Iv.sf iv278 5 e282 r284 q280
  obtain ⟨at287, h_at287, hm⟩ := bndE hm
  obtain ⟨b307, hj308, hm⟩ := bndE hm
  refine do_if (EvB.t (eb_eq (ev_ix (Ev.r (ev_var 2 rfl (Iv.fz (x := (ds254 : (List Int))) iv285 2))) ev_int h_at287) ev_int)) (fun (σ' : L2.St) (t' : S) => Fle s281.F t'.F ∧ ∃ (v_one : V), σ' = [some v247, some v250, some v258, some v_one, some v276, some v283] ∧ Iv K (fun _ => False) s0 t' [fz v247 (cell246 : Int), fz v250 (many249 : Int), fz v258 (ds254 : (List Int)), fz v_one (b307 : Int), fz v276 (other272 : Int), fz v283 (strange279 : (List Int))]) (fun hb309 s310 e311 => ?_) (fun hb325 s326 e327 => ?_) (fun σ331 s332 hM333 => ?_)
  · have hm312 := iteE1 hj308 hb309
    have iv313 := Iv.ex iv285 e311
    have fl314 := Fle.trans (Fle.refl s281.F) e311.f
    obtain ⟨at315, h_at315, hm312⟩ := bndE hm312
    obtain ⟨at316, h_at316, hm312⟩ := bndE hm312
    refine do_set 3 (ev_ix (Ev.r (ev_var 5 rfl (Iv.fz (x := (strange279 : (List Int))) iv313 5))) (ev_ix (Ev.r (ev_var 2 rfl (Iv.fz (x := (ds254 : (List Int))) iv313 2))) ev_int h_at315) h_at316) (fun v321 s319 e320 r322 => ?_) sc_l_places.nd
    obtain ⟨one317, q318, hm312⟩ := ltE hm312
    have iv323 := Iv.sf iv313 3 e320 r322 q318
    have fl324 := Fle.trans fl314 e320.f
    obtain rfl := Option.some.inj hm312
    exact do_nil ⟨s319, rfl, fl324, ⟨v321, rfl, Iv.sel iv323 [some 0, some 1, some 2, some 3, some 4, some 5] (by decide +kernel) (by kernel_rfl)⟩⟩
  · have hm328 := iteE2 hj308 hb325
    have iv329 := Iv.ex iv285 e327
    have fl330 := Fle.trans (Fle.refl s281.F) e327.f
    obtain rfl := Option.some.inj hm328
    exact do_nil ⟨s326, rfl, fl330, ⟨v267, rfl, Iv.sel iv329 [some 0, some 1, some 2, some 3, some 4, some 5] (by decide +kernel) (by kernel_rfl)⟩⟩
  · obtain ⟨hf334, hR335⟩ := hM333
    obtain ⟨v336, rfl, iv337⟩ := hR335
    obtain ⟨at338, h_at338, hm⟩ := bndE hm
    refine do_ifR (EvB.t (eb_lt (ev_ix (Ev.r (ev_var 2 rfl (Iv.fz (x := (ds254 : (List Int))) iv337 2))) ev_int h_at338) ev_int)) (fun hb339 s340 e341 => ?_) (fun hb350 s351 e352 => ?_)
    · have hm342 := iteE1 hm hb339
      have iv343 := Iv.ex iv337 e341
      obtain ⟨at344, h_at344, hm342⟩ := bndE hm342
      obtain ⟨at345, h_at345, hm342⟩ := bndE hm342
      obtain rfl := Option.some.inj hm342
      exact do_ret (ev_t2 (ea_cons (ev_var 3 rfl (Iv.fz (x := (b307 : Int)) iv343 3)) (ea_cons (ev_ix (Ev.r (ev_var 5 rfl (Iv.fz (x := (strange279 : (List Int))) iv343 5))) (ev_ix (Ev.r (ev_var 2 rfl (Iv.fz (x := (ds254 : (List Int))) iv343 2))) ev_int h_at344) h_at345) ea_nil))) fun v346 s347 e348 r349 => hQ _ _ (Ex.trans (Iv.exx iv343) e348) r349
    · have hm353 := iteE2 hm hb350
      have iv354 := Iv.ex iv337 e352
      obtain ⟨at356, h_at356, hm353⟩ := bndE hm353
      refine do_ifR (EvB.t (eb_eq (ev_ix (Ev.r (ev_var 2 rfl (Iv.fz (x := (ds254 : (List Int))) iv354 2))) ev_int h_at356) ev_int)) (fun hb357 s358 e359 => ?_) (fun hb368 s369 e370 => ?_)
      · have hm360 := iteE1 hm353 hb357
        have iv361 := Iv.ex iv354 e359
        obtain ⟨at362, h_at362, hm360⟩ := bndE hm360
        obtain ⟨at363, h_at363, hm360⟩ := bndE hm360
        obtain rfl := Option.some.inj hm360
        exact do_ret (ev_t2 (ea_cons (ev_ix (Ev.r (ev_var 5 rfl (Iv.fz (x := (strange279 : (List Int))) iv361 5))) (ev_ix (Ev.r (ev_var 2 rfl (Iv.fz (x := (ds254 : (List Int))) iv361 2))) ev_int h_at362) h_at363) (ea_cons (ev_var 4 rfl (Iv.fz (x := (other272 : Int)) iv361 4)) ea_nil))) fun v364 s365 e366 r367 => hQ _ _ (Ex.trans (Iv.exx iv361) e366) r367
      · have hm371 := iteE2 hm353 hb368
        have iv372 := Iv.ex iv354 e370
        obtain ⟨at376, h_at376, hm371⟩ := bndE hm371
        refine do_ifR (EvW.tt (EvC.w (ec_or (eb_eq (ev_ix (Ev.r (ev_var 2 rfl (Iv.fz (x := (ds254 : (List Int))) iv372 2))) ev_int h_at376) ev_int) fun _ => (ec_or1 (eb_eq (ev_var 1 rfl (Iv.fz (x := (many249 : Int)) iv372 1)) ev_int))))) (fun hb377 s378 e379 => ?_) (fun hb386 s387 e388 => ?_)
        · have hm380 := iteE1 hm371 hb377
          have iv381 := Iv.ex iv372 e379
          obtain rfl := Option.some.inj hm380
          exact do_ret (ev_t2 (ea_cons (ev_var 3 rfl (Iv.fz (x := (b307 : Int)) iv381 3)) (ea_cons (ev_var 3 rfl (Iv.fz (x := (b307 : Int)) iv381 3)) ea_nil))) fun v382 s383 e384 r385 => hQ _ _ (Ex.trans (Iv.exx iv381) e384) r385
        · have hm389 := iteE2 hm371 hb386
          have iv390 := Iv.ex iv372 e388
          obtain ⟨b409, hj410, hm389⟩ := bndE hm389
          refine do_if (EvB.t (eb_eq (ev_var 3 rfl (Iv.fz (x := (b307 : Int)) iv390 3)) (ev_var 4 rfl (Iv.fz (x := (other272 : Int)) iv390 4)))) (fun (σ' : L2.St) (t' : S) => Fle s387.F t'.F ∧ ∃ (v_other : V), σ' = [some v247, some v250, some v258, some v336, some v_other, some v283] ∧ Iv K (fun _ => False) s0 t' [fz v247 (cell246 : Int), fz v250 (many249 : Int), fz v258 (ds254 : (List Int)), fz v336 (b307 : Int), fz v_other (b409 : Int), fz v283 (strange279 : (List Int))]) (fun hb411 s412 e413 => ?_) (fun hb426 s427 e428 => ?_) (fun σ432 s433 hM434 => ?_)
          · have hm414 := iteE1 hj410 hb411
            have iv415 := Iv.ex iv390 e413
            have fl416 := Fle.trans (Fle.refl s387.F) e413.f
            obtain ⟨hc417, hm414⟩ := chkE hm414
            refine do_set 4 (ev_mod (ev_add (ev_var 3 rfl (Iv.fz (x := (b307 : Int)) iv415 3)) ev_int) (ev_var 1 rfl (Iv.fz (x := (many249 : Int)) iv415 1)) hc417) (fun v422 s420 e421 r423 => ?_) sc_l_places.nd
            obtain ⟨other418, q419, hm414⟩ := ltE hm414
            have iv424 := Iv.sf iv415 4 e421 r423 q419
            have fl425 := Fle.trans fl416 e421.f
            obtain rfl := Option.some.inj hm414
            exact do_nil ⟨s420, rfl, fl425, ⟨v422, rfl, Iv.sel iv424 [some 0, some 1, some 2, some 3, some 4, some 5] (by decide +kernel) (by kernel_rfl)⟩⟩
          · have hm429 := iteE2 hj410 hb426
            have iv430 := Iv.ex iv390 e428
            have fl431 := Fle.trans (Fle.refl s387.F) e428.f
            obtain rfl := Option.some.inj hm429
            exact do_nil ⟨s427, rfl, fl431, ⟨v276, rfl, Iv.sel iv430 [some 0, some 1, some 2, some 3, some 4, some 5] (by decide +kernel) (by kernel_rfl)⟩⟩
          · obtain ⟨hf435, hR436⟩ := hM434
            obtain ⟨v437, rfl, iv438⟩ := hR436
            obtain rfl := Option.some.inj hm389
            exact do_ret (ev_t2 (ea_cons (ev_var 3 rfl (Iv.fz (x := (b307 : Int)) iv438 3)) (ea_cons (ev_var 4 rfl (Iv.fz (x := (b409 : Int)) iv438 4)) ea_nil))) fun v439 s440 e441 r442 => hQ _ _ (Ex.trans (Iv.exx iv438) e441) r442
abbrev s_l_due : Stmt := topS 24
def pre_l_due : List V → (List Int) × Int × Int × Unit → List OA → List OA → Prop := fun vs x L R => ∃ (a_law_order_here : V) (a_law_one : V) (a_law_other : V), vs = [a_law_order_here, a_law_one, a_law_other] ∧ L = [fz a_law_order_here (x.1 : (List Int)), fz a_law_one (x.2.1 : Int), fz a_law_other (x.2.2.1 : Int)] ∧ R = []
def ok_l_due : List V → (List Int) × Int × Int × Unit → ((T3 Str (Option Int) Bool)) → V → List OA → Prop := fun vs x r v L' => ∃ (a_law_order_here : V) (a_law_one : V) (a_law_other : V), vs = [a_law_order_here, a_law_one, a_law_other] ∧ (∃ (bres : V), v = bres ∧ L' = [fz bres (r : (T3 Str (Option Int) Bool))])
abbrev N_l_due : List Str := ["_law_order_here", "_law_one", "_law_other", "_law_place", "_law_seen", "_law_pair"]
theorem sc_l_due : FnScope N_l_due ["_law_order_here", "_law_one", "_law_other"] (defScope s_l_due) := ⟨rfl, rfl, rfl, by decide +kernel, rfl, by decide +kernel, by decide +kernel⟩
noncomputable def m_l_due (order_here443 : (List Int)) (one444 : Int) (other445 : Int) : Option ((T3 Str (Option Int) Bool)) :=
 (bnd (foldF (ρ := ((T3 Str (Option Int) Bool))) (fun (b450 : Unit) (x452 : Int) =>
 (if (!(decide ((0 : Int) ≤ x452) && decide (x452 < ((order_here443).length : Int)))) = true then
 (some (Fl.rt (⟨("place" : Str), (some x452), true⟩ : (T3 Str (Option Int) Bool))))
 else
 (some (Fl.nx ())))) () ([one444, other445] : List Int)) fun o448 =>
 (Fl.go o448 (fun b501 => (if (decide (one444 = other445)) = true then
 (some (⟨("place" : Str), (some one444), true⟩ : (T3 Str (Option Int) Bool)))
 else
 (lt ((⟨one444, other445⟩ : PK) : PK) fun pair529 =>
 (bnd (whileF (ρ := ((T3 Str (Option Int) Bool))) (fun (b538 : ((List ((Int × Int) × Bool)) × PK)) => (some (!(dval b538.1 (b538.2).pr).isSome))) (fun (b538 : ((List ((Int × Int) × Bool)) × PK)) =>
 (if (decide ((((b538.2).pr).1 / (2 : Int)) = (((b538.2).pr).2 / (2 : Int)))) = true then
 (some (Fl.rt (⟨("told" : Str), (some ((b538.1).length : Int)), false⟩ : (T3 Str (Option Int) Bool))))
 else
 (chk ((b538.1).length < sizeLine) (lt ((dput b538.1 (b538.2).pr true) : (List ((Int × Int) × Bool))) fun kv581 =>
 (bnd (atI order_here443 ((b538.2).pr).1) fun at586 => (bnd (atI order_here443 ((b538.2).pr).2) fun at587 => (lt ((⟨at586, at587⟩ : PK) : PK) fun pair588 =>
 (some (Fl.nx (kv581, pair588)))))))))) fuel (([] : (List ((Int × Int) × Bool))), pair529)) fun o536 =>
 (Fl.go o536 (fun b603 => (some (⟨("told" : Str), none, false⟩ : (T3 Str (Option Int) Bool)))) (fun rr => (some rr))))))) (fun rr => (some rr))))
noncomputable abbrev a_l_due : (List Int) × Int × Int × Unit → Option ((T3 Str (Option Int) Bool)) := fun x => m_l_due x.1 x.2.1 x.2.2.1
theorem ok_l_due_fn {P : Program} {w : World} {K : PySem.W.Frag} {mg : Str → Option Value} {base : Heap} {f : Addr} {fd : FuncData} (F : FunM K "_law_due" "_law_due" s_l_due f fd) (z_len : mg "len" = none) : FnOk P w K mg base CX0 1 f fd ["_law_order_here", "_law_one", "_law_other"] (spI K pre_l_due a_l_due ok_l_due noEr) := by
  refine mk_I (k := 0) F sc_l_due (fun vs a L R h => by obtain ⟨_, _, _, rfl, _⟩ := h; rfl) ?_
  rintro cdv A' outer sh0 H0 X0 hr s0 P0 L0 R0 vs ⟨order_here443, one444, other445, _⟩ o0 Q ⟨a_law_order_here, a_law_one, a_law_other, rfl, rfl, rfl⟩ iv446 ro hm hQ
  unfold a_l_due m_l_due at hm
  dsimp only at hm
  have iv447 : Iv K P0 s0 s0 [fz a_law_order_here (order_here443 : (List Int)), fz a_law_one (one444 : Int), fz a_law_other (other445 : Int), top, top, top] := Iv.sel iv446 [some 0, some 1, some 2, none, none, none] (by decide +kernel) (by kernel_rfl)
  obtain ⟨o448, ho449, hm⟩ := bndE hm
  refine do_forF (ρ := ((T3 Str (Option Int) Bool))) (υ := Unit) PassesOwn.never rfl (ei_list (EvN.ev (en_list (xs := ([one444, other445] : List Int)) (ee_cons (ev_var 1 rfl (Iv.fz (x := (one444 : Int)) iv447 1)) (ee_cons (ev_var 2 rfl (Iv.fz (x := (other445 : Int)) iv447 2)) ee_nil)) (by simp [sizeLine])))) (pg_name (i := 3) sc_l_due.nd rfl (by first | exact Or.inl rfl | exact Or.inr rfl)) tg_n ho449 (fun (b450 : Unit) (σ' : L2.St) (t' : S) => ∃ (y_place : Option V), σ' = [some a_law_order_here, some a_law_one, some a_law_other, y_place, none, none] ∧ Iv K P0 s0 t' [fz a_law_order_here (order_here443 : (List Int)), fz a_law_one (one444 : Int), fz a_law_other (other445 : Int), top, top, top]) (fun s498 k499 => by have iv500 := Iv.ex iv447 k499; exact ⟨_, rfl, Iv.sel iv500 [some 0, some 1, some 2, none, none, none] (by decide +kernel) (by kernel_rfl)⟩) (fun s453 k454 x452 b450 q473 σ463 σ464 t461 t462 hx455 hm456 hq474 fl457 hR458 k459 hB460 => ?_) (fun s492 k493 b501 σ494 t495 ho502 fl496 hR497 => ?_)
  · have hf465 := Fle.trans k454.f fl457
    obtain ⟨y466, rfl, iv467⟩ := hR458
    obtain ⟨v468, r469, rfl⟩ := hB460
    have iv470 := Iv.ex iv467 k459
    have iv471 := Iv.sf iv470 3 (Ex.refl t462) r469 rfl
    have fl472 := Fle.trans (Fle.refl t462.F) (Ex.refl t462).f
    refine do_ifR (EvB.t (eb_not (eb_ch_le_lt ev_int (ev_var 3 rfl (Iv.fz (x := (x452 : Int)) iv471 3)) (ev_len z_len (Ev.r (ev_var 0 rfl (Iv.fz (x := (order_here443 : (List Int))) iv471 0))))))) (fun hb475 s476 e477 => ?_) (fun hb486 s487 e488 => ?_)
    · have hm478 := iteE1 hm456 hb475
      have iv479 := Iv.ex iv471 e477
      have fl480 := Fle.trans (Fle.refl t462.F) e477.f
      obtain rfl := Option.some.inj hm478
      obtain rfl := hq474 _ rfl
      obtain rfl := Option.some.inj hm
      refine do_retK (ek_of (eg_ev (ev_t3 (ea_cons ev_str (ea_cons (ev_some (ev_var 3 rfl (Iv.fz (x := (x452 : Int)) iv479 3))) (ea_cons ev_bl ea_nil))))) iv479) (fun v481 s483 z => ?_)
      obtain ⟨L484, rfl, _, iv482⟩ := z
      exact hQ _ _ _ ⟨a_law_order_here, a_law_one, a_law_other, rfl, v481, rfl, rfl⟩ (Iv.sel iv482 [some 6] (by decide +kernel) (by kernel_rfl))
    · have hm489 := iteE2 hm456 hb486
      have iv490 := Iv.ex iv471 e488
      have fl491 := Fle.trans (Fle.refl t462.F) e488.f
      obtain rfl := Option.some.inj hm489
      exact do_nil ⟨s487, rfl, _, rfl, fl491, ⟨_, rfl, Iv.sel iv490 [some 0, some 1, some 2, none, none, none] (by decide +kernel) (by kernel_rfl)⟩⟩
  · subst ho502
    replace hm := goN hm
    have hf503 := Fle.trans k493.f fl496
    obtain ⟨y504, rfl, iv505⟩ := hR497
    refine do_ifR (EvB.t (eb_eq (ev_var 1 rfl (Iv.fz (x := (one444 : Int)) iv505 1)) (ev_var 2 rfl (Iv.fz (x := (other445 : Int)) iv505 2)))) (fun hb506 s507 e508 => ?_) (fun hb516 s517 e518 => ?_)
    · have hm509 := iteE1 hm hb506
      have iv510 := Iv.ex iv505 e508
      obtain rfl := Option.some.inj hm509
      refine do_retK (ek_of (eg_ev (ev_t3 (ea_cons ev_str (ea_cons (ev_some (ev_var 1 rfl (Iv.fz (x := (one444 : Int)) iv510 1))) (ea_cons ev_bl ea_nil))))) iv510) (fun v511 s513 z => ?_)
      obtain ⟨L514, rfl, _, iv512⟩ := z
      exact hQ _ _ _ ⟨a_law_order_here, a_law_one, a_law_other, rfl, v511, rfl, rfl⟩ (Iv.sel iv512 [some 6] (by decide +kernel) (by kernel_rfl))
    · have hm519 := iteE2 hm hb516
      have iv520 := Iv.ex iv505 e518
      refine do_setG 4 (eg_newT (xs := ([] : (List ((Int × Int) × Bool)))) en_dtnew) (fun v522 s523 L524 z527 iv525 => ?_) sc_l_due.nd
      obtain ⟨p521, rfl, rfl⟩ := z527
      have iv526 := Iv.add iv520 iv525
      have iv528 : Iv K P0 s0 s523 [fz a_law_order_here (order_here443 : (List Int)), fz a_law_one (one444 : Int), fz a_law_other (other445 : Int), top, odT p521 (([] : (List ((Int × Int) × Bool))) : (List ((Int × Int) × Bool))), top] := Iv.sel iv526 [some 0, some 1, some 2, none, some 6, none] (by decide +kernel) (by kernel_rfl)
      refine do_set 5 (ev_pk (ea_cons (ev_var 1 rfl (Iv.fz (x := (one444 : Int)) iv528 1)) (ea_cons (ev_var 2 rfl (Iv.fz (x := (other445 : Int)) iv528 2)) ea_nil))) (fun v533 s531 e532 r534 => ?_) sc_l_due.nd
      obtain ⟨pair529, q530, hm519⟩ := ltE hm519
      have iv535 := Iv.sf iv528 5 e532 r534 q530
      obtain ⟨o536, ho537, hm519⟩ := bndE hm519
      refine do_whileF (ρ := ((T3 Str (Option Int) Bool))) (υ := ((List ((Int × Int) × Bool)) × PK)) PassesOwn.never ho537 (fun (b538 : ((List ((Int × Int) × Bool)) × PK)) (σ' : L2.St) (t' : S) => ∃ (v_pair : V), σ' = [some a_law_order_here, some a_law_one, some a_law_other, y504, some (.ref p521), some v_pair] ∧ Iv K P0 s0 t' [fz a_law_order_here (order_here443 : (List Int)), fz a_law_one (one444 : Int), fz a_law_other (other445 : Int), top, odT p521 (b538.1 : (List ((Int × Int) × Bool))), fz v_pair (b538.2 : PK)]) ⟨v533, rfl, Iv.sel iv535 [some 0, some 1, some 2, none, some 4, some 5] (by decide +kernel) (by kernel_rfl)⟩ (fun b538 x544 σ541 t540 hm545 fl542 hR543 => ?_) (fun b538 q559 σ550 t548 t549 hc554 hm555 hq560 fl551 hR552 k553 => ?_) (fun b603 σ596 t597 t598 ho604 hc599 fl600 hR601 k602 => ?_)
      · obtain ⟨v546, rfl, iv547⟩ := hR543
        obtain rfl := Option.some.inj hm545
        exact (EvB.t (ev_dtnotIn hr (ev_var 5 rfl (Iv.fz (x := (b538.2 : PK)) iv547 5)) (raw_var 4 rfl) (Iv.odT (xs := (b538.1 : (List ((Int × Int) × Bool)))) iv547 4)))
      · obtain ⟨v556, rfl, iv557⟩ := hR552
        have iv558 := Iv.ex iv557 k553
        refine do_ifR (EvB.t (eb_eq (ev_div (ev_ixP (ev_pkr (ev_var 5 rfl (Iv.fz (x := (b538.2 : PK)) iv558 5))) ev_int p2_0) ev_int ⟨by decide, by decide +kernel⟩) (ev_div (ev_ixP (ev_pkr (ev_var 5 rfl (Iv.fz (x := (b538.2 : PK)) iv558 5))) ev_int p2_1) ev_int ⟨by decide, by decide +kernel⟩))) (fun hb561 s562 e563 => ?_) (fun hb572 s573 e574 => ?_)
        · have hm564 := iteE1 hm555 hb561
          have iv565 := Iv.ex iv558 e563
          have fl566 := Fle.trans (Fle.refl t549.F) e563.f
          obtain rfl := Option.some.inj hm564
          obtain rfl := hq560 _ rfl
          obtain rfl := Option.some.inj hm519
          refine do_retK (ek_of (eg_ev (ev_t3 (ea_cons ev_str (ea_cons (ev_some (ev_dtlen z_len (raw_var 4 rfl) (Iv.odT (xs := (b538.1 : (List ((Int × Int) × Bool)))) iv565 4))) (ea_cons ev_bl ea_nil))))) iv565) (fun v567 s569 z => ?_)
          obtain ⟨L570, rfl, _, iv568⟩ := z
          exact hQ _ _ _ ⟨a_law_order_here, a_law_one, a_law_other, rfl, v567, rfl, rfl⟩ (Iv.sel iv568 [some 6] (by decide +kernel) (by kernel_rfl))
        · have hm575 := iteE2 hm555 hb572
          have iv576 := Iv.ex iv558 e574
          have fl577 := Fle.trans (Fle.refl t549.F) e574.f
          obtain ⟨hc583, hm575⟩ := chkE hm575
          refine do_dtput hr (raw_var 4 rfl) (Iv.odT (xs := (b538.1 : (List ((Int × Int) × Bool)))) iv576 4) ev_bl (ev_var 5 rfl (Iv.fz (x := (b538.2 : PK)) iv576 5)) hc583 (fun s578 m579 o580 => ?_)
          obtain ⟨kv581, q582, hm575⟩ := ltE hm575
          have iv584 := Iv.mdT iv576 4 m579 o580 q582
          have fl585 := Fle.trans fl577 m579.f
          obtain ⟨at586, h_at586, hm575⟩ := bndE hm575
          obtain ⟨at587, h_at587, hm575⟩ := bndE hm575
          refine do_set 5 (ev_pk (ea_cons (ev_ix (Ev.r (ev_var 0 rfl (Iv.fz (x := (order_here443 : (List Int))) iv584 0))) (ev_ixP (ev_pkr (ev_var 5 rfl (Iv.fz (x := (b538.2 : PK)) iv584 5))) ev_int p2_0) h_at586) (ea_cons (ev_ix (Ev.r (ev_var 0 rfl (Iv.fz (x := (order_here443 : (List Int))) iv584 0))) (ev_ixP (ev_pkr (ev_var 5 rfl (Iv.fz (x := (b538.2 : PK)) iv584 5))) ev_int p2_1) h_at587) ea_nil))) (fun v592 s590 e591 r593 => ?_) sc_l_due.nd
          obtain ⟨pair588, q589, hm575⟩ := ltE hm575
          have iv594 := Iv.sf iv584 5 e591 r593 q589
          have fl595 := Fle.trans fl585 e591.f
          obtain rfl := Option.some.inj hm575
          exact do_nil ⟨s590, rfl, _, rfl, fl595, ⟨v592, rfl, Iv.sel iv594 [some 0, some 1, some 2, none, some 4, some 5] (by decide +kernel) (by kernel_rfl)⟩⟩
      · subst ho604
        replace hm519 := goN hm519
        obtain ⟨v605, rfl, iv606⟩ := hR601
        have iv607 := Iv.ex iv606 k602
        obtain rfl := Option.some.inj hm519
        refine do_retK (ek_of (eg_ev (ev_t3 (ea_cons ev_str (ea_cons (ev_nonO (α := Int)) (ea_cons ev_bl ea_nil))))) iv607) (fun v608 s610 z => ?_)
        obtain ⟨L611, rfl, _, iv609⟩ := z
        exact hQ _ _ _ ⟨a_law_order_here, a_law_one, a_law_other, rfl, v608, rfl, rfl⟩ (Iv.sel iv609 [some 6] (by decide +kernel) (by kernel_rfl))
abbrev s_l_of_rounds : Stmt := topS 23
abbrev N_l_of_rounds : List Str := ["_law_cell", "_law_order_here", "_law_long", "_law_first", "_law_k"]
theorem sc_l_of_rounds : FnScope N_l_of_rounds ["_law_cell"] (defScope s_l_of_rounds) := ⟨rfl, rfl, rfl, by decide +kernel, rfl, by decide +kernel, by decide +kernel⟩
noncomputable def m_l_of_rounds (cell613 : Int) : Option (List Int) :=
 (lt (([] : List Int) : (List Int)) fun order_here617 =>
 (bnd (m_l_draws cell613 ([(7 : Int), (5 : Int), (3 : Int), (11 : Int), (4 : Int)] : List Int)) fun draws624 => (bnd (foldO (fun (b627 : (List Int)) (x629 : Int) =>
 (lt (((b627).length : Int) : Int) fun first652 =>
 (chk (RgB ((1 : Int) + x629)) (bnd (mapO (fun (x661 : Int) => (chk (0 < ((1 : Int) + x629)) (some (first652 + ((x661 + (1 : Int)) % ((1 : Int) + x629)))))) (rng 0 ((1 : Int) + x629))) fun ys674 => (chk ((ys674).length ≤ sizeLine) (chk ((b627).length + (ys674).length ≤ sizeLine) (lt ((b627 ++ ys674) : (List Int)) fun order_here677 =>
 (some order_here677)))))))) order_here617 draws624) fun o625 =>
 (some o625))))
noncomputable abbrev a_l_of_rounds : Int × Unit → Option (List Int) := fun a => m_l_of_rounds a.1
theorem ok_l_of_rounds {P : Program} {w : World} {K : PySem.W.Frag} {mg : Str → Option Value} {base : Heap} {f : Addr} {fd : FuncData} (F : FunP K "_law_of_rounds" s_l_of_rounds f fd) (hmg : mg "_law_of_rounds" = some (.ref f)) (C_l_draws : Cal P w K mg base CX0 1 "_law_draws" (spN K a_l_draws)) (z_len : mg "len" = none) (z_range : mg "range" = none) : Cal P w K mg base CX0 2 "_law_of_rounds" (sp K a_l_of_rounds) := by
  refine mk_cal (k := 1) F hmg (F.bindsN fun _ _ _ _ _ _ us hl => match us, hl with | [_], _ => rfl) sc_l_of_rounds len1 ?_
  rintro cdv A' outer sh0 H0 X0 hr s0 vs ⟨cell613, _⟩ r0 Q ⟨v614, _, rfl, r615, rfl⟩ hm hQ
  unfold a_l_of_rounds m_l_of_rounds at hm
  dsimp only at hm
  have iv616 : Iv K (fun _ => False) s0 s0 [fz v614 (cell613 : Int), top, top, top, top] := (Iv.sf (Iv.tops (K := K) (P0 := (fun _ => False)) 5 s0) 0 (Ex.refl s0) r615 rfl)
  refine do_set 1 (EvN.ev (en_list (xs := ([] : List Int)) ee_nil (by simp [sizeLine]))) (fun v621 s619 e620 r622 => ?_) sc_l_of_rounds.nd
  obtain ⟨order_here617, q618, hm⟩ := ltE hm
  have iv623 := Iv.sf iv616 1 e620 r622 q618
  obtain ⟨draws624, h_draws624, hm⟩ := bndE hm
  obtain ⟨o625, ho626, hm⟩ := bndE hm
  refine do_forO (υ := (List Int)) PassesOwn.never rfl (ei_list (EvN.ev (en_call C_l_draws hr (by decide) (ea_cons (ev_var 0 rfl (Iv.fz (x := (cell613 : Int)) iv623 0)) (ea_cons (EvN.ev (en_list (xs := ([(7 : Int), (5 : Int), (3 : Int), (11 : Int), (4 : Int)] : List Int)) (ee_cons ev_int (ee_cons ev_int (ee_cons ev_int (ee_cons ev_int (ee_cons ev_int ee_nil))))) (by simp [sizeLine]))) ea_nil)) h_draws624))) (pg_name (i := 2) sc_l_of_rounds.nd rfl (by first | exact Or.inl rfl | exact Or.inr rfl)) tg_n ho626 (fun (b627 : (List Int)) (σ' : L2.St) (t' : S) => ∃ (v_order_here : V) (y_first : Option V) (y_long : Option V), σ' = [some v614, some v_order_here, y_long, y_first, none] ∧ Iv K (fun _ => False) s0 t' [fz v614 (cell613 : Int), fz v_order_here (b627 : (List Int)), top, top, top]) (fun s691 k692 => by have iv693 := Iv.ex iv623 k692; exact ⟨v621, _, _, rfl, Iv.sel iv693 [some 0, some 1, none, none, none] (by decide +kernel) (by kernel_rfl)⟩) (fun s630 k631 x629 b627 b628 σ640 σ641 t638 t639 hx632 hm633 fl634 hR635 k636 hB637 => ?_) (fun s685 k686 σ687 t688 fl689 hR690 => ?_)
  · have hf642 := Fle.trans k631.f fl634
    obtain ⟨v643, y644, y645, rfl, iv646⟩ := hR635
    obtain ⟨v647, r648, rfl⟩ := hB637
    have iv649 := Iv.ex iv646 k636
    have iv650 := Iv.sf iv649 2 (Ex.refl t639) r648 rfl
    have fl651 := Fle.trans (Fle.refl t639.F) (Ex.refl t639).f
    refine do_set 3 (ev_len z_len (Ev.r (ev_var 1 rfl (Iv.fz (x := (b627 : (List Int))) iv650 1)))) (fun v656 s654 e655 r657 => ?_) sc_l_of_rounds.nd
    obtain ⟨first652, q653, hm633⟩ := ltE hm633
    have iv658 := Iv.sf iv650 3 e655 r657 q653
    have fl659 := Fle.trans (Fle.refl t639.F) e655.f
    obtain ⟨hc660, hm633⟩ := chkE hm633
    obtain ⟨ys674, h_ys674, hm633⟩ := bndE hm633
    obtain ⟨hc675, hm633⟩ := chkE hm633
    obtain ⟨hc676, hm633⟩ := chkE hm633
    refine do_set 1 (EvN.ev (en_cat (Ev.r (ev_var 1 rfl (Iv.fz (x := (b627 : (List Int))) iv658 1))) (EvN.r (EvL.n (en_comp0 (own := [("_law_k", 4)]) (j := 4) (f := fun (x661 : Int) => (chk (0 < ((1 : Int) + x629)) (some (first652 + ((x661 + (1 : Int)) % ((1 : Int) + x629)))))) rfl sc_l_of_rounds.nd (ei_range1 z_range (ev_add ev_int (ev_var 2 rfl (Iv.fz (x := (x629 : Int)) iv658 2))) hc660) (blkOk_by (own := [("_law_k", 4)]) (N := N_l_of_rounds) (sc := defScope s_l_of_rounds) (by decide +kernel)) rfl (by decide) (fun _ _ _ _ _ => pg_name (i := 4) sc_l_of_rounds.nd rfl (by first | exact Or.inl rfl | exact Or.inr rfl)) h_ys674 hc675 (fun x661 y662 v671 s663 hx665 e664 r672 hf666 _ _ _ _ _ => by have z669 := Enc.mono e664.f (Iv.fz (v := v647) (x := (x629 : Int)) iv658 2); have z670 := Enc.mono e664.f (Iv.fz (v := v656) (x := (first652 : Int)) iv658 3); obtain ⟨hc673, hf666⟩ := chkE hf666; obtain rfl := Option.some.inj hf666; exact (ev_add (ev_var 3 rfl z670) (ev_mod (ev_add (ev_var 4 rfl r672) ev_int) (ev_add ev_int (ev_var 2 rfl z669)) hc673)))))) hc676)) (fun v681 s679 e680 r682 => ?_) sc_l_of_rounds.nd
    obtain ⟨order_here677, q678, hm633⟩ := ltE hm633
    have iv683 := Iv.sf iv658 1 e680 r682 q678
    have fl684 := Fle.trans fl659 e680.f
    obtain rfl := Option.some.inj hm633
    exact do_nil ⟨s679, rfl, fl684, ⟨v681, _, _, rfl, Iv.sel iv683 [some 0, some 1, none, none, none] (by decide +kernel) (by kernel_rfl)⟩⟩
  · have hf694 := Fle.trans k686.f fl689
    obtain ⟨v695, y696, y697, rfl, iv698⟩ := hR690
    obtain rfl := Option.some.inj hm
    exact do_ret (ev_var 1 rfl (Iv.fz (x := (o625 : (List Int))) iv698 1)) fun v699 s700 e701 r702 => hQ _ _ (Ex.trans (Iv.exx iv698) e701) r702
abbrev s_asked_order : Stmt := topS 16
abbrev N_asked_order : List Str := ["order"]
theorem sc_asked_order : FnScope N_asked_order ["order"] (defScope s_asked_order) := ⟨rfl, rfl, rfl, by decide +kernel, rfl, by decide +kernel, by decide +kernel⟩
noncomputable def m_asked_order (order703 : (List Int)) : Option Bool :=
 (bnd (orO (decide (((order703).length : Int) < (1 : Int))) (orO (decide ((40 : Int) < ((order703).length : Int))) (chk (RgOk 0 ((order703).length : Int)) (some (!decide ((sortI order703) = (rng 0 ((order703).length : Int)))))))) fun c711 => (if c711 = true then
 none
 else
 (some true)))
noncomputable abbrev a_asked_order : (List Int) × Unit → Option Bool := fun a => m_asked_order a.1
theorem ok_asked_order {P : Program} {w : World} {K : PySem.W.Frag} {mg : Str → Option Value} {base : Heap} {f : Addr} {fd : FuncData} (F : FunP K "asked_order" s_asked_order f fd) (hmg : mg "asked_order" = some (.ref f)) (z_len : mg "len" = none) (z_sorted : mg "sorted" = none) (z_list : mg "list" = none) (z_range : mg "range" = none) : Cal P w K mg base CX0 1 "asked_order" (sp K a_asked_order) := by
  refine mk_cal (k := 0) F hmg (F.bindsN fun _ _ _ _ _ _ us hl => match us, hl with | [_], _ => rfl) sc_asked_order len1 ?_
  rintro cdv A' outer sh0 H0 X0 hr s0 vs ⟨order703, _⟩ r0 Q ⟨v704, _, rfl, r705, rfl⟩ hm hQ
  unfold a_asked_order m_asked_order at hm
  dsimp only at hm
  have iv706 : Iv K (fun _ => False) s0 s0 [fz v704 (order703 : (List Int))] := (Iv.sf (Iv.tops (K := K) (P0 := (fun _ => False)) 1 s0) 0 (Ex.refl s0) r705 rfl)
  obtain ⟨c711, h_c711, hm⟩ := bndE hm
  refine do_ifR (EvW.tt (EvC.w (by skip; exact ec_orO (eb_lt (ev_len z_len (Ev.r (ev_var 0 rfl (Iv.fz (x := (order703 : (List Int))) iv706 0)))) ev_int) (fun hb712 => (fun hz => (by skip; exact ec_orO (eb_gt (ev_len z_len (Ev.r (ev_var 0 rfl (Iv.fz (x := (order703 : (List Int))) iv706 0)))) ev_int) (fun hb713 => (fun hz => (by obtain ⟨hc710, hz⟩ := chkE hz; obtain rfl := Option.some.inj hz; exact (ec_or1 (eb_neL hr (EvN.r (en_sorted z_sorted (Ev.r (ev_var 0 rfl (Iv.fz (x := (order703 : (List Int))) iv706 0))))) (EvN.r (en_listRg1 z_list z_range (ev_len z_len (Ev.r (ev_var 0 rfl (Iv.fz (x := (order703 : (List Int))) iv706 0)))) hc710)) (shp_of _) (shp_of _))))) ((orE hz).1 hb713)) (orE hz).2)) ((orE h_c711).1 hb712)) (orE h_c711).2))) (fun hb714 s715 e716 => ?_) (fun hb719 s720 e721 => ?_)
  · have hm717 := iteE1 hm hb714
    have iv718 := Iv.ex iv706 e716
    exact absurd hm717 (by intro z; cases z)
  · have hm722 := iteE2 hm hb719
    have iv723 := Iv.ex iv706 e721
    obtain rfl := Option.some.inj hm722
    exact do_ret ev_bl fun v724 s725 e726 r727 => hQ _ _ (Ex.trans (Iv.exx iv723) e726) r727
abbrev s_meet_of : Stmt := topS 18
abbrev N_meet_of : List Str := ["order", "one", "other", "place", "first", "second", "many"]
theorem sc_meet_of : FnScope N_meet_of ["order", "one", "other"] (defScope s_meet_of) := ⟨rfl, rfl, rfl, by decide +kernel, rfl, by decide +kernel, by decide +kernel⟩
noncomputable def m_meet_of (order728 : (List Int)) (one731 : Int) (other734 : Int) : Option (Rz (Option Int)) :=
 (bnd (m_asked_order order728) fun asked_order738 => (bnd (foldF (ρ := (Rz (Option Int))) (fun (b744 : Unit) (x746 : Int) =>
 (if ((decide (x746 < (0 : Int))) || (decide (((order728).length : Int) ≤ x746))) = true then
 (some (Fl.rt (Rz.er (Er.pi "NoPlace" "place" x746))))
 else
 (some (Fl.nx ())))) () ((⟨[one731, other734]⟩ : Tu Int)).l) fun o742 =>
 (Fl.go o742 (fun b794 => (if (decide (one731 = other734)) = true then
 (some (Rz.er (Er.pi "NoPlace" "place" one731)))
 else
 (lt (one731 : Int) fun first813 =>
 (lt (other734 : Int) fun second820 =>
 (lt ((0 : Int) : Int) fun many827 =>
 (bnd (whileF (ρ := (Rz (Option Int))) (fun (b836 : (Int × Int × Int)) => (some (!decide ((b836.1 / (2 : Int)) = (b836.2.1 / (2 : Int)))))) (fun (b836 : (Int × Int × Int)) =>
 (bnd (atI order728 b836.1) fun at863 => (lt (at863 : Int) fun first864 =>
 (bnd (atI order728 b836.2.1) fun at872 => (lt (at872 : Int) fun second873 =>
 (lt ((b836.2.2 + (1 : Int)) : Int) fun many881 =>
 (if ((decide (first864 = one731)) && (decide (second873 = other734))) = true then
 (some (Fl.rt (Rz.ok none)))
 else
 (some (Fl.nx (first864, second873, many881)))))))))) fuel (first813, second820, many827)) fun o834 =>
 (Fl.go o834 (fun b912 => (some (Rz.ok (some b912.2.2)))) (fun rr => (some rr))))))))) (fun rr => (some rr)))))
noncomputable abbrev a_meet_of : (List Int) × Int × Int × Unit → Option (Rz (Option Int)) := fun a => m_meet_of a.1 a.2.1 a.2.2.1
theorem ok_meet_of {P : Program} {w : World} {K : PySem.W.Frag} {mg : Str → Option Value} {base : Heap} {f : Addr} {fd : FuncData} (F : FunP K "meet_of" s_meet_of f fd) (hmg : mg "meet_of" = some (.ref f)) (C_asked_order : Cal P w K mg base CX0 1 "asked_order" (sp K a_asked_order)) (z_len : mg "len" = none) (N_NoPlace : mg "NoPlace" = some (.ref (He.ga K "NoPlace"))) (P_NoPlace : PayF K "NoPlace" "place") (I_NoPlace : InitOk P w K mg base "NoPlace" "place") : Cal P w K mg base (L2.CX P w) 3 "meet_of" (spR K a_meet_of) := by
  refine mk_calR (k := 2) F hmg (F.bindsN fun _ _ _ _ _ _ us hl => match us, hl with | [_, _, _], _ => rfl) sc_meet_of len3 ?_
  rintro cdv A' outer sh0 H0 X0 hr s0 vs ⟨order728, one731, other734, _⟩ r0 Q ⟨v729, _, rfl, r730, v732, _, rfl, r733, v735, _, rfl, r736, rfl⟩ hm hQ
  unfold a_meet_of m_meet_of at hm
  dsimp only at hm
  have iv737 : Iv K (fun _ => False) s0 s0 [fz v729 (order728 : (List Int)), fz v732 (one731 : Int), fz v735 (other734 : Int), top, top, top, top] := (Iv.sf (Iv.sf (Iv.sf (Iv.tops (K := K) (P0 := (fun _ => False)) 7 s0) 0 (Ex.refl s0) r730 rfl) 1 (Ex.refl s0) r733 rfl) 2 (Ex.refl s0) r736 rfl)
  obtain ⟨asked_order738, h_asked_order738, hm⟩ := bndE hm
  refine do_drop (ev_call C_asked_order hr (by decide) (ea_cons (ev_var 0 rfl (Iv.fz (x := (order728 : (List Int))) iv737 0)) ea_nil) h_asked_order738) (fun s739 e740 => ?_)
  have iv741 := Iv.ex iv737 e740
  obtain ⟨o742, ho743, hm⟩ := bndE hm
  refine do_forF (ρ := (Rz (Option Int))) (υ := Unit) (passes_of rfl) rfl (ei_tup (ev_tu (xs := ([one731, other734] : List Int)) (ee_cons (ev_var 1 rfl (Iv.fz (x := (one731 : Int)) iv741 1)) (ee_cons (ev_var 2 rfl (Iv.fz (x := (other734 : Int)) iv741 2)) ee_nil)) (by simp [sizeLine]))) (pg_name (i := 3) sc_meet_of.nd rfl (by first | exact Or.inl rfl | exact Or.inr rfl)) tg_n ho743 (fun (b744 : Unit) (σ' : L2.St) (t' : S) => ∃ (y_place : Option V), σ' = [some v729, some v732, some v735, y_place, none, none, none] ∧ Iv K (fun _ => False) s0 t' [fz v729 (order728 : (List Int)), fz v732 (one731 : Int), fz v735 (other734 : Int), top, top, top, top]) (fun s791 k792 => by have iv793 := Iv.ex iv741 k792; exact ⟨_, rfl, Iv.sel iv793 [some 0, some 1, some 2, none, none, none, none] (by decide +kernel) (by kernel_rfl)⟩) (fun s747 k748 x746 b744 q767 σ757 σ758 t755 t756 hx749 hm750 hq768 fl751 hR752 k753 hB754 => ?_) (fun s785 k786 b794 σ787 t788 ho795 fl789 hR790 => ?_)
  · have hf759 := Fle.trans k748.f fl751
    obtain ⟨y760, rfl, iv761⟩ := hR752
    obtain ⟨v762, r763, rfl⟩ := hB754
    have iv764 := Iv.ex iv761 k753
    have iv765 := Iv.sf iv764 3 (Ex.refl t756) r763 rfl
    have fl766 := Fle.trans (Fle.refl t756.F) (Ex.refl t756).f
    refine do_ifR (EvW.tt (EvC.w (ec_or (eb_lt (ev_var 3 rfl (Iv.fz (x := (x746 : Int)) iv765 3)) ev_int) fun _ => (ec_or1 (eb_ge (ev_var 3 rfl (Iv.fz (x := (x746 : Int)) iv765 3)) (ev_len z_len (Ev.r (ev_var 0 rfl (Iv.fz (x := (order728 : (List Int))) iv765 0))))))))) (fun hb769 s770 e771 => ?_) (fun hb779 s780 e781 => ?_)
    · have hm772 := iteE1 hm750 hb769
      have iv773 := Iv.ex iv765 e771
      have fl774 := Fle.trans (Fle.refl t756.F) e771.f
      obtain rfl := Option.some.inj hm772
      obtain rfl := hq768 _ rfl
      obtain rfl := Option.some.inj hm
      obtain ⟨fd775, ps776, F777, B778⟩ := I_NoPlace
      exact do_raiseI P_NoPlace N_NoPlace F777 B778 (takes_of rfl rfl rfl rfl) hr (by decide) (ev_var 3 rfl (Iv.fz (x := (x746 : Int)) iv773 3)) (fun d s1 k1 z => hQ _ _ _ (Ex.trans (Iv.exx iv773) k1) ⟨rfl, d, rfl, z⟩)
    · have hm782 := iteE2 hm750 hb779
      have iv783 := Iv.ex iv765 e781
      have fl784 := Fle.trans (Fle.refl t756.F) e781.f
      obtain rfl := Option.some.inj hm782
      exact do_nil ⟨s780, rfl, _, rfl, fl784, ⟨_, rfl, Iv.sel iv783 [some 0, some 1, some 2, none, none, none, none] (by decide +kernel) (by kernel_rfl)⟩⟩
  · subst ho795
    replace hm := goN hm
    have hf796 := Fle.trans k786.f fl789
    obtain ⟨y797, rfl, iv798⟩ := hR790
    refine do_ifR (EvB.t (eb_eq (ev_var 1 rfl (Iv.fz (x := (one731 : Int)) iv798 1)) (ev_var 2 rfl (Iv.fz (x := (other734 : Int)) iv798 2)))) (fun hb799 s800 e801 => ?_) (fun hb808 s809 e810 => ?_)
    · have hm802 := iteE1 hm hb799
      have iv803 := Iv.ex iv798 e801
      obtain rfl := Option.some.inj hm802
      obtain ⟨fd804, ps805, F806, B807⟩ := I_NoPlace
      exact do_raiseI P_NoPlace N_NoPlace F806 B807 (takes_of rfl rfl rfl rfl) hr (by decide) (ev_var 1 rfl (Iv.fz (x := (one731 : Int)) iv803 1)) (fun d s1 k1 z => hQ _ _ _ (Ex.trans (Iv.exx iv803) k1) ⟨rfl, d, rfl, z⟩)
    · have hm811 := iteE2 hm hb808
      have iv812 := Iv.ex iv798 e810
      refine do_set 4 (ev_var 1 rfl (Iv.fz (x := (one731 : Int)) iv812 1)) (fun v817 s815 e816 r818 => ?_) sc_meet_of.nd
      obtain ⟨first813, q814, hm811⟩ := ltE hm811
      have iv819 := Iv.sf iv812 4 e816 r818 q814
      refine do_set 5 (ev_var 2 rfl (Iv.fz (x := (other734 : Int)) iv819 2)) (fun v824 s822 e823 r825 => ?_) sc_meet_of.nd
      obtain ⟨second820, q821, hm811⟩ := ltE hm811
      have iv826 := Iv.sf iv819 5 e823 r825 q821
      refine do_set 6 ev_int (fun v831 s829 e830 r832 => ?_) sc_meet_of.nd
      obtain ⟨many827, q828, hm811⟩ := ltE hm811
      have iv833 := Iv.sf iv826 6 e830 r832 q828
      obtain ⟨o834, ho835, hm811⟩ := bndE hm811
      refine do_whileF (ρ := (Rz (Option Int))) (υ := (Int × Int × Int)) (passes_of rfl) ho835 (fun (b836 : (Int × Int × Int)) (σ' : L2.St) (t' : S) => ∃ (v_first : V) (v_second : V) (v_many : V), σ' = [some v729, some v732, some v735, y797, some v_first, some v_second, some v_many] ∧ Iv K (fun _ => False) s0 t' [fz v729 (order728 : (List Int)), fz v732 (one731 : Int), fz v735 (other734 : Int), top, fz v_first (b836.1 : Int), fz v_second (b836.2.1 : Int), fz v_many (b836.2.2 : Int)]) ⟨v817, v824, v831, rfl, Iv.sel iv833 [some 0, some 1, some 2, none, some 4, some 5, some 6] (by decide +kernel) (by kernel_rfl)⟩ (fun b836 x842 σ839 t838 hm843 fl840 hR841 => ?_) (fun b836 q861 σ850 t848 t849 hc854 hm855 hq862 fl851 hR852 k853 => ?_) (fun b912 σ905 t906 t907 ho913 hc908 fl909 hR910 k911 => ?_)
      · obtain ⟨v844, v845, v846, rfl, iv847⟩ := hR841
        obtain rfl := Option.some.inj hm843
        exact (EvB.t (eb_ne (ev_div (ev_var 4 rfl (Iv.fz (x := (b836.1 : Int)) iv847 4)) ev_int ⟨by decide, by decide +kernel⟩) (ev_div (ev_var 5 rfl (Iv.fz (x := (b836.2.1 : Int)) iv847 5)) ev_int ⟨by decide, by decide +kernel⟩)))
      · obtain ⟨v856, v857, v858, rfl, iv859⟩ := hR852
        have iv860 := Iv.ex iv859 k853
        obtain ⟨at863, h_at863, hm855⟩ := bndE hm855
        refine do_set 4 (ev_ix (Ev.r (ev_var 0 rfl (Iv.fz (x := (order728 : (List Int))) iv860 0))) (ev_var 4 rfl (Iv.fz (x := (b836.1 : Int)) iv860 4)) h_at863) (fun v868 s866 e867 r869 => ?_) sc_meet_of.nd
        obtain ⟨first864, q865, hm855⟩ := ltE hm855
        have iv870 := Iv.sf iv860 4 e867 r869 q865
        have fl871 := Fle.trans (Fle.refl t849.F) e867.f
        obtain ⟨at872, h_at872, hm855⟩ := bndE hm855
        refine do_set 5 (ev_ix (Ev.r (ev_var 0 rfl (Iv.fz (x := (order728 : (List Int))) iv870 0))) (ev_var 5 rfl (Iv.fz (x := (b836.2.1 : Int)) iv870 5)) h_at872) (fun v877 s875 e876 r878 => ?_) sc_meet_of.nd
        obtain ⟨second873, q874, hm855⟩ := ltE hm855
        have iv879 := Iv.sf iv870 5 e876 r878 q874
        have fl880 := Fle.trans fl871 e876.f
        refine do_set 6 (ev_add (ev_var 6 rfl (Iv.fz (x := (b836.2.2 : Int)) iv879 6)) ev_int) (fun v885 s883 e884 r886 => ?_) sc_meet_of.nd
        obtain ⟨many881, q882, hm855⟩ := ltE hm855
        have iv887 := Iv.sf iv879 6 e884 r886 q882
        have fl888 := Fle.trans fl880 e884.f
        refine do_ifR (EvW.tt (EvC.w (ec_and (eb_eq (ev_var 4 rfl (Iv.fz (x := (first864 : Int)) iv887 4)) (ev_var 1 rfl (Iv.fz (x := (one731 : Int)) iv887 1))) fun _ => (ec_and1 (eb_eq (ev_var 5 rfl (Iv.fz (x := (second873 : Int)) iv887 5)) (ev_var 2 rfl (Iv.fz (x := (other734 : Int)) iv887 2))))))) (fun hb889 s890 e891 => ?_) (fun hb899 s900 e901 => ?_)
        · have hm892 := iteE1 hm855 hb889
          have iv893 := Iv.ex iv887 e891
          have fl894 := Fle.trans fl888 e891.f
          obtain rfl := Option.some.inj hm892
          obtain rfl := hq862 _ rfl
          obtain rfl := Option.some.inj hm811
          exact do_ret (ev_nonO (α := Int)) fun v895 s896 e897 r898 => hQ _ _ (Ex.trans (Iv.exx iv893) e897) r898
        · have hm902 := iteE2 hm855 hb899
          have iv903 := Iv.ex iv887 e901
          have fl904 := Fle.trans fl888 e901.f
          obtain rfl := Option.some.inj hm902
          exact do_nil ⟨s900, rfl, _, rfl, fl904, ⟨v868, v877, v885, rfl, Iv.sel iv903 [some 0, some 1, some 2, none, some 4, some 5, some 6] (by decide +kernel) (by kernel_rfl)⟩⟩
      · subst ho913
        replace hm811 := goN hm811
        obtain ⟨v914, v915, v916, rfl, iv917⟩ := hR910
        have iv918 := Iv.ex iv917 k911
        obtain rfl := Option.some.inj hm811
        exact do_ret (ev_some (ev_var 6 rfl (Iv.fz (x := (b912.2.2 : Int)) iv918 6))) fun v919 s920 e921 r922 => hQ _ _ (Ex.trans (Iv.exx iv918) e921) r922
abbrev s_l_told : Stmt := topS 25
abbrev N_l_told : List Str := ["_law_order_here", "_law_one", "_law_other", "_law_told_here", "_law_found", "e"]
theorem sc_l_told : FnScope N_l_told ["_law_order_here", "_law_one", "_law_other"] (defScope s_l_told) := ⟨rfl, rfl, rfl, by decide +kernel, rfl, by decide +kernel, by decide +kernel⟩
noncomputable def m_l_told (order_here923 : (List Int)) (one926 : Int) (other929 : Int) : Option (T3 Str (Option Int) Bool) :=
 (lt ((⟨("other" : Str), (some (0 : Int)), false⟩ : (T3 Str (Option Int) Bool)) : (T3 Str (Option Int) Bool)) fun told_here933 =>
 (tb (m_meet_of order_here923 one926 other929) (fun er945 => (chk (exE tab er945 "NoPlace" = some true) (bnd (erI tab er945 "place") fun place959 => (bnd (isE tab er945 "PairsError") fun isE962 => (bnd (andO isE962 (bnd (isE tab er945 "ValueError") fun isE963 => (some isE963))) fun c964 => (lt ((⟨("place" : Str), (some place959), c964⟩ : (T3 Str (Option Int) Bool)) : (T3 Str (Option Int) Bool)) fun told_here966 =>
 (bnd (isEs tab er945 ["NoBars", "NoBreak", "NoCall", "NoInstrument", "NoLine", "NoName"]) fun isE974 => (bnd (if isE974 = true then
 (lt ((⟨("other" : Str), (some (0 : Int)), false⟩ : (T3 Str (Option Int) Bool)) : (T3 Str (Option Int) Bool)) fun told_here1004 =>
 (some told_here1004))
 else
 (some told_here966) : Option ((T3 Str (Option Int) Bool))) fun b995 =>
 (bnd (isEs tab er945 ["NoOrder", "NoPlayer", "NoSeating", "NoText", "NoTimes", "Twice"]) fun isE1028 => (bnd (if isE1028 = true then
 (lt ((⟨("other" : Str), (some (0 : Int)), false⟩ : (T3 Str (Option Int) Bool)) : (T3 Str (Option Int) Bool)) fun told_here1058 =>
 (some told_here1058))
 else
 (some b995) : Option ((T3 Str (Option Int) Bool))) fun b1049 =>
 (some b1049))))))))))) fun meet_of944 => (lt (meet_of944 : (Option Int)) fun found1086 =>
 (lt ((⟨("told" : Str), found1086, false⟩ : (T3 Str (Option Int) Bool)) : (T3 Str (Option Int) Bool)) fun told_here1093 =>
 (some told_here1093)))))
noncomputable abbrev a_l_told : (List Int) × Int × Int × Unit → Option (T3 Str (Option Int) Bool) := fun a => m_l_told a.1 a.2.1 a.2.2.1
theorem ok_l_told {P : Program} {w : World} {K : PySem.W.Frag} {mg : Str → Option Value} {base : Heap} {f : Addr} {fd : FuncData} (F : FunP K "_law_told" s_l_told f fd) (hmg : mg "_law_told" = some (.ref f)) (C_meet_of : Cal P w K mg base (L2.CX P w) 3 "meet_of" (spR K a_meet_of)) (z_isinstance : mg "isinstance" = none) (z_ValueError : mg "ValueError" = none) (z_bool : mg "bool" = none) (N_NoPlace : mg "NoPlace" = some (.ref (He.ga K "NoPlace"))) (N_PairsError : mg "PairsError" = some (.ref (He.ga K "PairsError"))) (N_NoBars : mg "NoBars" = some (.ref (He.ga K "NoBars"))) (N_NoBreak : mg "NoBreak" = some (.ref (He.ga K "NoBreak"))) (N_NoCall : mg "NoCall" = some (.ref (He.ga K "NoCall"))) (N_NoInstrument : mg "NoInstrument" = some (.ref (He.ga K "NoInstrument"))) (N_NoLine : mg "NoLine" = some (.ref (He.ga K "NoLine"))) (N_NoName : mg "NoName" = some (.ref (He.ga K "NoName"))) (N_NoOrder : mg "NoOrder" = some (.ref (He.ga K "NoOrder"))) (N_NoPlayer : mg "NoPlayer" = some (.ref (He.ga K "NoPlayer"))) (N_NoSeating : mg "NoSeating" = some (.ref (He.ga K "NoSeating"))) (N_NoText : mg "NoText" = some (.ref (He.ga K "NoText"))) (N_NoTimes : mg "NoTimes" = some (.ref (He.ga K "NoTimes"))) (N_Twice : mg "Twice" = some (.ref (He.ga K "Twice"))) (TB : tab.ok K = true) : Cal P w K mg base CX0 4 "_law_told" (sp K a_l_told) := by
  refine mk_cal (k := 3) F hmg (F.bindsN fun _ _ _ _ _ _ us hl => match us, hl with | [_, _, _], _ => rfl) sc_l_told len3 ?_
  rintro cdv A' outer sh0 H0 X0 hr s0 vs ⟨order_here923, one926, other929, _⟩ r0 Q ⟨v924, _, rfl, r925, v927, _, rfl, r928, v930, _, rfl, r931, rfl⟩ hm hQ
  unfold a_l_told m_l_told at hm
  dsimp only at hm
  have iv932 : Iv K (fun _ => False) s0 s0 [fz v924 (order_here923 : (List Int)), fz v927 (one926 : Int), fz v930 (other929 : Int), top, top, top] := (Iv.sf (Iv.sf (Iv.sf (Iv.tops (K := K) (P0 := (fun _ => False)) 6 s0) 0 (Ex.refl s0) r925 rfl) 1 (Ex.refl s0) r928 rfl) 2 (Ex.refl s0) r931 rfl)
  refine do_set 3 (ev_t3 (ea_cons ev_str (ea_cons (ev_some ev_int) (ea_cons ev_bl ea_nil)))) (fun v937 s935 e936 r938 => ?_) sc_l_told.nd
  obtain ⟨told_here933, q934, hm⟩ := ltE hm
  have iv939 := Iv.sf iv932 3 e936 r938 q934
  refine do_tryAs 5 sc_l_told.nd (names_of N_NoPlace) takes_false (fun pn940 xe941 tk942 po943 => ?_)
  rcases tbE hm with ⟨er945, he946, hm⟩ | ⟨meet_of944, h_meet_of944, hm⟩
  · obtain ⟨hx950, hm⟩ := chkE hm
    refine do_setX 4 (evX_call C_meet_of tk942 hr (by decide) (ea_cons (ev_var 0 rfl (Iv.fz (x := (order_here923 : (List Int))) iv939 0)) (ea_cons (ev_var 1 rfl (Iv.fz (x := (one926 : Int)) iv939 1)) (ea_cons (ev_var 2 rfl (Iv.fz (x := (other929 : Int)) iv939 2)) ea_nil))) he946 (fun _ _ s947 k948 r949 => ?_)) sc_l_told.nd
    have hb951 := exE_ok TB r949 hx950
    obtain rfl := exR_cls r949
    refine was_of hb951 (fun a952 ha953 oe954 pn955 hz956 hf957 => ?_)
    have iv958 := Iv.ex iv939 k948
    obtain ⟨place959, h_place959, hm⟩ := bndE hm
    obtain ⟨isE962, h_isE962, hm⟩ := bndE hm
    obtain ⟨c964, h_c964, hm⟩ := bndE hm
    refine do_set 3 (ev_t3 (ea_cons ev_str (ea_cons (ev_some (ev_xfI TB h_place959 hz956 hf957 r949 (ev_var 5 rfl (show rep _ _ (V.ref a952) (Rw.mk (V.ref a952)) from rfl)))) (ea_cons (EvC.v (by skip; exact ec_andO (eb_v (ev_isE TB h_isE962 hz956 hf957 r949 z_isinstance (ev_var 5 rfl (show rep _ _ (V.ref a952) (Rw.mk (V.ref a952)) from rfl)) (ev_cls (.inl ⟨by decide, N_PairsError⟩)))) (fun hb965 => (fun hz => (by obtain ⟨isE963, h_isE963, hz⟩ := bndE hz; obtain rfl := Option.some.inj hz; exact (ec_and1 (eb_v (ev_isE TB h_isE963 hz956 hf957 r949 z_isinstance (ev_var 5 rfl (show rep _ _ (V.ref a952) (Rw.mk (V.ref a952)) from rfl)) (ev_cls (.inr ⟨rfl, z_ValueError⟩))))))) ((andE h_c964).1 hb965)) (andE h_c964).2)) ea_nil)))) (fun v970 s968 e969 r971 => ?_) sc_l_told.nd
    obtain ⟨told_here966, q967, hm⟩ := ltE hm
    have iv972 := Iv.sf iv958 3 e969 r971 q967
    have r973 := ExR.mono e969.f r949
    obtain ⟨isE974, h_isE974, hm⟩ := bndE hm
    obtain ⟨b995, hj996, hm⟩ := bndE hm
    refine do_if (et_v (ev_isEs (c0 := "NoBars") (cr := ["NoBreak", "NoCall", "NoInstrument", "NoLine", "NoName"]) TB h_isE974 hz956 hf957 r973 z_isinstance (ev_var 5 rfl (show rep _ _ (V.ref a952) (Rw.mk (V.ref a952)) from rfl)) (ee_cons (ev_cls (.inl ⟨by decide, N_NoBars⟩)) (ee_cons (ev_cls (.inl ⟨by decide, N_NoBreak⟩)) (ee_cons (ev_cls (.inl ⟨by decide, N_NoCall⟩)) (ee_cons (ev_cls (.inl ⟨by decide, N_NoInstrument⟩)) (ee_cons (ev_cls (.inl ⟨by decide, N_NoLine⟩)) (ee_cons (ev_cls (.inl ⟨by decide, N_NoName⟩)) ee_nil)))))) (by decide))) (fun (σ' : L2.St) (t' : S) => Fle s968.F t'.F ∧ ∃ (v_told_here : V), σ' = [some v924, some v927, some v930, some v_told_here, none, some (V.ref a952)] ∧ Iv K (fun _ => False) s0 t' [fz v924 (order_here923 : (List Int)), fz v927 (one926 : Int), fz v930 (other929 : Int), fz v_told_here (b995 : (T3 Str (Option Int) Bool)), top, top]) (fun hb997 s998 e999 => ?_) (fun hb1013 s1014 e1015 => ?_) (fun σ1020 s1021 hM1022 => ?_)
    · have hm1000 := iteE1 hj996 hb997
      have iv1001 := Iv.ex iv972 e999
      have r1003 := ExR.mono e999.f r973
      have fl1002 := Fle.trans (Fle.refl s968.F) e999.f
      refine do_set 3 (ev_t3 (ea_cons ev_str (ea_cons (ev_some ev_int) (ea_cons ev_bl ea_nil)))) (fun v1008 s1006 e1007 r1009 => ?_) sc_l_told.nd
      obtain ⟨told_here1004, q1005, hm1000⟩ := ltE hm1000
      have iv1010 := Iv.sf iv1001 3 e1007 r1009 q1005
      have r1012 := ExR.mono e1007.f r1003
      have fl1011 := Fle.trans fl1002 e1007.f
      obtain rfl := Option.some.inj hm1000
      exact do_nil ⟨s1006, rfl, fl1011, ⟨v1008, rfl, Iv.sel iv1010 [some 0, some 1, some 2, some 3, none, none] (by decide +kernel) (by kernel_rfl)⟩⟩
    · have hm1016 := iteE2 hj996 hb1013
      have iv1017 := Iv.ex iv972 e1015
      have r1019 := ExR.mono e1015.f r973
      have fl1018 := Fle.trans (Fle.refl s968.F) e1015.f
      obtain rfl := Option.some.inj hm1016
      exact do_nil ⟨s1014, rfl, fl1018, ⟨v970, rfl, Iv.sel iv1017 [some 0, some 1, some 2, some 3, none, none] (by decide +kernel) (by kernel_rfl)⟩⟩
    · obtain ⟨hf1023, hR1024⟩ := hM1022
      obtain ⟨v1025, rfl, iv1026⟩ := hR1024
      have r1027 := ExR.mono hf1023 r973
      obtain ⟨isE1028, h_isE1028, hm⟩ := bndE hm
      obtain ⟨b1049, hj1050, hm⟩ := bndE hm
      refine do_if (et_v (ev_isEs (c0 := "NoOrder") (cr := ["NoPlayer", "NoSeating", "NoText", "NoTimes", "Twice"]) TB h_isE1028 hz956 hf957 r1027 z_isinstance (ev_var 5 rfl (show rep _ _ (V.ref a952) (Rw.mk (V.ref a952)) from rfl)) (ee_cons (ev_cls (.inl ⟨by decide, N_NoOrder⟩)) (ee_cons (ev_cls (.inl ⟨by decide, N_NoPlayer⟩)) (ee_cons (ev_cls (.inl ⟨by decide, N_NoSeating⟩)) (ee_cons (ev_cls (.inl ⟨by decide, N_NoText⟩)) (ee_cons (ev_cls (.inl ⟨by decide, N_NoTimes⟩)) (ee_cons (ev_cls (.inl ⟨by decide, N_Twice⟩)) ee_nil)))))) (by decide))) (fun (σ' : L2.St) (t' : S) => Fle s1021.F t'.F ∧ ∃ (v_told_here : V), σ' = [some v924, some v927, some v930, some v_told_here, none, some (V.ref a952)] ∧ Iv K (fun _ => False) s0 t' [fz v924 (order_here923 : (List Int)), fz v927 (one926 : Int), fz v930 (other929 : Int), fz v_told_here (b1049 : (T3 Str (Option Int) Bool)), top, top]) (fun hb1051 s1052 e1053 => ?_) (fun hb1067 s1068 e1069 => ?_) (fun σ1074 s1075 hM1076 => ?_)
      · have hm1054 := iteE1 hj1050 hb1051
        have iv1055 := Iv.ex iv1026 e1053
        have r1057 := ExR.mono e1053.f r1027
        have fl1056 := Fle.trans (Fle.refl s1021.F) e1053.f
        refine do_set 3 (ev_t3 (ea_cons ev_str (ea_cons (ev_some ev_int) (ea_cons ev_bl ea_nil)))) (fun v1062 s1060 e1061 r1063 => ?_) sc_l_told.nd
        obtain ⟨told_here1058, q1059, hm1054⟩ := ltE hm1054
        have iv1064 := Iv.sf iv1055 3 e1061 r1063 q1059
        have r1066 := ExR.mono e1061.f r1057
        have fl1065 := Fle.trans fl1056 e1061.f
        obtain rfl := Option.some.inj hm1054
        exact do_nil ⟨s1060, rfl, fl1065, ⟨v1062, rfl, Iv.sel iv1064 [some 0, some 1, some 2, some 3, none, none] (by decide +kernel) (by kernel_rfl)⟩⟩
      · have hm1070 := iteE2 hj1050 hb1067
        have iv1071 := Iv.ex iv1026 e1069
        have r1073 := ExR.mono e1069.f r1027
        have fl1072 := Fle.trans (Fle.refl s1021.F) e1069.f
        obtain rfl := Option.some.inj hm1070
        exact do_nil ⟨s1068, rfl, fl1072, ⟨v1025, rfl, Iv.sel iv1071 [some 0, some 1, some 2, some 3, none, none] (by decide +kernel) (by kernel_rfl)⟩⟩
      · obtain ⟨hf1077, hR1078⟩ := hM1076
        obtain ⟨v1079, rfl, iv1080⟩ := hR1078
        have r1081 := ExR.mono hf1077 r1027
        refine do_nil (show WSs _ _ _ _ _ from ?_)
        obtain rfl := Option.some.inj hm
        exact do_ret (ev_var 3 rfl (Iv.fz (x := (b1049 : (T3 Str (Option Int) Bool))) iv1080 3)) fun v1082 s1083 e1084 r1085 => hQ _ _ (Ex.trans (Iv.exx iv1080) e1084) r1085
  refine do_set 4 (ev_callR C_meet_of hr (by decide) (ea_cons (ev_var 0 rfl (Iv.fz (x := (order_here923 : (List Int))) iv939 0)) (ea_cons (ev_var 1 rfl (Iv.fz (x := (one926 : Int)) iv939 1)) (ea_cons (ev_var 2 rfl (Iv.fz (x := (other929 : Int)) iv939 2)) ea_nil))) h_meet_of944) (fun v1090 s1088 e1089 r1091 => ?_) sc_l_told.nd
  obtain ⟨found1086, q1087, hm⟩ := ltE hm
  have iv1092 := Iv.sf iv939 4 e1089 r1091 q1087
  refine do_set 3 (ev_t3 (ea_cons ev_str (ea_cons (ev_var 4 rfl (Iv.fz (x := (found1086 : (Option Int))) iv1092 4)) (ea_cons (EvB.v (eb_v (ev_isi (T := "bool") z_isinstance z_bool (by decide +kernel) (ev_var 4 rfl (Iv.fz (x := (found1086 : (Option Int))) iv1092 4)) (isi_optF _ (fun _ => by show kitB "int" "bool" = _; decide +kernel) (by decide +kernel))))) ea_nil)))) (fun v1097 s1095 e1096 r1098 => ?_) sc_l_told.nd
  obtain ⟨told_here1093, q1094, hm⟩ := ltE hm
  have iv1099 := Iv.sf iv1092 3 e1096 r1098 q1094
  refine do_nil (show WSs _ _ _ _ _ from ?_)
  obtain rfl := Option.some.inj hm
  exact do_ret (ev_var 3 rfl (Iv.fz (x := (told_here1093 : (T3 Str (Option Int) Bool))) iv1099 3)) fun v1100 s1101 e1102 r1103 => hQ _ _ (Ex.trans (Iv.exx iv1099) e1102) r1103
abbrev s_law : Stmt := topS 27
abbrev N_law : List Str := ["_law_script", "_law_k", "_law_cell", "_law_order_here", "_law_kept", "_law_due_here", "_law_one", "_law_other"]
theorem sc_law : FnScope N_law ["_law_script"] (defScope s_law) := ⟨rfl, rfl, rfl, by decide +kernel, rfl, by decide +kernel, by decide +kernel⟩
noncomputable def m_law (script1104 : (List Int)) : Option Bool :=
 (chk (RgB ((1 : Int) + ((((cut script1104 none (some (59 : Int)))).length : Int) / (2 : Int)))) (bnd (foldF (ρ := Bool) (fun (b1111 : Unit) (x1113 : Int) =>
 (bnd (m_l_cell_at script1104 ((2 : Int) * x1113)) fun cell_at1142 => (lt (cell_at1142 : Int) fun cell1143 =>
 (bnd (atI ([(12 : Int), (40 : Int)] : List Int) (if (decide ((cell1143 % (8 : Int)) = (3 : Int))) = true then (1 : Int) else 0)) fun at1152 => (bnd (m_l_order (cell1143 / (8 : Int)) at1152) fun order1153 => (lt (order1153 : (List Int)) fun order_here1154 =>
 (bnd (if (decide ((cell1143 % (4 : Int)) = (1 : Int))) = true then
 (bnd (m_l_of_rounds (cell1143 / (8 : Int))) fun of_rounds1192 => (lt (of_rounds1192 : (List Int)) fun order_here1193 =>
 (some order_here1193)))
 else
 (some order_here1154) : Option ((List Int))) fun b1183 =>
 (lt (b1183 : (List Int)) fun kept1217 =>
 (bnd (m_l_cell_at script1104 (((2 : Int) * x1113) + (1 : Int))) fun cell_at1225 => (bnd (m_l_places cell_at1225 ((b1183).length : Int)) fun places1226 => (lt (places1226 : (Int × Int)) fun u1233 =>
 (bnd (a_l_due (b1183, u1233.1, u1233.2, ())) fun due1245 => (lt (due1245 : (T3 Str (Option Int) Bool)) fun due_here1246 =>
 (bnd (m_l_told b1183 u1233.1 u1233.2) fun told1259 => (chk (shp (told1259 : (T3 Str (Option Int) Bool))) (chk (shp (due_here1246 : (T3 Str (Option Int) Bool))) (if ((!decide (told1259 = due_here1246)) || (!decide (b1183 = kept1217))) = true then
 (some (Fl.rt false))
 else
 (bnd (andO (decide ((due_here1246).a = ("told" : Str))) (bnd (m_l_told b1183 u1233.2 u1233.1) fun told1283 => (chk (shp (told1283 : (T3 Str (Option Int) Bool))) (chk (shp (due_here1246 : (T3 Str (Option Int) Bool))) (some (!decide (told1283 = due_here1246))))))) fun c1286 => (if c1286 = true then
 (some (Fl.rt false))
 else
 (some (Fl.nx ()))))))))))))))))))))) () (rng 0 ((1 : Int) + ((((cut script1104 none (some (59 : Int)))).length : Int) / (2 : Int))))) fun o1109 =>
 (Fl.go o1109 (fun b1313 => (some true)) (fun rr => (some rr)))))
noncomputable abbrev a_law : (List Int) × Unit → Option Bool := fun a => m_law a.1
theorem ok_law_fn {P : Program} {w : World} {K : PySem.W.Frag} {mg : Str → Option Value} {base : Heap} {f : Addr} {fd : FuncData} (F : FunP K "law" s_law f fd) (hmg : mg "law" = some (.ref f)) (C_l_cell_at : Cal P w K mg base CX0 1 "_law_cell_at" (sp K a_l_cell_at)) (C_l_order : Cal P w K mg base CX0 2 "_law_order" (spN K a_l_order)) (C_l_of_rounds : Cal P w K mg base CX0 2 "_law_of_rounds" (sp K a_l_of_rounds)) (C_l_places : Cal P w K mg base CX0 2 "_law_places" (sp K a_l_places)) (C_l_due : Cal P w K mg base CX0 1 "_law_due" (spI K pre_l_due a_l_due ok_l_due noEr)) (C_l_told : Cal P w K mg base CX0 4 "_law_told" (sp K a_l_told)) (z_range : mg "range" = none) (z_len : mg "len" = none) (z_int : mg "int" = none) (z_list : mg "list" = none) : FnOk P w K mg base CX0 5 f fd ["_law_script"] (sp K a_law) := by
  refine mk_fn (k := 4) F sc_law len1 ?_
  rintro cdv A' outer sh0 H0 X0 hr s0 vs ⟨script1104, _⟩ r0 Q ⟨v1105, _, rfl, r1106, rfl⟩ hm hQ
  unfold a_law m_law at hm
  dsimp only at hm
  have iv1107 : Iv K (fun _ => False) s0 s0 [fz v1105 (script1104 : (List Int)), top, top, top, top, top, top, top] := (Iv.sf (Iv.tops (K := K) (P0 := (fun _ => False)) 8 s0) 0 (Ex.refl s0) r1106 rfl)
  obtain ⟨hc1108, hm⟩ := chkE hm
  obtain ⟨o1109, ho1110, hm⟩ := bndE hm
  refine do_forF (ρ := Bool) (υ := Unit) PassesOwn.never rfl (ei_range1 z_range (ev_add ev_int (ev_div (ev_len z_len (EvN.r (en_slice (Ev.r (ev_var 0 rfl (Iv.fz (x := (script1104 : (List Int))) iv1107 0))) eo_none (eo_some ev_int)))) ev_int ⟨by decide, by decide +kernel⟩)) hc1108) (pg_name (i := 1) sc_law.nd rfl (by first | exact Or.inl rfl | exact Or.inr rfl)) tg_n ho1110 (fun (b1111 : Unit) (σ' : L2.St) (t' : S) => ∃ (y_cell : Option V) (y_order_here : Option V) (y_kept : Option V) (y_one : Option V) (y_other : Option V) (y_due_here : Option V) (y_k : Option V), σ' = [some v1105, y_k, y_cell, y_order_here, y_kept, y_due_here, y_one, y_other] ∧ Iv K (fun _ => False) s0 t' [fz v1105 (script1104 : (List Int)), top, top, top, top, top, top, top]) (fun s1310 k1311 => by have iv1312 := Iv.ex iv1107 k1311; exact ⟨_, _, _, _, _, _, _, rfl, Iv.sel iv1312 [some 0, none, none, none, none, none, none, none] (by decide +kernel) (by kernel_rfl)⟩) (fun s1114 k1115 x1113 b1111 q1140 σ1124 σ1125 t1122 t1123 hx1116 hm1117 hq1141 fl1118 hR1119 k1120 hB1121 => ?_) (fun s1304 k1305 b1313 σ1306 t1307 ho1314 fl1308 hR1309 => ?_)
  · have hf1126 := Fle.trans k1115.f fl1118
    obtain ⟨y1127, y1128, y1129, y1130, y1131, y1132, y1133, rfl, iv1134⟩ := hR1119
    obtain ⟨v1135, r1136, rfl⟩ := hB1121
    have iv1137 := Iv.ex iv1134 k1120
    have iv1138 := Iv.sf iv1137 1 (Ex.refl t1123) r1136 rfl
    have fl1139 := Fle.trans (Fle.refl t1123.F) (Ex.refl t1123).f
    obtain ⟨cell_at1142, h_cell_at1142, hm1117⟩ := bndE hm1117
    refine do_set 2 (ev_call C_l_cell_at hr (by decide) (ea_cons (ev_var 0 rfl (Iv.fz (x := (script1104 : (List Int))) iv1138 0)) (ea_cons (ev_mul ev_int (ev_var 1 rfl (Iv.fz (x := (x1113 : Int)) iv1138 1)) (Or.inl (Or.inl ⟨by omega, by omega⟩))) ea_nil)) h_cell_at1142) (fun v1147 s1145 e1146 r1148 => ?_) sc_law.nd
    obtain ⟨cell1143, q1144, hm1117⟩ := ltE hm1117
    have iv1149 := Iv.sf iv1138 2 e1146 r1148 q1144
    have fl1150 := Fle.trans (Fle.refl t1123.F) e1146.f
    obtain ⟨at1152, h_at1152, hm1117⟩ := bndE hm1117
    obtain ⟨order1153, h_order1153, hm1117⟩ := bndE hm1117
    refine do_set 3 (EvN.ev (en_call C_l_order hr (by decide) (ea_cons (ev_div (ev_var 2 rfl (Iv.fz (x := (cell1143 : Int)) iv1149 2)) ev_int ⟨by decide, by decide +kernel⟩) (ea_cons (ev_ix (EvN.r (en_list (xs := ([(12 : Int), (40 : Int)] : List Int)) (ee_cons ev_int (ee_cons ev_int ee_nil)) (by simp [sizeLine]))) (ev_intB z_int (EvB.v (eb_eq (ev_mod (ev_var 2 rfl (Iv.fz (x := (cell1143 : Int)) iv1149 2)) ev_int (by decide)) ev_int))) h_at1152) ea_nil)) h_order1153)) (fun v1158 s1156 e1157 r1159 => ?_) sc_law.nd
    obtain ⟨order_here1154, q1155, hm1117⟩ := ltE hm1117
    have iv1160 := Iv.sf iv1149 3 e1157 r1159 q1155
    have fl1161 := Fle.trans fl1150 e1157.f
    obtain ⟨b1183, hj1184, hm1117⟩ := bndE hm1117
    refine do_if (EvB.t (eb_eq (ev_mod (ev_var 2 rfl (Iv.fz (x := (cell1143 : Int)) iv1160 2)) ev_int (by decide)) ev_int)) (fun (σ' : L2.St) (t' : S) => Fle s1156.F t'.F ∧ ∃ (v_order_here : V), σ' = [some v1105, some v1135, some v1147, some v_order_here, y1129, y1132, y1130, y1131] ∧ Iv K (fun _ => False) s0 t' [fz v1105 (script1104 : (List Int)), fz v1135 (x1113 : Int), fz v1147 (cell1143 : Int), fz v_order_here (b1183 : (List Int)), top, top, top, top]) (fun hb1185 s1186 e1187 => ?_) (fun hb1202 s1203 e1204 => ?_) (fun σ1209 s1210 hM1211 => ?_)
    · have hm1188 := iteE1 hj1184 hb1185
      have iv1189 := Iv.ex iv1160 e1187
      have fl1190 := Fle.trans fl1161 e1187.f
      have fl1191 := Fle.trans (Fle.refl s1156.F) e1187.f
      obtain ⟨of_rounds1192, h_of_rounds1192, hm1188⟩ := bndE hm1188
      refine do_set 3 (ev_call C_l_of_rounds hr (by decide) (ea_cons (ev_div (ev_var 2 rfl (Iv.fz (x := (cell1143 : Int)) iv1189 2)) ev_int ⟨by decide, by decide +kernel⟩) ea_nil) h_of_rounds1192) (fun v1197 s1195 e1196 r1198 => ?_) sc_law.nd
      obtain ⟨order_here1193, q1194, hm1188⟩ := ltE hm1188
      have iv1199 := Iv.sf iv1189 3 e1196 r1198 q1194
      have fl1200 := Fle.trans fl1190 e1196.f
      have fl1201 := Fle.trans fl1191 e1196.f
      obtain rfl := Option.some.inj hm1188
      exact do_nil ⟨s1195, rfl, fl1201, ⟨v1197, rfl, Iv.sel iv1199 [some 0, some 1, some 2, some 3, none, none, none, none] (by decide +kernel) (by kernel_rfl)⟩⟩
    · have hm1205 := iteE2 hj1184 hb1202
      have iv1206 := Iv.ex iv1160 e1204
      have fl1207 := Fle.trans fl1161 e1204.f
      have fl1208 := Fle.trans (Fle.refl s1156.F) e1204.f
      obtain rfl := Option.some.inj hm1205
      exact do_nil ⟨s1203, rfl, fl1208, ⟨v1158, rfl, Iv.sel iv1206 [some 0, some 1, some 2, some 3, none, none, none, none] (by decide +kernel) (by kernel_rfl)⟩⟩
    · obtain ⟨hf1212, hR1213⟩ := hM1211
      obtain ⟨v1214, rfl, iv1215⟩ := hR1213
      have fl1216 := Fle.trans fl1161 hf1212
      refine do_set 4 (EvN.ev (en_copy z_list (Ev.r (ev_var 3 rfl (Iv.fz (x := (b1183 : (List Int))) iv1215 3))))) (fun v1221 s1219 e1220 r1222 => ?_) sc_law.nd
      obtain ⟨kept1217, q1218, hm1117⟩ := ltE hm1117
      have iv1223 := Iv.sf iv1215 4 e1220 r1222 q1218
      have fl1224 := Fle.trans fl1216 e1220.f
      obtain ⟨cell_at1225, h_cell_at1225, hm1117⟩ := bndE hm1117
      obtain ⟨places1226, h_places1226, hm1117⟩ := bndE hm1117
      refine do_unp2 6 7 (ev_call C_l_places hr (by decide) (ea_cons (ev_call C_l_cell_at hr (by decide) (ea_cons (ev_var 0 rfl (Iv.fz (x := (script1104 : (List Int))) iv1223 0)) (ea_cons (ev_add (ev_mul ev_int (ev_var 1 rfl (Iv.fz (x := (x1113 : Int)) iv1223 1)) (Or.inl (Or.inl ⟨by omega, by omega⟩))) ev_int) ea_nil)) h_cell_at1225) (ea_cons (ev_len z_len (Ev.r (ev_var 3 rfl (Iv.fz (x := (b1183 : (List Int))) iv1223 3)))) ea_nil)) h_places1226) (fun v1227 v1228 s1231 e1232 r1229 r1230 => ?_) (pg_tup rfl (pgs_cons (pg_name (i := 6) sc_law.nd rfl (by first | exact Or.inl rfl | exact Or.inr rfl)) (pgs_cons (pg_name (i := 7) sc_law.nd rfl (by first | exact Or.inl rfl | exact Or.inr rfl)) pgs_nil)))
      obtain ⟨u1233, q1234, hm1117⟩ := ltE hm1117
      rw [← q1234] at r1229
      have iv1235 := Iv.sf iv1223 6 e1232 r1229 rfl
      have fl1236 := Fle.trans fl1224 e1232.f
      rw [← q1234] at r1230
      have iv1237 := Iv.sf iv1235 7 (Ex.refl s1231) r1230 rfl
      have fl1238 := Fle.trans fl1236 (Ex.refl s1231).f
      obtain ⟨due1245, h_due1245, hm1117⟩ := bndE hm1117
      refine do_set 5 (ev_of_eg (eg_call (ok' := (fun v L' => ∃ (bres : V), v = bres ∧ L' = [fz bres (due1245 : (T3 Str (Option Int) Bool))])) (ca_fn (E := fun _ _ _ _ => False) C_l_due pass00 hr (by decide) (ea_cons (ev_var 3 rfl (Iv.fz (x := (b1183 : (List Int))) iv1237 3)) (ea_cons (ev_var 6 rfl (Iv.fz (x := (u1233.1 : Int)) iv1237 6)) (ea_cons (ev_var 7 rfl (Iv.fz (x := (u1233.2 : Int)) iv1237 7)) ea_nil)))) iv1237 ro0 [] (fun vs s2 k2 r2 => by obtain ⟨v1239, _, rfl, r1240, v1241, _, rfl, r1242, v1243, _, rfl, r1244, rfl⟩ := r2; exact ⟨[fz v1239 (b1183 : (List Int)), fz v1241 (u1233.1 : Int), fz v1243 (u1233.2 : Int)], ⟨v1239, v1241, v1243, rfl, rfl, rfl⟩, (all_cons r1240 (all_cons r1242 (all_cons r1244 all_nil))), (fun v L' z => by obtain ⟨_, _, _, e, z⟩ := z; cases e; exact z), (fun e L' z => z.elim)⟩) h_due1245) (fun v L' z => by obtain ⟨_, rfl, rfl⟩ := z; exact ⟨[], rfl⟩)) (fun v1250 s1248 e1249 r1251 => ?_) sc_law.nd
      obtain ⟨due_here1246, q1247, hm1117⟩ := ltE hm1117
      have iv1252 := Iv.sf iv1237 5 e1249 r1251 q1247
      have fl1253 := Fle.trans fl1238 e1249.f
      obtain ⟨told1259, h_told1259, hm1117⟩ := bndE hm1117
      obtain ⟨hc1260, hm1117⟩ := chkE hm1117
      obtain ⟨hc1261, hm1117⟩ := chkE hm1117
      refine do_ifR (EvW.tt (EvC.w (ec_or (eb_neD hr (ev_call C_l_told hr (by decide) (ea_cons (ev_var 3 rfl (Iv.fz (x := (b1183 : (List Int))) iv1252 3)) (ea_cons (ev_var 6 rfl (Iv.fz (x := (u1233.1 : Int)) iv1252 6)) (ea_cons (ev_var 7 rfl (Iv.fz (x := (u1233.2 : Int)) iv1252 7)) ea_nil))) h_told1259) (ev_var 5 rfl (Iv.fz (x := (due_here1246 : (T3 Str (Option Int) Bool))) iv1252 5)) hc1260 hc1261) fun _ => (ec_or1 (eb_neL hr (Ev.r (ev_var 3 rfl (Iv.fz (x := (b1183 : (List Int))) iv1252 3))) (Ev.r (ev_var 4 rfl (Iv.fz (x := (kept1217 : (List Int))) iv1252 4))) (shp_of _) (shp_of _)))))) (fun hb1262 s1263 e1264 => ?_) (fun hb1272 s1273 e1274 => ?_)
      · have hm1265 := iteE1 hm1117 hb1262
        have iv1266 := Iv.ex iv1252 e1264
        have fl1267 := Fle.trans fl1253 e1264.f
        obtain rfl := Option.some.inj hm1265
        obtain rfl := hq1141 _ rfl
        obtain rfl := Option.some.inj hm
        exact do_ret ev_bl fun v1268 s1269 e1270 r1271 => hQ _ _ (Ex.trans (Iv.exx iv1266) e1270) r1271
      · have hm1275 := iteE2 hm1117 hb1272
        have iv1276 := Iv.ex iv1252 e1274
        have fl1277 := Fle.trans fl1253 e1274.f
        obtain ⟨c1286, h_c1286, hm1275⟩ := bndE hm1275
        refine do_ifR (EvW.tt (EvC.w (by skip; exact ec_andO (eb_eq (ev_ixP (ev_var 5 rfl (Iv.fz (x := (due_here1246 : (T3 Str (Option Int) Bool))) iv1276 5)) ev_int p3_0) ev_str) (fun hb1287 => (fun hz => (by obtain ⟨told1283, h_told1283, hz⟩ := bndE hz; obtain ⟨hc1284, hz⟩ := chkE hz; obtain ⟨hc1285, hz⟩ := chkE hz; obtain rfl := Option.some.inj hz; exact (ec_and1 (eb_neD hr (ev_call C_l_told hr (by decide) (ea_cons (ev_var 3 rfl (Iv.fz (x := (b1183 : (List Int))) iv1276 3)) (ea_cons (ev_var 7 rfl (Iv.fz (x := (u1233.2 : Int)) iv1276 7)) (ea_cons (ev_var 6 rfl (Iv.fz (x := (u1233.1 : Int)) iv1276 6)) ea_nil))) h_told1283) (ev_var 5 rfl (Iv.fz (x := (due_here1246 : (T3 Str (Option Int) Bool))) iv1276 5)) hc1284 hc1285)))) ((andE h_c1286).1 hb1287)) (andE h_c1286).2))) (fun hb1288 s1289 e1290 => ?_) (fun hb1298 s1299 e1300 => ?_)
        · have hm1291 := iteE1 hm1275 hb1288
          have iv1292 := Iv.ex iv1276 e1290
          have fl1293 := Fle.trans fl1277 e1290.f
          obtain rfl := Option.some.inj hm1291
          obtain rfl := hq1141 _ rfl
          obtain rfl := Option.some.inj hm
          exact do_ret ev_bl fun v1294 s1295 e1296 r1297 => hQ _ _ (Ex.trans (Iv.exx iv1292) e1296) r1297
        · have hm1301 := iteE2 hm1275 hb1298
          have iv1302 := Iv.ex iv1276 e1300
          have fl1303 := Fle.trans fl1277 e1300.f
          obtain rfl := Option.some.inj hm1301
          exact do_nil ⟨s1299, rfl, _, rfl, fl1303, ⟨_, _, _, _, _, _, _, rfl, Iv.sel iv1302 [some 0, none, none, none, none, none, none, none] (by decide +kernel) (by kernel_rfl)⟩⟩
  · subst ho1314
    replace hm := goN hm
    have hf1315 := Fle.trans k1305.f fl1308
    obtain ⟨y1316, y1317, y1318, y1319, y1320, y1321, y1322, rfl, iv1323⟩ := hR1309
    obtain rfl := Option.some.inj hm
    exact do_ret ev_bl fun v1324 s1325 e1326 r1327 => hQ _ _ (Ex.trans (Iv.exx iv1323) e1326) r1327
def d_l_cell_at : He.DefD := ⟨("_law_cell_at", none), "_law_cell_at", "_law_cell_at", defArgs s_l_cell_at, defBody s_l_cell_at, defScope s_l_cell_at, [], []⟩
def d_l_draws : He.DefD := ⟨("_law_draws", none), "_law_draws", "_law_draws", defArgs s_l_draws, defBody s_l_draws, defScope s_l_draws, [], []⟩
def d_l_order : He.DefD := ⟨("_law_order", none), "_law_order", "_law_order", defArgs s_l_order, defBody s_l_order, defScope s_l_order, [], []⟩
def d_l_places : He.DefD := ⟨("_law_places", none), "_law_places", "_law_places", defArgs s_l_places, defBody s_l_places, defScope s_l_places, [], []⟩
def d_l_due : He.DefD := ⟨("_law_due", none), "_law_due", "_law_due", defArgs s_l_due, defBody s_l_due, defScope s_l_due, [], []⟩
def d_l_of_rounds : He.DefD := ⟨("_law_of_rounds", none), "_law_of_rounds", "_law_of_rounds", defArgs s_l_of_rounds, defBody s_l_of_rounds, defScope s_l_of_rounds, [], []⟩
def d_asked_order : He.DefD := ⟨("asked_order", none), "asked_order", "asked_order", defArgs s_asked_order, defBody s_asked_order, defScope s_asked_order, [], []⟩
def d_meet_of : He.DefD := ⟨("meet_of", none), "meet_of", "meet_of", defArgs s_meet_of, defBody s_meet_of, defScope s_meet_of, [], []⟩
def d_l_told : He.DefD := ⟨("_law_told", none), "_law_told", "_law_told", defArgs s_l_told, defBody s_l_told, defScope s_l_told, [], []⟩
def d_law : He.DefD := ⟨("law", none), "law", "law", defArgs s_law, defBody s_law, defScope s_law, [], []⟩
abbrev s_NoPlace_init : Stmt := clsS 12 0
def d_NoPlace_init : He.DefD := ⟨("NoPlace", some "__init__"), "__init__", "NoPlace.__init__", defArgs s_NoPlace_init, defBody s_NoPlace_init, defScope s_NoPlace_init, [], []⟩
theorem sc_NoPlace_init : FnScope ["self", "place"] ["self", "place"] (defScope s_NoPlace_init) := ⟨rfl, rfl, rfl, by decide +kernel, rfl, by decide +kernel, by decide +kernel⟩
def fn : List He.DefD := [d_l_cell_at, d_l_draws, d_l_order, d_l_places, d_l_due, d_l_of_rounds, d_asked_order, d_meet_of, d_l_told, d_law, d_NoPlace_init]
def gs (K : PySem.W.Frag) : Bool := tab.ok K && payB K "NoPlace" "place"
def fa : List He.Fa := [.glo "_law_cell_at", .glo "_law_draws", .glo "_law_order", .glo "_law_places", .glo "_law_due", .glo "_law_of_rounds", .glo "asked_order", .glo "meet_of", .glo "_law_told", .glo "law", .free "len", .free "range", .free "list", .free "sorted", .free "isinstance", .free "ValueError", .free "bool", .free "int", .glo "NoPlace", .glo "PairsError", .glo "NoBars", .glo "NoBreak", .glo "NoCall", .glo "NoInstrument", .glo "NoLine", .glo "NoName", .glo "NoOrder", .glo "NoPlayer", .glo "NoSeating", .glo "NoText", .glo "NoTimes", .glo "Twice"]
abbrev R : PySem.W.OpenRow := PySem.W.OpenLaw.row PySem.Challenge.rw_deskpairs_k44_whole_meetings
abbrev hk : PySem.W.Hook := Dy.hookX 4 fa fn gs
def ob (s : PySem.W.SharedT) : Bool × He.AlD := Dy.obsX 4 fa fn gs (HandSHeadRun.getT s)
theorem ob_eq (s : PySem.W.SharedT) : ob s = hk.obs s.abs := Dy.obsX_eq (HandSHeadRun.getT_eq s)
def loose0 : List Str := ["PairsError", "NoBars", "NoTimes", "NoSeating", "NoOrder", "NoText", "NoCall", "NoBreak", "NoInstrument", "NoLine", "NoPlayer", "NoPlace", "Twice", "NoName", "asked_order", "meet_of", "_law_cell_at", "_law_draws", "_law_order", "_law_of_rounds", "_law_due", "_law_told", "_law_places"]
def loose : List Str := loose0
theorem run (w : World) : HandSHeadRun.RunEq R (PySem.W.view R.prog [27]) hk ob 7120 loose w := by
  intro os
  kernel_rfl
theorem facts {P : Program} {w : World} {K : PySem.W.Frag} {h : Heap} {mg : Str → Option Value} {f : Addr} (X : K.In h) (G : h.Ns mainGlobals mg) (hfa : mg ("law" : Str) = some (.ref f)) (c : He.SaysD fa fn K) (GS : gs K = true) :
    ∃ fd : FuncData, (∀ (s : Shared) (v : Value), BindsTo s fd ⟨[v], []⟩ [("_law_script", v)]) ∧ ∀ base : Heap, K.In base → base.Ns mainGlobals mg → FnOk P w K mg base CX0 5 f fd ["_law_script"] (sp K a_law) := by
  obtain ⟨fd_l_cell_at, F_l_cell_at⟩ := c.def_ 0 (d := d_l_cell_at) rfl
  obtain ⟨fd_l_draws, F_l_draws⟩ := c.def_ 1 (d := d_l_draws) rfl
  obtain ⟨fd_l_order, F_l_order⟩ := c.def_ 2 (d := d_l_order) rfl
  obtain ⟨fd_l_places, F_l_places⟩ := c.def_ 3 (d := d_l_places) rfl
  obtain ⟨fd_l_due, F_l_due⟩ := c.def_ 4 (d := d_l_due) rfl
  obtain ⟨fd_l_of_rounds, F_l_of_rounds⟩ := c.def_ 5 (d := d_l_of_rounds) rfl
  obtain ⟨fd_asked_order, F_asked_order⟩ := c.def_ 6 (d := d_asked_order) rfl
  obtain ⟨fd_meet_of, F_meet_of⟩ := c.def_ 7 (d := d_meet_of) rfl
  obtain ⟨fd_l_told, F_l_told⟩ := c.def_ 8 (d := d_l_told) rfl
  obtain ⟨fd_law, F_law⟩ := c.def_ 9 (d := d_law) rfl
  have g_l_cell_at : mg "_law_cell_at" = some (.ref (He.fAd K ("_law_cell_at", none))) := He.glo_ok X G (c.fact 0 (f := .glo "_law_cell_at") rfl)
  have g_l_draws : mg "_law_draws" = some (.ref (He.fAd K ("_law_draws", none))) := He.glo_ok X G (c.fact 1 (f := .glo "_law_draws") rfl)
  have g_l_order : mg "_law_order" = some (.ref (He.fAd K ("_law_order", none))) := He.glo_ok X G (c.fact 2 (f := .glo "_law_order") rfl)
  have g_l_places : mg "_law_places" = some (.ref (He.fAd K ("_law_places", none))) := He.glo_ok X G (c.fact 3 (f := .glo "_law_places") rfl)
  have g_l_due : mg "_law_due" = some (.ref (He.fAd K ("_law_due", none))) := He.glo_ok X G (c.fact 4 (f := .glo "_law_due") rfl)
  have g_l_of_rounds : mg "_law_of_rounds" = some (.ref (He.fAd K ("_law_of_rounds", none))) := He.glo_ok X G (c.fact 5 (f := .glo "_law_of_rounds") rfl)
  have g_asked_order : mg "asked_order" = some (.ref (He.fAd K ("asked_order", none))) := He.glo_ok X G (c.fact 6 (f := .glo "asked_order") rfl)
  have g_meet_of : mg "meet_of" = some (.ref (He.fAd K ("meet_of", none))) := He.glo_ok X G (c.fact 7 (f := .glo "meet_of") rfl)
  have g_l_told : mg "_law_told" = some (.ref (He.fAd K ("_law_told", none))) := He.glo_ok X G (c.fact 8 (f := .glo "_law_told") rfl)
  have g_law : mg "law" = some (.ref (He.fAd K ("law", none))) := He.glo_ok X G (c.fact 9 (f := .glo "law") rfl)
  have z_len : mg "len" = none := He.free_ok X G (c.fact 10 (f := .free "len") rfl)
  have z_range : mg "range" = none := He.free_ok X G (c.fact 11 (f := .free "range") rfl)
  have z_list : mg "list" = none := He.free_ok X G (c.fact 12 (f := .free "list") rfl)
  have z_sorted : mg "sorted" = none := He.free_ok X G (c.fact 13 (f := .free "sorted") rfl)
  have z_isinstance : mg "isinstance" = none := He.free_ok X G (c.fact 14 (f := .free "isinstance") rfl)
  have z_ValueError : mg "ValueError" = none := He.free_ok X G (c.fact 15 (f := .free "ValueError") rfl)
  have z_bool : mg "bool" = none := He.free_ok X G (c.fact 16 (f := .free "bool") rfl)
  have z_int : mg "int" = none := He.free_ok X G (c.fact 17 (f := .free "int") rfl)
  unfold gs at GS
  obtain ⟨GS, PB_NoPlace⟩ := He.ba GS
  have TB : tab.ok K = true := GS
  have P_NoPlace := payB_ok PB_NoPlace
  obtain ⟨fd_NoPlace_init, F_NoPlace_init⟩ := c.def_ 10 (d := d_NoPlace_init) rfl
  have I_NoPlace : ∀ base : Heap, InitOk P w K mg base "NoPlace" "place" := fun base => ⟨fd_NoPlace_init, _, mk_init (p1 := _) (p2 := _) (p3 := _) (p4 := _) F_NoPlace_init sc_NoPlace_init (fun _ _ _ _ _ _ => ⟨by first | exact Or.inl rfl | exact Or.inr (Or.inl rfl) | exact Or.inr (Or.inr rfl), by first | exact Or.inl rfl | exact Or.inr (Or.inl rfl) | exact Or.inr (Or.inr rfl), rfl⟩), F_NoPlace_init.bindsN fun _ _ _ _ _ _ us hl => match us, hl with | [_, _], _ => rfl⟩
  have N_NoPlace : mg "NoPlace" = some (.ref (He.ga K "NoPlace")) := He.glo_ok X G (c.fact 18 (f := .glo "NoPlace") rfl)
  have N_PairsError : mg "PairsError" = some (.ref (He.ga K "PairsError")) := He.glo_ok X G (c.fact 19 (f := .glo "PairsError") rfl)
  have N_NoBars : mg "NoBars" = some (.ref (He.ga K "NoBars")) := He.glo_ok X G (c.fact 20 (f := .glo "NoBars") rfl)
  have N_NoBreak : mg "NoBreak" = some (.ref (He.ga K "NoBreak")) := He.glo_ok X G (c.fact 21 (f := .glo "NoBreak") rfl)
  have N_NoCall : mg "NoCall" = some (.ref (He.ga K "NoCall")) := He.glo_ok X G (c.fact 22 (f := .glo "NoCall") rfl)
  have N_NoInstrument : mg "NoInstrument" = some (.ref (He.ga K "NoInstrument")) := He.glo_ok X G (c.fact 23 (f := .glo "NoInstrument") rfl)
  have N_NoLine : mg "NoLine" = some (.ref (He.ga K "NoLine")) := He.glo_ok X G (c.fact 24 (f := .glo "NoLine") rfl)
  have N_NoName : mg "NoName" = some (.ref (He.ga K "NoName")) := He.glo_ok X G (c.fact 25 (f := .glo "NoName") rfl)
  have N_NoOrder : mg "NoOrder" = some (.ref (He.ga K "NoOrder")) := He.glo_ok X G (c.fact 26 (f := .glo "NoOrder") rfl)
  have N_NoPlayer : mg "NoPlayer" = some (.ref (He.ga K "NoPlayer")) := He.glo_ok X G (c.fact 27 (f := .glo "NoPlayer") rfl)
  have N_NoSeating : mg "NoSeating" = some (.ref (He.ga K "NoSeating")) := He.glo_ok X G (c.fact 28 (f := .glo "NoSeating") rfl)
  have N_NoText : mg "NoText" = some (.ref (He.ga K "NoText")) := He.glo_ok X G (c.fact 29 (f := .glo "NoText") rfl)
  have N_NoTimes : mg "NoTimes" = some (.ref (He.ga K "NoTimes")) := He.glo_ok X G (c.fact 30 (f := .glo "NoTimes") rfl)
  have N_Twice : mg "Twice" = some (.ref (He.ga K "Twice")) := He.glo_ok X G (c.fact 31 (f := .glo "Twice") rfl)
  have e := hfa.symm.trans g_law
  cases e
  have b := FunD.bindsA (ps := ["_law_script"]) F_law fun _ _ _ _ _ _ us hl => match us, hl with | [_], _ => rfl
  refine ⟨fd_law, fun s v => b s [v] rfl, fun base _ _ => ?_⟩
  have C_l_cell_at := ok_l_cell_at (P := P) (w := w) (base := base) F_l_cell_at g_l_cell_at z_len
  have C_l_draws := ok_l_draws (P := P) (w := w) (base := base) F_l_draws g_l_draws z_range z_len
  have C_l_order := ok_l_order (P := P) (w := w) (base := base) F_l_order g_l_order C_l_draws z_list z_range z_len
  have C_l_places := ok_l_places (P := P) (w := w) (base := base) F_l_places g_l_places C_l_draws
  have C_l_due := cal_of (ok_l_due_fn (P := P) (w := w) (mg := mg) (base := base) F_l_due z_len) g_l_due F_l_due.kp (F_l_due.bindsN fun _ _ _ _ _ _ us hl => match us, hl with | [_, _, _], _ => rfl)
  have C_l_of_rounds := ok_l_of_rounds (P := P) (w := w) (base := base) F_l_of_rounds g_l_of_rounds C_l_draws z_len z_range
  have C_asked_order := ok_asked_order (P := P) (w := w) (base := base) F_asked_order g_asked_order z_len z_sorted z_list z_range
  have C_meet_of := ok_meet_of (P := P) (w := w) (base := base) F_meet_of g_meet_of C_asked_order z_len N_NoPlace P_NoPlace (I_NoPlace base)
  have C_l_told := ok_l_told (P := P) (w := w) (base := base) F_l_told g_l_told C_meet_of z_isinstance z_ValueError z_bool N_NoPlace N_PairsError N_NoBars N_NoBreak N_NoCall N_NoInstrument N_NoLine N_NoName N_NoOrder N_NoPlayer N_NoSeating N_NoText N_NoTimes N_Twice TB
  exact ok_law_fn (P := P) (w := w) (base := base) F_law g_law C_l_cell_at C_l_order C_l_of_rounds C_l_places C_l_due C_l_told z_range z_len z_int z_list
theorem draws_ok {cell : Int} {sizes : List Int} (h1 : ∀ n ∈ sizes, 0 < n ∧ n < 100000000) (h2 : sizes.length ≤ 1000) : Ok (m_l_draws cell sizes) (Drawn sizes) := by
  unfold m_l_draws
  have hz := szl
  refine ok_lt fun f hf => ok_lt fun n _ => ok_chk ⟨by omega, by omega⟩ (ok_bnd (P := fun b => Drawn sizes b.1) (ok_foldO (fun i b => b.1.length = i ∧ ∀ (j : Nat) (d n : Int), b.1[j]? = some d → sizes[j]? = some n → 0 ≤ d ∧ d < n) ⟨by rw [hf]; rfl, by rw [hf]; simp⟩ ?_ ?_) ?_)
  · rintro i ⟨b1, b2⟩ x hx ⟨hl, hm⟩
    obtain ⟨e1, e2⟩ := rng_at hx
    dsimp only at hl hm ⊢
    have hi : i < sizes.length := by omega
    have hs : sizes[i]? = some sizes[i] := List.getElem?_eq_getElem hi
    obtain ⟨p1, p2⟩ := h1 sizes[i] (List.getElem_mem hi)
    have hat : atI sizes x = some sizes[i] := by
      rw [e1, Int.zero_add, atI_nat hs]
    refine ok_chk (mul_l (by omega) (by omega)) (ok_lt fun m1 _ => ok_lt fun m2 _ => ?_)
    refine ok_bnd (P := fun _ => True) (ok_ite (fun _ => ok_lt fun _ _ => ok_some trivial) (fun _ => ok_some trivial)) fun v _ => ?_
    refine ok_bnd (P := fun s => s = sizes[i]) (ok_eq hat rfl) fun s hs1 => ?_
    subst hs1
    refine ok_chk p1 (ok_chk (by omega) (ok_lt fun y hy => ok_bnd (P := fun s => s = sizes[i]) (ok_eq hat rfl) fun s hs1 => ?_))
    subst hs1
    refine ok_chk (div_small p1 (by omega)) (ok_lt fun w _ => ok_some ?_)
    subst hy
    refine ⟨by rw [List.length_append, hl]; rfl, fun j d n hd hn => ?_⟩
    by_cases hj : j < i
    · rw [List.getElem?_append_left (by omega)] at hd
      exact hm j d n hd hn
    · by_cases hji : j = i
      · subst hji
        rw [List.getElem?_append_right (by omega), hl, Nat.sub_self] at hd
        rw [hs] at hn
        cases hn
        have e : v % sizes[j] = d := Option.some.inj hd
        rw [← e]
        exact ⟨Int.emod_nonneg _ (by omega), Int.emod_lt_of_pos _ p1⟩
      · rw [List.getElem?_eq_none (by rw [List.length_append, hl, List.length_singleton]; omega)] at hd
        cases hd
  · rintro b ⟨hl, hm⟩
    exact ⟨by rw [hl, rng_len_nn (by omega)]; omega, hm⟩
  · exact fun b hb => ok_some hb
theorem asked_ok {o : List Int} (h : IsOrd o) : m_asked_order o = some true := by
  unfold m_asked_order
  have h1 := h.l1
  have h2 := h.l2
  rw [show decide ((o.length : Int) < 1) = false from decide_eq_false (by omega), show decide ((40 : Int) < (o.length : Int)) = false from decide_eq_false (by omega), h.sort]
  show bnd (chk _ (some (!decide (rng 0 ↑o.length = rng 0 ↑o.length)))) _ = _
  rw [chk_pos ⟨by omega, by omega⟩, decide_eq_true rfl]
  rfl
theorem order_ok {cell most : Int} (h1 : 1 ≤ most) (h2 : most ≤ 40) : Ok (m_l_order cell most) (fun o => IsOrd o ∧ o.length ≤ most) := by
  unfold m_l_order
  have hz := szl
  have e : repl most [most] = List.replicate most.toNat most := repl_one _ _
  rw [e]
  refine ok_chk ?_ (ok_chk ?_ (ok_bnd (draws_ok (fun n hn => ?_) ?_) fun ds hds => ok_lt fun ds' h => ?_))
  · first | exact ⟨by omega, by simp; omega⟩ | (unfold RepOk; simp; omega)
  · rw [List.length_replicate]; show 1 + _ ≤ _; omega
  · have : n = most := by
      rcases List.mem_append.mp hn with h | h
      · exact List.mem_singleton.mp h
      · exact (List.mem_replicate.mp h).2
    omega
  · rw [List.length_append, List.length_replicate]; show 1 + _ ≤ _; omega
  · subst h
    have hk : ∀ k : Nat, k ≤ most.toNat → ([most] ++ List.replicate most.toNat most)[k]? = some most := fun k hk => by
      have : [most] ++ List.replicate most.toNat most = List.replicate (most.toNat + 1) most := by rw [List.replicate_succ]; rfl
      rw [this, List.getElem?_replicate, if_pos (by omega)]
    refine ok_bnd (ok_draw hds 0 (hk 0 (Nat.zero_le _)) (Q := fun d => 0 ≤ d ∧ d < most) fun d a b => ⟨a, b⟩) fun d hd => ok_lt fun n hn => ?_
    have hll : (rng 0 n).length = n.toNat := rng_len_nn (by omega)
    refine ok_chk ⟨by omega, by omega⟩ (ok_lt fun left hleft => ok_chk ⟨by omega, by omega⟩ ?_)
    subst hleft
    refine ok_bnd (ok_popAll (fun l x hne hl hx => ?_) (Nat.le_refl _) (by omega)) fun ys ⟨y1, r, y2⟩ => ok_chk (by omega) (ok_some ?_)
    · obtain ⟨x0, x1⟩ := mem_rng.mp hx
      obtain ⟨k, rfl⟩ : ∃ k : Nat, x = (k : Int) := ⟨x.toNat, by omega⟩
      have hp : 0 < l.length := List.length_pos_iff.mpr hne
      have := ok_draw hds (1 + k) (hk _ (by omega)) (Q := fun d => 0 ≤ d ∧ d < most) fun d a b => ⟨a, b⟩
      rw [show ((1 + k : Nat) : Int) = 1 + (k : Int) by omega] at this
      exact ok_bnd this fun d hd => ok_chk (by omega) (ok_some ⟨Int.emod_nonneg _ (by omega), Int.emod_lt_of_pos _ (by omega)⟩)
    · have hr : r = [] := by
        have := y2.length_eq
        rw [List.length_append, y1] at this
        exact List.length_eq_zero_iff.mp (by omega)
      subst hr
      rw [List.append_nil] at y2
      refine ⟨⟨by omega, by omega, ?_⟩, by omega⟩
      rw [show (ys.length : Int) = n by omega]
      exact y2
def Wl (l : List Int) : Prop := l.Nodup ∧ ∀ x ∈ l, 0 ≤ x ∧ x < l.length
theorem wl_app {l : List Int} {k : Int} (h : Wl l) (k0 : 0 < k) : Wl (l ++ (rng 0 k).map (fun x => (l.length : Int) + ((x + 1) % k))) := by
  have hlen : ((l ++ (rng 0 k).map (fun x => (l.length : Int) + ((x + 1) % k))).length : Int) = (l.length : Int) + k := by
    rw [List.length_append, List.length_map, rng_len_nn (by omega)]; omega
  refine ⟨List.nodup_append.mpr ⟨h.1, ?_, fun a ha b hb e => ?_⟩, fun x hx => ?_⟩
  · refine List.Pairwise.map (R := fun (a b : Int) => a ≠ b ∧ (0 ≤ a ∧ a < k) ∧ 0 ≤ b ∧ b < k) _ (fun a b ⟨p, ⟨q1, q2⟩, r1, r2⟩ e => p ?_) ?_
    · have e' : (a + 1) % k = (b + 1) % k := by omega
      have ha : (a + 1) % k = if a + 1 = k then 0 else a + 1 := by
        split
        · rename_i h; rw [h]; exact Int.emod_self
        · exact Int.emod_eq_of_lt (by omega) (by omega)
      have hb : (b + 1) % k = if b + 1 = k then 0 else b + 1 := by
        split
        · rename_i h; rw [h]; exact Int.emod_self
        · exact Int.emod_eq_of_lt (by omega) (by omega)
      rw [ha, hb] at e'
      split at e' <;> split at e' <;> omega
    · exact List.Pairwise.imp_of_mem (fun {a b} ha hb hne => ⟨hne, mem_rng.mp ha, mem_rng.mp hb⟩) (rng_nodup _ _)
  · obtain ⟨y, hy, rfl⟩ := List.mem_map.mp hb
    have := h.2 a ha
    have := Int.emod_nonneg (y + 1) (b := k) (by omega)
    omega
  · rw [hlen]
    rcases List.mem_append.mp hx with hx | hx
    · have := h.2 x hx; omega
    · obtain ⟨y, hy, rfl⟩ := List.mem_map.mp hx
      have := Int.emod_nonneg (y + 1) (b := k) (by omega)
      have := Int.emod_lt_of_pos (y + 1) (b := k) k0
      omega
theorem rounds_ok (c : Int) : Ok (m_l_of_rounds c) IsOrd := by
  unfold m_l_of_rounds
  have hz := szl
  refine ok_lt fun f hf => ok_bnd (draws_ok (by decide) (by decide)) fun ds hds => ok_bnd (P := IsOrd) (ok_foldO (fun i b => Wl b ∧ i ≤ b.length ∧ b.length + (([7, 5, 3, 11, 4] : List Nat).drop i).sum ≤ 30) ?_ ?_ ?_) fun b hb => ok_some hb
  · rw [hf]
    exact ⟨⟨List.nodup_nil, fun x hx => by simp at hx⟩, Nat.le_refl _, by decide⟩
  · rintro i b x hx ⟨hw, h1, h2⟩
    have hlt : i < 5 := by
      have := (List.getElem?_eq_some_iff.mp hx).1
      rw [hds.1] at this
      exact this
    have hb : 0 ≤ x ∧ b.length + (x + 1).toNat + (([7, 5, 3, 11, 4] : List Nat).drop (i + 1)).sum ≤ 30 ∧ x < 11 := by
      have : i = 0 ∨ i = 1 ∨ i = 2 ∨ i = 3 ∨ i = 4 := by omega
      rcases this with rfl | rfl | rfl | rfl | rfl
      · have := hds.2 0 x 7 hx rfl; change b.length + 30 ≤ 30 at h2; exact ⟨this.1, show b.length + _ + 23 ≤ 30 by omega, by omega⟩
      · have := hds.2 1 x 5 hx rfl; change b.length + 23 ≤ 30 at h2; exact ⟨this.1, show b.length + _ + 18 ≤ 30 by omega, by omega⟩
      · have := hds.2 2 x 3 hx rfl; change b.length + 18 ≤ 30 at h2; exact ⟨this.1, show b.length + _ + 15 ≤ 30 by omega, by omega⟩
      · have := hds.2 3 x 11 hx rfl; change b.length + 15 ≤ 30 at h2; exact ⟨this.1, show b.length + _ + 4 ≤ 30 by omega, by omega⟩
      · have := hds.2 4 x 4 hx rfl; change b.length + 4 ≤ 30 at h2; exact ⟨this.1, show b.length + _ + 0 ≤ 30 by omega, by omega⟩
    obtain ⟨x0, hb, x1⟩ := hb
    refine ok_lt fun first hfi => ok_chk ⟨by omega, by omega⟩ (ok_bnd (P := fun ys => ys = (rng 0 (1 + x)).map (fun y => (b.length : Int) + ((y + 1) % (1 + x)))) (ok_eq (mapO_eq fun y hy => ?_) rfl) fun ys hys => ?_)
    · rw [chk_pos (by omega), hfi]
    · have hl : ys.length = (1 + x).toNat := by rw [hys, List.length_map, rng_len_nn (by omega)]
      refine ok_chk (by omega) (ok_chk (by omega) (ok_lt fun f hf => ok_some ?_))
      rw [hf]
      refine ⟨by rw [hys]; exact wl_app hw (by omega), by rw [List.length_append]; omega, ?_⟩
      rw [List.length_append, hl]
      have : (1 + x).toNat = (x + 1).toNat := by omega
      omega
  · rintro b ⟨hw, h1, h2⟩
    rw [hds.1] at h1 h2
    have h1 : 5 ≤ b.length := h1
    exact ⟨by omega, by omega, perm_rng hw.1 rfl hw.2⟩
theorem cell_ok (sc : List Int) {k : Int} (h : 0 ≤ k) : Ok (m_l_cell_at sc k) (fun _ => True) := by
  unfold m_l_cell_at
  exact ok_ite (fun h2 => ok_ret (ok_atI h (of_decide_eq_true h2) fun _ _ => trivial)) (fun _ => ok_some trivial)
theorem tb_ok {α β : Type} {r : α} {h : Er → Option β} {k : α → Option β} : tb (some (Rz.ok r)) h k = k r := rfl
theorem tb_er {α β : Type} {e : Er} {h : Er → Option β} {k : α → Option β} : tb (some (Rz.er e)) h k = h e := rfl
theorem go_nx {β ρ γ : Type} {b : β} {k : β → γ} {e : ρ → γ} : Fl.go (Fl.nx b) k e = k b := rfl
section
variable {κ τ : Type} [DecidableEq κ]
theorem dval_nil (j : κ) : dval ([] : List (κ × τ)) j = none := rfl
theorem dval_cons (i : κ) (x : τ) (xs : List (κ × τ)) (j : κ) : dval ((i, x) :: xs) j = if i = j then some x else dval xs j := by
  unfold dval
  rw [List.find?_cons]
  dsimp only
  by_cases h : i = j
  · rw [decide_eq_true h, if_pos h]; rfl
  · rw [decide_eq_false h, if_neg h]
theorem dval_app (xs ys : List (κ × τ)) (j : κ) : dval (xs ++ ys) j = (dval xs j).or (dval ys j) := by
  induction xs with
  | nil => rw [List.nil_append, dval_nil, Option.none_or]
  | cons z r ih =>
    obtain ⟨i, x⟩ := z
    rw [List.cons_append, dval_cons, dval_cons, ih]
    by_cases h : i = j
    · rw [if_pos h, if_pos h]; rfl
    · rw [if_neg h, if_neg h]
theorem dval_any (xs : List (κ × τ)) (k : κ) : (xs.any fun z => decide (z.1 = k)) = (dval xs k).isSome := by
  induction xs with
  | nil => rfl
  | cons z r ih =>
    obtain ⟨i, x⟩ := z
    rw [List.any_cons, dval_cons, ih]
    dsimp only
    by_cases h : i = k
    · rw [if_pos h, decide_eq_true h]; rfl
    · rw [if_neg h, decide_eq_false h, Bool.false_or]
theorem dput_new {xs : List (κ × τ)} {k : κ} {y : τ} (h : dval xs k = none) : dput xs k y = xs ++ [(k, y)] := by
  unfold dput
  rw [dval_any, h]
  rfl
theorem dval_put (xs : List (κ × τ)) (k j : κ) (y : τ) : dval (dput xs k y) j = if j = k then some y else dval xs j := by
  by_cases h : (dval xs k).isSome = true
  · unfold dput
    rw [dval_any, if_pos h]
    have key : ∀ xs : List (κ × τ), dval (xs.map fun z => if z.1 = k then (z.1, y) else z) j = if j = k then (dval xs k).map (fun _ => y) else dval xs j := by
      intro xs
      induction xs with
      | nil => rw [List.map_nil, dval_nil, dval_nil]; split <;> rfl
      | cons z r ih =>
        obtain ⟨i, x⟩ := z
        rw [List.map_cons]
        dsimp only
        by_cases hi : i = k
        · subst hi
          rw [if_pos rfl, dval_cons, dval_cons, dval_cons, ih, if_pos rfl]
          by_cases hj : j = i
          · subst hj; rw [if_pos rfl, if_pos rfl]; rfl
          · rw [if_neg hj, if_neg hj, if_neg (fun z => hj z.symm), if_neg (fun z => hj z.symm)]
        · rw [if_neg hi, dval_cons, dval_cons, dval_cons, ih, if_neg hi]
          by_cases hj : j = k
          · subst hj; rw [if_pos rfl, if_pos rfl, if_neg hi]
          · rw [if_neg hj, if_neg hj]
    rw [key]
    obtain ⟨w, hw⟩ := Option.isSome_iff_exists.mp h
    rw [hw]; rfl
  · have h0 : dval xs k = none := by
      cases hh : dval xs k with
      | none => rfl
      | some w => rw [hh] at h; exact absurd rfl h
    rw [dput_new h0, dval_app, dval_cons, dval_nil]
    by_cases hj : j = k
    · subst hj; rw [if_pos rfl, if_pos rfl, h0]; rfl
    · rw [if_neg hj, if_neg (fun z => hj z.symm), Option.or_none]
theorem dput_len (xs : List (κ × τ)) (k : κ) (y : τ) : (dput xs k y).length ≤ xs.length + 1 := by
  unfold dput
  split
  · rw [List.length_map]; omega
  · rw [List.length_append]; exact Nat.le_refl _
theorem dval_idx {xs : List (κ × τ)} {k : κ} {y : τ} (h : dval xs k = some y) : ∃ i : Nat, xs[i]? = some (k, y) := by
  induction xs with
  | nil => cases h
  | cons z r ih =>
    obtain ⟨i, x⟩ := z
    rw [dval_cons] at h
    split at h
    · rename_i e; subst e; cases h; exact ⟨0, rfl⟩
    · obtain ⟨n, hn⟩ := ih h; exact ⟨n + 1, by simpa using hn⟩
theorem dval_none_of {xs : List (κ × τ)} {k : κ} (h : ∀ z ∈ xs, z.1 ≠ k) : dval xs k = none := by
  cases hh : dval xs k with
  | none => rfl
  | some y =>
    obtain ⟨i, hi⟩ := dval_idx hh
    exact absurd rfl (h _ (List.mem_of_getElem? hi))
theorem dval_get {xs : List (κ × τ)} (hn : (xs.map (·.1)).Nodup) {i : Nat} {e : κ × τ} (h : xs[i]? = some e) : dval xs e.1 = some e.2 := by
  induction xs generalizing i with
  | nil => simp at h
  | cons z r ih =>
    obtain ⟨j, x⟩ := z
    rw [dval_cons]
    rw [List.map_cons, List.nodup_cons] at hn
    cases i with
    | zero => simp at h; subst h; rw [if_pos rfl]
    | succ i =>
      have h2 : r[i]? = some e := by simpa using h
      rw [if_neg, ih hn.2 h2]
      intro ee
      exact hn.1 (List.mem_map.mpr ⟨e, List.mem_of_getElem? h2, ee.symm⟩)
theorem dval_some_key {xs : List (κ × τ)} {k : κ} : (dval xs k).isSome = true ↔ k ∈ xs.map (·.1) := by
  rw [← dval_any, List.any_eq_true, List.mem_map]
  constructor
  · rintro ⟨z, hz, e⟩; exact ⟨z, hz, of_decide_eq_true e⟩
  · rintro ⟨z, hz, e⟩; exact ⟨z, hz, decide_eq_true e⟩
end
theorem nd_sub_len {α : Type} [DecidableEq α] : ∀ {l m : List α}, l.Nodup → (∀ x ∈ l, x ∈ m) → l.length ≤ m.length
  | [], _, _, _ => Nat.zero_le _
  | x :: r, m, hn, h => by
    rw [List.nodup_cons] at hn
    have h1 := h x List.mem_cons_self
    have h2 := nd_sub_len (l := r) (m := m.erase x) hn.2 (fun y hy => (List.mem_erase_of_ne (fun e => hn.1 (by rw [← e]; exact hy))).mpr (h y (List.mem_cons_of_mem _ hy)))
    rw [List.length_erase_of_mem h1] at h2
    have := List.length_pos_of_mem h1
    rw [List.length_cons]
    omega
theorem ok_whileN {β : Type} {c : β → Option Bool} {f : β → Option β} (I : Nat → β → Prop) {Q : β → Prop} (hc : ∀ m b, I m b → Ok (c b) (fun t => if t = true then Ok (f b) (fun b' => ∃ m', m' < m ∧ I m' b') else Q b)) : ∀ (n m : Nat) (b : β), I m b → m < n → Ok (whileO c f n b) Q
  | 0, m, b, _, h => absurd h (Nat.not_lt_zero _)
  | n + 1, m, b, hI, h => by
    unfold whileO
    refine ok_bnd (hc m b hI) fun t ht => ?_
    cases t with
    | true =>
      rw [if_pos rfl] at ht ⊢
      exact ok_bnd ht fun b' ⟨m', h1, h2⟩ => ok_whileN I hc n m' b' h2 (by omega)
    | false =>
      rw [if_neg Bool.false_ne_true] at ht ⊢
      exact ok_some ht
theorem least_of {p : Nat → Prop} {n : Nat} (h : p n) : ∃ m, m ≤ n ∧ p m ∧ ∀ k < m, ¬ p k := by
  induction n using Nat.strongRecOn with
  | _ n ih =>
    by_cases hh : ∃ k, k < n ∧ p k
    · obtain ⟨k, hk, hp⟩ := hh
      obtain ⟨m, h1, h2, h3⟩ := ih k hk hp
      exact ⟨m, by omega, h2, h3⟩
    · exact ⟨n, Nat.le_refl _, h, fun k hk hp => hh ⟨k, hk, hp⟩⟩
def Met (o : List Int) (a b : Int) : Option Int → Prop
  | some k => ∃ n : Nat, k = (n : Int) ∧ it o n a / 2 = it o n b / 2 ∧ ∀ j < n, it o j a / 2 ≠ it o j b / 2
  | none => ∀ j, it o j a / 2 ≠ it o j b / 2
theorem met_uniq {o : List Int} {a b : Int} : ∀ {r q : Option Int}, Met o a b r → Met o a b q → r = q
  | none, none, _, _ => rfl
  | none, some k, h, ⟨n, _, g, _⟩ => absurd g (h n)
  | some k, none, ⟨n, _, g, _⟩, h => absurd g (h n)
  | some k, some l, ⟨n, e, g1, g2⟩, ⟨m, f, h1, h2⟩ => by
    have h3 : ¬ n < m := fun hh => h2 n hh g1
    have h4 : ¬ m < n := fun hh => g2 m hh h1
    rw [e, f, show n = m by omega]
theorem met_symm {o : List Int} {a b : Int} : ∀ {r : Option Int}, Met o a b r → Met o b a r
  | none, h => fun j e => h j e.symm
  | some k, ⟨n, e, g1, g2⟩ => ⟨n, e, g1.symm, fun j hj e => g2 j hj e.symm⟩
theorem per {o : List Int} (h : IsOrd o) {a b : Int} (a0 : 0 ≤ a) (a1 : a < o.length) (b0 : 0 ≤ b) (b1 : b < o.length) :
    ∃ M, 1 ≤ M ∧ M ≤ 1600 ∧ it o M a = a ∧ it o M b = b ∧ ∀ k, 0 < k → k < M → ¬ (it o k a = a ∧ it o k b = b) := by
  obtain ⟨A, A1, A2, A3, _⟩ := h.cycle a0 a1
  obtain ⟨B, B1, B2, B3, _⟩ := h.cycle b0 b1
  have hl := h.l2
  obtain ⟨m, h1, ⟨h2, h3, h4⟩, h5⟩ := least_of (p := fun m => 1 ≤ m ∧ it o m a = a ∧ it o m b = b) (n := A * B) ⟨Nat.mul_pos A1 B1, it_mul A3 B, by rw [Nat.mul_comm]; exact it_mul B3 A⟩
  have : A * B ≤ 40 * 40 := Nat.mul_le_mul (by omega) (by omega)
  exact ⟨m, h2, by omega, h3, h4, fun k k0 k1 ⟨e1, e2⟩ => h5 k k1 ⟨k0, e1, e2⟩⟩
theorem fold2 {ρ : Type} {c : Int → Bool} {g : Int → ρ} (a b : Int) : foldF (fun (_ : Unit) x => if c x = true then some (Fl.rt (g x)) else some (Fl.nx ())) () [a, b] = if c a = true then some (Fl.rt (g a)) else if c b = true then some (Fl.rt (g b)) else some (Fl.nx ()) := by
  cases h : c a <;> cases h2 : c b <;> simp [foldF, h, h2]
theorem go_rt {β ρ γ : Type} {r : ρ} {k : β → γ} {e : ρ → γ} : Fl.go (Fl.rt r) k e = e r := rfl
def bdp (o : List Int) (x : Int) : Prop := x < 0 ∨ (o.length : Int) ≤ x
theorem bd_m (o : List Int) (x : Int) : (decide (x < 0) || decide ((o.length : Int) ≤ x)) = true ↔ bdp o x := by
  rw [Bool.or_eq_true, decide_eq_true_iff, decide_eq_true_iff]; exact Iff.rfl
theorem bd_l (o : List Int) (x : Int) : (!(decide (0 ≤ x) && decide (x < (o.length : Int)))) = true ↔ bdp o x := by
  rw [Bool.not_eq_true', Bool.and_eq_false_iff, decide_eq_false_iff_not, decide_eq_false_iff_not]
  unfold bdp
  constructor <;> intro h <;> omega
inductive Due (o : List Int) (a b : Int) : Int ⊕ Option Int → Prop
  | a : bdp o a → Due o a b (.inl a)
  | b : ¬ bdp o a → bdp o b → Due o a b (.inl b)
  | e : ¬ bdp o a → ¬ bdp o b → a = b → Due o a b (.inl a)
  | m {w : Option Int} : ¬ bdp o a → ¬ bdp o b → a ≠ b → Met o a b w → Due o a b (.inr w)
theorem due_uniq {o : List Int} {a b : Int} {r q : Int ⊕ Option Int} (h : Due o a b r) (g : Due o a b q) : r = q := by
  cases h with
  | a x => cases g <;> first | rfl | contradiction
  | b x y => cases g <;> first | rfl | contradiction
  | e x y z => cases g <;> first | rfl | contradiction
  | m x y z w => cases g with
    | m x2 y2 z2 w2 => rw [met_uniq w w2]
    | a _ => contradiction
    | b _ _ => contradiction
    | e _ _ _ => contradiction
theorem meet_ok {o : List Int} (h : IsOrd o) (a b : Int) : Ok (m_meet_of o a b) (fun r => match r with | .er e => ∃ p, e = Er.pi "NoPlace" "place" p ∧ Due o a b (.inl p) | .ok w => Due o a b (.inr w)) := by
  unfold m_meet_of
  rw [asked_ok h]
  refine ok_bnd (P := fun _ => True) (ok_some trivial) fun _ _ => ?_
  show Ok (bnd (foldF (ρ := (Rz (Option Int))) (fun (_ : Unit) (x : Int) => if (decide (x < 0) || decide ((o.length : Int) ≤ x)) = true then some (Fl.rt (Rz.er (Er.pi "NoPlace" "place" x))) else some (Fl.nx ())) () [a, b]) _) _
  rw [fold2 (c := fun x => decide (x < 0) || decide ((o.length : Int) ≤ x)) (g := fun x => (Rz.er (Er.pi "NoPlace" "place" x) : Rz (Option Int)))]
  by_cases ha : bdp o a
  · rw [if_pos ((bd_m o a).mpr ha)]
    exact ok_some ⟨a, rfl, .a ha⟩
  rw [if_neg (fun z => ha ((bd_m o a).mp z))]
  by_cases hb : bdp o b
  · rw [if_pos ((bd_m o b).mpr hb)]
    exact ok_some ⟨b, rfl, .b ha hb⟩
  rw [if_neg (fun z => hb ((bd_m o b).mp z))]
  refine ok_bnd (P := fun r => r = Fl.nx ()) (ok_some rfl) fun r hr => ?_
  subst hr
  rw [go_nx]
  refine ok_ite (fun hc => ok_some ⟨a, rfl, .e ha hb (of_decide_eq_true hc)⟩) fun hc => ok_lt fun f hf => ok_lt fun s hs => ok_lt fun c hc2 => ?_
  have hne := of_decide_eq_false hc
  unfold bdp at ha hb
  have a0 : 0 ≤ a := by omega
  have a1 : a < o.length := by omega
  have b0 : 0 ≤ b := by omega
  have b1 : b < o.length := by omega
  have hf := hf.symm
  have hs := hs.symm
  subst hf hs hc2
  obtain ⟨M, m1, m2, ma, mb, mm⟩ := per h a0 a1 b0 b1
  refine ok_bnd (P := fun r => match r with | .nx q => Met o a b (some q.2.2) | .rt r => ∃ w, r = Rz.ok w ∧ Met o a b w) (ok_whileF (fun q => ∃ k : Nat, k < M ∧ q = (it o k a, it o k b, (k : Int)) ∧ ∀ j < k, it o j a / 2 ≠ it o j b / 2) (fun q => M - q.2.2.toNat) ?_ _ _ ⟨0, m1, rfl, fun j hj => absurd hj (Nat.not_lt_zero _)⟩ (by rw [fuel_eq]; show M - 0 < _; omega)) fun r hr => ?_
  · rintro _ ⟨k, k1, rfl, k2⟩
    refine ok_some ?_
    dsimp only
    split
    · rename_i hd
      rw [Bool.not_eq_true', decide_eq_false_iff_not] at hd
      obtain ⟨ga0, ga1⟩ := h.it a0 a1 k
      obtain ⟨gb0, gb1⟩ := h.it b0 b1 k
      refine ok_bnd (P := fun x => x = it o (k + 1) a) (ok_eq (nxt_at ga0 ga1) rfl) fun x hx => ok_lt fun x' hx' => ok_bnd (P := fun y => y = it o (k + 1) b) (ok_eq (nxt_at gb0 gb1) rfl) fun y hy => ok_lt fun y' hy' => ok_lt fun z hz => ?_
      subst hx' hx hy' hy hz
      have k3 : ∀ j < k + 1, it o j a / 2 ≠ it o j b / 2 := fun j hj => by
        rcases Nat.lt_succ_iff_lt_or_eq.mp hj with hj | rfl
        · exact k2 j hj
        · exact hd
      refine ok_ite (fun hp => ok_some ⟨none, rfl, fun j => ?_⟩) fun hp => ok_some ⟨⟨k + 1, ?_, by rw [Int.natCast_add]; rfl, k3⟩, ?_⟩
      · rw [Bool.and_eq_true, decide_eq_true_iff, decide_eq_true_iff] at hp
        rw [← it_mod hp.1 j, ← it_mod hp.2 j]
        exact k3 _ (Nat.mod_lt _ (by omega))
      · have h5 : k + 1 ≠ M := fun e => by
          rw [e, ma, mb, decide_eq_true rfl, decide_eq_true rfl] at hp
          exact Bool.noConfusion hp
        omega
      · show M - ((k : Int) + 1).toNat < M - (k : Int).toNat
        omega
    · rename_i hd
      rw [Bool.not_eq_true', decide_eq_false_iff_not, Classical.not_not] at hd
      exact ⟨k, rfl, hd, k2⟩
  · cases r with
    | nx q => exact ok_some (.m ha hb hne hr)
    | rt r =>
      obtain ⟨w, rfl, hw⟩ := hr
      exact ok_some (.m ha hb hne hw)
def tol : Int ⊕ Option Int → T3 Str (Option Int) Bool
  | .inl p => ⟨"place", some p, true⟩
  | .inr w => ⟨"told", w, false⟩
theorem told_ok {o : List Int} (h : IsOrd o) (a b : Int) : Ok (m_l_told o a b) (fun r => ∃ d, r = tol d ∧ Due o a b d) := by
  unfold m_l_told
  refine ok_lt fun t0 _ => ?_
  obtain ⟨r, e, hr⟩ := meet_ok h a b
  rw [e]
  cases r with
  | ok w => rw [tb_ok]; exact ok_lt fun f hf => ok_lt fun g hg => ok_some ⟨.inr w, by rw [hg, hf]; rfl, hr⟩
  | er e =>
    obtain ⟨p, rfl, hp⟩ := hr
    rw [tb_er]
    have e1 : exE tab (Er.pi "NoPlace" "place" p) "NoPlace" = some true := by
      show lk "NoPlace" "NoPlace" tab.ex = _
      decide +kernel
    have e2 : isE tab (Er.pi "NoPlace" "place" p) "PairsError" = some true := by
      show (if ("NoPlace" : Str) ∈ tab.ds then lk "NoPlace" "PairsError" tab.is else none) = _
      decide +kernel
    have e2' : isE tab (Er.pi "NoPlace" "place" p) "ValueError" = some true := by
      show (if ("NoPlace" : Str) ∈ tab.ds then lk "NoPlace" "ValueError" tab.is else none) = _
      decide +kernel
    have e3 : isEs tab (Er.pi "NoPlace" "place" p) ["NoBars", "NoBreak", "NoCall", "NoInstrument", "NoLine", "NoName"] = some false := by
      show isEs tab (Er.pl "NoPlace") ["NoBars", "NoBreak", "NoCall", "NoInstrument", "NoLine", "NoName"] = some false
      decide +kernel
    have e3' : isEs tab (Er.pi "NoPlace" "place" p) ["NoOrder", "NoPlayer", "NoSeating", "NoText", "NoTimes", "Twice"] = some false := by
      show isEs tab (Er.pl "NoPlace") ["NoOrder", "NoPlayer", "NoSeating", "NoText", "NoTimes", "Twice"] = some false
      decide +kernel
    have e4 : erI tab (Er.pi "NoPlace" "place" p) "place" = some p := by
      show (if ("place" : Str) = "place" ∧ (("NoPlace" : Str), ("place" : Str)) ∈ tab.fl ∧ ("NoPlace" : Str) ∈ tab.ds then some p else none) = _
      rw [if_pos (by decide +kernel)]
    rw [e1, e2, e2', e3, e3', e4]
    exact ok_chk rfl (ok_bnd (P := fun x => x = p) (ok_some rfl) fun x hx => ok_bnd (P := fun x => x = true) (ok_some rfl) fun y hy => ok_bnd (P := fun x => x = true) (by subst hy; exact ok_some rfl) fun z hz => ok_lt fun w hw => ok_bnd (P := fun x => x = false) (ok_some rfl) fun u hu => by
      subst hu
      exact ok_bnd (P := fun x => x = w) (ok_some rfl) fun v hv => ok_bnd (P := fun x => x = false) (ok_some rfl) fun u hu => by
        subst hu
        exact ok_bnd (P := fun x => x = v) (ok_some rfl) fun v2 hv2 => ok_some ⟨.inl p, by rw [hv2, hv, hw, hx, hz]; rfl, hp⟩)
theorem seen_len (o : List Int) (a b : Int) (k : Nat) : (((List.range k).map fun j => ((it o j a, it o j b), true)) : List ((Int × Int) × Bool)).length = k := by rw [List.length_map, List.length_range]
theorem seen_iff (o : List Int) (a b : Int) (k : Nat) (p : Int × Int) : (dval (((List.range k).map fun j => ((it o j a, it o j b), true)) : List ((Int × Int) × Bool)) p).isSome = true ↔ ∃ j < k, (it o j a, it o j b) = p := by
  rw [dval_some_key, List.map_map, List.mem_map]
  constructor
  · rintro ⟨j, hj, e⟩; exact ⟨j, List.mem_range.mp hj, e⟩
  · rintro ⟨j, hj, e⟩; exact ⟨j, List.mem_range.mpr hj, e⟩
theorem due_ok {o : List Int} (h : IsOrd o) (a b : Int) : Ok (a_l_due (o, a, b, ())) (fun r => ∃ d, r = tol d ∧ Due o a b d) := by
  show Ok (m_l_due o a b) _
  unfold m_l_due
  have hz := szl
  rw [fold2 (c := fun x => !(decide (0 ≤ x) && decide (x < (o.length : Int)))) (g := fun x => (⟨("place" : Str), (some x), true⟩ : (T3 Str (Option Int) Bool)))]
  by_cases ha : bdp o a
  · rw [if_pos ((bd_l o a).mpr ha)]
    exact ok_some ⟨.inl a, rfl, .a ha⟩
  rw [if_neg (fun z => ha ((bd_l o a).mp z))]
  by_cases hb : bdp o b
  · rw [if_pos ((bd_l o b).mpr hb)]
    exact ok_some ⟨.inl b, rfl, .b ha hb⟩
  rw [if_neg (fun z => hb ((bd_l o b).mp z))]
  refine ok_bnd (P := fun r => r = Fl.nx ()) (ok_some rfl) fun r hr => ?_
  subst hr
  rw [go_nx]
  refine ok_ite (fun hc => ok_some ⟨.inl a, rfl, .e ha hb (of_decide_eq_true hc)⟩) fun hc => ok_lt fun p hp => ?_
  have hne := of_decide_eq_false hc
  unfold bdp at ha hb
  have a0 : 0 ≤ a := by omega
  have a1 : a < o.length := by omega
  have b0 : 0 ≤ b := by omega
  have b1 : b < o.length := by omega
  subst hp
  obtain ⟨M, m1, m2, ma, mb, mm⟩ := per h a0 a1 b0 b1
  refine ok_bnd (P := fun r => match r with | .nx q => Met o a b none | .rt r => ∃ w, r = tol (.inr w) ∧ Met o a b w) (ok_whileF (fun q => ∃ k : Nat, k ≤ M ∧ q = ((List.range k).map (fun j => ((it o j a, it o j b), true)), (⟨it o k a, it o k b⟩ : PK)) ∧ ∀ j < k, it o j a / 2 ≠ it o j b / 2) (fun q => M - q.1.length) ?_ _ _ ⟨0, Nat.zero_le _, rfl, fun j hj => absurd hj (Nat.not_lt_zero _)⟩ (by rw [fuel_eq]; show M - 0 < _; omega)) fun r hr => ?_
  · rintro _ ⟨k, k1, rfl, k2⟩
    refine ok_some ?_
    dsimp only
    have hpr : (⟨it o k a, it o k b⟩ : PK).pr = (it o k a, it o k b) := rfl
    rw [hpr]
    have hs : (dval (((List.range k).map fun j => ((it o j a, it o j b), true)) : List ((Int × Int) × Bool)) (it o k a, it o k b)).isSome = true ↔ k = M := by
      rw [seen_iff]
      constructor
      · rintro ⟨j, hj, e⟩
        have e1 : it o j a = it o k a := congrArg Prod.fst e
        have e2 : it o j b = it o k b := congrArg Prod.snd e
        have ek : k = j + (k - j) := by omega
        rw [ek, it_add] at e1 e2
        obtain ⟨ga0, ga1⟩ := h.it a0 a1 (k - j)
        obtain ⟨gb0, gb1⟩ := h.it b0 b1 (k - j)
        have f1 := h.itInj j a0 a1 ga0 ga1 e1
        have f2 := h.itInj j b0 b1 gb0 gb1 e2
        have := mm (k - j) (by omega)
        by_cases hk : k - j < M
        · exact absurd ⟨f1.symm, f2.symm⟩ (this hk)
        · omega
      · rintro rfl
        exact ⟨0, by omega, by rw [ma, mb]; rfl⟩
    by_cases hk : k = M
    · rw [hs.mpr hk]
      show Met o a b none
      intro j
      rw [← it_mod ma j, ← it_mod mb j]
      exact k2 _ (by rw [hk]; exact Nat.mod_lt _ (by omega))
    · have hn : dval (((List.range k).map fun j => ((it o j a, it o j b), true)) : List ((Int × Int) × Bool)) (it o k a, it o k b) = none := by
        cases hd : dval (((List.range k).map fun j => ((it o j a, it o j b), true)) : List ((Int × Int) × Bool)) (it o k a, it o k b) with
        | none => rfl
        | some x => rw [hd] at hs; exact absurd (hs.mp rfl) hk
      rw [hn]
      show Ok _ _
      refine ok_ite (fun hd => ?_) fun hd => ?_
      · refine ok_some ⟨some (k : Int), ?_, k, rfl, of_decide_eq_true hd, k2⟩
        rw [seen_len]; rfl
      · have hd := of_decide_eq_false hd
        obtain ⟨ga0, ga1⟩ := h.it a0 a1 k
        obtain ⟨gb0, gb1⟩ := h.it b0 b1 k
        refine ok_chk (by rw [seen_len]; omega) (ok_lt fun kv hkv => ok_bnd (P := fun x => x = it o (k + 1) a) (ok_eq (nxt_at ga0 ga1) rfl) fun x hx => ok_bnd (P := fun y => y = it o (k + 1) b) (ok_eq (nxt_at gb0 gb1) rfl) fun y hy => ok_lt fun z hz => ok_some ⟨⟨k + 1, by omega, ?_, fun j hj => ?_⟩, ?_⟩)
        · rw [hkv, dput_new hn, hz, hx, hy, List.range_succ, List.map_append]; rfl
        · rcases Nat.lt_succ_iff_lt_or_eq.mp hj with hj | rfl
          · exact k2 j hj
          · exact hd
        · show M - kv.length < M - _
          rw [hkv, dput_new hn, List.length_append, seen_len]
          show M - (k + 1) < M - k
          omega
  · cases r with
    | nx q => exact ok_some ⟨.inr none, rfl, .m ha hb hne hr⟩
    | rt r =>
      obtain ⟨w, rfl, hw⟩ := hr
      exact ok_some ⟨.inr w, rfl, .m ha hb hne hw⟩
theorem places_ok {c m : Int} (h0 : 1 ≤ m) (h1 : m ≤ 40) : Ok (m_l_places c m) (fun _ => True) := by
  unfold m_l_places
  refine ok_bnd (draws_ok (by decide) (by decide)) fun ds hds => ok_lt fun ds' h' => ?_
  have h' := h'.symm
  subst h'
  have d0 : Ok (atI ds 0) (fun d => 0 ≤ d ∧ d < 40) := ok_draw hds 0 rfl fun d a b => ⟨a, b⟩
  have d1 : Ok (atI ds 1) (fun d => 0 ≤ d ∧ d < 40) := ok_draw hds 1 rfl fun d a b => ⟨a, b⟩
  have d2 : Ok (atI ds 2) (fun d => 0 ≤ d ∧ d < 8) := ok_draw hds 2 rfl fun d a b => ⟨a, b⟩
  have d3 : Ok (atI ds 3) (fun d => 0 ≤ d ∧ d < 3) := ok_draw hds 3 rfl fun d a b => ⟨a, b⟩
  have d4 : Ok (atI ds 4) (fun d => 0 ≤ d ∧ d < 3) := ok_draw hds 4 rfl fun d a b => ⟨a, b⟩
  refine ok_bnd d0 fun x0 _ => ok_chk (by omega) (ok_lt fun one _ => ok_bnd d1 fun x1 _ => ok_chk (by omega) (ok_lt fun other _ => ok_lt fun st hst => ?_))
  have hl : (st.length : Int) = 3 := by rw [hst]; rfl
  refine ok_bnd d2 fun x2 _ => ok_bnd (P := fun _ => True) (ok_ite (fun _ => ok_bnd d3 fun x3 hx3 => ok_bnd (ok_atI hx3.1 (by omega) fun _ _ => trivial) fun _ _ => ok_lt fun _ _ => ok_some trivial) fun _ => ok_some trivial) fun b _ => ?_
  refine ok_bnd d2 fun x2 _ => ok_ite (fun _ => ok_bnd d4 fun x3 hx3 => ok_bnd (ok_atI (Q := fun _ => True) hx3.1 (by omega) fun _ _ => trivial) fun _ _ => ok_some trivial) fun _ => ?_
  refine ok_bnd d2 fun x2 _ => ok_ite (fun _ => ok_bnd d3 fun x3 hx3 => ok_bnd (ok_atI (Q := fun _ => True) hx3.1 (by omega) fun _ _ => trivial) fun _ _ => ok_some trivial) fun _ => ?_
  refine ok_bnd d2 fun x2 _ => ok_ite (fun _ => ok_some trivial) fun _ => ok_bnd (P := fun _ => True) (ok_ite (fun _ => ok_chk (by omega) (ok_lt fun _ _ => ok_some trivial)) fun _ => ok_some trivial) fun _ _ => ok_some trivial
theorem shp_w3 {α β : Type} {n m : Nat} [Shp α n] [Shp β m] {s : Str} (h : PyData.strOk s = true) (x : α) (y : β) (hn : n ≤ 30 := by decide) (hm : m ≤ 30 := by decide) : shp (⟨s, x, y⟩ : T3 Str α β) := by
  obtain ⟨h1, h2⟩ := Shp.ok x
  obtain ⟨h3, h4⟩ := Shp.ok y
  unfold shp SeqAt.shaped
  rw [Bool.and_eq_true, decide_eq_true_iff]
  constructor
  · show PyData.canLay0 (.tuple [.str s, EqD.toD x, EqD.toD y]) = true
    simp [PyData.canLay0, PyData.canLayAll0, h, h1, h3]
  · show PyData.depth (.tuple [.str s, EqD.toD x, EqD.toD y]) ≤ 64
    simp [PyData.depth, PyData.depthAll]
    omega
theorem tol_shp (d : Int ⊕ Option Int) : shp (tol d) := by
  cases d with
  | inl p => exact shp_w3 (by decide +kernel) _ _
  | inr w => exact shp_w3 (by decide +kernel) _ _
theorem law_true : ∀ ns : List Int, ns.length ≤ 63 → a_law (ns, ()) = some true := by
  intro ns hn
  refine Ok.eq ?_
  show Ok (m_law ns) _
  unfold m_law
  have hz := szl
  have hc := cut_len_le ns none (some 59)
  refine ok_chk ⟨by omega, by omega⟩ (ok_bnd (P := fun q => q = .nx ()) (foldF_ok (fun k hk => ?_) rfl) fun q hq => by subst hq; exact ok_some rfl)
  have hk := mem_rng.mp hk
  refine ok_bnd (cell_ok ns (by omega)) fun c0 _ => ok_lt fun c hc => ?_
  refine ok_bnd (P := fun m => 1 ≤ m ∧ m ≤ 40) ?_ fun m ⟨m0, m1⟩ => ok_bnd (order_ok m0 m1) fun o ho => ok_lt fun o' ho' => ?_
  · split
    · exact ok_some ⟨by decide, by decide⟩
    · exact ok_some ⟨by decide, by decide⟩
  subst ho'
  refine ok_bnd (P := IsOrd) (ok_ite (fun _ => ok_bnd (rounds_ok _) fun o2 h2 => ok_lt fun o3 h3 => ok_some (h3 ▸ h2)) fun _ => ok_some ho.1) fun o2 h2 => ok_lt fun kp hkp => ?_
  have hl1 := h2.l1
  have hl2 := h2.l2
  refine ok_bnd (cell_ok ns (by omega)) fun c1 _ => ok_bnd (places_ok (by omega) (by omega)) fun pl _ => ok_lt fun u hu => ?_
  refine ok_bnd (due_ok h2 _ _) fun due ⟨d, e1, hd⟩ => ok_lt fun dh hdh => ok_bnd (told_ok h2 _ _) fun t ⟨d2, e2, hd2⟩ => ?_
  have hkp := hkp.symm
  subst hkp
  rw [hdh, e1, e2, due_uniq hd2 hd]
  refine ok_chk (tol_shp _) (ok_chk (tol_shp _) (ok_ite (fun hc => ?_) fun _ => ?_))
  · simp at hc
  · refine ok_bnd (P := fun c => c = false) (ok_andO (fun hw => ?_) fun _ => rfl) fun c hc => by subst hc; exact ok_some rfl
    refine ok_bnd (told_ok h2 _ _) fun t3 ⟨d3, e3, hd3⟩ => ?_
    have : Due o2 u.2 u.1 d := by
      cases hd with
      | a _ => exact absurd (of_decide_eq_true hw) (show ("place" : Str) ≠ "told" by decide)
      | b _ _ => exact absurd (of_decide_eq_true hw) (show ("place" : Str) ≠ "told" by decide)
      | e _ _ _ => exact absurd (of_decide_eq_true hw) (show ("place" : Str) ≠ "told" by decide)
      | m x y z w => exact .m y x (fun e => z e.symm) (met_symm w)
    rw [e3, due_uniq hd3 this]
    exact ok_chk (tol_shp _) (ok_chk (tol_shp _) (ok_some (by simp)))

end K44

open PySem PySem.W PySem.Calls PyProof.Rows
set_option maxHeartbeats 0 in
theorem PySem.Challenge.cw_deskpairs_k44_whole_meetings_holds : PySem.Challenge.rw_deskpairs_k44_whole_meetings.Holds := by
  w_on; o_law
  refine HandSHeadRun.head_any (r := OpenLaw.row PySem.Challenge.rw_deskpairs_k44_whole_meetings) (q := view (OpenLaw.row PySem.Challenge.rw_deskpairs_k44_whole_meetings).prog [27]) (H := K44.hk) (ob := K44.ob) (M := 7120) (loose := K44.loose) (d := HandSHeadRun.topDef (OpenLaw.row PySem.Challenge.rw_deskpairs_k44_whole_meetings).prog 27) (kwd := []) K44.ob_eq
    (by kernel_rfl) (fun s => by kernel_rfl) K44.run (by kernel_rfl) (by kernel_rfl) (by kernel_rfl) (by rfl) (by first | assumption | decide +kernel) (by decide +kernel) ⟨rfl, rfl, rfl, rfl, rfl, by decide +kernel⟩ ?hw ?hc
  case hw => w_witness2
  case hc =>
    refine L2.walk_ofE (l := PySem.Challenge.rw_deskpairs_k44_whole_meetings) (n := 63) (k := 5) (x := "_law_script") (CX := L2.CX0) rfl (by decide) (by kernel_rfl) ⟨rfl, by decide, by decide⟩ ?F (fun _ _ _ _ z => z)
    intro w mg fa h Y G hmg0
    obtain ⟨K, KX, c, TB⟩ := Y
    have hmg : mg ("law" : PySem.Str) = some (.ref fa) := by
      have e : (HandSHeadRun.topDef (OpenLaw.row PySem.Challenge.rw_deskpairs_k44_whole_meetings).prog 27).name = ("law" : PySem.Str) := by kernel_rfl
      rw [← e]
      exact hmg0
    obtain ⟨fd, hb, hF⟩ := K44.facts (P := (PySem.Challenge.rw_deskpairs_k44_whole_meetings).prog) (w := w) KX G hmg c TB
    exact ⟨K, fd, Dy.spLaw K, KX, hb, fun H a ns hl _ hS => ⟨a, ns, rfl, hS, hl, fun _ => rfl⟩, fun base h1 h2 => Dy.law_of (hF base h1 h2) K44.law_true⟩

